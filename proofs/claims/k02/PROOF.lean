import PyProof.Rows.All
import Wide.All
import OpenK.AllK
import Wide.FinOn
import HandS.ForMost
import HandS.ForExc
import HandS.Zip
import HandS.More
import HandS.IsInst
import HandS.Wide
import HandS.HeadHook4
import HandS.HeadWalk
import HandS.TryMany
import HandS.ExcCtx
import HandS.Lambda
import HandS.HeadEnd
import HandS.Head2
import HandS.NestedK
import HandS.TupAny
import HandS.TupMul
import HandS.TupLe
import HandS.Deep
import PyProof.Rows.SeqMore
import KE.GoesNew
import HandS.HotCalls
import HandS.ExcIs
import HandS.ExcField
import PyProof.CollectIter
import HandS.Small
import HandS.Text
import HandS.RaiseMore
import HandS.ExcInitHot
import HandS.MakeKwOnly
import HandS.DictComp
import HandS.SetKeys
import KE.KAssignIn
import HandS.Style
import HandS.SetFor
import HandS.SortOrd
import HandS.Dict
import KE.KSortTup
import PyProof.TupleOfSeq
import PyProof.CollectStr
import KE.IntTextLaws
import KE.KIntText
import KE.DataCmp
import PySem.Challenge.RW_cageworks_k02_whole_goals
set_option Elab.async false
set_option linter.all false
set_option maxRecDepth 100000
set_option maxHeartbeats 0
namespace DL
open PySem PySem.Spec PyProof.Rows L2
/-! ### deep values, what the head looks at -/
inductive D where
  | non | bl (b : Bool) | int (i : Int) | str (s : String)
  | tup (xs : List D) | lst (xs : List D) | dct (kvs : List (D × D)) | ref (a : Addr) | scr (ns : List Int)
abbrev S (s : String) : Str := Str.ofString s
def refusals : List String := ["BadProgram", "BadRights", "BadNumber", "BadFeeds", "BadPaper", "BadName", "Taken", "NoName", "Nothing", "BadPicture", "BadLog", "BadText"]
def kinds13 : List String := ["BadProgram", "BadRights", "BadNumber", "BadFeeds", "BadPaper", "BadName", "Taken", "NoName", "TooMuch", "Nothing", "BadPicture", "BadLog", "BadText"]
def excB (K : PySem.W.Frag) (D : Addr) : Bool :=
  decide (PySem.W.findIn K (.ref D) "__getattribute__" = some (some (.builtin "BaseException.__getattribute__"))) && (decide (PySem.W.findIn K (.ref D) "__getattr__" = some none) && (decide (PySem.W.subIn K (.ref D) (.type "BaseException") = some true) && (PySem.W.hasDictIn K D &&
    (decide (PySem.W.findIn K (.ref D) "__class__" = some (some (.builtin "object.__class__"))) && (decide (PySem.W.specialIn K (.builtin "object.__class__") "__get__" = some (some (.builtin "getset_descriptor.__get__"))) &&
      (decide (PySem.W.takesIn K (.builtin "object.__class__") = some true) && decide (PySem.W.mroIn K D (.type "object") = some true)))))))
def toldB (K : PySem.W.Frag) : Bool := refusals.all fun c => excB K (He.ga K (S c)) && ((kinds13.all fun c' => decide (PySem.W.kitOne K (.ref (He.ga K (S c))) (.ref (He.ga K (S c'))) = some (c == c'))) &&
  (decide (PySem.W.kitOne K (.ref (He.ga K (S c))) (.type "ValueError") = some true) && (decide (PySem.W.exmOne K (.ref (He.ga K (S c))) (.ref (He.ga K (S "TooMuch"))) = some false) && decide (PySem.W.exmOne K (.ref (He.ga K (S c))) (.ref (He.ga K (S "CageError"))) = some true))))
def tabS (l : List (String × String)) : List (String × D) := l.map fun p => (p.1, .str p.2)
def tabV (l : List (String × String)) : List (Str × He.Dv) := l.map fun p => (S p.1, .str (S p.2))
/-- the j-th statement of a class -/
def inCls (st : Stmt) (j : Nat) : Stmt := match st with
  | .ClassDef _ _ _ b _ _ _ _ _ _ _ => b.getD j (.Pass ⟨0, 0, 0, 0⟩)
  | _ => .Pass ⟨0, 0, 0, 0⟩
/-! ### tables of numbers -/
def tabI (l : List (String × Int)) : List (String × D) := l.map fun p => (p.1, .int p.2)
def tabVI (l : List (String × Int)) : List (Str × He.Dv) := l.map fun p => (S p.1, .int p.2)
mutual
def relKB (K : PySem.W.Frag) : D → Value → Bool
  | .non, .none => true
  | .bl a, .bool b => a == b
  | .int i, .int j _ => decide (i = j)
  | .str s, .str y _ => decide (y = S s)
  | .tup ds, .ref a => (match K.lookup a with
    | some ⟨.type c, _, .seq its _, _⟩ => decide (c = "tuple") && (decide (its.size ≤ sizeLine) && relKBs K ds its.toList)
    | _ => false)
  | _, _ => false
def relKBs (K : PySem.W.Frag) : List D → List Value → Bool
  | [], [] => true
  | d :: ds, u :: us => relKB K d u && relKBs K ds us
  | _, _ => false
end
def tupGB (K : PySem.W.Frag) (x : String) (d : D) : Bool := relKB K d (.ref (He.ga K (S x)))
/-! ### the Hook over told addresses -/
section
variable (L : List Addr) (fa : List He.Fa) (fn : List He.DefD) (ts : List He.Tab) (tf : List He.Defn) (ex : PySem.W.Frag → Bool)
def obsL (g : Addr → Option Obj) : He.AlX := (He.obsT fa fn ts (He.frT g L), ex (He.frT g L) && He.tabsB g tf (He.frT g L))
end
theorem tabs_at {g : Addr → Option Obj} {tf : List He.Defn} {K : PySem.W.Frag} (z : He.tabsB g tf K = true) (p : He.Defn) (hp : p ∈ tf) :
    PySem.W.codeHdIn K (He.cT K p).1 (He.cT K p).2 = true ∧ ∃ o, g (He.cT K p).2 = some o ∧ He.emptyTab o = true := by
  have q := List.all_eq_true.mp z p hp
  rw [Bool.and_eq_true] at q
  refine ⟨q.1, ?_⟩
  revert q
  generalize g (He.cT K p).2 = r
  rintro ⟨_, q⟩
  match r, q with
  | some o, q => exact ⟨o, rfl, q⟩
theorem saysL {L : List Addr} {fa : List He.Fa} {fn : List He.DefD} {ts : List He.Tab} {tf : List He.Defn} {ex : PySem.W.Frag → Bool} {w : World} {h : Heap} (e : obsL L fa fn ts tf ex h.get? = He.valX fn ts w) : He.SaysX fa fn ts tf ex w h (He.frT h.get? L) := by
  unfold obsL He.valX at e
  rw [Prod.mk.injEq, Bool.and_eq_true] at e
  obtain ⟨a, b, c⟩ := e
  refine ⟨a, b, fun p hp => (tabs_at c p hp).1, fun p hp => ?_, fun p hp => ?_⟩
  · obtain ⟨o, q, y⟩ := (tabs_at c p hp).2
    exact He.frT_none q y
  · obtain ⟨o, q, y⟩ := (tabs_at c p hp).2
    rw [q, He.emptyTab_eq y]
def hookL (L : List Addr) (fa : List He.Fa) (fn : List He.DefD) (ts : List He.Tab) (tf : List He.Defn) (ex : PySem.W.Frag → Bool) : PySem.W.Hook where
  α := He.AlX
  obs := fun s => obsL L fa fn ts tf ex s.heap.get?
  val := He.valX fn ts
  says := (He.hookX 0 fa fn ts tf ex).says
  of := fun _ _ e => ⟨_, He.frT_in, saysL e⟩
  keeps := (He.hookX 0 fa fn ts tf ex).keeps
theorem obsL_eq {L : List Addr} {fa : List He.Fa} {fn : List He.DefD} {ts : List He.Tab} {tf : List He.Defn} {ex : PySem.W.Frag → Bool} {g : Addr → Option Obj} {s : Shared} (h : ∀ a, g a = s.heap.get? a) : obsL L fa fn ts tf ex g = (hookL L fa fn ts tf ex).obs s := by
  rw [funext h]
  rfl
theorem some_of {α β : Type} {o : Option α} {f : α → β} {b : β} {a : α} (h : o.map f = some b) (e : o = some a) : f a = b := by
  rw [e] at h
  exact Option.some.inj h
end DL

namespace K02
open PySem PySem.Spec PyProof.Rows L2 LamX DL
def top (i : Nat) : Stmt := PySem.Challenge.pw_cageworks_k02_whole_goals.main.body.getD i (.Pass ⟨0, 0, 0, 0⟩)
abbrev s__law_door_pool : Stmt := top 39
abbrev s__law_page_pool : Stmt := top 40
abbrev s__law_drawn : Stmt := top 34
abbrev s__law_roll : Stmt := top 35
abbrev s__law_sorts : Stmt := top 41
abbrev s__law_any_order : Stmt := top 42
abbrev s__law_any_program : Stmt := top 43
abbrev s__law_cell : Stmt := top 33
abbrev s__law_rounds : Stmt := top 36
abbrev s__law_term : Stmt := top 37
abbrev s__law_told : Stmt := top 38
abbrev s_is_whole : Stmt := top 19
abbrev s_is_number : Stmt := top 20
abbrev s_is_word : Stmt := top 21
abbrev s_is_part : Stmt := top 22
abbrev s_is_instruction : Stmt := top 23
abbrev s_is_program : Stmt := top 24
abbrev s_need_program : Stmt := top 25
abbrev s_goals_of : Stmt := top 26
abbrev s_places_of : Stmt := top 28
abbrev s_come_to : Stmt := top 29
abbrev s_goals : Stmt := top 27
abbrev s_words_of : Stmt := top 30
abbrev s_words_in : Stmt := top 31
abbrev s_law : Stmt := top 44
def lst_FORMS : List (String × String) := [("set", "rn"), ("copy", "rr"), ("add", "rr"), ("take", "rr"), ("less", "rr"), ("go", "g"), ("zero", "rg"), ("read", "rr"), ("write", "rr"), ("ask", "rw"), ("tell", "rw"), ("look", "rrw"), ("mark", "rrw"), ("end", "")]
def tab_FORMS : List (String × D) := tabS lst_FORMS
def fn : List He.DefD := [⟨("_law_door_pool", none), "_law_door_pool", "_law_door_pool", defArgs s__law_door_pool, defBody s__law_door_pool, defScope s__law_door_pool, [], []⟩, ⟨("_law_page_pool", none), "_law_page_pool", "_law_page_pool", defArgs s__law_page_pool, defBody s__law_page_pool, defScope s__law_page_pool, [], []⟩, ⟨("_law_drawn", none), "_law_drawn", "_law_drawn", defArgs s__law_drawn, defBody s__law_drawn, defScope s__law_drawn, [], []⟩, ⟨("_law_roll", none), "_law_roll", "_law_roll", defArgs s__law_roll, defBody s__law_roll, defScope s__law_roll, [], []⟩, ⟨("_law_sorts", none), "_law_sorts", "_law_sorts", defArgs s__law_sorts, defBody s__law_sorts, defScope s__law_sorts, [], []⟩, ⟨("_law_any_order", none), "_law_any_order", "_law_any_order", defArgs s__law_any_order, defBody s__law_any_order, defScope s__law_any_order, [], []⟩, ⟨("_law_any_program", none), "_law_any_program", "_law_any_program", defArgs s__law_any_program, defBody s__law_any_program, defScope s__law_any_program, [], []⟩, ⟨("_law_cell", none), "_law_cell", "_law_cell", defArgs s__law_cell, defBody s__law_cell, defScope s__law_cell, [], []⟩, ⟨("_law_rounds", none), "_law_rounds", "_law_rounds", defArgs s__law_rounds, defBody s__law_rounds, defScope s__law_rounds, [], []⟩, ⟨("_law_term", none), "_law_term", "_law_term", defArgs s__law_term, defBody s__law_term, defScope s__law_term, [], []⟩, ⟨("_law_told", none), "_law_told", "_law_told", defArgs s__law_told, defBody s__law_told, defScope s__law_told, [], []⟩, ⟨("is_whole", none), "is_whole", "is_whole", defArgs s_is_whole, defBody s_is_whole, defScope s_is_whole, [], []⟩, ⟨("is_number", none), "is_number", "is_number", defArgs s_is_number, defBody s_is_number, defScope s_is_number, [], []⟩, ⟨("is_word", none), "is_word", "is_word", defArgs s_is_word, defBody s_is_word, defScope s_is_word, [], []⟩, ⟨("is_part", none), "is_part", "is_part", defArgs s_is_part, defBody s_is_part, defScope s_is_part, [], []⟩, ⟨("is_instruction", none), "is_instruction", "is_instruction", defArgs s_is_instruction, defBody s_is_instruction, defScope s_is_instruction, [], []⟩, ⟨("is_program", none), "is_program", "is_program", defArgs s_is_program, defBody s_is_program, defScope s_is_program, [], []⟩, ⟨("need_program", none), "need_program", "need_program", defArgs s_need_program, defBody s_need_program, defScope s_need_program, [], []⟩, ⟨("goals_of", none), "goals_of", "goals_of", defArgs s_goals_of, defBody s_goals_of, defScope s_goals_of, [], []⟩, ⟨("places_of", none), "places_of", "places_of", defArgs s_places_of, defBody s_places_of, defScope s_places_of, [], []⟩, ⟨("come_to", none), "come_to", "come_to", defArgs s_come_to, defBody s_come_to, defScope s_come_to, [], []⟩, ⟨("goals", none), "goals", "goals", defArgs s_goals, defBody s_goals, defScope s_goals, [], []⟩, ⟨("words_of", none), "words_of", "words_of", defArgs s_words_of, defBody s_words_of, defScope s_words_of, [], []⟩, ⟨("words_in", none), "words_in", "words_in", defArgs s_words_in, defBody s_words_in, defScope s_words_in, [], []⟩, ⟨("law", none), "law", "law", defArgs s_law, defBody s_law, defScope s_law, [], []⟩]
def fa : List He.Fa := [.glo "_law_door_pool", .glo "_law_page_pool", .glo "_law_drawn", .glo "_law_roll", .glo "_law_sorts", .glo "_law_any_order", .glo "_law_any_program", .glo "_law_cell", .glo "_law_rounds", .glo "_law_term", .glo "_law_told", .glo "is_whole", .glo "is_number", .glo "is_word", .glo "is_part", .glo "is_instruction", .glo "is_program", .glo "need_program", .glo "goals_of", .glo "places_of", .glo "come_to", .glo "goals", .glo "words_of", .glo "words_in", .glo "law", .free "ValueError", .free "all", .free "bool", .free "enumerate", .free "int", .free "isinstance", .free "len", .free "max", .free "min", .free "range", .free "set", .free "sorted", .free "str", .free "sum", .free "tuple", .free "zip", .int "FARTHEST" 999, .str "SMALL" (Str.ofString "abcdefghijklmnopqrstuvwxyz"), .glo "FORMS", .exc "BadNumber", .glo "BadNumber", .exc "BadProgram", .glo "BadProgram", .glo "BadRights", .glo "BadFeeds", .glo "BadPaper", .glo "BadName", .glo "Taken", .glo "NoName", .glo "TooMuch", .glo "Nothing", .glo "BadPicture", .glo "BadLog", .glo "BadText", .glo "CageError"]
def ts : List He.Tab := [(fun K => He.ga K "FORMS", lst_FORMS.map fun p => S p.1)]
def tf : List He.Defn := [("law", none)]
def ex (K : PySem.W.Frag) : Bool := toldB K && He.valsB K (He.ga K "FORMS") (tabV lst_FORMS)
abbrev R : PySem.W.OpenRow := PySem.W.OpenLaw.row PySem.Challenge.rw_cageworks_k02_whole_goals
def adrs : List PySem.Addr := [3, 6, 4, 24, 44, 56, 68, 80, 92, 104, 116, 128, 140, 152, 164, 176, 188, 191, 198, 205, 210, 217, 222, 227, 234, 241, 248, 255, 262, 267, 274, 281, 288, 295, 300, 305, 312, 319, 326, 333, 340, 345, 350, 0, 23, 43, 55, 67, 79, 91, 103, 115, 127, 139, 151, 163, 175, 187, 197, 204, 209, 216, 221, 226, 233, 240, 247, 254, 261, 266, 273, 280, 287, 294, 299, 304, 311, 318, 325, 332, 339, 344, 349, 22, 25, 41, 42, 54, 66, 78, 90, 102, 114, 126, 138, 150, 162, 174, 186, 192, 193, 194, 195, 196, 199, 200, 201, 202, 203, 206, 207, 208, 211, 212, 213, 214, 215, 218, 219, 220, 223, 224, 225, 228, 229, 230, 231, 232, 235, 236, 237, 238, 239, 242, 243, 244, 245, 246, 249, 250, 251, 252, 253, 256, 257, 258, 259, 260, 263, 264, 265, 268, 269, 270, 271, 272, 275, 276, 277, 278, 279, 282, 283, 284, 285, 286, 289, 290, 291, 292, 293, 296, 297, 298, 301, 302, 303, 306, 307, 308, 309, 310, 313, 314, 315, 316, 317, 320, 321, 322, 323, 324, 327, 328, 329, 330, 331, 334, 335, 336, 337, 338, 341, 342, 343, 346, 347, 348, 40, 35, 36, 37, 38, 39]
abbrev hk : PySem.W.Hook := hookL adrs fa fn ts tf ex
def ob (s : PySem.W.SharedT) : He.AlX := obsL adrs fa fn ts tf ex (HandSHeadRun.getT s)
theorem ob_eq (s : PySem.W.SharedT) : ob s = hk.obs s.abs := obsL_eq (HandSHeadRun.getT_eq s)
def nm0 : List PySem.Str := ["CageError", "TooMuch", "BadProgram", "BadRights", "BadNumber", "BadFeeds", "BadPaper", "BadName", "Taken", "NoName", "Nothing", "BadPicture", "BadLog", "BadText", "SMALL", "FARTHEST", "FORMS", "is_whole", "is_number", "is_word", "is_part", "is_instruction", "is_program", "need_program", "goals_of", "goals", "places_of", "come_to", "words_of", "words_in"]
def nm1 : List PySem.Str := ["_law_cell", "_law_drawn", "_law_roll", "_law_rounds", "_law_term", "_law_told", "_law_door_pool", "_law_page_pool", "_law_sorts", "_law_any_order", "_law_any_program"]
def nms : List PySem.Str := nm0 ++ nm1
theorem rf_look (w : World) (os : OsState) : (HandSHeadRun.endF (HandSHeadRun.stepQ (HandSHeadRun.denQ HandSHeadRun.tabQ) R.prog (w.withFollow "special-get-raises" false)) 20000 R.prog (w.withFollow "special-get-raises" false) os).map (fun s => (HandSHeadRun.looksF R.prog (PySem.W.boot_heap (w.withFollow "special-get-raises" false).params) s.abs, HandSHeadRun.seenQ (PySem.W.view R.prog [44]) nms (importedModules R.prog.main.body) (fun s => PySem.W.xlAt (PySem.W.view R.prog [44]) [] s && PySem.W.recOk R.toRowW.records s) s.abs)) = some (true, PySem.W.openGood (PySem.W.view R.prog [44]) nms) := by
  kernel_rfl
theorem rf_ob (w : World) (os : OsState) : (HandSHeadRun.endF (HandSHeadRun.stepQ (HandSHeadRun.denQ HandSHeadRun.tabQ) R.prog (w.withFollow "special-get-raises" false)) 20000 R.prog (w.withFollow "special-get-raises" false) os).map (fun s => ob s) = some (hk.val (w.withFollow "special-get-raises" false)) := by
  kernel_rfl
theorem run_f (w : World) : HandSHeadRun.RunEq R (PySem.W.view R.prog [44]) hk ob 20000 nms (w.withFollow "special-get-raises" false) := by
  intro os
  obtain ⟨s, e, z⟩ := Option.map_eq_some_iff.mp (rf_look w os)
  have o1 := some_of (rf_ob w os) e
  show (HandSHeadRun.endF (HandSHeadRun.stepQ (HandSHeadRun.denQ HandSHeadRun.tabQ) R.prog (w.withFollow "special-get-raises" false)) 20000 R.prog (w.withFollow "special-get-raises" false) os).map _ = _
  rw [e]
  simp only [Prod.mk.injEq] at z
  exact congrArg some (Prod.ext z.1 (Prod.ext z.2 o1))
theorem rt_look (w : World) (os : OsState) : (HandSHeadRun.endF (HandSHeadRun.stepQ (HandSHeadRun.denQ HandSHeadRun.tabQ) R.prog (w.withFollow "special-get-raises" true)) 20000 R.prog (w.withFollow "special-get-raises" true) os).map (fun s => (HandSHeadRun.looksF R.prog (PySem.W.boot_heap (w.withFollow "special-get-raises" true).params) s.abs, HandSHeadRun.seenQ (PySem.W.view R.prog [44]) nms (importedModules R.prog.main.body) (fun s => PySem.W.xlAt (PySem.W.view R.prog [44]) [] s && PySem.W.recOk R.toRowW.records s) s.abs)) = some (true, PySem.W.openGood (PySem.W.view R.prog [44]) nms) := by
  kernel_rfl
theorem rt_ob (w : World) (os : OsState) : (HandSHeadRun.endF (HandSHeadRun.stepQ (HandSHeadRun.denQ HandSHeadRun.tabQ) R.prog (w.withFollow "special-get-raises" true)) 20000 R.prog (w.withFollow "special-get-raises" true) os).map (fun s => ob s) = some (hk.val (w.withFollow "special-get-raises" true)) := by
  kernel_rfl
theorem run_t (w : World) : HandSHeadRun.RunEq R (PySem.W.view R.prog [44]) hk ob 20000 nms (w.withFollow "special-get-raises" true) := by
  intro os
  obtain ⟨s, e, z⟩ := Option.map_eq_some_iff.mp (rt_look w os)
  have o1 := some_of (rt_ob w os) e
  show (HandSHeadRun.endF (HandSHeadRun.stepQ (HandSHeadRun.denQ HandSHeadRun.tabQ) R.prog (w.withFollow "special-get-raises" true)) 20000 R.prog (w.withFollow "special-get-raises" true) os).map _ = _
  rw [e]
  simp only [Prod.mk.injEq] at z
  exact congrArg some (Prod.ext z.1 (Prod.ext z.2 o1))
theorem run (w : World) : HandSHeadRun.RunEq R (PySem.W.view R.prog [44]) hk ob 20000 nms w :=
  PySem.W.byRow2 "special-get-raises" (P := fun w => HandSHeadRun.RunEq R (PySem.W.view R.prog [44]) hk ob 20000 nms w) run_f run_t w
end K02

namespace DL
open PySem PySem.Spec PyProof.Rows L2

/-! ### deep values, the tracked heap -/
inductive DO where
  | lst (xs : List D) | dct (kvs : List (D × D)) | lck (kvs : List (D × D)) (o : HO) | ins (c : String) (fs : List (String × D))
abbrev DG := Addr → Option DO
def gset (G : DG) (a : Addr) (o : Option DO) : DG := fun b => if b = a then o else G b
theorem gset_same {G : DG} {a : Addr} {o : Option DO} : gset G a o a = o := by unfold gset; rw [if_pos rfl]
theorem gset_ne {G : DG} {a b : Addr} {o : Option DO} (h : b ≠ a) : gset G a o b = G b := by unfold gset; rw [if_neg h]

def keyOf : D → Option Key
  | .int i => some (.inl i)
  | .str s => some (.inr (S s))
  | _ => none

def KTup (K : PySem.W.Frag) (a : Addr) (xs : List V) : Prop :=
  ∃ (o : Obj) (its : Array Value) (n : Nat), K.lookup a = some o ∧ o.cls = .type "tuple" ∧ o.data = .seq its n ∧ its.size ≤ sizeLine ∧ Vals xs its.toList
/-- the frozen addresses (told by no transformer) -/
abbrev FS := Addr → Prop
def fadd (F : FS) (p : Addr) : FS := fun a => a = p ∨ F a
/-- what stands there, locked or not -/
def strip : HO → HO
  | .frz _ u => u
  | u => u
def Rs (H : Hp) (a : Addr) (u : HO) : Prop := ∃ o, H a = some o ∧ strip o = u
theorem Rs.rd {H : Hp} {a : Addr} {u : HO} (h : Rs H a u) : Rd H a u := by
  obtain ⟨o, h, e⟩ := h
  cases o <;> first | exact .inl (by rw [h, ← e]; rfl) | exact .inr ⟨_, by rw [h, ← e]; rfl⟩
theorem Rs.of {H : Hp} {a : Addr} {u : HO} (h : H a = some u) (e : strip u = u := by rfl) : Rs H a u := ⟨u, h, e⟩
/-- data: a list, a tuple, a dict -/
def isDat : HO → Bool
  | .lst _ => true
  | .tup _ => true
  | .dK _ => true
  | _ => false
/-- no table, no code -/
def plainO : HO → Bool
  | .tbl _ => false
  | .ext _ => false
  | _ => true
theorem isDat_own {u : HO} (h : isDat u = true) (b : Addr) : u ≠ .own b := fun z => by rw [z] at h; cases h
theorem plain_dat {u : HO} (h : isDat (strip u) = true) : plainO u = true := by cases u <;> first | rfl | cases h
theorem dat_plain {u : HO} (h : isDat u = true) : plainO u = true := by cases u <;> first | rfl | cases h
abbrev LT := List (Addr × Str)
theorem tabs_upd {T : LT} {H : Hp} {a : Addr} {u : HO} (t : LamX.Tabs T H) (h : ∀ o, H a = some o → plainO o = true) : LamX.Tabs T (upd H a u) := fun p hp => by
  obtain ⟨ps, e, tr, cs⟩ := t p hp
  have hp1 : p.1 ≠ a := fun z => by
    have := h _ (z ▸ e)
    cases this
  refine ⟨ps, by rw [upd_ne hp1]; exact e, tr, fun pos cv hc => ?_⟩
  obtain ⟨c, ec, hcd⟩ := cs pos cv hc
  have hc1 : c ≠ a := fun z => by
    have := h _ (z ▸ hcd)
    cases this
  exact ⟨c, ec, by rw [upd_ne hc1]; exact hcd⟩
theorem tabs_new {T : LT} {H : Hp} {a : Addr} {u : HO} (t : LamX.Tabs T H) (h : H a = none) : LamX.Tabs T (upd H a u) := tabs_upd t fun o e => by rw [h] at e; cases e
def KLst (K : PySem.W.Frag) (a : Addr) (xs : List V) : Prop :=
  ∃ (o : Obj) (its : Array Value) (n : Nat), K.lookup a = some o ∧ o.cls = .type "list" ∧ o.dict = none ∧ o.data = .seq its n ∧ its.size ≤ sizeLine ∧ Vals xs its.toList
def TupAt (K : PySem.W.Frag) (F : FS) (H : Hp) (a : Addr) (vs : List V) : Prop := (Rs H a (.tup vs) ∧ F a) ∨ KTup K a vs
def LstAt (F : FS) (H : Hp) (a : Addr) (vs : List V) : Prop := Rs H a (.lst vs) ∧ F a
def DctAt (F : FS) (H : Hp) (a : Addr) (ws : List (Key × V)) : Prop := Rs H a (.dK ws) ∧ F a

mutual
def RelD (K : PySem.W.Frag) (F : FS) (H : Hp) : D → V → Prop
  | .non, v => v = .non
  | .bl b, v => v = .bl b
  | .int i, v => v = .int i
  | .str s, v => v = .str (S s)
  | .tup xs, v => ∃ a vs, v = .ref a ∧ TupAt K F H a vs ∧ RelDs K F H xs vs
  | .lst xs, v => ∃ a vs, v = .ref a ∧ LstAt F H a vs ∧ RelDs K F H xs vs
  | .dct kvs, v => ∃ a ws, v = .ref a ∧ DctAt F H a ws ∧ RelKs K F H kvs ws
  | .ref a, v => v = .ref a
  | .scr ns, v => ∃ a, v = .ref a ∧ ((Rs H a (.lst (ns.map V.int)) ∧ F a) ∨ KLst K a (ns.map V.int))
def RelDs (K : PySem.W.Frag) (F : FS) (H : Hp) : List D → List V → Prop
  | [], vs => vs = []
  | x :: xs, vs => ∃ v r, vs = v :: r ∧ RelD K F H x v ∧ RelDs K F H xs r
def RelKs (K : PySem.W.Frag) (F : FS) (H : Hp) : List (D × D) → List (Key × V) → Prop
  | [], ws => ws = []
  | (k, x) :: r, ws => ∃ key v ws', ws = (key, v) :: ws' ∧ keyOf k = some key ∧ RelD K F H x v ∧ RelKs K F H r ws'
end

/-- it stays, or is locked -/
def Lk (o o' : HO) : Prop := o' = o ∨ ∃ od, o' = .frz od o ∧ isDat o = true
theorem strip_dat {o : HO} (h : isDat o = true) : strip o = o := by cases o <;> first | rfl | cases h
theorem Lk.strip {o o' : HO} (h : Lk o o') : DL.strip o' = DL.strip o := by
  rcases h with rfl | ⟨od, rfl, d⟩
  · rfl
  · exact (strip_dat d).symm
theorem Lk.trans {o o1 o2 : HO} (h : Lk o o1) (k : Lk o1 o2) : Lk o o2 := by
  rcases h with rfl | ⟨od, rfl, d⟩
  · exact k
  · rcases k with rfl | ⟨od2, _, d2⟩
    · exact .inr ⟨od, rfl, d⟩
    · cases d2
def LkAt (H' : Hp) (a : Addr) (o : HO) : Prop := ∃ o', H' a = some o' ∧ Lk o o'
theorem LkAt.rs {H' : Hp} {a : Addr} {o : HO} (h : LkAt H' a o) : Rs H' a (strip o) := let ⟨o', e, l⟩ := h; ⟨o', e, l.strip⟩
/-- frozen things stay; so do private ones (neither frozen nor tracked), and they stay private -/
structure Step (F : FS) (G : DG) (H : Hp) (F' : FS) (G' : DG) (H' : Hp) : Prop where
  fz : ∀ a o, F a → H a = some o → F' a ∧ LkAt H' a o
  pv : ∀ a o, ¬ F a → G a = none → H a = some o → plainO o = true → ¬ F' a ∧ G' a = none ∧ H' a = some o
theorem Step.refl {F : FS} {G : DG} {H : Hp} : Step F G H F G H := ⟨fun _ o f h => ⟨f, o, h, .inl rfl⟩, fun _ _ f g h _ => ⟨f, g, h⟩⟩
theorem Step.trans {F F1 F2 : FS} {G G1 G2 : DG} {H H1 H2 : Hp} (a : Step F G H F1 G1 H1) (b : Step F1 G1 H1 F2 G2 H2) : Step F G H F2 G2 H2 :=
  ⟨fun x o f h => let ⟨f1, o1, h1, e1⟩ := a.fz x o f h; let ⟨f2, o2, h2, e2⟩ := b.fz x o1 f1 h1; ⟨f2, o2, h2, e1.trans e2⟩, fun x o f g h p => let ⟨f1, g1, h1⟩ := a.pv x o f g h p; b.pv x o f1 g1 h1 p⟩

/-- what frozen values lean on stands in another heap -/
def Kept (F : FS) (H : Hp) (F' : FS) (H' : Hp) : Prop := ∀ a o, F a → H a = some o → F' a ∧ LkAt H' a o
section
variable {K : PySem.W.Frag} {F F' : FS} {H H' : Hp}
theorem Rs.kept {a : Addr} {u : HO} (s : Kept F H F' H') (r : Rs H a u) (f : F a) : Rs H' a u ∧ F' a := by
  obtain ⟨o, h, e⟩ := r
  obtain ⟨f1, h1⟩ := s a o f h
  have h1 := h1.rs
  rw [e] at h1
  exact ⟨h1, f1⟩
theorem TupAt.kept {a : Addr} {vs : List V} (s : Kept F H F' H') (h : TupAt K F H a vs) : TupAt K F' H' a vs := by
  rcases h with ⟨h, g⟩ | h
  · exact .inl (Rs.kept s h g)
  · exact .inr h
theorem LstAt.kept {a : Addr} {vs : List V} (s : Kept F H F' H') (h : LstAt F H a vs) : LstAt F' H' a vs := Rs.kept s h.1 h.2
theorem DctAt.kept {a : Addr} {ws : List (Key × V)} (s : Kept F H F' H') (h : DctAt F H a ws) : DctAt F' H' a ws := Rs.kept s h.1 h.2
mutual
theorem RelD.kept (s : Kept F H F' H') : ∀ (d : D) {v : V}, RelD K F H d v → RelD K F' H' d v
  | .non, _, h => h
  | .bl _, _, h => h
  | .int _, _, h => h
  | .str _, _, h => h
  | .tup xs, _, ⟨a, vs, e, t, r⟩ => ⟨a, vs, e, t.kept s, RelDs.kept s xs r⟩
  | .lst xs, _, ⟨a, vs, e, t, r⟩ => ⟨a, vs, e, t.kept s, RelDs.kept s xs r⟩
  | .dct kvs, _, ⟨a, vs, e, t, r⟩ => ⟨a, vs, e, t.kept s, RelKs.kept s kvs r⟩
  | .ref _, _, h => h
  | .scr ns, _, ⟨a, e, t⟩ => ⟨a, e, t.imp (fun t => Rs.kept s t.1 t.2) id⟩
theorem RelDs.kept (s : Kept F H F' H') : ∀ (ds : List D) {vs : List V}, RelDs K F H ds vs → RelDs K F' H' ds vs
  | [], _, h => h
  | x :: xs, _, ⟨v, r, e, h, t⟩ => ⟨v, r, e, RelD.kept s x h, RelDs.kept s xs t⟩
theorem RelKs.kept (s : Kept F H F' H') : ∀ (ds : List (D × D)) {ws : List (Key × V)}, RelKs K F H ds ws → RelKs K F' H' ds ws
  | [], _, h => h
  | (k, x) :: xs, _, ⟨key, v, r, e, ek, h, t⟩ => ⟨key, v, r, e, ek, RelD.kept s x h, RelKs.kept s xs t⟩
end
theorem RelD.step {G G' : DG} (s : Step F G H F' G' H') (d : D) {v : V} (h : RelD K F H d v) : RelD K F' H' d v := RelD.kept s.fz d h
theorem RelDs.step {G G' : DG} (s : Step F G H F' G' H') (d : List D) {v : List V} (h : RelDs K F H d v) : RelDs K F' H' d v := RelDs.kept s.fz d h
theorem RelKs.step {G G' : DG} (s : Step F G H F' G' H') (d : List (D × D)) {v : List (Key × V)} (h : RelKs K F H d v) : RelKs K F' H' d v := RelKs.kept s.fz d h
end

def RelFs (K : PySem.W.Frag) (F : FS) (H : Hp) : List (String × D) → List (Str × V) → Prop
  | [], ws => ws = []
  | (f, x) :: r, ws => ∃ v ws', ws = (S f, v) :: ws' ∧ RelD K F H x v ∧ RelFs K F H r ws'
def RelO (K : PySem.W.Frag) (F : FS) (G : DG) (H : Hp) : DO → Option HO → Prop
  | .lst xs, ho => ∃ vs, ho = some (.lst vs) ∧ RelDs K F H xs vs
  | .dct kvs, ho => ∃ ws, ho = some (.dK ws) ∧ RelKs K F H kvs ws
  | .lck kvs o, ho => ∃ od ws, o = .frz od (.dK ws) ∧ ho = some o ∧ RelKs K F H kvs ws
  | .ins c fs, ho => ∃ dx ws, ho = some (.ins (He.ga K (S c)) dx ws) ∧ G dx = none ∧ ¬ F dx ∧ (∃ b, H dx = some (.own b)) ∧ RelFs K F H fs ws
structure RelG (K : PySem.W.Frag) (T : LT) (F : FS) (G : DG) (H : Hp) : Prop where
  fz : ∀ a, F a → G a = none ∧ ∃ o, H a = some o ∧ isDat (strip o) = true
  tb : LamX.Tabs T H
  ob : ∀ a o, G a = some o → RelO K F G H o (H a)
def RelSt (K : PySem.W.Frag) (F : FS) (H : Hp) (env : List (Option D)) (σ : L2.St) : Prop :=
  env.length = σ.length ∧ ∀ (i : Nat) (d : D), env[i]? = some (some d) → ∃ v, σ[i]? = some (some v) ∧ RelD K F H d v

section
variable {K : PySem.W.Frag} {T : LT} {F F' : FS} {G G' : DG} {H H' : Hp}
theorem RelFs.kept (s : Kept F H F' H') : ∀ (fs : List (String × D)) {ws : List (Str × V)}, RelFs K F H fs ws → RelFs K F' H' fs ws
  | [], _, h => h
  | (f, x) :: xs, _, ⟨v, r, e, h, t⟩ => ⟨v, r, e, RelD.kept s x h, RelFs.kept s xs t⟩
theorem RelFs.step (s : Step F G H F' G' H') (fs : List (String × D)) {ws : List (Str × V)} (h : RelFs K F H fs ws) : RelFs K F' H' fs ws := RelFs.kept s.fz fs h
theorem RelO.step (s : Step F G H F' G' H') {o : DO} {ho : Option HO} (h : RelO K F G H o ho) : RelO K F' G' H' o ho := by
  cases o with
  | lst xs => obtain ⟨vs, e, r⟩ := h; exact ⟨vs, e, RelDs.step s xs r⟩
  | dct xs => obtain ⟨vs, e, r⟩ := h; exact ⟨vs, e, RelKs.step s xs r⟩
  | lck xs o => obtain ⟨od, vs, e, e2, r⟩ := h; exact ⟨od, vs, e, e2, RelKs.step s xs r⟩
  | ins c fs =>
    obtain ⟨dx, ws, e, g, f, ⟨b, q⟩, r⟩ := h
    obtain ⟨f1, g1, h1⟩ := s.pv dx _ f g q rfl
    exact ⟨dx, ws, e, g1, f1, ⟨b, h1⟩, RelFs.step s fs r⟩
theorem RelSt.step (s : Step F G H F' G' H') {env : List (Option D)} {σ : L2.St} (h : RelSt K F H env σ) : RelSt K F' H' env σ :=
  ⟨h.1, fun i d e => let ⟨v, e1, r⟩ := h.2 i d e; ⟨v, e1, RelD.step s d r⟩⟩
theorem RelG.obj {a : Addr} {o : DO} (h : RelG K T F G H) (e : G a = some o) : ∃ u, H a = some u ∧ plainO u = true := by
  have r := h.ob a o e
  cases o with
  | lst xs => obtain ⟨vs, e, _⟩ := r; exact ⟨_, e, rfl⟩
  | dct xs => obtain ⟨vs, e, _⟩ := r; exact ⟨_, e, rfl⟩
  | lck xs o => obtain ⟨od, vs, e, e2, _⟩ := r; exact ⟨_, e2, by rw [e]; rfl⟩
  | ins c fs => obtain ⟨dx, ws, e, _⟩ := r; exact ⟨_, e, rfl⟩
theorem RelG.free {a : Addr} (h : RelG K T F G H) (e : H a = none) : G a = none := by
  cases q : G a with
  | none => rfl
  | some o => obtain ⟨u, z, _⟩ := h.obj q; rw [e] at z; cases z
theorem RelG.nof {a : Addr} (h : RelG K T F G H) (e : H a = none) : ¬ F a := fun f => by
  obtain ⟨_, o, z, _⟩ := h.fz a f
  rw [e] at z; cases z
/-- a new frozen object -/
theorem Step.new {a : Addr} {u : HO} (hn : H a = none) : Step F G H (fadd F a) G (upd H a u) :=
  ⟨fun b o f e => ⟨.inr f, o, by rw [upd_ne (ne_of_none e hn)]; exact e, .inl rfl⟩, fun b o f g e _ => ⟨fun z => z.elim (ne_of_none e hn) f, g, by rw [upd_ne (ne_of_none e hn)]; exact e⟩⟩
/-- a new private object -/
theorem Step.priv {a : Addr} {u : HO} (hn : H a = none) : Step F G H F G (upd H a u) :=
  ⟨fun b o f e => ⟨f, o, by rw [upd_ne (ne_of_none e hn)]; exact e, .inl rfl⟩, fun b o f g e _ => ⟨f, g, by rw [upd_ne (ne_of_none e hn)]; exact e⟩⟩
theorem RelG.to (h : RelG K T F G H) (s : Step F G H F' G H') (hf : ∀ a, F' a → F a ∨ (G a = none ∧ ∃ o, H' a = some o ∧ isDat (strip o) = true)) (ht : LamX.Tabs T H') (ho : ∀ a o, G a = some o → H' a = H a) : RelG K T F' G H' := by
  refine ⟨fun a f => ?_, ht, fun a o e => ?_⟩
  · rcases hf a f with f | f
    · obtain ⟨g, o, z, d⟩ := h.fz a f
      obtain ⟨_, o', z', e'⟩ := s.fz a o f z
      exact ⟨g, o', z', by rw [e'.strip]; exact d⟩
    · exact f
  · rw [ho a o e]
    exact (h.ob a o e).step s
theorem RelG.new {a : Addr} {u : HO} (h : RelG K T F G H) (hn : H a = none) (hu : isDat (strip u) = true := by rfl) : RelG K T (fadd F a) G (upd H a u) :=
  h.to (Step.new hn) (fun b f => f.elim (fun e => .inr ⟨by rw [e]; exact h.free hn, u, by rw [e, upd_same], hu⟩) .inl) (tabs_new h.tb hn) fun b o e => upd_ne (by
    obtain ⟨w, z, _⟩ := h.obj e
    exact ne_of_none z hn)
theorem RelG.priv {a : Addr} {u : HO} (h : RelG K T F G H) (hn : H a = none) : RelG K T F G (upd H a u) :=
  h.to (Step.priv hn) (fun b f => .inl f) (tabs_new h.tb hn) fun b o e => upd_ne (by
    obtain ⟨w, z, _⟩ := h.obj e
    exact ne_of_none z hn)
/-- a new tracked object, or one that is written -/
theorem Step.set {a : Addr} {o : Option DO} {u : HO} (hg : RelG K T F G H) (h : H a = none ∨ G a ≠ none) : Step F G H F (gset G a o) (upd H a u) := by
  refine ⟨fun b w f e => ?_, fun b w f g e _ => ?_⟩
  · have hb : b ≠ a := fun z => by
      subst z
      rcases h with h | h
      · rw [e] at h; cases h
      · exact h (hg.fz b f).1
    exact ⟨f, w, by rw [upd_ne hb]; exact e, .inl rfl⟩
  · have hb : b ≠ a := fun z => by
      subst z
      rcases h with h | h
      · rw [e] at h; cases h
      · exact h g
    exact ⟨f, by rw [gset_ne hb]; exact g, by rw [upd_ne hb]; exact e⟩
theorem RelG.plain {a : Addr} (h : RelG K T F G H) (hs : H a = none ∨ G a ≠ none) : ∀ o, H a = some o → plainO o = true := fun o e => by
  rcases hs with q | q
  · rw [q] at e; cases e
  · cases z : G a with
    | none => exact absurd z q
    | some w =>
      obtain ⟨u, eu, pu⟩ := h.obj z
      rw [e] at eu
      cases eu
      exact pu
theorem RelG.set {a : Addr} {o : DO} {u : HO} (h : RelG K T F G H) (hs : H a = none ∨ G a ≠ none) (r : RelO K F (gset G a (some o)) (upd H a u) o (some u)) : RelG K T F (gset G a (some o)) (upd H a u) := by
  have s : Step F G H F (gset G a (some o)) (upd H a u) := Step.set h hs
  refine ⟨fun b f => ?_, tabs_upd h.tb (h.plain hs), fun b w e => ?_⟩
  · have hb : b ≠ a := fun z => by
      subst z
      rcases hs with q | q
      · exact h.nof q f
      · exact q (h.fz b f).1
    obtain ⟨g, w, z, d⟩ := h.fz b f
    exact ⟨by rw [gset_ne hb]; exact g, w, by rw [upd_ne hb]; exact z, d⟩
  · by_cases hb : b = a
    · subst hb
      rw [gset_same] at e
      cases e
      rw [upd_same]
      exact r
    · rw [gset_ne hb] at e
      rw [upd_ne hb]
      exact (h.ob b w e).step s
/-- a private object is written; becomes frozen; becomes tracked -/
theorem RelO.kept (s : Kept F H F' H') (hp : ∀ a b, ¬ F a → G a = none → H a = some (.own b) → ¬ F' a ∧ G' a = none ∧ H' a = some (.own b)) {o : DO} {ho : Option HO} (h : RelO K F G H o ho) : RelO K F' G' H' o ho := by
  cases o with
  | lst xs => obtain ⟨vs, e, r⟩ := h; exact ⟨vs, e, RelDs.kept s xs r⟩
  | dct xs => obtain ⟨vs, e, r⟩ := h; exact ⟨vs, e, RelKs.kept s xs r⟩
  | lck xs o => obtain ⟨od, vs, e, e2, r⟩ := h; exact ⟨od, vs, e, e2, RelKs.kept s xs r⟩
  | ins c fs =>
    obtain ⟨dx, ws, e, g, f, ⟨b, q⟩, r⟩ := h
    obtain ⟨f1, g1, h1⟩ := hp dx b f g q
    exact ⟨dx, ws, e, g1, f1, ⟨b, h1⟩, RelFs.kept s fs r⟩
theorem kept_wr {a : Addr} {u : HO} (hf : ¬ F a) : Kept F H F (upd H a u) := fun b o f e => ⟨f, o, by rw [upd_ne (fun (z : b = a) => hf (z ▸ f))]; exact e, .inl rfl⟩
theorem RelG.wr {a : Addr} {u0 u : HO} (h : RelG K T F G H) (hf : ¬ F a) (hg : G a = none) (e0 : H a = some u0) (hu : isDat u0 = true) : RelG K T F G (upd H a u) := by
  refine ⟨fun b f => ?_, tabs_upd h.tb (fun o e => by rw [e0] at e; cases e; exact dat_plain hu), fun b o e => ?_⟩
  · obtain ⟨g, o, z, d⟩ := h.fz b f
    obtain ⟨_, o', z', e'⟩ := kept_wr (u := u) hf b o f z
    exact ⟨g, o', z', by rw [e'.strip]; exact d⟩
  · rw [upd_ne (fun z => by rw [z, hg] at e; cases e)]
    refine RelO.kept (kept_wr hf) (fun c d f g q => ⟨f, g, ?_⟩) (h.ob b o e)
    rw [upd_ne (fun z => by rw [z, e0] at q; cases q; exact isDat_own hu d rfl)]
    exact q
theorem Step.wr {F0 : FS} {G0 : DG} {H0 : Hp} {a : Addr} {u : HO} (s : Step F0 G0 H0 F G H) (h0 : H0 a = none) : Step F0 G0 H0 F G (upd H a u) :=
  ⟨fun b o f e => ⟨(s.fz b o f e).1, by unfold LkAt; rw [upd_ne (ne_of_none e h0)]; exact (s.fz b o f e).2⟩, fun b o f g e p => ⟨(s.pv b o f g e p).1, (s.pv b o f g e p).2.1, by rw [upd_ne (ne_of_none e h0)]; exact (s.pv b o f g e p).2.2⟩⟩
theorem RelG.frz {a : Addr} {u0 : HO} (h : RelG K T F G H) (hg : G a = none) (e0 : H a = some u0) (hu : isDat u0 = true) : RelG K T (fadd F a) G H := by
  refine ⟨fun b f => ?_, h.tb, fun b o e => ?_⟩
  · rcases f with rfl | f
    · exact ⟨hg, u0, e0, by cases u0 <;> first | exact hu | cases hu⟩
    · exact h.fz b f
  · refine RelO.kept (fun b o f e => ⟨.inr f, o, e, .inl rfl⟩) (fun c d f g q => ⟨fun z => z.elim (fun z => ?_) f, g, q⟩) (h.ob b o e)
    rw [z, e0] at q; cases q; exact isDat_own hu d rfl
theorem Step.frz {F0 : FS} {G0 : DG} {H0 : Hp} {a : Addr} (s : Step F0 G0 H0 F G H) (h0 : H0 a = none) : Step F0 G0 H0 (fadd F a) G H :=
  ⟨fun b o f e => ⟨.inr (s.fz b o f e).1, (s.fz b o f e).2⟩, fun b o f g e p => ⟨fun z => z.elim (ne_of_none e h0) (s.pv b o f g e p).1, (s.pv b o f g e p).2⟩⟩
theorem RelG.trk {a : Addr} {u0 : HO} {o : DO} (h : RelG K T F G H) (hf : ¬ F a) (hg : G a = none) (e0 : H a = some u0) (hu : isDat u0 = true) (r : RelO K F (gset G a (some o)) H o (some u0)) : RelG K T F (gset G a (some o)) H := by
  refine ⟨fun b f => ⟨?_, (h.fz b f).2⟩, h.tb, fun b w e => ?_⟩
  · rw [gset_ne (fun (z : b = a) => hf (z ▸ f))]; exact (h.fz b f).1
  · by_cases hb : b = a
    · subst hb
      rw [gset_same] at e
      cases e
      rw [e0]
      exact r
    · rw [gset_ne hb] at e
      refine RelO.kept (fun b o f e => ⟨f, o, e, .inl rfl⟩) (fun c d f g q => ⟨f, ?_, q⟩) (h.ob b w e)
      rw [gset_ne (fun z => by rw [z, e0] at q; cases q; exact isDat_own hu d rfl)]
      exact g
theorem Step.trk {F0 : FS} {G0 : DG} {H0 : Hp} {a : Addr} {o : Option DO} (s : Step F0 G0 H0 F G H) (h0 : H0 a = none) : Step F0 G0 H0 F (gset G a o) H :=
  ⟨s.fz, fun b w f g e p => ⟨(s.pv b w f g e p).1, by rw [gset_ne (ne_of_none e h0)]; exact (s.pv b w f g e p).2.1, (s.pv b w f g e p).2.2⟩⟩
/-- forgetting -/
theorem gsub_none (hs : ∀ a o, G' a = some o → G a = some o) {b : Addr} (g : G b = none) : G' b = none := by
  cases q : G' b with
  | none => rfl
  | some z => rw [hs b z q] at g; cases g
theorem Step.sub (hs : ∀ a o, G' a = some o → G a = some o) : Step F G H F G' H := ⟨fun b w f e => ⟨f, w, e, .inl rfl⟩, fun b w f g e _ => ⟨f, gsub_none hs g, e⟩⟩
theorem RelG.sub (h : RelG K T F G H) (hs : ∀ a o, G' a = some o → G a = some o) : RelG K T F G' H :=
  ⟨fun a f => ⟨gsub_none hs (h.fz a f).1, (h.fz a f).2⟩, h.tb, fun a o e => (h.ob a o (hs a o e)).step (Step.sub hs)⟩
theorem RelSt.get {env : List (Option D)} {σ : L2.St} {i : Nat} {d : D} (h : RelSt K F H env σ) (e : env[i]? = some (some d)) : ∃ v, σ[i]? = some (some v) ∧ RelD K F H d v := h.2 i d e
theorem RelSt.set {env : List (Option D)} {σ : L2.St} {i : Nat} {d : D} {v : V} (h : RelSt K F H env σ) (r : RelD K F H d v) : RelSt K F H (env.set i (some d)) (σ.set i (some v)) := by
  refine ⟨by simp [h.1], fun j d' e => ?_⟩
  by_cases hj : i = j
  · subst hj
    by_cases hi : i < env.length
    · rw [List.getElem?_set_self hi] at e
      cases e
      exact ⟨v, by rw [List.getElem?_set_self (by rw [← h.1]; exact hi)], r⟩
    · rw [List.getElem?_eq_none (by simpa using hi)] at e; cases e
  · rw [List.getElem?_set_ne hj] at e ⊢
    exact h.2 j d' e
end

/-! ### transformers and their lifts -/
abbrev DSt := List (Option D)
abbrev DK := D → DG → Prop
abbrev DX := String × Option D
abbrev DXK := DX → DSt → DG → Prop
abbrev DTE := DXK → DSt → DG → DK → Prop
abbrev DTT := DXK → DSt → DG → (Bool → DG → Prop) → Prop
abbrev DTA := DXK → DSt → DG → (List D → DG → Prop) → Prop
structure DEnds where
  nx : DSt → DG → Prop
  rt : DK
abbrev DTS := DXK → DEnds → DSt → DG → Prop

def RelX (K : PySem.W.Frag) (F : FS) (H : Hp) : DX → Value → Option Addr → Prop
  | (c, none), cls, d => cls = .ref (He.ga K (S c)) ∧ d = none
  | (c, some x), cls, d => cls = .ref (He.ga K (S c)) ∧ ∃ dd v, d = some dd ∧ H dd = some (.xd [(S "excess", v)]) ∧ RelD K F H x v
def XOk (K : PySem.W.Frag) (T : LT) (W : WX) (E : DXK) (F : FS) (G : DG) (H : Hp) : Prop :=
  ∀ x env' F' G' cls d σ' H', E x env' G' → Step F G H F' G' H' → RelG K T F' G' H' → RelSt K F' H' env' σ' → RelX K F' H' x cls d → W cls d σ' H'
theorem XOk.step {K : PySem.W.Frag} {T : LT} {W : WX} {E : DXK} {F F' : FS} {G G' : DG} {H H' : Hp} (x : XOk K T W E F G H) (s : Step F G H F' G' H') : XOk K T W E F' G' H' := fun a b c d e f g h i j k l m => x a b c d e f g h i (s.trans j) k l m

def liftE (K : PySem.W.Frag) (T : LT) (W : WX) (t : DTE) : TE := fun σ H Q => ∃ env F G E P, RelG K T F G H ∧ RelSt K F H env σ ∧ XOk K T W E F G H ∧ t E env G P ∧
  ∀ d F' G' v H', P d G' → Step F G H F' G' H' → RelG K T F' G' H' → RelD K F' H' d v → Q v H'
def liftT (K : PySem.W.Frag) (T : LT) (W : WX) (t : DTT) : TT := fun σ H Q => ∃ env F G E P, RelG K T F G H ∧ RelSt K F H env σ ∧ XOk K T W E F G H ∧ t E env G P ∧
  ∀ b F' G' H', P b G' → Step F G H F' G' H' → RelG K T F' G' H' → Q b H'
def liftA (K : PySem.W.Frag) (T : LT) (W : WX) (t : DTA) : TA := fun σ H Q => ∃ env F G E P, RelG K T F G H ∧ RelSt K F H env σ ∧ XOk K T W E F G H ∧ t E env G P ∧
  ∀ ds F' G' vs H', P ds G' → Step F G H F' G' H' → RelG K T F' G' H' → RelDs K F' H' ds vs → Q vs H'
def liftS (K : PySem.W.Frag) (T : LT) (W : WX) (t : DTS) : TS := fun D σ H => ∃ env F G E DE, RelG K T F G H ∧ RelSt K F H env σ ∧ XOk K T W E F G H ∧ t E DE env G ∧
  (∀ env' F' G' σ' H', DE.nx env' G' → Step F G H F' G' H' → RelG K T F' G' H' → RelSt K F' H' env' σ' → D.nx σ' H') ∧
  (∀ d F' G' v H', DE.rt d G' → Step F G H F' G' H' → RelG K T F' G' H' → RelD K F' H' d v → D.rt v H')
abbrev QE (X : Cx) (T : LT) (W : WX) (e : Expr) (t : DTE) : Prop := PE X e (liftE X.K T W t)
abbrev QT (X : Cx) (T : LT) (W : WX) (e : Expr) (t : DTT) : Prop := PT X e (liftT X.K T W t)
abbrev QA (X : Cx) (T : LT) (W : WX) (es : List Expr) (t : DTA) : Prop := PA X es (liftA X.K T W t)
abbrev QS (X : Cx) (T : LT) (W : WX) (st : Stmt) (t : DTS) : Prop := PS X st (liftS X.K T W t)
abbrev QSs (X : Cx) (T : LT) (W : WX) (st : List Stmt) (t : DTS) : Prop := PSs X st (liftS X.K T W t)

theorem PE.imp {X : Cx} {e : Expr} {t t' : TE} (h : PE X e t) (k : ∀ σ H Q, t' σ H Q → t σ H Q) : PE X e t' := ⟨fun pins s σ H Q I w => h.run pins s σ H Q I (k σ H Q w)⟩
theorem PT.imp {X : Cx} {e : Expr} {t t' : TT} (h : PT X e t) (k : ∀ σ H Q, t' σ H Q → t σ H Q) : PT X e t' := ⟨fun pins s σ H Q I w => h.run pins s σ H Q I (k σ H Q w)⟩
theorem PA.imp {X : Cx} {e : List Expr} {t t' : TA} (h : PA X e t) (k : ∀ σ H Q, t' σ H Q → t σ H Q) : PA X e t' := ⟨fun pos pins s σ H Q I w => h.run pos pins s σ H Q I (k σ H Q w)⟩
theorem PS.imp {X : Cx} {e : Stmt} {t t' : TS} (h : PS X e t) (k : ∀ D σ H, t' D σ H → t D σ H) : PS X e t' := ⟨fun pins s σ H D I w => h.run pins s σ H D I (k D σ H w)⟩
theorem PSs.imp {X : Cx} {e : List Stmt} {t t' : TS} (h : PSs X e t) (k : ∀ D σ H, t' D σ H → t D σ H) : PSs X e t' := ⟨fun pins s σ H D I w => h.run pins s σ H D I (k D σ H w)⟩
end DL

namespace DL
open PySem PySem.Spec PyProof.Rows L2
variable {T : LT}
/-! ### expressions -/
def dVar (i : Nat) : DTE := fun _ env G Q => ∃ d, env[i]? = some (some d) ∧ Q d G
def dC (d : D) : DTE := fun _ _ G Q => Q d G
def dOp (f : DG → D → D → Option D) (ta tb : DTE) : DTE := fun E env G Q => ta E env G fun x G1 => tb E env G1 fun y G2 => ∃ z, f G2 x y = some z ∧ Q z G2
def dUn (f : DG → D → Option D) (ta : DTE) : DTE := fun E env G Q => ta E env G fun x G1 => ∃ z, f G1 x = some z ∧ Q z G1
def dChain (f g : DG → D → D → Option D) (ta tb tc : DTE) : DTE := fun E env G Q => ta E env G fun x G1 => tb E env G1 fun y G2 => ∃ b, f G2 x y = some (.bl b) ∧
  if b = true then tc E env G2 fun z G3 => ∃ r, g G3 y z = some r ∧ Q r G3 else Q (.bl false) G2
def dTest (t : DTE) : DTT := fun E env G Q => t E env G fun x G1 => ∃ b, x = .bl b ∧ Q b G1
def dAnd (t u : DTT) : DTT := fun E env G Q => t E env G fun c G1 => if c = true then u E env G1 Q else Q false G1
def dOr (t u : DTT) : DTT := fun E env G Q => t E env G fun c G1 => if c = true then Q true G1 else u E env G1 Q
def dNot (t : DTT) : DTT := fun E env G Q => t E env G fun c G1 => Q (!c) G1
def dAndV (t u : DTE) : DTE := fun E env G Q => t E env G fun x G1 => ∃ c, x = .bl c ∧ if c = true then u E env G1 Q else Q (.bl false) G1
def dOrV (t u : DTE) : DTE := fun E env G Q => t E env G fun x G1 => ∃ c, x = .bl c ∧ if c = true then Q (.bl true) G1 else u E env G1 Q
def dNotV (t : DTE) : DTE := fun E env G Q => t E env G fun x G1 => ∃ c, x = .bl c ∧ Q (.bl (!c)) G1
def dIf (c : DTT) (t u : DTE) : DTE := fun E env G Q => c E env G fun b G1 => if b = true then t E env G1 Q else u E env G1 Q
def dNil : DTA := fun _ _ G Q => Q [] G
def dCons (t : DTE) (u : DTA) : DTA := fun E env G Q => t E env G fun x G1 => u E env G1 fun xs G2 => Q (x :: xs) G2
def dTup (t : DTA) : DTE := fun E env G Q => t E env G fun xs G1 => xs.length ≤ 16000000 ∧ Q (.tup xs) G1
def dLst (t : DTA) : DTE := fun E env G Q => t E env G fun xs G1 => xs.length ≤ 16000000 ∧ Q (.lst xs) G1
/-- a list that will be written: tracked -/
def dLstB (t : DTA) : DTE := fun E env G Q => t E env G fun xs G1 => xs.length ≤ 16000000 ∧ ∀ p, G1 p = none → Q (.ref p) (gset G1 p (some (.lst xs)))
/-- a call of a built-in by its values -/
def dB (f : DG → List D → Option D) (t : DTA) : DTE := fun E env G Q => t E env G fun xs G1 => ∃ z, f G1 xs = some z ∧ Q z G1
abbrev DSp := List D → DG → DK → (DX → DG → Prop) → Prop
def dCall (sp : DSp) (t : DTA) : DTE := fun E env G Q => t E env G fun xs G1 => sp xs G1 Q fun x G' => E x env G'

/-! ### by values -/
def rD (K : PySem.W.Frag) (T : LT) (f : DG → D → D → Option D) : R2 := fun x y H Q => ∃ F G dx dy z, RelG K T F G H ∧ RelD K F H dx x ∧ RelD K F H dy y ∧ f G dx dy = some z ∧ ∀ F' v H', Step F G H F' G H' → RelG K T F' G H' → RelD K F' H' z v → Q v H'
def rD1 (K : PySem.W.Frag) (T : LT) (f : DG → D → Option D) : V → Hp → VK → Prop := fun x H Q => ∃ F G dx z, RelG K T F G H ∧ RelD K F H dx x ∧ f G dx = some z ∧ ∀ F' v H', Step F G H F' G H' → RelG K T F' G H' → RelD K F' H' z v → Q v H'
def rDB (K : PySem.W.Frag) (T : LT) (f : DG → List D → Option D) : List V → Hp → VK → Prop := fun xs H Q => ∃ F G ds z, RelG K T F G H ∧ RelDs K F H ds xs ∧ f G ds = some z ∧ ∀ F' v H', Step F G H F' G H' → RelG K T F' G H' → RelD K F' H' z v → Q v H'

section
variable {X : Cx} {W : WX} {a b c : Expr} {ta tb tc : DTE} {pos : Pos}
theorem q_var {i : Nat} {x : Str} (hN : X.N[i]? = some x) (hv : Vis X.env.scope x) (hd : (x == ("__debug__" : Str)) = false := by decide) (hcd : (x == ("__classdict__" : Str)) = false := by decide) : QE X T W (.Name x pos) (dVar i) :=
  PE.imp (pe_var hN hv hd hcd) fun σ H Q ⟨env, F, G, E, P, hg, hs, hx, ⟨d, e, p⟩, hq⟩ => by
    obtain ⟨v, ev, r⟩ := hs.get e
    exact ⟨v, ev, hq d _ G v H p Step.refl hg r⟩
theorem qv (i : Nat) {x : Str} (hN : X.N[i]? = some x := by rfl) (hv : Vis X.env.scope x := by first | exact Or.inl rfl | exact Or.inr (Or.inl rfl) | exact Or.inr (Or.inr rfl)) (hd : (x == ("__debug__" : Str)) = false := by decide)
    (hcd : (x == ("__classdict__" : Str)) = false := by decide) : QE X T W (.Name x pos) (dVar i) := q_var hN hv hd hcd
theorem q_con {e : Expr} {v : V} {d : D} (h : PE X e (tC v)) (r : ∀ F H, RelD X.K F H d v) : QE X T W e (dC d) :=
  PE.imp h fun σ H Q ⟨env, F, G, E, P, hg, hs, hx, p, hq⟩ => hq d _ G v H p Step.refl hg (r F H)
theorem q_int {i : Int} {j : Nat} : QE X T W (.Constant (.int i) j pos) (dC (.int i)) := q_con pe_int fun _ _ => rfl
theorem q_bl {i : Bool} {j : Nat} : QE X T W (.Constant (.bool i) j pos) (dC (.bl i)) := q_con pe_bl fun _ _ => rfl
theorem q_non {j : Nat} : QE X T W (.Constant .none j pos) (dC .non) := q_con pe_non fun _ _ => rfl
theorem q_str {s : String} {j : Nat} : QE X T W (.Constant (.str (Str.ofString s)) j pos) (dC (.str s)) := q_con pe_str fun _ _ => rfl
theorem q_op {op : Operator} {f : DG → D → D → Option D} (ho : OpR X (binaryOp op) (rD X.K T f)) (ha : QE X T W a ta) (hb : QE X T W b tb) : QE X T W (.BinOp a op b pos) (dOp f ta tb) :=
  PE.imp (pe_op ho ha hb) fun σ H Q ⟨env, F, G, E, P, hg, hs, hx, ht, hq⟩ =>
    ⟨env, F, G, E, _, hg, hs, hx, ht, fun x F1 G1 v1 H1 h1 s1 g1 r1 => ⟨env, F1, G1, E, _, g1, hs.step s1, hx.step s1, h1, fun y F2 G2 v2 H2 ⟨z, e, p⟩ s2 g2 r2 =>
      ⟨F2, G2, x, y, z, g2, RelD.step s2 x r1, r2, e, fun F' v H' s3 g3 r3 => hq z _ G2 v H' p (s1.trans (s2.trans s3)) g3 r3⟩⟩⟩
theorem q_un {op : UnaryOp} {f : DG → D → Option D} (ho : UnR X (unaryOp op) (rD1 X.K T f)) (ha : QE X T W a ta) : QE X T W (.UnaryOp op a pos) (dUn f ta) :=
  PE.imp (pe_un ho ha) fun σ H Q ⟨env, F, G, E, P, hg, hs, hx, ht, hq⟩ =>
    ⟨env, F, G, E, _, hg, hs, hx, ht, fun x F1 G1 v1 H1 ⟨z, e, p⟩ s1 g1 r1 => ⟨F1, G1, x, z, g1, r1, e, fun F' v H' s3 g3 r3 => hq z _ G1 v H' p (s1.trans s3) g3 r3⟩⟩
theorem q_cmp {op : CmpOp} {f : DG → D → D → Option D} (ho : OpR X (compareOp op) (rD X.K T f)) (ha : QE X T W a ta) (hb : QE X T W b tb) (hm : behindInMarks op b = false) : QE X T W (.Compare a [op] [b] pos) (dOp f ta tb) :=
  PE.imp (pe_cmpR ho ha hb hm) fun σ H Q ⟨env, F, G, E, P, hg, hs, hx, ht, hq⟩ =>
    ⟨env, F, G, E, _, hg, hs, hx, ht, fun x F1 G1 v1 H1 h1 s1 g1 r1 => ⟨env, F1, G1, E, _, g1, hs.step s1, hx.step s1, h1, fun y F2 G2 v2 H2 ⟨z, e, p⟩ s2 g2 r2 =>
      ⟨F2, G2, x, y, z, g2, RelD.step s2 x r1, r2, e, fun F' v H' s3 g3 r3 => hq z _ G2 v H' p (s1.trans (s2.trans s3)) g3 r3⟩⟩⟩
theorem q_cmpT {op : CmpOp} {f : DG → D → D → Option D} (ho : OpR X (compareOp op) (rD X.K T f)) (ha : QE X T W a ta) (hb : QE X T W b tb) (hm : behindInMarks op b = false) : QT X T W (.Compare a [op] [b] pos) (dTest (dOp f ta tb)) :=
  PT.imp (pt_cmpR ho ha hb hm) fun σ H Q ⟨env, F, G, E, P, hg, hs, hx, ht, hq⟩ =>
    ⟨env, F, G, E, _, hg, hs, hx, ht, fun x F1 G1 v1 H1 h1 s1 g1 r1 => ⟨env, F1, G1, E, _, g1, hs.step s1, hx.step s1, h1, fun y F2 G2 v2 H2 ⟨z, e, k, ek, p⟩ s2 g2 r2 =>
      ⟨F2, G2, x, y, z, g2, RelD.step s2 x r1, r2, e, fun F' v H' s3 g3 r3 => by
        subst ek
        exact ⟨k, r3, hq k _ G2 H' p (s1.trans (s2.trans s3)) g3⟩⟩⟩⟩
theorem q_chain {op op' : CmpOp} {f g : DG → D → D → Option D} (ho : OpR X (compareOp op) (rD X.K T f)) (ho' : OpR X (compareOp op') (rD X.K T g)) (ha : QE X T W a ta) (hb : QE X T W b tb) (hc : QE X T W c tc)
    (hm : lastMarks [op, op'] [b, c] = false := by with_unfolding_all rfl) : QE X T W (.Compare a [op, op'] [b, c] pos) (dChain f g ta tb tc) :=
  PE.imp (pe_chain ho ho' ha hb hc hm) fun σ H Q ⟨env, F, G, E, P, hg, hs, hx, ht, hq⟩ =>
    ⟨env, F, G, E, _, hg, hs, hx, ht, fun x F1 G1 v1 H1 h1 s1 g1 r1 => ⟨env, F1, G1, E, _, g1, hs.step s1, hx.step s1, h1, fun y F2 G2 v2 H2 ⟨k, e, p⟩ s2 g2 r2 =>
      ⟨F2, G2, x, y, .bl k, g2, RelD.step s2 x r1, r2, e, fun F' v H' s3 g3 r3 => by
        refine ⟨k, r3, ?_⟩
        cases k with
        | true =>
          rw [if_pos rfl] at p ⊢
          refine ⟨env, F', G2, E, _, g3, (hs.step s1).step (s2.trans s3), hx.step (s1.trans (s2.trans s3)), p, fun z F3 G3 v4 H4 ⟨r, er, pr⟩ s4 g4 r4 => ?_⟩
          exact ⟨F3, G3, y, z, r, g4, RelD.step (s3.trans s4) y r2, r4, er, fun F5 v5 H5 s5 g5 r5 => hq r _ G3 v5 H5 pr (s1.trans (s2.trans (s3.trans (s4.trans s5)))) g5 r5⟩
        | false =>
          rw [if_neg Bool.false_ne_true] at p ⊢
          exact hq (.bl false) _ G2 _ H' p (s1.trans (s2.trans s3)) g3 rfl⟩⟩⟩
theorem q_chainT {op op' : CmpOp} {f g : DG → D → D → Option D} (ho : OpR X (compareOp op) (rD X.K T f)) (ho' : OpR X (compareOp op') (rD X.K T g)) (ha : QE X T W a ta) (hb : QE X T W b tb) (hc : QE X T W c tc)
    (hm : lastMarks [op, op'] [b, c] = false := by with_unfolding_all rfl) : QT X T W (.Compare a [op, op'] [b, c] pos) (dTest (dChain f g ta tb tc)) :=
  PT.imp (pt_chain ho ho' ha hb hc hm) fun σ H Q ⟨env, F, G, E, P, hg, hs, hx, ht, hq⟩ =>
    ⟨env, F, G, E, _, hg, hs, hx, ht, fun x F1 G1 v1 H1 h1 s1 g1 r1 => ⟨env, F1, G1, E, _, g1, hs.step s1, hx.step s1, h1, fun y F2 G2 v2 H2 ⟨k, e, p⟩ s2 g2 r2 =>
      ⟨F2, G2, x, y, .bl k, g2, RelD.step s2 x r1, r2, e, fun F' v H' s3 g3 r3 => by
        refine ⟨k, r3, ?_⟩
        cases k with
        | true =>
          rw [if_pos rfl] at p ⊢
          refine ⟨env, F', G2, E, _, g3, (hs.step s1).step (s2.trans s3), hx.step (s1.trans (s2.trans s3)), p, fun z F3 G3 v4 H4 ⟨r, er, bb, eb, pr⟩ s4 g4 r4 => ?_⟩
          subst eb
          exact ⟨F3, G3, y, z, .bl bb, g4, RelD.step (s3.trans s4) y r2, r4, er, fun F5 v5 H5 s5 g5 r5 => ⟨bb, r5, hq bb _ G3 H5 pr (s1.trans (s2.trans (s3.trans (s4.trans s5)))) g5⟩⟩
        | false =>
          rw [if_neg Bool.false_ne_true] at p ⊢
          obtain ⟨bb, eb, p⟩ := p
          cases eb
          exact ⟨false, rfl, hq false _ G2 H' p (s1.trans (s2.trans s3)) g3⟩⟩⟩⟩
/-! tests -/
variable {tA tB' tC' : DTT} {rest : List Expr}
abbrev QW (X : Cx) (T : LT) (W : WX) (e : Expr) (t : DTT) : Prop := PW X e (liftT X.K T W t)
theorem PW.imp {X : Cx} {e : Expr} {t t' : TT} (h : PW X e t) (k : ∀ σ H Q, t' σ H Q → t σ H Q) : PW X e t' := ⟨fun wh pins s σ H Q I w => h.run wh pins s σ H Q I (k σ H Q w)⟩
theorem qw_and1 (ha : QT X T W a tA) : QW X T W (.BoolOp .And [a] pos) tA := pw_and1 ha
theorem qw_or1 (ha : QT X T W a tA) : QW X T W (.BoolOp .Or [a] pos) tA := pw_or1 ha
theorem qw_and (ha : QT X T W a tA) (hb : QW X T W (.BoolOp .And (b :: rest) pos) tB') : QW X T W (.BoolOp .And (a :: b :: rest) pos) (dAnd tA tB') :=
  PW.imp (pw_and ha hb) fun σ H Q ⟨env, F, G, E, P, hg, hs, hx, ht, hq⟩ => ⟨env, F, G, E, _, hg, hs, hx, ht, fun k F1 G1 H1 p s1 g1 => by
    cases k with
    | true => exact ⟨env, F1, G1, E, _, g1, hs.step s1, hx.step s1, p, fun b F2 G2 H2 p2 s2 g2 => hq b _ G2 H2 p2 (s1.trans s2) g2⟩
    | false => exact hq false _ G1 H1 p s1 g1⟩
theorem qw_or (ha : QT X T W a tA) (hb : QW X T W (.BoolOp .Or (b :: rest) pos) tB') : QW X T W (.BoolOp .Or (a :: b :: rest) pos) (dOr tA tB') :=
  PW.imp (pw_or ha hb) fun σ H Q ⟨env, F, G, E, P, hg, hs, hx, ht, hq⟩ => ⟨env, F, G, E, _, hg, hs, hx, ht, fun k F1 G1 H1 p s1 g1 => by
    cases k with
    | false => exact ⟨env, F1, G1, E, _, g1, hs.step s1, hx.step s1, p, fun b F2 G2 H2 p2 s2 g2 => hq b _ G2 H2 p2 (s1.trans s2) g2⟩
    | true => exact hq true _ G1 H1 p s1 g1⟩
theorem qt_w {e : Expr} (h : QW X T W e tA) : QT X T W e tA := PW.pt h
theorem qt_not (ha : QT X T W a tA) : QT X T W (.UnaryOp .Not a pos) (dNot tA) :=
  PT.imp (pt_not ha) fun σ H Q ⟨env, F, G, E, P, hg, hs, hx, ht, hq⟩ => ⟨env, F, G, E, _, hg, hs, hx, ht, fun k F1 G1 H1 p s1 g1 => hq (!k) _ G1 H1 p s1 g1⟩
theorem qt_val {e : Expr} {t : DTE} (h : QE X T W e t) (he : ∀ whole, isTrue e X.env whole = (do let v ← whole; standAt e.pos; holding [v] (truthy v)) := by intro _; rfl) : QT X T W e (dTest t) :=
  PT.imp (pt_val h he) fun σ H Q ⟨env, F, G, E, P, hg, hs, hx, ht, hq⟩ => ⟨env, F, G, E, _, hg, hs, hx, ht, fun x F1 G1 v1 H1 ⟨k, e, p⟩ s1 g1 r1 => by
    subst e
    exact ⟨k, r1, hq k _ G1 H1 p s1 g1⟩⟩
theorem q_one {op} {t : DTE} (h : QE X T W a t) : QE X T W (.BoolOp op [a] pos) t := pe_one h
theorem q_and (ha : QE X T W a ta) (hb : QE X T W (.BoolOp .And (b :: rest) pos) tb) : QE X T W (.BoolOp .And (a :: b :: rest) pos) (dAndV ta tb) :=
  PE.imp (pe_and ha hb) fun σ H Q ⟨env, F, G, E, P, hg, hs, hx, ht, hq⟩ => ⟨env, F, G, E, _, hg, hs, hx, ht, fun x F1 G1 v1 H1 ⟨k, e, p⟩ s1 g1 r1 => by
    subst e
    refine ⟨k, r1, ?_⟩
    cases k with
    | true => exact ⟨env, F1, G1, E, _, g1, hs.step s1, hx.step s1, p, fun b F2 G2 v2 H2 p2 s2 g2 r2 => hq b _ G2 v2 H2 p2 (s1.trans s2) g2 r2⟩
    | false => exact hq (.bl false) _ G1 _ H1 p s1 g1 rfl⟩
theorem q_or (ha : QE X T W a ta) (hb : QE X T W (.BoolOp .Or (b :: rest) pos) tb) : QE X T W (.BoolOp .Or (a :: b :: rest) pos) (dOrV ta tb) :=
  PE.imp (pe_or ha hb) fun σ H Q ⟨env, F, G, E, P, hg, hs, hx, ht, hq⟩ => ⟨env, F, G, E, _, hg, hs, hx, ht, fun x F1 G1 v1 H1 ⟨k, e, p⟩ s1 g1 r1 => by
    subst e
    refine ⟨k, r1, ?_⟩
    cases k with
    | false => exact ⟨env, F1, G1, E, _, g1, hs.step s1, hx.step s1, p, fun b F2 G2 v2 H2 p2 s2 g2 r2 => hq b _ G2 v2 H2 p2 (s1.trans s2) g2 r2⟩
    | true => exact hq (.bl true) _ G1 _ H1 p s1 g1 rfl⟩
theorem q_not (ha : QE X T W a ta) : QE X T W (.UnaryOp .Not a pos) (dNotV ta) :=
  PE.imp (pe_not ha) fun σ H Q ⟨env, F, G, E, P, hg, hs, hx, ht, hq⟩ => ⟨env, F, G, E, _, hg, hs, hx, ht, fun x F1 G1 v1 H1 ⟨k, e, p⟩ s1 g1 r1 => by
    subst e
    exact ⟨k, r1, hq (.bl (!k)) _ G1 _ H1 p s1 g1 rfl⟩⟩
theorem q_if (hc : QT X T W c tA) (ha : QE X T W a ta) (hb : QE X T W b tb) : QE X T W (.IfExp c a b pos) (dIf tA ta tb) :=
  PE.imp (pe_ifExp hc ha hb) fun σ H Q ⟨env, F, G, E, P, hg, hs, hx, ht, hq⟩ => ⟨env, F, G, E, _, hg, hs, hx, ht, fun k F1 G1 H1 p s1 g1 => by
    cases k with
    | true => exact ⟨env, F1, G1, E, _, g1, hs.step s1, hx.step s1, p, fun b F2 G2 v2 H2 p2 s2 g2 r2 => hq b _ G2 v2 H2 p2 (s1.trans s2) g2 r2⟩
    | false => exact ⟨env, F1, G1, E, _, g1, hs.step s1, hx.step s1, p, fun b F2 G2 v2 H2 p2 s2 g2 r2 => hq b _ G2 v2 H2 p2 (s1.trans s2) g2 r2⟩⟩
/-! arguments, displays -/
variable {es : List Expr} {tr : DTA}
theorem qa_nil : QA X T W [] dNil := PA.imp pa_nil fun σ H Q ⟨env, F, G, E, P, hg, hs, hx, p, hq⟩ => hq [] _ G [] H p Step.refl hg rfl
theorem qa_cons (ha : QE X T W a ta) (hr : QA X T W es tr) (hst : starEach (a :: es) X.env = (false, eval a X.env) :: starEach es X.env := by rfl) : QA X T W (a :: es) (dCons ta tr) :=
  PA.imp (pa_cons ha hr hst) fun σ H Q ⟨env, F, G, E, P, hg, hs, hx, ht, hq⟩ => ⟨env, F, G, E, _, hg, hs, hx, ht, fun x F1 G1 v1 H1 p s1 g1 r1 =>
    ⟨env, F1, G1, E, _, g1, hs.step s1, hx.step s1, p, fun xs F2 G2 vs H2 p2 s2 g2 r2 => hq (x :: xs) _ G2 (v1 :: vs) H2 p2 (s1.trans s2) g2 ⟨v1, vs, rfl, RelD.step s2 x r1, r2⟩⟩⟩
theorem RelDs.length {K : PySem.W.Frag} {F : FS} {H : Hp} : ∀ {ds : List D} {vs : List V}, RelDs K F H ds vs → ds.length = vs.length
  | [], vs, h => by
    have e : vs = [] := h
    rw [e]
    rfl
  | x :: xs, _, ⟨v, r, e, _, t⟩ => by rw [e, List.length_cons, List.length_cons, RelDs.length t]
theorem small_line {n : Nat} (h : n ≤ 16000000) : n ≤ sizeLine := Nat.le_trans h (by decide)
/-- the new tuple at p -/
theorem relD_newTup {K : PySem.W.Frag} {F : FS} {G : DG} {H : Hp} {p : Addr} {ds : List D} {vs : List V} (hg : RelG K T F G H) (hp : H p = none) (r : RelDs K F H ds vs) : RelD K (fadd F p) (upd H p (.tup vs)) (.tup ds) (.ref p) :=
  ⟨p, vs, rfl, .inl ⟨.of upd_same, .inl rfl⟩, RelDs.step (G := G) (G' := G) (Step.new hp) ds r⟩
theorem relD_newLst {K : PySem.W.Frag} {F : FS} {G : DG} {H : Hp} {p : Addr} {ds : List D} {vs : List V} (hg : RelG K T F G H) (hp : H p = none) (r : RelDs K F H ds vs) : RelD K (fadd F p) (upd H p (.lst vs)) (.lst ds) (.ref p) :=
  ⟨p, vs, rfl, ⟨.of upd_same, .inl rfl⟩, RelDs.step (G := G) (G' := G) (Step.new hp) ds r⟩
theorem q_tup {x1} (h : QA X T W es tr) : QE X T W (.Tuple es x1 pos) (dTup tr) :=
  PE.imp (pe_tup h) fun σ H Q ⟨env, F, G, E, P, hg, hs, hx, ht, hq⟩ => ⟨env, F, G, E, _, hg, hs, hx, ht, fun xs F1 G1 vs H1 ⟨hl, p⟩ s1 g1 r1 =>
    ⟨by rw [← r1.length]; exact small_line hl, fun a ha => hq (.tup xs) _ G1 _ _ p (s1.trans (Step.new ha)) (g1.new ha) (relD_newTup g1 ha r1)⟩⟩
theorem q_lst (h : QA X T W es tr) : QE X T W (.List es pos) (dLst tr) :=
  PE.imp (pe_lst h) fun σ H Q ⟨env, F, G, E, P, hg, hs, hx, ht, hq⟩ => ⟨env, F, G, E, _, hg, hs, hx, ht, fun xs F1 G1 vs H1 ⟨hl, p⟩ s1 g1 r1 =>
    ⟨by rw [← r1.length]; exact small_line hl, fun a ha => hq (.lst xs) _ G1 _ _ p (s1.trans (Step.new ha)) (g1.new ha) (relD_newLst g1 ha r1)⟩⟩
theorem q_lstB (h : QA X T W es tr) : QE X T W (.List es pos) (dLstB tr) :=
  PE.imp (pe_lst h) fun σ H Q ⟨env, F, G, E, P, hg, hs, hx, ht, hq⟩ => ⟨env, F, G, E, _, hg, hs, hx, ht, fun xs F1 G1 vs H1 ⟨hl, p⟩ s1 g1 r1 =>
    ⟨by rw [← r1.length]; exact small_line hl, fun a ha => hq (.ref a) _ _ _ _ (p a (g1.free ha)) (s1.trans (Step.set g1 (.inl ha))) (g1.set (.inl ha) ⟨vs, rfl, RelDs.step (Step.set (o := none) g1 (.inl ha)) xs r1⟩) rfl⟩⟩
/-! built-ins, defs -/
theorem q_callB {x : Str} {id : String} {f : DG → List D → Option D} {e : Expr} {p : Pos} (hc : CallR X (.builtin id) (rDB X.K T f)) (hg : Gl X x) (hm : X.mg x = none) (hv : bootBuiltins x = some (.builtin id)) (ha : QA X T W (e :: es) tr) (hn : x ≠ "__name__" := by decide) (hdb : (x == ("__debug__" : Str)) = false := by decide)
    (he : starEach (e :: es) X.env = (false, eval e X.env) :: starEach es X.env := by rfl) (hpl : (backTo pos (starEach es X.env)).any (·.1) = false := by rfl) : QE X T W (.Call (.Name x p) (e :: es) [] pos) (dB f tr) :=
  PE.imp (pe_callB hc hg hm hv ha hn hdb he hpl) fun σ H Q ⟨env, F, G, E, P, hg, hs, hx, ht, hq⟩ => ⟨env, F, G, E, _, hg, hs, hx, ht, fun xs F1 G1 vs H1 ⟨z, e, p⟩ s1 g1 r1 =>
    ⟨F1, G1, xs, z, g1, r1, e, fun F' v H' s2 g2 r2 => hq z _ G1 v H' p (s1.trans s2) g2 r2⟩⟩
theorem q_callTy {x : Str} {ty : String} {f : DG → List D → Option D} {e : Expr} {p : Pos} (hc : CallR X (.type ty) (rDB X.K T f)) (hg : Gl X x) (hm : X.mg x = none) (hv : bootBuiltins x = some (.type ty)) (ha : QA X T W (e :: es) tr) (hn : x ≠ "__name__" := by decide) (hdb : (x == ("__debug__" : Str)) = false := by decide)
    (he : starEach (e :: es) X.env = (false, eval e X.env) :: starEach es X.env := by rfl) (hpl : (backTo pos (starEach es X.env)).any (·.1) = false := by rfl) : QE X T W (.Call (.Name x p) (e :: es) [] pos) (dB f tr) :=
  PE.imp (pe_callTy hc hg hm hv ha hn hdb he hpl) fun σ H Q ⟨env, F, G, E, P, hg, hs, hx, ht, hq⟩ => ⟨env, F, G, E, _, hg, hs, hx, ht, fun xs F1 G1 vs H1 ⟨z, e, p⟩ s1 g1 r1 =>
    ⟨F1, G1, xs, z, g1, r1, e, fun F' v H' s2 g2 r2 => hq z _ G1 v H' p (s1.trans s2) g2 r2⟩⟩
def liftSp (K : PySem.W.Frag) (T : LT) (sp : DSp) : Sp := fun vs H Q E => ∃ ds F G P Ed, RelG K T F G H ∧ RelDs K F H ds vs ∧ sp ds G P Ed ∧
  (∀ d F' G' v H', P d G' → Step F G H F' G' H' → RelG K T F' G' H' → RelD K F' H' d v → Q v H') ∧ (∀ x F' G' cls d H', Ed x G' → Step F G H F' G' H' → RelG K T F' G' H' → RelX K F' H' x cls d → E cls d H')
/-- a def of the text that keeps a promise -/
structure DFn (P : Program) (w : World) (K : PySem.W.Frag) (T : LT) (mg : Str → Option Value) (base : Heap) (k : Nat) (x : Str) (ps : List Str) (sp : DSp) : Prop where
  ok : ∃ fd, FnOk P w K mg base (L2N.CX P w) k (He.ga K x) fd ps (liftSp K T sp) ∧ Binds K fd ps []
  mg : mg x = some (.ref (He.ga K x))
  kp : PySem.W.keepIn K (.ref (He.ga K x)) = true
theorem q_call {x : Str} {sp : DSp} {k j : Nat} {ps : List Str} {e : Expr} {p : Pos} (F : DFn X.prog X.w X.K T X.mg X.base k x ps sp) (hr : Room j X.A) (hj : k ≤ j) (tk : L2N.Takes X W) (hg : Gl X x) (ha : QA X T W (e :: es) tr) (hdb : (x == ("__debug__" : Str)) = false := by decide)
    (he : starEach (e :: es) X.env = (false, eval e X.env) :: starEach es X.env := by rfl) (hpl : (backTo pos (starEach es X.env)).any (·.1) = false := by rfl) : QE X T W (.Call (.Name x p) (e :: es) [] pos) (dCall sp tr) := by
  obtain ⟨fd, F1, B⟩ := F.ok
  refine PE.imp (pe_callS (E := WE W) F1 (hr.mono hj) hg F.mg F.kp B (fun σ => L2N.passAt tk σ) ha hdb he hpl) fun σ H Q ⟨env, F, G, E, P, hg, hs, hx, ht, hq⟩ => ⟨env, F, G, E, _, hg, hs, hx, ht, fun xs F1 G1 vs H1 p s1 g1 r1 => ?_⟩
  exact ⟨xs, F1, G1, _, _, g1, r1, p, fun d F' G' v H' p2 s2 g2 r2 => hq d _ G' v H' p2 (s1.trans s2) g2 r2, fun x F' G' cls d H' p2 s2 g2 r2 => hx x env _ G' cls d σ H' p2 (s1.trans s2) g2 (hs.step (s1.trans s2)) r2⟩
theorem q_call0 {x : Str} {sp : DSp} {k j : Nat} {ps : List Str} {p : Pos} (Fn : DFn X.prog X.w X.K T X.mg X.base k x ps sp) (hr : Room j X.A) (hj : k ≤ j) (tk : L2N.Takes X W) (hg : Gl X x) (hdb : (x == ("__debug__" : Str)) = false := by decide) : QE X T W (.Call (.Name x p) [] [] pos) (dCall sp dNil) := by
  obtain ⟨fd, F1, B⟩ := Fn.ok
  refine ⟨fun pins s σ H Q I hw => ?_⟩
  obtain ⟨env, F, G, E, P, hg', hs, hx, ht, hq⟩ := hw
  refine wpAny_Call_Name_kw (ld_glob I hg Fn.mg ?_ hdb)
  refine PySem.W.callWith_K0 I.kIn Fn.kp (run_fnS (us := []) (vs := []) (E := WE W) F1 (hr.mono hj) B (L2N.passAt tk σ) I .nil ?_)
  exact ⟨[], F, G, _, _, hg', rfl, ht, hq, fun x F' G' cls d H' p2 s2 g2 r2 => hx x env _ G' cls d σ H' p2 s2 g2 (hs.step s2) r2⟩
end

/-! ### statements -/
def sNext : DTS := fun _ DE env G => DE.nx env G
def sSeq (t u : DTS) : DTS := fun E DE env G => t E { DE with nx := fun env' G' => u E DE env' G' } env G
def sDrop (t : DTE) : DTS := fun E DE env G => t E env G fun _ G1 => DE.nx env G1
def sRet (t : DTE) : DTS := fun E DE env G => t E env G DE.rt
def sRetN : DTS := fun _ DE _ G => DE.rt .non G
def sIf (c : DTT) (t u : DTS) : DTS := fun E DE env G => c E env G fun b G1 => if b = true then t E DE env G1 else u E DE env G1
def sSet (i : Nat) (t : DTE) : DTS := fun E DE env G => t E env G fun x G1 => DE.nx (env.set i (some x)) G1
def sRaise (c : String) : DTS := fun E _ env G => E (c, none) env G
def sNever : DTS := fun _ _ _ _ => False
section
variable {X : Cx} {W : WX} {st : Stmt} {rest : List Stmt} {t u : DTS} {e : Expr} {te : DTE} {pos : Pos}
theorem qs_nil : QSs X T W [] sNext := PSs.imp pss_nil fun D σ H ⟨env, F, G, E, DE, hg, hs, hx, ht, hn, hr⟩ => hn env _ G σ H ht Step.refl hg hs
theorem qs_cons (h1 : QS X T W st t) (h2 : QSs X T W rest u) : QSs X T W (st :: rest) (sSeq t u) :=
  PSs.imp (pss_cons h1 h2) fun D σ H ⟨env, F, G, E, DE, hg, hs, hx, ht, hn, hr⟩ => ⟨env, F, G, E, _, hg, hs, hx, ht, fun env' F' G' σ' H' p s1 g1 r1 =>
    ⟨env', F', G', E, DE, g1, r1, hx.step s1, p, fun env2 F2 G2 σ2 H2 p2 s2 g2 r2 => hn env2 _ G2 σ2 H2 p2 (s1.trans s2) g2 r2, fun d F2 G2 v H2 p2 s2 g2 r2 => hr d _ G2 v H2 p2 (s1.trans s2) g2 r2⟩, hr⟩
theorem qs_one (h1 : QS X T W st t) : QSs X T W [st] t := pss_one h1
theorem qs_expr (he : QE X T W e te) (hs : swapsWith e none pos.line X.env = pure false := by rfl) : QS X T W (.Expr e pos) (sDrop te) :=
  PS.imp (ps_expr he hs) fun D σ H ⟨env, F, G, E, DE, hg, hs, hx, ht, hn, hr⟩ => ⟨env, F, G, E, _, hg, hs, hx, ht, fun d F1 G1 v1 H1 p s1 g1 r1 => hn env _ G1 σ H1 p s1 g1 (hs.step s1)⟩
theorem qs_ret (he : QE X T W e te) : QS X T W (.Return (some e) pos) (sRet te) :=
  PS.imp (ps_ret he) fun D σ H ⟨env, F, G, E, DE, hg, hs, hx, ht, hn, hr⟩ => ⟨env, F, G, E, _, hg, hs, hx, ht, hr⟩
theorem qs_retN : QS X T W (.Return none pos) sRetN := PS.imp ps_retN fun D σ H ⟨env, F, G, E, DE, hg, hs, hx, ht, hn, hr⟩ => hr .non _ G .non H ht Step.refl hg rfl
theorem qs_if {c : Expr} {a b : List Stmt} {tc : DTT} (hc : QT X T W c tc) (ha : QSs X T W a t) (hb : QSs X T W b u) : QS X T W (.If c a b pos) (sIf tc t u) :=
  PS.imp (ps_if hc ha hb) fun D σ H ⟨env, F, G, E, DE, hg, hs, hx, ht, hn, hr⟩ => ⟨env, F, G, E, _, hg, hs, hx, ht, fun b F1 G1 H1 p s1 g1 => by
    cases b with
    | true => exact ⟨env, F1, G1, E, DE, g1, hs.step s1, hx.step s1, p, fun env2 F2 G2 σ2 H2 p2 s2 g2 r2 => hn env2 _ G2 σ2 H2 p2 (s1.trans s2) g2 r2, fun d F2 G2 v H2 p2 s2 g2 r2 => hr d _ G2 v H2 p2 (s1.trans s2) g2 r2⟩
    | false => exact ⟨env, F1, G1, E, DE, g1, hs.step s1, hx.step s1, p, fun env2 F2 G2 σ2 H2 p2 s2 g2 r2 => hn env2 _ G2 σ2 H2 p2 (s1.trans s2) g2 r2, fun d F2 G2 v H2 p2 s2 g2 r2 => hr d _ G2 v H2 p2 (s1.trans s2) g2 r2⟩⟩
theorem qs_set {i : Nat} {x : Str} {pos' : Pos} (hN : X.N.Nodup) (hi : X.N[i]? = some x) (hx : Loc X.env.scope x) (he : QE X T W e te) (hs : swapsWith e (some (.Name x pos')) pos.line X.env = pure false := by rfl) (hf : X.fn x = true ∨ X.env.scope.names.lookup x = some .local := by first | exact .inl rfl | exact .inr rfl | assumption) :
    QS X T W (.Assign [.Name x pos'] e pos) (sSet i te) :=
  PS.imp (ps_set hN hi hx he hs hf) fun D σ H ⟨env, F, G, E, DE, hg, hs, hx, ht, hn, hr⟩ => ⟨env, F, G, E, _, hg, hs, hx, ht, fun d F1 G1 v1 H1 p s1 g1 r1 => hn _ _ G1 _ H1 p s1 g1 ((hs.step s1).set r1)⟩
/-- an own error class as the top has left it -/
structure DXc (X : Cx) (c : String) : Prop where
  ex : PySem.W.excIn X.K (He.ga X.K (S c)) He.veBase "ValueError.__new__" = true
  mg : X.mg (S c) = some (.ref (He.ga X.K (S c)))
  kp : PySem.W.keepIn X.K (.ref (He.ga X.K (S c))) = true
  ra : Raises X (.ref (He.ga X.K (S c)))
theorem qs_raise {c m : String} {j : Nat} {p p2 p3 : Pos} (C : DXc X c) (hc : X.calm = true) (tk : L2N.Takes X W) (hg : Gl X (S c)) (hdb : (S c == ("__debug__" : Str)) = false := by decide) :
    QS X T W (.Raise (some (.Call (.Name (Str.ofString c) p) [.Constant (.str (Str.ofString m)) j p2] [] pos)) none p3) (sRaise c) :=
  PS.imp (L2N.ps_raise hc tk (L2N.pmk_own PySem.F.excBase_ValueError C.ex C.mg C.kp C.ra hg hdb)) fun D σ H ⟨env, F, G, E, DE, hg, hs, hx, ht, hn, hr⟩ => hx (c, none) env _ G _ _ σ H ht Step.refl hg hs ⟨rfl, rfl⟩
end

/-! ### a def -/
theorem RelDs.start {K : PySem.W.Frag} {F : FS} {H : Hp} : ∀ {ds : List D} {vs : List V}, RelDs K F H ds vs → ∀ (i : Nat) (d : D), ds[i]? = some d → ∃ v, vs[i]? = some v ∧ RelD K F H d v
  | [], _, _, i, d, e => by simp at e
  | x :: xs, _, ⟨v, r, rfl, h, t⟩, 0, d, e => by
    simp only [List.getElem?_cons_zero, Option.some.injEq] at e
    subst e
    exact ⟨v, rfl, h⟩
  | x :: xs, _, ⟨v, r, rfl, h, t⟩, i + 1, d, e => by
    simp only [List.getElem?_cons_succ] at e ⊢
    exact RelDs.start t i d e
def dstart (N : List Str) (ds : List D) : DSt := ds.map some ++ List.replicate (N.length - ds.length) none
theorem relSt_start {K : PySem.W.Frag} {F : FS} {H : Hp} {N : List Str} {ds : List D} {vs : List V} (r : RelDs K F H ds vs) : RelSt K F H (dstart N ds) (L2.start N vs) := by
  have hl := r.length
  refine ⟨by simp [dstart, L2.start, hl], fun i d e => ?_⟩
  unfold dstart at e
  by_cases hi : i < ds.length
  · rw [List.getElem?_append_left (by simpa using hi), List.getElem?_map] at e
    cases q : ds[i]? with
    | none => rw [q] at e; cases e
    | some x =>
      rw [q] at e
      simp only [Option.map_some, Option.some.injEq] at e
      subst e
      obtain ⟨v, ev, rv⟩ := r.start i _ q
      refine ⟨v, ?_, rv⟩
      unfold L2.start
      rw [List.getElem?_append_left (by simpa [← hl] using hi), List.getElem?_map, ev]
      rfl
  · rw [List.getElem?_append_right (by simpa using hi), List.getElem?_replicate] at e
    split at e <;> cases e
/-- THE RULE for a def: its body's derivation (at every entry), its promise shown of the transformer -/
theorem dfn_of {P : Program} {w : World} {K : PySem.W.Frag} {mg : Str → Option Value} {base : Heap} {k : Nat} {x : Str} {params : Arguments} {body : List Stmt} {scope : Scope} {kws : List (Str × V)} {fd : FuncData} {N ps : List Str} {sp : DSp} {t : DTS}
    (F : FunD K x x params body scope [] kws (He.ga K x) fd) (hmg : mg x = some (.ref (He.ga K x))) (Sc : FnScope N ps scope)
    (hb : ∀ (kV doc pm : Value) (an : Option Addr) (cdv ct : Value) (us : List Value), us.length = ps.length → bindArgs (PySem.W.fnOf x x params body scope .none kV doc pm an cdv ct) ⟨us, []⟩ = pure (ps.zip us))
    (hbody : ∀ (cdv : Value) (A : Around) (outer : List Env) (s : Shared) (H : Hp) (E : XK), Room k (A.deeper (envOfC x scope s.heap.objs.size (He.ga K x) cdv)) →
      QSs (cxOf (L2N.CX P w) P w K mg base N x scope (He.ga K x) cdv A outer s H E) T (fun cls d _ H' => E cls d H') body t)
    (hsp : ∀ ds G Q E, sp ds G Q E → ds.length = ps.length ∧ t (fun x _ G' => E x G') { nx := fun _ G' => Q .non G', rt := Q } (dstart N ds) G) :
    DFn P w K T mg base (k + 1) x ps sp := by
  refine ⟨⟨fd, F.ok (CX := L2N.CX P w) Sc (fun vs H Q E h => ?_) (fun cdv A outer s H vs Q E hr h => ⟨_, hbody cdv A outer s H E hr, ?_⟩), F.bindsN hb⟩, hmg, F.kp⟩
  · obtain ⟨ds, F, G, P, Ed, hg, hr, hs, _⟩ := h
    rw [← hr.length]
    exact (hsp _ _ _ _ hs).1
  · obtain ⟨ds, F, G, P, Ed, hg, hr, hs, hq, hx⟩ := h
    exact ⟨dstart N ds, F, G, _, _, hg, relSt_start hr, fun x env' F' G' cls d σ' H' p s g r rx => hx x _ G' cls d H' p s g rx, (hsp _ _ _ _ hs).2, fun env' F' G' σ' H' p s g r => hq .non F' G' .non H' p s g rfl, hq⟩
end DL

namespace DL
open PySem PySem.Spec PyProof.Rows L2
variable {T : LT}
/-! ### reading -/
section
variable {K : PySem.W.Frag} {F : FS} {G : DG} {H : Hp}
theorem TupAt.sq {a : Addr} {vs : List V} (h : TupAt K F H a vs) : SqT K H a vs := by
  rcases h with ⟨h, _⟩ | h
  · exact .inl h.rd
  · exact .inr h
/-- a value read as a list: frozen or tracked -/
def lstO : Option DO → Option (List D)
  | some (.lst xs) => some xs
  | _ => none
theorem lstO_eq {o : Option DO} {xs : List D} (h : lstO o = some xs) : o = some (.lst xs) := by
  unfold lstO at h
  split at h
  · cases h; rfl
  · cases h
def asL (G : DG) : D → Option (List D)
  | .lst xs => some xs
  | .ref a => lstO (G a)
  | _ => none
theorem asL_ok {d : D} {v : V} {xs : List D} (hg : RelG K T F G H) (r : RelD K F H d v) (e : asL G d = some xs) : ∃ a vs, v = .ref a ∧ Rd H a (.lst vs) ∧ RelDs K F H xs vs := by
  cases d with
  | lst ys =>
    cases e
    obtain ⟨a, vs, ev, h, rs⟩ := r
    exact ⟨a, vs, ev, h.1.rd, rs⟩
  | ref a =>
    have ev : v = .ref a := r
    obtain ⟨vs, h, rs⟩ := hg.ob a _ (lstO_eq e)
    exact ⟨a, vs, ev, .inl h, rs⟩
  | _ => cases e
/-- .. as a list or a tuple -/
def asQ (G : DG) : D → Option (List D)
  | .tup xs => some xs
  | .scr ns => some (ns.map .int)
  | d => asL G d
theorem RelDs.append : ∀ {xs ys : List D} {vs ws : List V}, RelDs K F H xs vs → RelDs K F H ys ws → RelDs K F H (xs ++ ys) (vs ++ ws)
  | [], ys, vs, ws, h, h' => by
    have e : vs = [] := h
    subst e
    exact h'
  | x :: xs, ys, _, ws, ⟨v, r, rfl, h, t⟩, h' => ⟨v, r ++ ws, rfl, h, RelDs.append t h'⟩
theorem RelDs.take : ∀ (n : Nat) {xs : List D} {vs : List V}, RelDs K F H xs vs → RelDs K F H (xs.take n) (vs.take n)
  | 0, xs, vs, _ => by simp [RelDs]
  | n + 1, [], vs, h => by
    have e : vs = [] := h
    subst e
    exact h
  | n + 1, x :: xs, _, ⟨v, r, rfl, h, t⟩ => ⟨v, r.take n, rfl, h, RelDs.take n t⟩
theorem RelDs.drop : ∀ (n : Nat) {xs : List D} {vs : List V}, RelDs K F H xs vs → RelDs K F H (xs.drop n) (vs.drop n)
  | 0, xs, vs, h => h
  | n + 1, [], vs, h => by
    have e : vs = [] := h
    subst e
    exact h
  | n + 1, x :: xs, _, ⟨v, r, rfl, h, t⟩ => RelDs.drop n t
theorem RelDs.get {xs : List D} {vs : List V} {i : Nat} {d : D} (h : RelDs K F H xs vs) (e : xs[i]? = some d) : ∃ v, vs[i]? = some v ∧ RelD K F H d v := h.start i d e
theorem RelDs.ints : ∀ {ns : List Int} {vs : List V}, RelDs K F H (ns.map .int) vs → vs = ns.map V.int
  | [], _, h => h
  | n :: ns, _, ⟨v, r, rfl, h, t⟩ => by
    have e : v = .int n := h
    rw [List.map_cons, e, RelDs.ints t]
theorem RelDs.bls : ∀ {ns : List Bool} {vs : List V}, RelDs K F H (ns.map .bl) vs → vs = ns.map V.bl
  | [], _, h => h
  | n :: ns, _, ⟨v, r, rfl, h, t⟩ => by
    have e : v = .bl n := h
    rw [List.map_cons, e, RelDs.bls t]
theorem RelDs.strs : ∀ {ns : List String} {vs : List V}, RelDs K F H (ns.map .str) vs → vs = ns.map fun s => V.str (S s)
  | [], _, h => h
  | n :: ns, _, ⟨v, r, rfl, h, t⟩ => by
    have e : v = .str (S n) := h
    rw [List.map_cons, e, RelDs.strs t]
theorem relDs_ints : ∀ (ns : List Int), RelDs K F H (ns.map .int) (ns.map V.int)
  | [] => rfl
  | n :: ns => ⟨_, _, rfl, rfl, relDs_ints ns⟩
theorem relDs_strs : ∀ (ns : List String), RelDs K F H (ns.map .str) (ns.map fun s => V.str (S s))
  | [] => rfl
  | n :: ns => ⟨_, _, rfl, rfl, relDs_strs ns⟩
theorem asQ_ok {d : D} {v : V} {xs : List D} (hg : RelG K T F G H) (r : RelD K F H d v) (e : asQ G d = some xs) : ∃ a vs, v = .ref a ∧ (SqL K H a vs ∨ SqT K H a vs) ∧ RelDs K F H xs vs := by
  cases d with
  | tup ys =>
    cases e
    obtain ⟨a, vs, ev, h, rs⟩ := r
    exact ⟨a, vs, ev, .inr h.sq, rs⟩
  | scr ns =>
    cases e
    obtain ⟨a, ev, h⟩ := r
    exact ⟨a, _, ev, .inl (h.imp (fun h => h.1.rd) id), relDs_ints ns⟩
  | lst ys =>
    obtain ⟨a, vs, ev, h, rs⟩ := asL_ok hg r e
    exact ⟨a, vs, ev, .inl (.inl h), rs⟩
  | ref b =>
    obtain ⟨a, vs, ev, h, rs⟩ := asL_ok hg r e
    exact ⟨a, vs, ev, .inl (.inl h), rs⟩
  | _ => cases e
end
theorem S_len (s : String) : (S s).length = s.length := by
  unfold S Str.length
  rw [Str.ofString_eq_toList]
  simp [String.length_toList]
theorem S_cps (s : String) : (S s).cps.toList = s.toList.map Char.toNat := by
  unfold S
  rw [Str.ofString_eq_toList]
theorem S_app (s t : String) : S (s ++ t) = S s ++ S t := by
  show Str.ofString (s ++ t) = ⟨(Str.ofString s).cps ++ (Str.ofString t).cps⟩
  rw [Str.ofString_eq_toList, Str.ofString_eq_toList, Str.ofString_eq_toList]
  simp
theorem S_inj {s t : String} (h : S s = S t) : s = t := by
  have e := congrArg (fun z : Str => z.cps.toList) h
  simp only [S_cps] at e
  have e2 : s.toList = t.toList := by
    have := List.map_inj_right (f := Char.toNat) (fun a b q => Char.ext (UInt32.toNat_inj.mp q)) |>.mp e
    exact this
  exact String.toList_inj.mp e2
theorem S_beq (s t : String) : (S s == S t) = (s == t) := by
  by_cases h : s = t
  · subst h; simp
  · have h' : S s ≠ S t := fun e => h (S_inj e)
    rw [beq_eq_false_iff_ne.mpr h, beq_eq_false_iff_ne.mpr h']
theorem S_dec (s t : String) : decide (S s = S t) = decide (s = t) := by
  by_cases h : s = t
  · subst h; simp
  · have h' : S s ≠ S t := fun e => h (S_inj e)
    rw [decide_eq_false h, decide_eq_false h']
end DL

namespace DL
open PySem PySem.Spec PyProof.Rows L2
variable {T : LT}
/-! ### operators by values -/
def pyAdd (G : DG) (x y : D) : Option D := match x, y with
  | .int i, .int j => some (.int (i + j))
  | .str s, .str t => if s.length + t.length ≤ 16000000 then some (.str (s ++ t)) else none
  | .tup xs, .tup ys => if xs.length + ys.length ≤ 16000000 then some (.tup (xs ++ ys)) else none
  | x, y => match asL G x, asL G y with
    | some xs, some ys => if xs.length + ys.length ≤ 16000000 then some (.lst (xs ++ ys)) else none
    | _, _ => none
def pySub (_ : DG) (x y : D) : Option D := match x, y with
  | .int i, .int j => some (.int (i - j))
  | _, _ => none
def mulOk (i j : Int) : Bool := decide (i.natAbs < 2 ^ 64) || decide (j.natAbs < 2 ^ 64) || (decide (i.natAbs < 2 ^ 600) && decide (j.natAbs < 2 ^ 600))
def pyMul (G : DG) (x y : D) : Option D := match x, y with
  | .int i, .int j => if mulOk i j = true then some (.int (i * j)) else none
  | .tup xs, .int k => if -10000 ≤ k ∧ k ≤ 1000 ∧ xs.length ≤ 1000 ∧ xs ≠ [] then some (.tup (List.replicate k.toNat xs).flatten) else none
  | x, .int k => match asL G x with
    | some xs => if k ≤ 10000 ∧ xs.length ≤ 1000 ∧ -10000 ≤ k then some (.lst (List.replicate k.toNat xs).flatten) else none
    | _ => none
  | _, _ => none
def pyMod (_ : DG) (x y : D) : Option D := match x, y with
  | .int i, .int j => if 0 < j then some (.int (i % j)) else none
  | _, _ => none
def pyDiv (_ : DG) (x y : D) : Option D := match x, y with
  | .int i, .int j => if 0 < j ∧ j < 2 ^ 600 then some (.int (i / j)) else none
  | _, _ => none
def pyPow (_ : DG) (x y : D) : Option D := match x, y with
  | .int i, .int j => if 0 ≤ j ∧ j ≤ 1000 ∧ i.natAbs < 2 ^ 60 then some (.int (i ^ j.toNat)) else none
  | _, _ => none
def pyNeg (_ : DG) (x : D) : Option D := match x with
  | .int i => some (.int (-i))
  | _ => none
section
variable {X : Cx}
theorem Inv.lstR {pins : List (Addr × Obj)} {σ : L2.St} {H : Hp} {s : Shared} {l : Addr} {xs : List V} (I : Inv X pins σ H s) (h : Rd H l (.lst xs)) :
    xs.length ≤ sizeLine ∧ ∃ (its : List Value) (n : Nat), Vals xs its ∧ xs.length = its.length ∧ s.heap.get? l = some { cls := .type "list", data := .seq its.toArray n } := by
  obtain ⟨z, its, n, r, e⟩ := h.ok I.hok
  exact ⟨z, its, n, r, r.length, e⟩
theorem op_catR : OpR X (binaryOp .Add) (fun x y H Q => ∃ l b xs zs, x = .ref l ∧ y = .ref b ∧ Rd H l (.lst xs) ∧ Rd H b (.lst zs) ∧ xs.length + zs.length ≤ sizeLine ∧ ∀ p, H p = none → Q (.ref p) (upd H p (.lst (xs ++ zs)))) := by
  intro pins s σ H x y v u Q I rx ry h
  obtain ⟨l, b, xs, zs, rfl, rfl, hH, hB, hz, q⟩ := h
  cases rx
  cases ry
  obtain ⟨z, its, n, r, hl, e⟩ := Inv.lstR I hH
  obtain ⟨z2, its2, n2, r2, hl2, e2⟩ := Inv.lstR I hB
  refine PySem.P.add_list e e2 ?_ (by rw [List.size_toArray, List.size_toArray]; omega)
  have ea : its.toArray ++ its2.toArray = (its ++ its2).toArray := by simp
  rw [ea]
  exact ⟨.ref _, _, I.lnew (t' := s.toks) (r.append r2) (by rw [List.length_append]; omega), rfl, q _ I.fresh⟩
theorem op_pyAdd : OpR X (binaryOp .Add) (rD X.K T pyAdd) := by
  intro pins s σ H x y v u Q I rx ry ⟨F, G, dx, dy, z, hg, r1, r2, e, q⟩
  unfold pyAdd at e
  split at e
  · cases e
    exact op_add pins s σ H x y v u Q I rx ry ⟨_, _, r1, r2, q _ _ H Step.refl hg rfl⟩
  · rename_i a b
    split at e
    · rename_i hl
      cases e
      exact op_add_str pins s σ H x y v u Q I rx ry ⟨_, _, r1, r2, by rw [S_len, S_len]; exact small_line hl, q _ _ H Step.refl hg (show _ = V.str (S (a ++ b)) by rw [S_app])⟩
    · cases e
  · rename_i xs ys
    split at e
    · rename_i hl
      cases e
      obtain ⟨a, vs, e1, t1, k1⟩ := r1
      obtain ⟨b, ws, e2, t2, k2⟩ := r2
      have hl' : vs.length + ws.length ≤ sizeLine := by rw [← k1.length, ← k2.length]; exact small_line hl
      refine op_catA pins s σ H x y v u Q I rx ry ⟨a, b, vs, ws, e1, e2, t1.sq, t2.sq, hl', fun h0 => ?_, fun _ h0 => ?_, fun _ _ p hp => ?_⟩
      · refine q _ _ H Step.refl hg ⟨b, ws, rfl, t2, ?_⟩
        have := k1.append k2
        rw [h0] at this
        exact this
      · refine q _ _ H Step.refl hg ⟨a, vs, rfl, t1, ?_⟩
        have := k1.append k2
        rw [h0, List.append_nil] at this
        exact this
      · exact q _ _ _ (Step.new hp) (hg.new hp) (relD_newTup hg hp (k1.append k2))
    · cases e
  · split at e
    · rename_i xs ys ex ey
      split at e
      · rename_i hl
        cases e
        obtain ⟨a, vs, e1, t1, k1⟩ := asL_ok hg r1 ex
        obtain ⟨b, ws, e2, t2, k2⟩ := asL_ok hg r2 ey
        have hl' : vs.length + ws.length ≤ sizeLine := by rw [← k1.length, ← k2.length]; exact small_line hl
        exact op_catR pins s σ H x y v u Q I rx ry ⟨a, b, vs, ws, e1, e2, t1, t2, hl', fun p hp => q _ _ _ (Step.new hp) (hg.new hp) (relD_newLst hg hp (k1.append k2))⟩
      · cases e
    · cases e
theorem op_pySub : OpR X (binaryOp .Sub) (rD X.K T pySub) := by
  intro pins s σ H x y v u Q I rx ry ⟨F, G, dx, dy, z, hg, r1, r2, e, q⟩
  unfold pySub at e
  split at e
  · cases e
    exact op_sub pins s σ H x y v u Q I rx ry ⟨_, _, r1, r2, q _ _ H Step.refl hg rfl⟩
  · cases e
theorem op_pyMod : OpR X (binaryOp .Mod) (rD X.K T pyMod) := by
  intro pins s σ H x y v u Q I rx ry ⟨F, G, dx, dy, z, hg, r1, r2, e, q⟩
  unfold pyMod at e
  split at e
  · split at e
    · rename_i hj
      cases e
      exact op_mod pins s σ H x y v u Q I rx ry ⟨_, _, r1, r2, hj, q _ _ H Step.refl hg rfl⟩
    · cases e
  · cases e
theorem op_pyPow : OpR X (binaryOp .Pow) (rD X.K T pyPow) := by
  intro pins s σ H x y v u Q I rx ry ⟨F, G, dx, dy, z, hg, r1, r2, e, q⟩
  unfold pyPow at e
  split at e
  · split at e
    · rename_i hj
      cases e
      exact op_pow pins s σ H x y v u Q I rx ry ⟨_, _, r1, r2, ⟨hj.1, by omega, by omega⟩, q _ _ H Step.refl hg rfl⟩
    · cases e
  · cases e
theorem un_pyNeg : UnR X (unaryOp .USub) (rD1 X.K T pyNeg) := by
  intro pins s σ H x v Q I rx ⟨F, G, dx, z, hg, r1, e, q⟩
  unfold pyNeg at e
  split at e
  · cases e
    exact un_neg pins s σ H x v Q I rx ⟨_, r1, q _ _ H Step.refl hg rfl⟩
  · cases e
end
end DL

namespace DL
open PySem PySem.Spec PyProof.Rows L2
variable {T : LT}
theorem tmul_one (l : Addr) (items : Array Value) (n : Nat) (dd : Option Addr) (sl : Array (Option Value)) (x : Int) (u : Tok) (c0 : (decide (x < -(2 ^ 63)) || decide (x ≥ 2 ^ 63)) = false) (c1 : (items.isEmpty || x == 1) = true) :
    Meets (Builtin.«tuple.__mul__» ⟨[.ref l, .int x u], []⟩) (fun _ R s => s.heap.get? l = some { cls := .type "tuple", dict := dd, data := .seq items n, slots := sl } ∧ R (.ok (.ret (Value.ref l))) s) :=
  .of_wp fun prog w A R s h => by
    obtain ⟨hp, g, d, tk, os⟩ := s
    obtain ⟨hl, h⟩ := h
    have f1 := AutoSeq1.idx_int
    wp_walk using wpAny_loadPart' hl
    repeat (first
      | (refine wpAny_ite_false (decide_eq_false (by rw [c0]; exact Bool.false_ne_true)) ?_; wp_walk using wpAny_loadPart' hl)
      | (refine wpAny_ite_true (decide_eq_true c1) ?_; wp_walk using wpAny_loadPart' hl))
    exact ⟨_, rfl, h⟩
theorem tmul_no (l : Addr) (items : Array Value) (n : Nat) (dd : Option Addr) (sl : Array (Option Value)) (x : Int) (u : Tok) (c0 : (decide (x < -(2 ^ 63)) || decide (x ≥ 2 ^ 63)) = false) (c1 : (items.isEmpty || x == 1) = false) (c2 : (decide (x ≤ 0) || items.isEmpty) = true) :
    Meets (Builtin.«tuple.__mul__» ⟨[.ref l, .int x u], []⟩) (fun _ R s => s.heap.get? l = some { cls := .type "tuple", dict := dd, data := .seq items n, slots := sl } ∧
      R (.ok (.ret (Value.ref s.heap.objs.size))) { s with heap := s.heap.push { cls := Value.type "tuple", data := Data.seq #[] }, toks := s.toks }) :=
  .of_wp fun prog w A R s h => by
    obtain ⟨hp, g, d, tk, os⟩ := s
    obtain ⟨hl, h⟩ := h
    have f1 := AutoSeq1.idx_int
    have hz : (#[] : Array Value).size ≤ sizeLine := Nat.zero_le _
    wp_walk using wpAny_loadPart' hl
    repeat (first
      | (refine wpAny_ite_false (decide_eq_false (by rw [c0]; exact Bool.false_ne_true)) ?_; wp_walk using wpAny_loadPart' hl)
      | (refine wpAny_ite_false (decide_eq_false (by rw [c1]; exact Bool.false_ne_true)) ?_; wp_walk using wpAny_loadPart' hl)
      | (refine wpAny_ite_true (decide_eq_true c2) ?_; wp_walk using wpAny_loadPart' hl)
      | (refine wpAny_ite_false (decide_eq_false (Nat.not_lt.mpr hz)) ?_; wp_walk using wpAny_loadPart' hl))
    exact ⟨_, rfl, h⟩
section
variable {X : Cx}
theorem op_repR : OpR X (binaryOp .Mult) (fun x y H Q => ∃ l k xs, x = .ref l ∧ y = .int k ∧ Rd H l (.lst xs) ∧ -(2 ^ 63) ≤ k ∧ k < 2 ^ 63 ∧ xs.length * k.toNat ≤ sizeLine ∧
  ∀ p, H p = none → Q (.ref p) (upd H p (.lst (List.replicate k.toNat xs).flatten))) := by
  intro pins s σ H x y v u Q I rx ry ⟨l, k, xs, ex, ey, hR, lo, hi, small, q⟩
  subst ex ey
  obtain ⟨t, rfl⟩ := ry
  cases rx
  obtain ⟨_, its, n, rv, len, obj⟩ := Inv.lstR I hR
  have sz : its.toArray.size * k.toNat ≤ sizeLine := by simpa [← len] using small
  have top : (sizeLine : Nat) ≤ (2 ^ 63 - 1) / 8 := by decide
  have all : List.foldl (· ++ ·) #[] (List.replicate (if its.toArray.isEmpty = true then 0 else k.toNat) its.toArray) = (List.replicate k.toNat its).flatten.toArray := by
    have f0 := fun m => foldl_rep its m []
    simp only [List.nil_append] at f0
    rw [f0]
    cases its <;> simp
  have go := AutoListH.list___mul___list_int_3 l its.toArray n k t (by rw [fitsIndex_both lo hi]; decide) (by omega) (by rw [notLongL sz]; decide)
  refine wpAny_binaryOp_repeat_ref (T := "list") (U := "int") (by decide) ⟨_, obj, rfl⟩ (fun s' => typeIs_int s' k t) noFill_list_mul F.fills_int_mul F.slot_int_rmul repeat_list F.slot_int_index.lookup ?_
  refine call_meets F.slot_int_rmul (typeIs_int s k t) F.entry_int_rmul (F.args_int_rmul_2 _ _) (int___rmul___int_list k t l its.toArray n) ⟨obj, rfl, ⟨_, obj, rfl⟩, ?_⟩
  refine call_meets F.slot_list_mul ⟨_, obj, rfl⟩ F.entry_list_mul (F.args_list_mul_2 _ _) go ⟨obj, ?_⟩
  rw [all]
  exact ⟨.ref _, _, I.lnew (t' := s.toks) (rv.rep k.toNat) (by rw [PyProof.Rows.lm_len_rep_flat, Nat.mul_comm]; exact small), rfl, q _ I.fresh⟩
theorem relDs_flat {K : PySem.W.Frag} {F : FS} {H : Hp} {xs : List D} {vs : List V} (r : RelDs K F H xs vs) : ∀ n : Nat, RelDs K F H (List.replicate n xs).flatten (List.replicate n vs).flatten
  | 0 => rfl
  | n + 1 => by
    simp only [List.replicate_succ, List.flatten_cons]
    exact r.append (relDs_flat r n)
theorem bits64 {i : Int} (h : i.natAbs < 2 ^ 64) : Builtin.Int.intBits i ≤ 64 := by
  unfold Builtin.Int.intBits
  split
  · omega
  · rename_i hne
    have hz : i.natAbs ≠ 0 := by simpa using hne
    have := (Nat.log2_lt hz).mpr h
    omega
theorem op_mulA : OpR X (binaryOp .Mult) (rI IntMulOk fun i j => .int (i * j)) := opI fun _ _ _ _ _ _ _ hc q => mul_int q hc
theorem op_mulT : OpR X (binaryOp .Mult) (fun x y H Q => ∃ l k xs, x = .ref l ∧ y = .int k ∧ SqT X.K H l xs ∧ xs ≠ [] ∧ -10000 ≤ k ∧ k ≤ 1 ∧ (k = 1 → Q (.ref l) H) ∧ (k ≤ 0 → ∀ p, H p = none → Q (.ref p) (upd H p (.tup [])))) := by
  intro pins s σ H x y v u Q I rx ry h
  obtain ⟨l, k, xs, rfl, rfl, hT, hne, h1, h2, q1, q0⟩ := h
  cases rx
  obtain ⟨t, rfl⟩ := ry
  obtain ⟨its, r, ⟨⟨cls, dd, data, sl⟩, ho, hc, n, hd⟩, hs⟩ := I.tuple hT
  simp only at hc hd
  subst hc hd
  have hi : its.toArray.isEmpty = false := by
    cases its with
    | nil => exact absurd (List.eq_nil_of_length_eq_zero r.length) hne
    | cons a b => rfl
  have c0 : (decide (k < -(2 ^ 63)) || decide (k ≥ 2 ^ 63)) = false := by
    rw [decide_eq_false (by omega), decide_eq_false (by omega)]
    rfl
  by_cases hk : k = 1
  · have c1 : (its.toArray.isEmpty || k == 1) = true := by rw [hi, hk]; rfl
    exact wpAny_binaryOp_repeat_ref (T := "tuple") (U := "int") (by decide) ⟨_, ho, rfl⟩ (fun s' => typeIs_int s' k t) noFill_tuple_mul F.fills_int_mul F.slot_int_rmul repeat_tuple F.slot_int_index.lookup
      (call_meets F.slot_int_rmul (typeIs_int s k t) F.entry_int_rmul (F.args_int_rmul_2 _ _) (int_rmul_tuple k t l its.toArray n dd sl) ⟨ho, rfl, ⟨_, ho, rfl⟩, call_meets F.slot_tuple_mul ⟨_, ho, rfl⟩ F.entry_tuple_mul (F.args_tuple_mul_2 _ _) (tmul_one l its.toArray n dd sl k t c0 c1) ⟨ho, .ref l, H, I, rfl, q1 hk⟩⟩)
  · have c1 : (its.toArray.isEmpty || k == 1) = false := by
      rw [hi, Bool.false_or]
      exact beq_eq_false_iff_ne.mpr hk
    have c2 : (decide (k ≤ 0) || its.toArray.isEmpty) = true := by rw [decide_eq_true (by omega)]; rfl
    exact wpAny_binaryOp_repeat_ref (T := "tuple") (U := "int") (by decide) ⟨_, ho, rfl⟩ (fun s' => typeIs_int s' k t) noFill_tuple_mul F.fills_int_mul F.slot_int_rmul repeat_tuple F.slot_int_index.lookup
      (call_meets F.slot_int_rmul (typeIs_int s k t) F.entry_int_rmul (F.args_int_rmul_2 _ _) (int_rmul_tuple k t l its.toArray n dd sl) ⟨ho, rfl, ⟨_, ho, rfl⟩, call_meets F.slot_tuple_mul ⟨_, ho, rfl⟩ F.entry_tuple_mul (F.args_tuple_mul_2 _ _) (tmul_no l its.toArray n dd sl k t c0 c1 c2)
        ⟨ho, .ref s.heap.objs.size, _, I.laid (t' := s.toks) (o := .tup []) (fun b ob q => Heap.get?_push_of_some _ q) (Nat.le_refl _) ⟨Nat.zero_le _, [], .nil, IsTup.new _ _⟩, rfl, q0 (by omega) _ (I.hok.fresh (Nat.le_refl _))⟩⟩)
theorem op_pyMul : OpR X (binaryOp .Mult) (rD X.K T pyMul) := by
  intro pins s σ H x y v u Q I rx ry ⟨F, G, dx, dy, z, hg, r1, r2, e, q⟩
  unfold pyMul at e
  split at e
  · rename_i i j
    split at e
    · rename_i hj
      cases e
      unfold mulOk at hj
      simp only [Bool.or_eq_true, Bool.and_eq_true, decide_eq_true_eq] at hj
      rcases hj with (hj | hj) | hj
      · exact op_mulA pins s σ H x y v u Q I rx ry ⟨_, _, r1, r2, .of_left (bits64 hj), q _ _ H Step.refl hg rfl⟩
      · exact op_mulA pins s σ H x y v u Q I rx ry ⟨_, _, r1, r2, .of_right (bits64 hj), q _ _ H Step.refl hg rfl⟩
      · exact op_mulW pins s σ H x y v u Q I rx ry ⟨_, _, r1, r2, wide_mul hj.1 hj.2 (by decide) (by decide) (by decide), q _ _ H Step.refl hg rfl⟩
    · cases e
  · rename_i xs k
    split at e
    · rename_i hj
      cases e
      obtain ⟨a, vs, e1, t1, k1⟩ := r1
      have hv : vs ≠ [] := by
        intro z
        rw [z] at k1
        exact hj.2.2.2 (List.eq_nil_of_length_eq_zero k1.length)
      by_cases h2 : 2 ≤ k
      · exact op_repT pins s σ H x y v u Q I rx ry ⟨a, k, vs, e1, r2, t1.sq, hv, h2, hj.2.1, by rw [← k1.length]; exact hj.2.2.1, fun p hp => q _ _ _ (Step.new hp) (hg.new hp) (relD_newTup hg hp (relDs_flat k1 _))⟩
      · refine op_mulT pins s σ H x y v u Q I rx ry ⟨a, k, vs, e1, r2, t1.sq, hv, hj.1, by omega, fun h1 => ?_, fun h0 p hp => ?_⟩
        · refine q _ _ H Step.refl hg ⟨a, vs, rfl, t1, ?_⟩
          rw [h1]
          simpa using k1
        · refine q _ _ _ (Step.new hp) (hg.new hp) ?_
          rw [show k.toNat = 0 by omega]
          exact relD_newTup hg hp (ds := []) rfl
    · cases e
  · rename_i x k _ _
    split at e
    · rename_i xs ex
      split at e
      · rename_i hj
        cases e
        obtain ⟨a, vs, e1, t1, k1⟩ := asL_ok hg r1 ex
        refine op_repR pins s σ H _ y v u Q I rx ry ⟨a, k, vs, e1, r2, t1, by omega, by omega, ?_, fun p hp => q _ _ _ (Step.new hp) (hg.new hp) (relD_newLst hg hp (relDs_flat k1 _))⟩
        rw [← k1.length]
        have h1 : k.toNat ≤ 10000 := by omega
        exact Nat.le_trans (Nat.mul_le_mul hj.2.1 h1) (by decide)
      · cases e
    · cases e
  · cases e
theorem op_pyDiv : OpR X (binaryOp .FloorDiv) (rD X.K T pyDiv) := by
  intro pins s σ H x y v u Q I rx ry ⟨F, G, dx, dy, z, hg, r1, r2, e, q⟩
  unfold pyDiv at e
  split at e
  · rename_i i j
    split at e
    · rename_i hj
      cases e
      have hb : j.natAbs < 2 ^ 600 := by omega
      exact op_fdivW pins s σ H x y v u Q I rx ry ⟨_, _, r1, r2, wide_div hj.1 hb (by decide) (by decide), q _ _ H Step.refl hg rfl⟩
    · cases e
  · cases e
end
/-! ### comparisons -/
def strLt (s t : String) : Bool := decide (s.toList.map Char.toNat < t.toList.map Char.toNat)
def pyLt (_ : DG) (x y : D) : Option D := match x, y with
  | .int i, .int j => some (.bl (decide (i < j)))
  | .str s, .str t => some (.bl (strLt s t))
  | _, _ => none
def pyGt (_ : DG) (x y : D) : Option D := match x, y with
  | .int i, .int j => some (.bl (decide (j < i)))
  | .str s, .str t => some (.bl (strLt t s))
  | _, _ => none
def pyLe (_ : DG) (x y : D) : Option D := match x, y with
  | .int i, .int j => some (.bl (decide (i ≤ j)))
  | .str s, .str t => some (.bl (!strLt t s))
  | _, _ => none
def pyGe (_ : DG) (x y : D) : Option D := match x, y with
  | .int i, .int j => some (.bl (decide (j ≤ i)))
  | .str s, .str t => some (.bl (!strLt s t))
  | _, _ => none
def isNon : D → Bool
  | .non => true
  | _ => false
def pyIs (_ : DG) (x y : D) : Option D := match x, y with
  | x, .non => some (.bl (isNon x))
  | .bl a, .bl b => some (.bl (a == b))
  | _, _ => none
def pyIsNot (_ : DG) (x y : D) : Option D := match x, y with
  | x, .non => some (.bl (!isNon x))
  | .bl a, .bl b => some (.bl (!(a == b)))
  | _, _ => none
section
variable {X : Cx}
theorem op_pyLt : OpR X (compareOp .Lt) (rD X.K T pyLt) := by
  intro pins s σ H x y v u Q I rx ry ⟨F, G, dx, dy, z, hg, r1, r2, e, q⟩
  unfold pyLt at e
  split at e
  · cases e
    exact op_lt pins s σ H x y v u Q I rx ry ⟨_, _, r1, r2, q _ _ H Step.refl hg rfl⟩
  · cases e
    exact op_lt_str pins s σ H x y v u Q I rx ry ⟨_, _, r1, r2, by rw [S_cps, S_cps]; exact q _ _ H Step.refl hg rfl⟩
  · cases e
theorem op_pyGt : OpR X (compareOp .Gt) (rD X.K T pyGt) := by
  intro pins s σ H x y v u Q I rx ry ⟨F, G, dx, dy, z, hg, r1, r2, e, q⟩
  unfold pyGt at e
  split at e
  · cases e
    exact op_gt pins s σ H x y v u Q I rx ry ⟨_, _, r1, r2, q _ _ H Step.refl hg rfl⟩
  · cases e
    exact op_gt_str pins s σ H x y v u Q I rx ry ⟨_, _, r1, r2, by rw [S_cps, S_cps]; exact q _ _ H Step.refl hg rfl⟩
  · cases e
theorem op_pyLe : OpR X (compareOp .LtE) (rD X.K T pyLe) := by
  intro pins s σ H x y v u Q I rx ry ⟨F, G, dx, dy, z, hg, r1, r2, e, q⟩
  unfold pyLe at e
  split at e
  · cases e
    exact op_le pins s σ H x y v u Q I rx ry ⟨_, _, r1, r2, q _ _ H Step.refl hg rfl⟩
  · cases e
    exact op_le_str pins s σ H x y v u Q I rx ry ⟨_, _, r1, r2, by rw [S_cps, S_cps]; exact q _ _ H Step.refl hg rfl⟩
  · cases e
theorem op_pyGe : OpR X (compareOp .GtE) (rD X.K T pyGe) := by
  intro pins s σ H x y v u Q I rx ry ⟨F, G, dx, dy, z, hg, r1, r2, e, q⟩
  unfold pyGe at e
  split at e
  · cases e
    exact op_ge pins s σ H x y v u Q I rx ry ⟨_, _, r1, r2, q _ _ H Step.refl hg rfl⟩
  · cases e
    exact op_ge_str pins s σ H x y v u Q I rx ry ⟨_, _, r1, r2, by rw [S_cps, S_cps]; exact q _ _ H Step.refl hg rfl⟩
  · cases e
theorem relD_non {K : PySem.W.Frag} {F : FS} {H : Hp} {d : D} {v : V} (r : RelD K F H d v) : decide (v = V.non) = isNon d := by
  cases d with
  | non => rw [show v = V.non from r]; rfl
  | bl b => rw [show v = V.bl b from r]; rfl
  | int b => rw [show v = V.int b from r]; rfl
  | str b => rw [show v = V.str (S b) from r]; rfl
  | tup b => obtain ⟨a, vs, e, _⟩ := r; rw [e]; rfl
  | lst b => obtain ⟨a, vs, e, _⟩ := r; rw [e]; rfl
  | dct b => obtain ⟨a, vs, e, _⟩ := r; rw [e]; rfl
  | ref b => rw [show v = V.ref b from r]; rfl
  | scr b => obtain ⟨a, e, _⟩ := r; rw [e]; rfl
theorem op_pyIs : OpR X (compareOp .Is) (rD X.K T pyIs) := by
  intro pins s σ H x y v u Q I rx ry ⟨F, G, dx, dy, z, hg, r1, r2, e, q⟩
  unfold pyIs at e
  split at e
  · cases e
    exact op_isN pins s σ H x y v u Q I rx ry ⟨r2, by rw [relD_non r1]; exact q _ _ H Step.refl hg rfl⟩
  · rename_i a b
    cases e
    exact op_is_bl pins s σ H x y v u Q I rx ry ⟨_, _, r1, r2, q _ _ H Step.refl hg (by rw [Bool.beq_eq_decide_eq]; rfl)⟩
  · cases e
theorem op_pyIsNot : OpR X (compareOp .IsNot) (rD X.K T pyIsNot) := by
  intro pins s σ H x y v u Q I rx ry ⟨F, G, dx, dy, z, hg, r1, r2, e, q⟩
  unfold pyIsNot at e
  split at e
  · cases e
    exact op_notN pins s σ H x y v u Q I rx ry ⟨r2, by rw [relD_non r1]; exact q _ _ H Step.refl hg rfl⟩
  · rename_i a b
    cases e
    exact op_isnot_bl pins s σ H x y v u Q I rx ry ⟨_, _, r1, r2, q _ _ H Step.refl hg (by rw [Bool.beq_eq_decide_eq]; rfl)⟩
  · cases e
end
end DL

namespace DL
open PySem PySem.Spec PyProof.Rows L2
variable {T : LT}
/-! ### == -/
def mapO {α β : Type} (f : α → Option β) : List α → Option (List β)
  | [] => some []
  | x :: xs => match f x, mapO f xs with
    | some y, some ys => some (y :: ys)
    | _, _ => none
def toPy (G : DG) : Nat → D → Option PyData
  | _, .non => some .none
  | _, .bl b => some (.bool b)
  | _, .int i => some (.int i)
  | _, .str s => some (.str (S s))
  | n + 1, .tup xs => (mapO (toPy G n) xs).map .tuple
  | n + 1, .lst xs => (mapO (toPy G n) xs).map .list
  | n + 1, .scr ns => (mapO (toPy G n) (ns.map .int)).map .list
  | n + 1, .ref a => match lstO (G a) with
    | some xs => (mapO (toPy G n) xs).map .list
    | none => none
  | _, _ => none
theorem strOk_S (s : String) : PyData.strOk (S s) = true := by
  unfold PyData.strOk
  rw [← Array.all_toList, S_cps, List.all_map, List.all_eq_true]
  intro c _
  have h := c.valid
  simp only [UInt32.isValidChar, Nat.isValidChar] at h
  simp only [Function.comp_apply, decide_eq_true_eq]
  show c.val.toNat < 0x110000
  omega
section
variable {K : PySem.W.Frag} {F : FS} {G : DG} {H : Hp}
theorem toPys_ok {n : Nat} (ih : ∀ d v y, RelD K F H d v → toPy G n d = some y → Dp K H v y ∧ y.canLay0 = true ∧ y.depth ≤ n) : ∀ (xs : List D) (vs : List V) (ys : List PyData), RelDs K F H xs vs → mapO (toPy G n) xs = some ys →
    DpAll K H vs ys ∧ PyData.canLayAll0 ys = true ∧ PyData.depthAll ys ≤ n
  | [], vs, ys, h, e => by
    have e1 : vs = [] := h
    cases e
    subst e1
    exact ⟨.nil, by simp [PyData.canLayAll0], by simp [PyData.depthAll]⟩
  | x :: xs, _, ys, ⟨v, r, rfl, h, t⟩, e => by
    unfold mapO at e
    split at e
    · rename_i y ys' e1 e2
      cases e
      obtain ⟨a1, a2, a3⟩ := ih x v y h e1
      obtain ⟨b1, b2, b3⟩ := toPys_ok ih xs r ys' t e2
      exact ⟨.cons a1 b1, by simp [PyData.canLayAll0, a2, b2], by simp only [PyData.depthAll]; omega⟩
    · cases e
theorem toPy_ok (hg : RelG K T F G H) : ∀ (n : Nat) (d : D) (v : V) (y : PyData), RelD K F H d v → toPy G n d = some y → Dp K H v y ∧ y.canLay0 = true ∧ y.depth ≤ n := by
  intro n
  induction n with
  | zero =>
    intro d v y r e
    cases d with
    | non => cases e; rw [show v = V.non from r]; exact ⟨.non, by simp [PyData.canLay0], by simp [PyData.depth]⟩
    | bl b => cases e; rw [show v = V.bl b from r]; exact ⟨.bl b, by simp [PyData.canLay0], by simp [PyData.depth]⟩
    | int b => cases e; rw [show v = V.int b from r]; exact ⟨.int b, by simp [PyData.canLay0], by simp [PyData.depth]⟩
    | str b => cases e; rw [show v = V.str (S b) from r]; exact ⟨.str _, by simp [PyData.canLay0, strOk_S], by simp [PyData.depth]⟩
    | _ => cases e
  | succ n ih =>
    intro d v y r e
    cases d with
    | non => cases e; rw [show v = V.non from r]; exact ⟨.non, by simp [PyData.canLay0], by simp [PyData.depth]⟩
    | bl b => cases e; rw [show v = V.bl b from r]; exact ⟨.bl b, by simp [PyData.canLay0], by simp [PyData.depth]⟩
    | int b => cases e; rw [show v = V.int b from r]; exact ⟨.int b, by simp [PyData.canLay0], by simp [PyData.depth]⟩
    | str b => cases e; rw [show v = V.str (S b) from r]; exact ⟨.str _, by simp [PyData.canLay0, strOk_S], by simp [PyData.depth]⟩
    | tup xs =>
      obtain ⟨ys, e1, rfl⟩ := Option.map_eq_some_iff.mp e
      obtain ⟨a, vs, rfl, t, k⟩ := r
      obtain ⟨b1, b2, b3⟩ := toPys_ok ih xs vs ys k e1
      exact ⟨.tup t.sq b1, by simpa [PyData.canLay0] using b2, by simp only [PyData.depth]; omega⟩
    | lst xs =>
      obtain ⟨ys, e1, rfl⟩ := Option.map_eq_some_iff.mp e
      obtain ⟨a, vs, rfl, t, k⟩ := r
      obtain ⟨b1, b2, b3⟩ := toPys_ok ih xs vs ys k e1
      exact ⟨.lst (.inl t.1.rd) b1, by simpa [PyData.canLay0] using b2, by simp only [PyData.depth]; omega⟩
    | scr ns =>
      obtain ⟨ys, e1, rfl⟩ := Option.map_eq_some_iff.mp e
      obtain ⟨a, rfl, h⟩ := r
      obtain ⟨b1, b2, b3⟩ := toPys_ok ih (ns.map .int) (ns.map V.int) ys (relDs_ints ns) e1
      exact ⟨.lst (h.imp (fun h => h.1.rd) id) b1, by simpa [PyData.canLay0] using b2, by simp only [PyData.depth]; omega⟩
    | ref a =>
      have ev : v = V.ref a := r
      subst ev
      unfold toPy at e
      split at e
      · rename_i xs q
        obtain ⟨ys, e1, rfl⟩ := Option.map_eq_some_iff.mp e
        obtain ⟨vs, h, k⟩ := hg.ob a _ (lstO_eq q)
        obtain ⟨b1, b2, b3⟩ := toPys_ok ih xs vs ys k e1
        exact ⟨.lst (.inl (.inl h)) b1, by simpa [PyData.canLay0] using b2, by simp only [PyData.depth]; omega⟩
      · cases e
    | _ => cases e
end
def pyEqB (G : DG) (x y : D) : Option Bool := match x, y with
  | .int i, .int j => some (decide (i = j))
  | .str s, .str t => some (decide (s = t))
  | x, y => match toPy G 40 x, toPy G 40 y with
    | some d, some e => some (PyData.eqv d e)
    | _, _ => none
def pyEq (G : DG) (x y : D) : Option D := (pyEqB G x y).map .bl
def pyNe (G : DG) (x y : D) : Option D := (pyEqB G x y).map fun b => .bl (!b)
section
variable {X : Cx}
theorem shaped_of {d : PyData} (h1 : d.canLay0 = true) (h2 : d.depth ≤ 40) : SeqAt.shaped d = true := by
  unfold SeqAt.shaped
  rw [h1, decide_eq_true (by omega)]
  rfl
theorem op_pyEq (hu : X.A.units + 64 < cLine) : OpR X (compareOp .Eq) (rD X.K T pyEq) := by
  intro pins s σ H x y v u Q I rx ry ⟨F, G, dx, dy, z, hg, r1, r2, e, q⟩
  obtain ⟨b, e', rfl⟩ := Option.map_eq_some_iff.mp e
  clear e
  have e := e'
  clear e'
  unfold pyEqB at e
  split at e
  · cases e
    have r1 : x = _ := r1
    have r2 : y = _ := r2
    subst r1 r2
    exact op_eq pins s σ H _ _ v u Q I rx ry ⟨rfl, q _ _ H Step.refl hg (by show _ = V.bl _; congr 1; simp)⟩
  · cases e
    have r1 : x = _ := r1
    have r2 : y = _ := r2
    subst r1 r2
    exact op_eq pins s σ H _ _ v u Q I rx ry ⟨rfl, q _ _ H Step.refl hg (by show _ = V.bl _; congr 1; rw [← S_dec]; simp)⟩
  · split at e
    · rename_i d e' h1 h2
      cases e
      obtain ⟨a1, a2, a3⟩ := toPy_ok hg 40 _ _ _ r1 h1
      obtain ⟨b1, b2, b3⟩ := toPy_ok hg 40 _ _ _ r2 h2
      exact op_eqD hu pins s σ H _ _ v u Q I rx ry ⟨d, e', a1, b1, shaped_of a2 a3, shaped_of b2 b3, q _ _ H Step.refl hg rfl⟩
    · cases e
theorem op_pyNe (hu : X.A.units + 64 < cLine) : OpR X (compareOp .NotEq) (rD X.K T pyNe) := by
  intro pins s σ H x y v u Q I rx ry ⟨F, G, dx, dy, z, hg, r1, r2, e, q⟩
  obtain ⟨b, e', rfl⟩ := Option.map_eq_some_iff.mp e
  clear e
  have e := e'
  clear e'
  unfold pyEqB at e
  split at e
  · cases e
    have r1 : x = _ := r1
    have r2 : y = _ := r2
    subst r1 r2
    exact op_ne pins s σ H _ _ v u Q I rx ry ⟨rfl, q _ _ H Step.refl hg (by show _ = V.bl _; congr 1; simp)⟩
  · cases e
    have r1 : x = _ := r1
    have r2 : y = _ := r2
    subst r1 r2
    exact op_ne pins s σ H _ _ v u Q I rx ry ⟨rfl, q _ _ H Step.refl hg (by show _ = V.bl _; congr 1; rw [← S_dec]; simp)⟩
  · split at e
    · rename_i d e' h1 h2
      cases e
      obtain ⟨a1, a2, a3⟩ := toPy_ok hg 40 _ _ _ r1 h1
      obtain ⟨b1, b2, b3⟩ := toPy_ok hg 40 _ _ _ r2 h2
      exact op_neD hu pins s σ H _ _ v u Q I rx ry ⟨d, e', a1, b1, shaped_of a2 a3, shaped_of b2 b3, q _ _ H Step.refl hg rfl⟩
    · cases e
end
end DL

namespace DL
open PySem PySem.Spec PyProof.Rows L2
variable {T : LT}
/-! ### dicts by keys -/
def dkEq : D → D → Bool
  | .int i, .int j => decide (i = j)
  | .str s, .str t => decide (s = t)
  | _, _ => false
def dget (kvs : List (D × D)) (k : D) : Option D := (kvs.find? fun p => dkEq p.1 k).map (·.2)
def dput (kvs : List (D × D)) (k v : D) : List (D × D) :=
  if (kvs.any fun p => dkEq p.1 k) = true then kvs.map (fun p => if dkEq p.1 k = true then (p.1, v) else p) else kvs ++ [(k, v)]
def ddrop (kvs : List (D × D)) (k : D) : List (D × D) := kvs.filter fun p => !dkEq p.1 k
def dctO : Option DO → Option (List (D × D))
  | some (.dct xs) => some xs
  | some (.lck xs _) => some xs
  | _ => none
theorem dctO_eq {o : Option DO} {xs : List (D × D)} (h : dctO o = some xs) : o = some (.dct xs) ∨ ∃ u, o = some (.lck xs u) := by
  unfold dctO at h
  split at h
  · cases h; exact .inl rfl
  · cases h; exact .inr ⟨_, rfl⟩
  · cases h
def asD (G : DG) : D → Option (List (D × D))
  | .dct xs => some xs
  | .ref a => dctO (G a)
  | _ => none
section
variable {K : PySem.W.Frag} {F : FS} {G : DG} {H : Hp}
theorem asD_ok {d : D} {v : V} {xs : List (D × D)} (hg : RelG K T F G H) (r : RelD K F H d v) (e : asD G d = some xs) : ∃ a ws, v = .ref a ∧ Rd H a (.dK ws) ∧ RelKs K F H xs ws := by
  cases d with
  | dct ys =>
    cases e
    obtain ⟨a, vs, ev, h, rs⟩ := r
    exact ⟨a, vs, ev, h.1.rd, rs⟩
  | ref a =>
    have ev : v = .ref a := r
    rcases dctO_eq e with q | ⟨u, q⟩
    · obtain ⟨vs, h, rs⟩ := hg.ob a _ q
      exact ⟨a, vs, ev, .inl h, rs⟩
    · obtain ⟨o, vs, e1, h, rs⟩ := hg.ob a _ q
      exact ⟨a, vs, ev, .inr ⟨o, by rw [h, e1]⟩, rs⟩
  | _ => cases e
theorem dkEq_key {a b : D} {ka kb : Key} (ha : keyOf a = some ka) (hb : keyOf b = some kb) : dkEq a b = decide (ka = kb) := by
  cases a <;> simp only [keyOf, reduceCtorEq] at ha <;> cases ha <;> cases b <;> simp only [keyOf, reduceCtorEq] at hb <;> cases hb
  · rw [key_ll, Bool.beq_eq_decide_eq]; rfl
  · rw [key_lr]; rfl
  · rw [key_rl]; rfl
  · rw [key_rr, S_dec]; rfl
theorem keyOf_rel {k : D} {key : Key} {v : V} (h : keyOf k = some key) (r : RelD K F H k v) : v = kV key := by
  cases k <;> simp only [keyOf, reduceCtorEq] at h <;> cases h
  · exact r
  · exact r
theorem relKs_val {k : D} {key : Key} (hk : keyOf k = some key) : ∀ {kvs : List (D × D)} {ws : List (Key × V)}, RelKs K F H kvs ws →
    (∀ d, dget kvs k = some d → ∃ v, valV ws key = some v ∧ RelD K F H d v) ∧ (dget kvs k = none → valV ws key = none)
  | [], ws, h => by
    have e : ws = [] := h
    subst e
    exact ⟨(fun d z => by simp [dget] at z), (fun _ => rfl)⟩
  | (k', x) :: r, _, ⟨key', v, ws', rfl, hk', rx, t⟩ => by
    have ih := relKs_val hk t
    have e := dkEq_key hk' hk
    unfold dget
    rw [List.find?_cons]
    by_cases q : key' = key
    · rw [e, decide_eq_true q]
      refine ⟨fun d z => ?_, fun z => by simp at z⟩
      simp only [Option.map_some, Option.some.injEq] at z
      subst z
      exact ⟨v, valV_pos q, rx⟩
    · rw [e, decide_eq_false q]
      rw [valV_neg q]
      exact ih
theorem relKs_any {k : D} {key : Key} (hk : keyOf k = some key) : ∀ {kvs : List (D × D)} {ws : List (Key × V)}, RelKs K F H kvs ws → (kvs.any fun p => dkEq p.1 k) = ws.any fun p => decide (p.1 = key)
  | [], ws, h => by
    have e : ws = [] := h
    subst e
    rfl
  | (k', x) :: r, _, ⟨key', v, ws', rfl, hk', rx, t⟩ => by
    rw [List.any_cons, List.any_cons, relKs_any hk t, dkEq_key hk' hk]
theorem RelKs.snoc {k x : D} {key : Key} {v : V} (hk : keyOf k = some key) (rx : RelD K F H x v) : ∀ {kvs : List (D × D)} {ws : List (Key × V)}, RelKs K F H kvs ws → RelKs K F H (kvs ++ [(k, x)]) (ws ++ [(key, v)])
  | [], ws, h => by
    have e : ws = [] := h
    subst e
    exact ⟨key, v, [], rfl, hk, rx, rfl⟩
  | (k', x') :: r, _, ⟨key', v', ws', rfl, hk', rx', t⟩ => ⟨key', v', _, rfl, hk', rx', RelKs.snoc hk rx t⟩
theorem RelKs.repl {k x : D} {key : Key} {v : V} (hk : keyOf k = some key) (rx : RelD K F H x v) : ∀ {kvs : List (D × D)} {ws : List (Key × V)}, RelKs K F H kvs ws →
    RelKs K F H (kvs.map fun p => if dkEq p.1 k = true then (p.1, x) else p) (ws.map fun p => if p.1 = key then (p.1, v) else p)
  | [], ws, h => by
    have e : ws = [] := h
    subst e
    rfl
  | (k', x') :: r, _, ⟨key', v', ws', rfl, hk', rx', t⟩ => by
    rw [List.map_cons, List.map_cons]
    have e := dkEq_key hk' hk
    by_cases q : key' = key
    · rw [if_pos (by rw [e]; exact decide_eq_true q), if_pos q]
      exact ⟨key', v, _, rfl, hk', rx, RelKs.repl hk rx t⟩
    · rw [if_neg (by rw [e]; simpa using q), if_neg q]
      exact ⟨key', v', _, rfl, hk', rx', RelKs.repl hk rx t⟩
theorem RelKs.put {k x : D} {key : Key} {v : V} (hk : keyOf k = some key) (rx : RelD K F H x v) {kvs : List (D × D)} {ws : List (Key × V)} (h : RelKs K F H kvs ws) : RelKs K F H (dput kvs k x) (putK ws key v) := by
  unfold dput putK
  rw [relKs_any hk h]
  split
  · exact h.repl hk rx
  · exact h.snoc hk rx
theorem RelKs.drop {k : D} {key : Key} (hk : keyOf k = some key) : ∀ {kvs : List (D × D)} {ws : List (Key × V)}, RelKs K F H kvs ws → RelKs K F H (ddrop kvs k) (dropK ws key)
  | [], ws, h => by
    have e : ws = [] := h
    subst e
    rfl
  | (k', x') :: r, _, ⟨key', v', ws', rfl, hk', rx', t⟩ => by
    have e := dkEq_key hk' hk
    unfold ddrop dropK
    by_cases q : key' = key
    · rw [List.filter_cons_of_neg (by simp [e, q]), List.filter_cons_of_neg (by simp [q])]
      exact RelKs.drop hk t
    · rw [List.filter_cons_of_pos (by simp [e, q]), List.filter_cons_of_pos (by simp [q])]
      exact ⟨key', v', _, rfl, hk', rx', RelKs.drop hk t⟩
theorem RelKs.length : ∀ {kvs : List (D × D)} {ws : List (Key × V)}, RelKs K F H kvs ws → kvs.length = ws.length
  | [], ws, h => by
    have e : ws = [] := h
    subst e
    rfl
  | (k', x') :: r, _, ⟨key', v', ws', rfl, hk', rx', t⟩ => by rw [List.length_cons, List.length_cons, RelKs.length t]
end
/-! ### in -/
def flatD : D → Bool
  | .non => true
  | .bl _ => true
  | .int _ => true
  | .str _ => true
  | _ => false
def eqF : D → D → Bool
  | .non, .non => true
  | .bl a, .bl b => a == b
  | .bl a, .int b => (if a then 1 else 0) == b
  | .int a, .bl b => a == (if b then 1 else 0)
  | .int a, .int b => a == b
  | .str a, .str b => a == b
  | _, _ => false
section
variable {K : PySem.W.Frag} {F : FS} {G : DG} {H : Hp}
theorem flat_rel {d : D} {v : V} (h : flatD d = true) (r : RelD K F H d v) : flatV v = true := by
  cases d <;> simp only [flatD, reduceCtorEq, Bool.false_eq_true] at h
  · rw [show v = _ from r]; rfl
  · rw [show v = _ from r]; rfl
  · rw [show v = _ from r]; rfl
  · rw [show v = _ from r]; rfl
theorem eqF_rel {d e : D} {v u : V} (h : flatD d = true) (h' : flatD e = true) (r : RelD K F H d v) (r' : RelD K F H e u) : eqV v u = eqF d e := by
  cases d <;> simp only [flatD, reduceCtorEq, Bool.false_eq_true] at h <;> cases e <;> simp only [flatD, reduceCtorEq, Bool.false_eq_true] at h' <;>
    rw [show v = _ from r, show u = _ from r'] <;> first | rfl | exact S_beq _ _
theorem flats_rel : ∀ {ds : List D} {vs : List V}, RelDs K F H ds vs → ds.all flatD = true → vs.all flatV = true
  | [], vs, h, _ => by
    have e : vs = [] := h
    subst e
    rfl
  | x :: xs, _, ⟨v, r, rfl, h, t⟩, e => by
    rw [List.all_cons, Bool.and_eq_true] at e ⊢
    exact ⟨flat_rel e.1 h, flats_rel t e.2⟩
theorem inF_rel {x : D} {u : V} (hx : flatD x = true) (rx : RelD K F H x u) : ∀ {ds : List D} {vs : List V}, RelDs K F H ds vs → ds.all flatD = true → inV u vs = ds.any fun y => eqF y x
  | [], vs, h, _ => by
    have e : vs = [] := h
    subst e
    rfl
  | y :: ys, _, ⟨v, r, rfl, h, t⟩, e => by
    rw [List.all_cons, Bool.and_eq_true] at e
    have ih := inF_rel hx rx t e.2
    unfold inV at ih ⊢
    rw [List.any_cons, List.any_cons, ih, eqF_rel e.1 hx h rx]
end
def signOf (s : String) : Option Char := match s.toList with
  | [c] => some c
  | _ => none
def pyInB (G : DG) (x y : D) : Option Bool := match x, y with
  | .str s, .str t => (signOf s).map fun c => t.toList.contains c
  | x, y => match asQ G y with
    | some ys => if flatD x && ys.all flatD then some (ys.any fun z => eqF z x) else none
    | none => match asD G y, keyOf x with
      | some kvs, some _ => some (dget kvs x).isSome
      | _, _ => none
def pyIn (G : DG) (x y : D) : Option D := (pyInB G x y).map .bl
def pyNotIn (G : DG) (x y : D) : Option D := (pyInB G x y).map fun b => .bl (!b)
theorem mem_toNat (c : Char) (l : List Char) : decide (c.toNat ∈ l.map Char.toNat) = l.contains c := by
  have h : c.toNat ∈ l.map Char.toNat ↔ c ∈ l := by
    constructor
    · intro h
      obtain ⟨d, hd, e⟩ := List.mem_map.mp h
      have : d = c := Char.ext (UInt32.toNat_inj.mp e)
      rw [← this]
      exact hd
    · exact fun h => List.mem_map.mpr ⟨c, h, rfl⟩
  rw [List.contains_eq_mem]
  exact decide_eq_decide.mpr h
theorem sign_cps {s : String} {c : Char} (h : signOf s = some c) : S s = ⟨#[c.toNat]⟩ := by
  unfold signOf at h
  split at h
  · rename_i d e
    cases h
    unfold S
    rw [Str.ofString_eq_toList, e]
    rfl
  · cases h
section
variable {X : Cx}
theorem op_pyIn (hu : X.A.units + 1 < cLine) : OpR X (compareOp .In) (rD X.K T pyIn) := by
  intro pins s σ H x y v u Q I rx ry ⟨F, G, dx, dy, z, hg, r1, r2, e, q⟩
  obtain ⟨b, e', rfl⟩ := Option.map_eq_some_iff.mp e
  clear e
  unfold pyInB at e'
  split at e'
  · obtain ⟨c, e1, rfl⟩ := Option.map_eq_some_iff.mp e'
    exact op_in_sign pins s σ H x y v u Q I rx ry ⟨c.toNat, _, by rw [← sign_cps e1]; exact r1, r2, by rw [S_cps, mem_toNat]; exact q _ _ H Step.refl hg rfl⟩
  · split at e'
    · rename_i ys ey
      split at e'
      · rename_i hf
        cases e'
        rw [Bool.and_eq_true] at hf
        obtain ⟨a, vs, e1, t1, k1⟩ := asQ_ok hg r2 ey
        exact op_in_seq pins s σ H x y v u Q I rx ry ⟨a, vs, e1, t1, flat_rel hf.1 r1, flats_rel k1 hf.2, by rw [inF_rel hf.1 r1 k1 hf.2]; exact q _ _ H Step.refl hg rfl⟩
      · cases e'
    · split at e'
      · rename_i kvs key ed ek
        cases e'
        obtain ⟨a, ws, e1, t1, k1⟩ := asD_ok hg r2 ed
        have hv := relKs_val ek k1
        have eo : (valV ws key).isSome = (dget kvs dx).isSome := by
          cases q : dget kvs dx with
          | none => rw [hv.2 q]; rfl
          | some d => obtain ⟨v, h1, _⟩ := hv.1 d q; rw [h1]; rfl
        subst e1
        cases ry
        refine d_in hu I (.inl ⟨ws, key, t1, keyOf_rel ek r1, rfl⟩) rx fun s' I' => ?_
        rw [eo]
        exact ⟨.bl _, H, I', rfl, q _ _ H Step.refl hg rfl⟩
      · cases e'
theorem op_pyNotIn (hu : X.A.units + 1 < cLine) : OpR X (compareOp .NotIn) (rD X.K T pyNotIn) := by
  intro pins s σ H x y v u Q I rx ry ⟨F, G, dx, dy, z, hg, r1, r2, e, q⟩
  obtain ⟨b, e', rfl⟩ := Option.map_eq_some_iff.mp e
  clear e
  unfold pyInB at e'
  split at e'
  · obtain ⟨c, e1, rfl⟩ := Option.map_eq_some_iff.mp e'
    exact op_notIn_sign pins s σ H x y v u Q I rx ry ⟨c.toNat, _, by rw [← sign_cps e1]; exact r1, r2, by rw [S_cps, mem_toNat]; exact q _ _ H Step.refl hg rfl⟩
  · split at e'
    · rename_i ys ey
      split at e'
      · rename_i hf
        cases e'
        rw [Bool.and_eq_true] at hf
        obtain ⟨a, vs, e1, t1, k1⟩ := asQ_ok hg r2 ey
        exact op_notIn_seq pins s σ H x y v u Q I rx ry ⟨a, vs, e1, t1, flat_rel hf.1 r1, flats_rel k1 hf.2, by rw [inF_rel hf.1 r1 k1 hf.2]; exact q _ _ H Step.refl hg rfl⟩
      · cases e'
    · split at e'
      · rename_i kvs key ed ek
        cases e'
        obtain ⟨a, ws, e1, t1, k1⟩ := asD_ok hg r2 ed
        have hv := relKs_val ek k1
        have eo : (valV ws key).isSome = (dget kvs dx).isSome := by
          cases q : dget kvs dx with
          | none => rw [hv.2 q]; rfl
          | some d => obtain ⟨v, h1, _⟩ := hv.1 d q; rw [h1]; rfl
        subst e1
        cases ry
        refine d_notIn hu I (.inl ⟨ws, key, t1, keyOf_rel ek r1, rfl⟩) rx fun s' I' => ?_
        rw [eo]
        exact ⟨.bl _, H, I', rfl, q _ _ H Step.refl hg rfl⟩
      · cases e'
end
end DL

namespace DL
open PySem PySem.Spec PyProof.Rows L2
variable {T : LT}
/-! ### subscripts, slices -/
def pyItem (G : DG) (x y : D) : Option D := match y with
  | .int i => match x with
    | .str s => if s.length ≤ 16000000 then (atI s.toList i).map fun c => .str (String.ofList [c]) else none
    | x => match asQ G x with
      | some xs => atI xs i
      | none => match asD G x with
        | some kvs => dget kvs y
        | none => none
  | y => match asD G x, keyOf y with
    | some kvs, some _ => dget kvs y
    | _, _ => none
theorem atI_map {α β : Type} (f : α → β) (xs : List α) (i : Int) : atI (xs.map f) i = (atI xs i).map f := by
  unfold atI
  rw [List.length_map]
  cases ixN xs.length i with
  | none => rfl
  | some j => simp
theorem atI_rel {K : PySem.W.Frag} {F : FS} {H : Hp} {xs : List D} {vs : List V} {i : Int} {d : D} (r : RelDs K F H xs vs) (h : atI xs i = some d) : ∃ v, atI vs i = some v ∧ RelD K F H d v := by
  unfold atI at h ⊢
  rw [← r.length]
  cases q : ixN xs.length i with
  | none => rw [q] at h; cases h
  | some j =>
    rw [q] at h
    exact r.get h
section
variable {X : Cx} {W : WX} {a b : Expr} {ta tb : DTE} {pos : Pos}
theorem ix_pyItem (hu : X.A.units + 1 < cLine) : IxR X (fun x y H Q => rD X.K T pyItem x y H Q) := by
  intro value slice pins s σ H x y v u Q I rx ry ⟨F, G, dx, dy, z, hg, r1, r2, e, q⟩ hs
  have dct : ∀ kvs key, asD G dx = some kvs → keyOf dy = some key → dget kvs dy = some z → wpAny (model X.prog X.w) X.A (subscriptTail value slice v u) (EP X pins σ Q) X.xe s := fun kvs key ed ek ez => by
    obtain ⟨a, ws, e1, t1, k1⟩ := asD_ok hg r1 ed
    obtain ⟨w1, h1, h2⟩ := (relKs_val ek k1).1 z ez
    subst e1
    cases rx
    have g : DGet H a y (some w1) := .inl ⟨ws, key, t1, keyOf_rel ek r2, h1.symm⟩
    exact tail_any (dict_typeIs I g) PySem.F.slot_dict_getitem.lookup (d_getItem hu I g ry fun w' s3 I3 rw' => ⟨w1, H, I3, rw', q _ _ H Step.refl hg h2⟩) hs
  unfold pyItem at e
  split at e
  · rename_i i
    split at e
    · rename_i st
      split at e
      · rename_i hl
        obtain ⟨c, e1, rfl⟩ := Option.map_eq_some_iff.mp e
        exact ix_str value slice pins s σ H x y v u Q I rx ry ⟨_, i, c.toNat, r1, r2, by rw [S_len]; exact small_line hl, by rw [S_cps, atI_map, e1]; rfl, q _ _ H Step.refl hg (by show _ = V.str (S (String.ofList [c])); unfold S; rw [Str.ofString_eq_toList]; simp)⟩ hs
      · cases e
    · split at e
      · rename_i xs ex
        obtain ⟨a, vs, e1, t1, k1⟩ := asQ_ok hg r1 ex
        obtain ⟨w1, h1, h2⟩ := atI_rel k1 e
        rcases t1 with t1 | t1
        · exact ix_list value slice pins s σ H x y v u Q I rx ry ⟨a, vs, i, w1, e1, r2, t1, h1, q _ _ H Step.refl hg h2⟩ hs
        · exact ix_tup value slice pins s σ H x y v u Q I rx ry ⟨a, vs, i, w1, e1, r2, t1, h1, q _ _ H Step.refl hg h2⟩ hs
      · split at e
        · rename_i kvs ed
          exact dct kvs _ ed rfl e
        · cases e
  · split at e
    · rename_i kvs key ed ek
      exact dct kvs key ed ek e
    · cases e
theorem q_item (hu : X.A.units + 1 < cLine) (ha : QE X T W a ta) (hb : QE X T W b tb) (hs : PlainIx b := by exact fun _ _ => rfl) : QE X T W (.Subscript a b pos) (dOp pyItem ta tb) :=
  PE.imp (pe_ix (ix_pyItem hu) ha hb hs) fun σ H Q ⟨env, F, G, E, P, hg, hs, hx, ht, hq⟩ =>
    ⟨env, F, G, E, _, hg, hs, hx, ht, fun x F1 G1 v1 H1 h1 s1 g1 r1 => ⟨env, F1, G1, E, _, g1, hs.step s1, hx.step s1, h1, fun y F2 G2 v2 H2 ⟨z, e, p⟩ s2 g2 r2 =>
      ⟨F2, G2, x, y, z, g2, RelD.step s2 x r1, r2, e, fun F' v H' s3 g3 r3 => hq z _ G2 v H' p (s1.trans (s2.trans s3)) g3 r3⟩⟩⟩
end
/-! slices -/
abbrev DTO := DXK → DSt → DG → (Option Int → DG → Prop) → Prop
def dNoPart : DTO := fun _ _ G Q => Q none G
def dPart (t : DTE) : DTO := fun E env G Q => t E env G fun x G1 => ∃ i, x = .int i ∧ Q (some i) G1
def cutD (xs : List D) (lo hi : Option Int) : List D := (xs.drop (HT.sIx xs.length 0 lo)).take (HT.sIx xs.length xs.length hi - HT.sIx xs.length 0 lo)
def cutC (xs : List Char) (lo hi : Option Int) : List Char := (xs.drop (HT.sIx xs.length 0 lo)).take (HT.sIx xs.length xs.length hi - HT.sIx xs.length 0 lo)
def pySlice (G : DG) (x : D) (lo hi : Option Int) : Option D := match x with
  | .tup xs => some (.tup (cutD xs lo hi))
  | .str s => if s.length ≤ 16000000 then some (.str (String.ofList (cutC s.toList lo hi))) else none
  | x => (asL G x).map fun xs => .lst (cutD xs lo hi)
def dSlice (t : DTE) (l h : DTO) : DTE := fun E env G Q => t E env G fun x G1 => l E env G1 fun lo G2 => h E env G2 fun hi G3 => ∃ z, pySlice G3 x lo hi = some z ∧ Q z G3
def liftO (K : PySem.W.Frag) (T : LT) (W : WX) (t : DTO) : TO := fun σ H Q => ∃ env F G E P, RelG K T F G H ∧ RelSt K F H env σ ∧ XOk K T W E F G H ∧ t E env G P ∧
  ∀ o F' G' H', P o G' → Step F G H F' G' H' → RelG K T F' G' H' → Q o H'
abbrev QO (X : Cx) (T : LT) (W : WX) (e : Option Expr) (t : DTO) : Prop := PO X e (liftO X.K T W t)
theorem PO.imp {X : Cx} {e : Option Expr} {t t' : TO} (h : PO X e t) (k : ∀ σ H Q, t' σ H Q → t σ H Q) : PO X e t' := ⟨fun pins s σ H Q I w => h.run pins s σ H Q I (k σ H Q w)⟩
theorem cut_rel {K : PySem.W.Frag} {F : FS} {H : Hp} {xs : List D} {vs : List V} (lo hi : Option Int) (r : RelDs K F H xs vs) : RelDs K F H (cutD xs lo hi) (cutV vs lo hi) := by
  unfold cutD cutV
  rw [← r.length]
  exact (r.drop _).take _
section
variable {X : Cx} {W : WX} {a b : Expr} {ta tb : DTE} {pos p2 : Pos} {lo hi : Option Expr} {tl th : DTO}
theorem qo_none : QO X T W none dNoPart := PO.imp po_none fun σ H Q ⟨env, F, G, E, P, hg, hs, hx, ht, hq⟩ => hq none _ G H ht Step.refl hg
theorem qo_some (h : QE X T W a ta) : QO X T W (some a) (dPart ta) := PO.imp (po_some h) fun σ H Q ⟨env, F, G, E, P, hg, hs, hx, ht, hq⟩ =>
  ⟨env, F, G, E, _, hg, hs, hx, ht, fun x F1 G1 v1 H1 ⟨i, e, p⟩ s1 g1 r1 => by
    subst e
    exact ⟨i, r1, hq (some i) _ G1 H1 p s1 g1⟩⟩
theorem sl_pySlice : SlR X (fun x lo hi H Q => ∃ F G dx z, RelG X.K T F G H ∧ RelD X.K F H dx x ∧ pySlice G dx lo hi = some z ∧ ∀ F' v H', Step F G H F' G H' → RelG X.K T F' G H' → RelD X.K F' H' z v → Q v H') := by
  intro pins s σ H x v vl vu lo hi sl Q I rx hs pl pu ⟨F, G, dx, z, hg, r1, e, q⟩
  have lst : ∀ xs, asL G dx = some xs → z = .lst (cutD xs lo hi) → ∃ T id, typeLookup (.type T) "__getitem__" = pure (some (.builtin id)) ∧ s.TypeIs v T ∧ wpAny (model X.prog X.w) X.A (getItem v (.ref sl)) (EP X pins σ Q) X.xe s := fun xs ex ez => by
    subst ez
    obtain ⟨a, vs, e1, t1, k1⟩ := asL_ok hg r1 ex
    exact sl_list pins s σ H x v vl vu lo hi sl Q I rx hs pl pu ⟨a, vs, e1, .inl t1, fun p hp => q _ _ _ (Step.new hp) (hg.new hp) (relD_newLst hg hp (cut_rel lo hi k1))⟩
  unfold pySlice at e
  split at e
  · rename_i xs
    cases e
    obtain ⟨a, vs, e1, t1, k1⟩ := r1
    refine sl_tupA pins s σ H x v vl vu lo hi sl Q I rx hs pl pu ⟨a, vs, e1, t1.sq, fun hw => ?_, fun _ p hp => q _ _ _ (Step.new hp) (hg.new hp) (relD_newTup hg hp (cut_rel lo hi k1))⟩
    refine q _ _ H Step.refl hg ⟨a, vs, rfl, t1, ?_⟩
    have := cut_rel lo hi k1
    unfold cutV at this
    rw [hw.1, hw.2] at this
    simpa using this
  · rename_i st
    split at e
    · rename_i hl
      cases e
      refine sl_str pins s σ H x v vl vu lo hi sl Q I rx hs pl pu ⟨_, r1, by rw [S_len]; exact small_line hl, q _ _ H Step.refl hg ?_⟩
      show _ = V.str (S (String.ofList (cutC st.toList lo hi)))
      congr 1
      unfold cutS cutC
      rw [S_cps, S_len]
      unfold S
      rw [Str.ofString_eq_toList, String.toList_ofList, String.length_toList]
      simp
    · cases e
  · obtain ⟨xs, ex, ez⟩ := Option.map_eq_some_iff.mp e
    exact lst xs ex ez.symm
theorem q_slice (ha : QE X T W a ta) (hl : QO X T W lo tl) (hh : QO X T W hi th) : QE X T W (.Subscript a (.Slice lo hi none p2) pos) (dSlice ta tl th) :=
  PE.imp (pe_slice sl_pySlice ha hl hh) fun σ H Q ⟨env, F, G, E, P, hg, hs, hx, ht, hq⟩ =>
    ⟨env, F, G, E, _, hg, hs, hx, ht, fun x F1 G1 v1 H1 h1 s1 g1 r1 => ⟨env, F1, G1, E, _, g1, hs.step s1, hx.step s1, h1, fun l F2 G2 H2 h2 s2 g2 => ⟨env, F2, G2, E, _, g2, hs.step (s1.trans s2), hx.step (s1.trans s2), h2, fun h F3 G3 H3 ⟨z, e, p⟩ s3 g3 =>
      ⟨F3, G3, x, z, g3, RelD.step (s2.trans s3) x r1, e, fun F' v H' s4 g4 r4 => hq z _ G3 v H' p (s1.trans (s2.trans (s3.trans s4))) g4 r4⟩⟩⟩⟩
end
end DL

namespace DL
open PySem PySem.Spec PyProof.Rows L2
variable {T : LT}
/-! ### what is walked -/
def IterOk (K : PySem.W.Frag) (T : LT) (F0 : FS) (G0 : DG) (H0 : Hp) (J : It) (items : List D) (guard : DG → Prop) : Prop :=
  ∀ i F G H, Step F0 G0 H0 F G H → RelG K T F G H → guard G →
    (∀ d, items[i]? = some d → J.go i H ∧ ∀ x H1, J.yld i H x H1 → ∃ F1, Step F G H F1 G H1 ∧ RelG K T F1 G H1 ∧ RelD K F1 H1 d x) ∧ (i = items.length → J.stop i H)
abbrev DTI := DXK → DSt → DG → (List D → (DG → Prop) → DG → Prop) → Prop
def liftI (K : PySem.W.Frag) (T : LT) (W : WX) (t : DTI) : TI := fun σ H R => ∃ env F G E P, RelG K T F G H ∧ RelSt K F H env σ ∧ XOk K T W E F G H ∧ t E env G P ∧
  ∀ items guard F' G' H' J, P items guard G' → Step F G H F' G' H' → RelG K T F' G' H' → IterOk K T F' G' H' J items guard → R J H'
abbrev QI (X : Cx) (T : LT) (W : WX) (tg e : Expr) (t : DTI) : Prop := PI X tg e (liftI X.K T W t)
theorem PI.imp {X : Cx} {tg e : Expr} {t t' : TI} (h : PI X tg e t) (k : ∀ σ H Q, t' σ H Q → t σ H Q) : PI X tg e t' := ⟨fun pins s σ H Q I w => h.run pins s σ H Q I (k σ H Q w)⟩
/-! targets: a name, several names -/
inductive Tg where
  | n (i : Nat) | t (is : List Nat)
def setAll {α : Type} (σ : List (Option α)) : List Nat → List α → List (Option α)
  | i :: is, x :: xs => setAll (σ.set i (some x)) is xs
  | _, _ => σ
def gsN : List Nat → TGs
  | [] => gNil
  | i :: is => gCons (gName i) (gsN is)
def vTg (K : PySem.W.Frag) : Tg → TG
  | .n i => gName i
  | .t is => gTup K is.length (gsN is)
def dTg : Tg → D → DSt → (DSt → Prop) → Prop
  | .n i, d, env, Q => Q (env.set i (some d))
  | .t is, d, env, Q => ∃ xs, d = .tup xs ∧ xs.length = is.length ∧ Q (setAll env is xs)
theorem gsN_run {Q : L2.St → Hp → Prop} {H : Hp} : ∀ (is : List Nat) (vs : List V) (σ : L2.St), vs.length = is.length → Q (setAll σ is vs) H → gsN is vs σ H Q
  | [], vs, σ, hl, q => by
    have e : vs = [] := List.eq_nil_of_length_eq_zero hl
    subst e
    exact ⟨rfl, q⟩
  | i :: is, [], σ, hl, q => by simp at hl
  | i :: is, v :: vs, σ, hl, q => ⟨v, vs, rfl, gsN_run is vs _ (by simpa using hl) q⟩
theorem relSt_setAll {K : PySem.W.Frag} {F : FS} {H : Hp} : ∀ (is : List Nat) (ds : List D) (vs : List V) (env : DSt) (σ : L2.St), RelDs K F H ds vs → RelSt K F H env σ → RelSt K F H (setAll env is ds) (setAll σ is vs)
  | [], ds, vs, env, σ, _, r => by cases ds <;> cases vs <;> exact r
  | i :: is, [], vs, env, σ, h, r => by
    have e : vs = [] := h
    subst e
    exact r
  | i :: is, d :: ds, _, env, σ, ⟨v, vs, rfl, h, t⟩, r => relSt_setAll is ds vs _ _ t (r.set h)
/-- the store of a value, seen from both sides -/
theorem tg_run {K : PySem.W.Frag} {F : FS} {H : Hp} {tg : Tg} {d : D} {v : V} {env : DSt} {σ : L2.St} {P : DSt → Prop} {Q : L2.St → Hp → Prop} (rs : RelSt K F H env σ) (r : RelD K F H d v) (h : dTg tg d env P)
    (q : ∀ env' σ', P env' → RelSt K F H env' σ' → (∃ vs, (σ' = match tg with | .n i => σ.set i (some v) | .t is => setAll σ is vs)) → Q σ' H) : vTg K tg v σ H Q := by
  cases tg with
  | n i => exact q _ _ h (rs.set r) ⟨[], rfl⟩
  | t is =>
    obtain ⟨xs, rfl, hl, p⟩ := h
    obtain ⟨a, vs, rfl, t, k⟩ := r
    exact ⟨a, vs, rfl, t.sq, by rw [← k.length]; exact hl, gsN_run is vs σ (by rw [← k.length]; exact hl) (q _ _ p (relSt_setAll is xs vs env σ k rs) ⟨vs, rfl⟩)⟩
/-! ### for -/
def dLoop (E : DXK) (tg : Tg) (tb : DTS) (DE : DEnds) (guard : DG → Prop) : List D → DSt → DG → Prop
  | [], env, G => guard G ∧ DE.nx env G
  | d :: ds, env, G => guard G ∧ dTg tg d env fun env1 => tb E { DE with nx := fun env2 G2 => dLoop E tg tb DE guard ds env2 G2 } env1 G
def sFor (wi : DTI) (tg : Tg) (tb : DTS) : DTS := fun E DE env G => wi E env G fun items guard G1 => dLoop E tg tb DE guard items env G1
section
variable {X : Cx} {W : WX} {pos : Pos}
theorem qs_for {tgE iter : Expr} {body : List Stmt} {wi : DTI} {tg : Tg} {tb : DTS} (hp : PassesOwn (model X.prog X.w) X.A X.env X.xe) (hc : X.calm = true) (hi : QI X T W tgE iter wi) (hg : PG X tgE (vTg X.K tg)) (hb : QSs X T W body tb)
    (hs : ∀ x, foldedSetIterable iter X.env x = pure x := by intro _; rfl) : QS X T W (.For tgE iter body [] pos) (sFor wi tg tb) :=
  PS.imp (ps_for hp hc hi hg hb hs) fun D σ H ⟨env, F, G, E, DE, hg, hs, hx, ht, hn, hr⟩ => ⟨env, F, G, E, _, hg, hs, hx, ht, fun items guard F1 G1 H1 J p s1 g1 ok => by
    refine ⟨fun i m σ H2 => m = items.length - i ∧ i ≤ items.length ∧ ∃ env' F' G', Step F1 G1 H1 F' G' H2 ∧ RelG X.K T F' G' H2 ∧ RelSt X.K F' H2 env' σ ∧ dLoop E tg tb DE guard (items.drop i) env' G',
      ⟨_, rfl, Nat.zero_le _, env, F1, G1, Step.refl, g1, hs.step s1, by rw [List.drop_zero]; exact p⟩, ?_⟩
    rintro i m σ H2 ⟨rfl, hi, env', F', G', s2, g2, r2, l⟩
    by_cases hlt : i < items.length
    · right
      have ed : items.drop i = items[i] :: items.drop (i + 1) := List.drop_eq_getElem_cons hlt
      rw [ed] at l
      obtain ⟨gd, l⟩ := l
      obtain ⟨hgo, hy⟩ := (ok i F' G' H2 s2 g2 gd).1 items[i] (List.getElem?_eq_getElem hlt)
      refine ⟨hgo, fun σ' H' => ∃ env'' F'' G'', Step F1 G1 H1 F'' G'' H' ∧ RelG X.K T F'' G'' H' ∧ RelSt X.K F'' H' env'' σ' ∧ dLoop E tg tb DE guard (items.drop (i + 1)) env'' G'', fun σ' H' w => ⟨items.length - (i + 1), by omega, rfl, hlt, w⟩, fun x H3 y => ?_⟩
      obtain ⟨F3, s3, g3, r3⟩ := hy x H3 y
      refine tg_run (r2.step s3) r3 l fun env4 σ4 p4 r4 _ => ?_
      have s13 := s2.trans s3
      refine ⟨env4, F3, G', E, _, g3, r4, hx.step (s1.trans s13), p4, fun env5 F5 G5 σ5 H5 p5 s5 g5 r5 => ⟨env5, F5, G5, s13.trans s5, g5, r5, p5⟩, fun d F5 G5 v H5 p5 s5 g5 r5 => hr d _ G5 v H5 p5 (s1.trans (s13.trans s5)) g5 r5⟩
    · left
      have e : i = items.length := by omega
      subst e
      rw [List.drop_length] at l
      obtain ⟨gd, l⟩ := l
      exact ⟨(ok _ F' G' H2 s2 g2 gd).2 rfl, hn env' _ G' σ H2 l (s1.trans s2) g2 r2⟩⟩
end
/-! ### list comprehensions -/
def wipeD (env : DSt) : List Nat → DSt
  | [] => env
  | v :: vs => (wipeD env vs).set v none
def EF : DXK := fun _ _ _ => False
abbrev WF : WX := fun _ _ _ _ => False
def dLcL (tg : Tg) (tt : DTT) (te : DTE) (guard : DG → Prop) (env : DSt) : List D → DG → (List D → DG → Prop) → Prop
  | [], G, Q => guard G ∧ Q [] G
  | d :: ds, G, Q => guard G ∧ dTg tg d env fun env1 => tt EF env1 G fun b G1 => if b = true then te EF env1 G1 fun y G2 => dLcL tg tt te guard env ds G2 fun ys G3 => Q (y :: ys) G3 else dLcL tg tt te guard env ds G1 Q
def dYes : DTT := fun _ _ G Q => Q true G
def dLc (wi : DTI) (tg : Tg) (tt : DTT) (te : DTE) (vs : List Nat) : DTE := fun E env G Q => wi E env G fun items guard G1 => items.length ≤ 16000000 ∧ dLcL tg tt te guard (wipeD env vs) items G1 fun ys G2 => Q (.lst ys) G2
def dLcB (wi : DTI) (tg : Tg) (tt : DTT) (te : DTE) (vs : List Nat) : DTE := fun E env G Q => wi E env G fun items guard G1 => items.length ≤ 16000000 ∧ dLcL tg tt te guard (wipeD env vs) items G1 fun ys G2 => ∀ p, G2 p = none → Q (.ref p) (gset G2 p (some (.lst ys)))
theorem relSt_wipe {K : PySem.W.Frag} {F : FS} {H : Hp} {env : DSt} {σ : L2.St} (r : RelSt K F H env σ) : ∀ vs : List Nat, RelSt K F H (wipeD env vs) (wipe σ vs)
  | [] => r
  | v :: vs => by
    have ih := relSt_wipe r vs
    unfold wipeD wipe
    refine ⟨by simp [ih.1], fun j d e => ?_⟩
    by_cases hj : v = j
    · subst hj
      by_cases hv : v < (wipeD env vs).length
      · rw [List.getElem?_set_self hv] at e; cases e
      · rw [List.getElem?_eq_none (by simpa using hv)] at e; cases e
    · rw [List.getElem?_set_ne hj] at e ⊢
      exact ih.2 j d e
def tgIn : Tg → List Nat → Bool
  | .n i, vs => vs.contains i
  | .t is, vs => is.all fun i => vs.contains i
theorem wipe_set {σ : L2.St} {i : Nat} {o : Option V} : ∀ {vs : List Nat}, i ∈ vs → wipe (σ.set i o) vs = wipe σ vs
  | [], h => by cases h
  | v :: vs, h => by
    unfold wipe
    by_cases hv : i ∈ vs
    · rw [wipe_set hv]
    · have e : i = v := by
        rcases List.mem_cons.mp h with e | e
        · exact e
        · exact absurd e hv
      subst e
      have key : ∀ (ws : List Nat) (σ : L2.St), i ∉ ws → wipe (σ.set i o) ws = (wipe σ ws).set i o := fun ws => by
        induction ws with
        | nil => intro σ _; rfl
        | cons w ws ih =>
          intro σ hw
          unfold wipe
          rw [ih σ fun z => hw (List.mem_cons_of_mem _ z), List.set_comm _ _ (fun z => hw (by rw [z]; exact List.mem_cons_self))]
      rw [key vs σ hv, List.set_set]
theorem wipe_setAll {vs : List Nat} : ∀ (is : List Nat) (xs : List V) (σ : L2.St), (∀ i ∈ is, i ∈ vs) → wipe (setAll σ is xs) vs = wipe σ vs
  | [], xs, σ, _ => by cases xs <;> rfl
  | i :: is, [], σ, _ => rfl
  | i :: is, x :: xs, σ, h => by
    unfold setAll
    rw [wipe_setAll is xs _ fun j hj => h j (List.mem_cons_of_mem _ hj), wipe_set (h i List.mem_cons_self)]
theorem wipe_wipe {σ : L2.St} (vs : List Nat) : wipe (wipe σ vs) vs = wipe σ vs := by
  have key : ∀ (ws us : List Nat) (σ : L2.St), (∀ w ∈ ws, w ∈ us) → wipe (wipe σ ws) us = wipe σ us := fun ws => by
    induction ws with
    | nil => intro us σ _; rfl
    | cons w ws ih =>
      intro us σ h
      rw [show wipe σ (w :: ws) = (wipe σ ws).set w none from rfl, wipe_set (h w List.mem_cons_self)]
      exact ih us σ fun x hx => h x (List.mem_cons_of_mem _ hx)
  exact key vs vs σ fun _ h => h
section
variable {X : Cx} {W : WX} {pos : Pos}
/-- the loop of a comprehension, by HandS's word -/
theorem lc_word {K : PySem.W.Frag} {J : It} {items : List D} {guard : DG → Prop} {tg : Tg} {tt : DTT} {te : DTE} {vs : List Nat} {env : DSt} {σ : L2.St} {F1 : FS} {G1 : DG} {H1 : Hp} {D1 : Addr} {P : List D → DG → Prop} {Q : VK} (hv : tgIn tg vs = true) (hlen : items.length ≤ 16000000)
    (g1 : RelG K T F1 G1 H1) (r1 : RelSt K F1 H1 env σ) (ok : IterOk K T F1 G1 H1 J items guard) (hD : H1 D1 = none) (l : dLcL tg tt te guard (wipeD env vs) items G1 P)
    (fin : ∀ ys F2 G2 H2 ws, P ys G2 → Step F1 G1 H1 F2 G2 H2 → RelG K T F2 G2 H2 → H2 D1 = some (.lst ws) → ¬ F2 D1 → G2 D1 = none → RelDs K F2 H2 ys ws → Q (.ref D1) H2) :
    ∃ Wd : Nat → Nat → Hp → Prop, (∃ m, Wd 0 m (upd H1 D1 (.lst []))) ∧ ∀ i m H, Wd i m H →
      (J.stop i H ∧ Q (.ref D1) H) ∨ (J.go i H ∧ ∃ Nx : Hp → Prop, (∀ H', Nx H' → ∃ m', m' < m ∧ Wd (i + 1) m' H') ∧ ∀ x H', J.yld i H x H' → vTg K tg x (wipe σ vs) H' fun σ2 H2 => wipe σ2 vs = wipe σ vs ∧ liftT K T WF tt σ2 H2 fun b H3 =>
        if b = true then liftE K T WF te σ2 H3 fun y H4 => ∃ acc, H4 D1 = some (.lst acc) ∧ acc.length < sizeLine ∧ Nx (upd H4 D1 (.lst (acc ++ [y]))) else Nx H3) := by
  refine ⟨fun i m H => m = items.length - i ∧ i ≤ items.length ∧ ∃ F G ys ws, Step F1 G1 H1 F G H ∧ RelG K T F G H ∧ H D1 = some (.lst ws) ∧ ¬ F D1 ∧ G D1 = none ∧ RelDs K F H ys ws ∧ ys.length ≤ i ∧ dLcL tg tt te guard (wipeD env vs) (items.drop i) G fun zs G2 => P (ys ++ zs) G2,
    ⟨_, rfl, Nat.zero_le _, F1, G1, [], [], Step.priv hD, g1.priv hD, upd_same, g1.nof hD, g1.free hD, rfl, Nat.le_refl _, by rw [List.drop_zero]; exact l⟩, ?_⟩
  rintro i m H ⟨rfl, hi, F, G, ys, ws, s2, g2, eD, fD, gD, rel, hyl, l⟩
  by_cases hlt : i < items.length
  · right
    rw [List.drop_eq_getElem_cons hlt] at l
    obtain ⟨gd, l⟩ := l
    obtain ⟨hgo, hy⟩ := (ok i F G H s2 g2 gd).1 items[i] (List.getElem?_eq_getElem hlt)
    refine ⟨hgo, fun H' => ∃ F G ys ws, Step F1 G1 H1 F G H' ∧ RelG K T F G H' ∧ H' D1 = some (.lst ws) ∧ ¬ F D1 ∧ G D1 = none ∧ RelDs K F H' ys ws ∧ ys.length ≤ i + 1 ∧ dLcL tg tt te guard (wipeD env vs) (items.drop (i + 1)) G fun zs G2 => P (ys ++ zs) G2,
      fun H' w => ⟨items.length - (i + 1), by omega, rfl, hlt, w⟩, fun x H3 y => ?_⟩
    obtain ⟨F3, s3, g3, r3⟩ := hy x H3 y
    have s13 := s2.trans s3
    refine tg_run (relSt_wipe (r1.step s13) vs) r3 l fun env4 σ4 p4 r4 e4 => ⟨?_, ?_⟩
    · obtain ⟨us, e4⟩ := e4
      rw [e4]
      cases tg with
      | n j => exact (wipe_set (by simpa [tgIn] using hv)).trans (wipe_wipe vs)
      | t js => exact (wipe_setAll js us _ (by simpa [tgIn] using hv)).trans (wipe_wipe vs)
    · refine ⟨env4, F3, G, EF, _, g3, r4, (fun _ _ _ _ _ _ _ _ z => z.elim), p4, fun b F5 G5 H5 p5 s5 g5 => ?_⟩
      obtain ⟨fd3, gd3, e3⟩ := s3.pv D1 _ fD gD eD rfl
      obtain ⟨fd5, gd5, e5⟩ := s5.pv D1 _ fd3 gd3 e3 rfl
      cases b with
      | false =>
        rw [if_neg Bool.false_ne_true] at p5 ⊢
        exact ⟨F5, G5, ys, ws, s13.trans s5, g5, e5, fd5, gd5, RelDs.step (s3.trans s5) ys rel, by omega, p5⟩
      | true =>
        rw [if_pos rfl] at p5 ⊢
        refine ⟨env4, F5, G5, EF, _, g5, r4.step s5, (fun _ _ _ _ _ _ _ _ z => z.elim), p5, fun y F6 G6 v6 H6 p6 s6 g6 r6 => ?_⟩
        obtain ⟨fd6, gd6, e6⟩ := s6.pv D1 _ fd5 gd5 e5 rfl
        have rel6 := RelDs.step (s3.trans (s5.trans s6)) ys rel
        refine ⟨ws, e6, by rw [← rel6.length]; exact Nat.lt_of_lt_of_le (Nat.lt_of_le_of_lt hyl (Nat.lt_of_lt_of_le hlt hlen)) (by decide), ?_⟩
        refine ⟨F6, G6, ys ++ [y], ws ++ [v6], ((s13.trans s5).trans s6).wr hD, g6.wr fd6 gd6 e6 rfl, upd_same, fd6, gd6, RelDs.kept (kept_wr fd6) _ (rel6.append ⟨v6, [], rfl, r6, rfl⟩), by rw [List.length_append]; simp; omega, ?_⟩
        have : (fun zs G2 => P (ys ++ [y] ++ zs) G2) = fun zs G2 => P (ys ++ y :: zs) G2 := by funext zs G2; simp
        rw [this]
        exact p6
  · left
    have e : i = items.length := by omega
    subst e
    rw [List.drop_length] at l
    obtain ⟨gd, l⟩ := l
    rw [List.append_nil] at l
    exact ⟨(ok _ F G H s2 g2 gd).2 rfl, fin ys F G H ws l s2 g2 eD fD gD rel⟩
end
end DL

namespace DL
open PySem PySem.Spec PyProof.Rows L2
variable {T : LT}
/-! ### what an iterator of our own draws from: a list, a tuple, a text -/
inductive SK where
  | l (a : Addr) | t (a : Addr) | s (x : Str)
def SK.at : SK → List Addr
  | .l a => [a]
  | .t a => [a]
  | .s _ => []
def tnS : SK → Addr → Nat → Heap → Prop
  | .l a, it, i, h => h.IsListIter it a i
  | .t a, it, i, h => h.IsTupleIter it a i
  | .s x, it, i, h => ∃ tk, h.IsStrIter it (strIterType x) x tk i
def signV (x : Str) : List V := x.cps.toList.map fun c => V.str ⟨#[c]⟩
def rdS (K : PySem.W.Frag) (H : Hp) : SK → List V → Prop
  | .l a, xs => SqL K H a xs
  | .t a, xs => SqT K H a xs
  | .s x, xs => xs = signV x
def kvS : SK → V
  | .l a => .ref a
  | .t a => .ref a
  | .s x => .str x
theorem tnS_at {k : SK} {it : Addr} {i : Nat} {h h' : Heap} (st : tnS k it i h) (e : ∀ o, h.get? it = some o → h'.get? it = some o) : tnS k it i h' := by
  cases k with
  | l a => exact Heap.IsListIter.at st e
  | t a => exact Heap.IsTupleIter.at st e
  | s x =>
    obtain ⟨tk, o, ho, r⟩ := st
    exact ⟨tk, o, e o ho, r⟩
theorem tnS_obj {k : SK} {it : Addr} {i : Nat} {h : Heap} (st : tnS k it i h) : ∃ o, h.get? it = some o ∧ ∀ v, o.data ≠ .cell v := by
  cases k with
  | l a => obtain ⟨o, ho, _, d⟩ := st; exact ⟨o, ho, fun v q => by rw [d] at q; cases q⟩
  | t a => obtain ⟨o, ho, _, d⟩ := st; exact ⟨o, ho, fun v q => by rw [d] at q; cases q⟩
  | s x => obtain ⟨tk, o, ho, _, d⟩ := st; exact ⟨o, ho, fun v q => by rw [d] at q; cases q⟩
section
variable {X : Cx} {pins : List (Addr × Obj)} {σ : L2.St} {H : Hp} {s : Shared}
theorem rdS_inj {k : SK} {xs ys : List V} (I : Inv X pins σ H s) (h : rdS X.K H k xs) (h' : rdS X.K H k ys) : xs = ys := by
  cases k with
  | l a => exact I.list_inj h h'
  | t a => exact I.tuple_inj h h'
  | s x => rw [show xs = _ from h, show ys = _ from h']
/-- the source draws, seen at one state -/
theorem rdS_draws {k : SK} {xs : List V} {it : Addr} {i : Nat} (I : Inv X pins σ H s) (hh : X.A.handled = none) (r : rdS X.K H k xs) (st : tnS k it i s.heap) (hne : it ∉ k.at) :
    ∃ (P : Nat → Value → Prop) (St : Nat → Heap → Prop), Draws X.prog X.w X.A.in1 it (it :: k.at) xs.length P St ∧ St i s.heap ∧ (∀ j v, j < xs.length → P j v → ∃ x, xs[j]? = some x ∧ RelV x v) ∧ ∀ j h, St j h → tnS k it j h := by
  cases k with
  | l a =>
    obtain ⟨its, rv, p, _⟩ := I.list r
    have hl := rv.length
    have D := Draws.list (prog := X.prog) (w := X.w) (A := X.A.in1) hh it a (fun z => hne (by simp [SK.at, z])) its.toArray
    rw [show its.toArray.size = xs.length by simp [hl]] at D
    refine ⟨_, _, D, ⟨st, p.isList⟩, fun j v hj e => ?_, fun j h st => st.1⟩
    have hx : xs[j]? = some xs[j] := List.getElem?_eq_getElem hj
    obtain ⟨u, hu, ru⟩ := rv.get hx
    refine ⟨_, hx, ?_⟩
    simp only [List.getElem?_toArray] at e
    rw [hu] at e
    cases e
    exact ru
  | t a =>
    obtain ⟨its, rv, p, _⟩ := I.tuple r
    have hl := rv.length
    have D := Draws.tuple (prog := X.prog) (w := X.w) (A := X.A.in1) hh it a (fun z => hne (by simp [SK.at, z])) its.toArray
    rw [show its.toArray.size = xs.length by simp [hl]] at D
    refine ⟨_, _, D, ⟨st, p⟩, fun j v hj e => ?_, fun j h st => st.1⟩
    have hx : xs[j]? = some xs[j] := List.getElem?_eq_getElem hj
    obtain ⟨u, hu, ru⟩ := rv.get hx
    refine ⟨_, hx, ?_⟩
    simp only [List.getElem?_toArray] at e
    rw [hu] at e
    cases e
    exact ru
  | s x =>
    obtain ⟨tk, st⟩ := st
    have hl : x.cps.size = xs.length := by rw [show xs = _ from r]; simp [signV]
    refine ⟨_, _, hl ▸ Draws.text (A := X.A.in1) hh it x tk, st, fun j v hj e => ?_, fun j h st => ⟨tk, st⟩⟩
    obtain ⟨c, u, hc, rfl⟩ := e
    refine ⟨.str ⟨#[c]⟩, ?_, ⟨u, rfl⟩⟩
    rw [show xs = _ from r]
    simp [signV, hc]
def obS : SK → Value → Obj
  | .l a, _ => { cls := .type "list_iterator", data := .fields #[.ref a, .int 0 0] }
  | .t a, _ => { cls := .type "tuple_iterator", data := .fields #[.ref a, .int 0 0] }
  | .s x, v => { cls := .type (strIterType x), data := .fields #[v, .int 0 0] }
theorem rdS_begins {k : SK} {xs : List V} {v : Value} (I : Inv X pins σ H s) (r : rdS X.K H k xs) (rv : RelV (kvS k) v) : ∃ Hp, Begins v (obS k v) Hp ∧ Hp s.heap ∧ (∀ a ∈ k.at, a < s.heap.objs.size) ∧ ∀ it h, h.get? it = some (obS k v) → tnS k it 0 h := by
  cases k with
  | l a =>
    obtain ⟨its, rv', p, _⟩ := I.list r
    obtain rfl : v = Value.ref a := rv
    exact ⟨_, begins_list a its.toArray, p.isList, fun b hb => by rw [List.mem_singleton.mp hb]; exact p.lt, fun it h e => ⟨_, e, rfl, rfl⟩⟩
  | t a =>
    obtain ⟨its, rv', p, _⟩ := I.tuple r
    obtain rfl : v = Value.ref a := rv
    exact ⟨_, begins_tuple a its.toArray, p, fun b hb => by rw [List.mem_singleton.mp hb]; obtain ⟨o, ho, _⟩ := p; exact Heap.lt_size ho, fun it h e => ⟨_, e, rfl, rfl⟩⟩
  | s x =>
    obtain ⟨tk, rfl⟩ : ∃ tk, v = Value.str x tk := rv
    exact ⟨fun _ => True, begins_text x tk, trivial, fun b hb => (by cases hb), fun it h e => ⟨tk, _, e, rfl, rfl⟩⟩
end
/-- pairs drawn from two -/
def ItZ (K : PySem.W.Frag) (k1 k2 : SK) : It :=
  ⟨fun i H => ∃ (xs ys : List V), rdS K H k1 xs ∧ rdS K H k2 ys ∧ i < min xs.length ys.length,
    fun i H v H' => ∃ T x y, v = .ref T ∧ H T = none ∧ H' = upd H T (.tup [x, y]) ∧ (∀ xs, rdS K H k1 xs → xs[i]? = some x) ∧ ∀ ys, rdS K H k2 ys → ys[i]? = some y,
    fun i H => ∃ xs ys : List V, rdS K H k1 xs ∧ rdS K H k2 ys ∧ i = min xs.length ys.length⟩
theorem turn_Z {P : Program} {w : World} {K : PySem.W.Frag} {elts : List Expr} {kk : Nat} {tpos : Pos} {k1 k2 : SK} {z TI TO i1 i2 : Addr} (D : ZipSep2 z TI TO i1 i2 (i1 :: k1.at) (i2 :: k2.at)) (n1 : i1 ∉ k1.at) (n2 : i2 ∉ k2.at) :
    Turn P w K (.Tuple elts kk tpos) (ItZ K k1 k2) [z, TI, TO, i1, i2] z (fun i h => IsZip h z TI TO .none ∧ IsTupOf2 h TI (.ref i1) (.ref i2) ∧ (∃ x y, IsTupOf2 h TO x y) ∧ tnS k1 i1 i h ∧ tnS k2 i2 i h) where
  mem := by simp
  obj := fun i h st c hc => by
    obtain ⟨hz, hTI, ⟨x, y, hTO⟩, s1, s2⟩ := st
    have e' : c = z ∨ c = TI ∨ c = TO ∨ c = i1 ∨ c = i2 := by simpa using hc
    rcases e' with q | q | q | q | q
    · rw [q]; exact ⟨_, hz, fun v q => nomatch q⟩
    · rw [q]; exact ⟨_, hTI, fun v q => nomatch q⟩
    · rw [q]; exact ⟨_, hTO, fun v q => nomatch q⟩
    · rw [q]; exact tnS_obj s1
    · rw [q]; exact tnS_obj s2
  keep := fun i h h' st k => by
    obtain ⟨hz, hTI, ⟨x, y, hTO⟩, h1, h2⟩ := st
    exact ⟨k z (by simp) _ hz, k TI (by simp) _ hTI, ⟨x, y, k TO (by simp) _ hTO⟩, tnS_at h1 fun o q => k i1 (by simp) o q, tnS_at h2 fun o q => k i2 (by simp) o q⟩
  item := by
    intro X hP hw hK hc i pins s σ H E I hf st hg
    subst hP hw hK
    obtain ⟨hz, hTI, hTO, h1, h2⟩ := st
    obtain ⟨xs, ys, r1, r2, hlt⟩ := hg
    obtain ⟨P1, St1, D1, st1, p1, b1⟩ := rdS_draws I (I.ok.hd hc) r1 h1 n1
    obtain ⟨P2, St2, D2, st2, p2, b2⟩ := rdS_draws I (I.ok.hd hc) r2 h2 n2
    have fl : ∀ c ∈ [z, TI, TO, i1, i2], c < s.heap.objs.size := fun c hcm => by
      have e' : c = z ∨ c = TI ∨ c = TO ∨ c = i1 ∨ c = i2 := by simpa using hcm
      obtain ⟨x, y, hTO⟩ := hTO
      rcases e' with q | q | q | q | q
      · rw [q]; exact Heap.lt_size hz
      · rw [q]; exact Heap.lt_size hTI
      · rw [q]; exact Heap.lt_size hTO
      · rw [q]; obtain ⟨o, ho, _⟩ := tnS_obj h1; exact Heap.lt_size ho
      · rw [q]; obtain ⟨o, ho, _⟩ := tnS_obj h2; exact Heap.lt_size ho
    refine (GoesN.zip2 (elts := elts) (x1 := kk) (pos := tpos) D D1 D2).goes i s (fun u s2 => ∃ x H', Inv X pins σ H' s2 ∧ RelV x u ∧ (ItZ X.K k1 k2).yld i H x H' ∧ (IsZip s2.heap z TI TO .none ∧ IsTupOf2 s2.heap TI (.ref i1) (.ref i2) ∧ (∃ x y, IsTupOf2 s2.heap TO x y) ∧ tnS k1 i1 (i + 1) s2.heap ∧ tnS k2 i2 (i + 1) s2.heap) ∧ ∀ b ∈ [z, TI, TO, i1, i2], H' b = none) E hlt ⟨hz, hTI, hTO, st1, st2⟩ ?_
    intro v h' tk hy hst hk ht
    obtain ⟨T, x, y, rfl, hT, px, py, hTup⟩ := hy
    obtain ⟨vx, ex, rx⟩ := p1 i x (by omega) px
    obtain ⟨vy, ey, ry⟩ := p2 i y (by omega) py
    have hfr : H T = none := I.hok.fresh hT
    have new : ObjOk X.prog X.w (upd H T (.tup [vx, vy])) h' T (.tup [vx, vy]) := ⟨by show 2 ≤ sizeLine; decide, [x, y], .cons rx (.cons ry .nil), hTup⟩
    refine ⟨.ref T, _, I.turnedNew (t' := tk) (ch := [z, TI, TO, i1, i2]) (fun c o hb q => hk c o (fun hm => hb ?_) q) hf hT new, rfl, ⟨T, vx, vy, rfl, hfr, rfl, fun l hl => by rw [rdS_inj I hl r1]; exact ex, fun l hl => by rw [rdS_inj I hl r2]; exact ey⟩, ⟨hst.1, hst.2.1, hst.2.2.1, b1 _ _ hst.2.2.2.1, b2 _ _ hst.2.2.2.2⟩, fun b hb => ?_⟩
    · have e' : c = z ∨ c = TO ∨ c = i1 ∨ c = i2 := by simpa using hm
      rcases e' with q | q | q | q <;> simp [q]
    · rw [upd_ne (Nat.ne_of_lt (Nat.lt_of_lt_of_le (fl b hb) hT))]
      exact (hf b hb).1
  done := by
    intro X hP hw hK hc i pins s σ H E I hf st hg
    subst hP hw hK
    obtain ⟨hz, hTI, hTO, h1, h2⟩ := st
    obtain ⟨xs, ys, r1, r2, rfl⟩ := hg
    obtain ⟨P1, St1, D1, st1, p1, b1⟩ := rdS_draws I (I.ok.hd hc) r1 h1 n1
    obtain ⟨P2, St2, D2, st2, p2, b2⟩ := rdS_draws I (I.ok.hd hc) r2 h2 n2
    refine (GoesN.zip2 (elts := elts) (x1 := kk) (pos := tpos) D D1 D2).stops s (fun s1 => Inv X pins σ H s1) E ⟨hz, hTI, hTO, st1, st2⟩ fun h' tk hk ht => ?_
    exact I.turnedL (t' := tk) (ch := [z, TI, TO, i1, i2]) (fun c o hb q => hk c o (fun hm => hb (by
      have e' : c = z ∨ c = TO ∨ c = i1 ∨ c = i2 := by simpa using hm
      rcases e' with q | q | q | q <;> simp [q])) q) hf
  self := fun A i s Q E st h => wpAny_pyIter_zip st.1 h
def iZ (K : PySem.W.Frag) (ta : TA) : TI := fun σ H R => ta σ H fun vs H1 => ∃ k1 k2 xs ys, vs = [kvS k1, kvS k2] ∧ rdS K H1 k1 xs ∧ rdS K H1 k2 ys ∧ R (ItZ K k1 k2) H1
theorem pi_Z {X : Cx} {e e2 : Expr} {ta : TA} {p pos tpos : Pos} {elts : List Expr} {kk : Nat} (hg : Gl X "zip") (hm : X.mg "zip" = none) (ha : PA X [e, e2] ta)
    (hs : starEach [e, e2] X.env = (false, eval e X.env) :: starEach [e2] X.env := by rfl) (hpl : (backTo pos (starEach [e2] X.env)).any (·.1) = false := by rfl) :
    PI X (.Tuple elts kk tpos) (.Call (.Name "zip" p) [e, e2] [] pos) (iZ X.K ta) := by
  refine ⟨fun pins s σ H R I h => ?_⟩
  refine Call_ (ld_blt I hg hm PyProof.Rows.boot_zip (PyProof.Rows.callWith_type1 (thn (ha.run pos pins s σ H _ I h) fun us s1 ⟨vs, H1, I1, r1, q1⟩ => ?_) hs hpl))
  obtain ⟨k1, k2, xs, ys, rfl, d1, d2, q⟩ := q1
  cases r1 with
  | cons r rr =>
    cases rr with
    | cons r' rr =>
      cases rr
      rename_i u1 u2
      obtain ⟨Hp1, B1, hp1, l1, t1⟩ := rdS_begins I1 d1 r
      obtain ⟨Hp2, B2, hp2, l2, t2⟩ := rdS_begins I1 d2 r'
      refine zip_begins2 B1 B2 hp1 hp2 fun h' hz hTI hTO h1 h2 hsz hk => wpAny_pyIter_zip hz ?_
      have I2 : Inv X pins σ H1 { s1 with heap := h' } := I1.kept (t' := s1.toks) hk
      have fresh5 : ∀ c, c ∈ [s1.heap.objs.size + 4, s1.heap.objs.size + 2, s1.heap.objs.size + 3, s1.heap.objs.size, s1.heap.objs.size + 1] → FpOk X pins H1 c := fun c hcm => by
        have hle : s1.heap.objs.size ≤ c := by
          simp only [List.mem_cons, List.not_mem_nil, or_false] at hcm
          rcases hcm with z | z | z | z | z
          · exact z ▸ Nat.le_add_right _ _
          · exact z ▸ Nat.le_add_right _ _
          · exact z ▸ Nat.le_add_right _ _
          · exact z ▸ Nat.le_refl _
          · exact z ▸ Nat.le_add_right _ _
        exact I1.fpOk hle (I1.hok.fresh hle)
      exact ⟨s1.heap.objs.size + 4, [s1.heap.objs.size + 4, s1.heap.objs.size + 2, s1.heap.objs.size + 3, s1.heap.objs.size, s1.heap.objs.size + 1], _, _, H1, rfl, I2, turn_Z (zip_sep2 l1 l2) (fun hm => Nat.lt_irrefl _ (l1 _ hm)) (fun hm => Nat.not_succ_lt_self (l2 _ hm)), ⟨hz, hTI, ⟨_, _, hTO⟩, t1 _ _ h1, t2 _ _ h2⟩, fresh5, q⟩

theorem enum_new1 {v : Value} {o : Obj} {H : Heap → Prop} (B : Begins v o H) :
    Meets (Builtin.«enumerate.__new__» ⟨[.type "enumerate", v], []⟩) (fun _ R s => H s.heap ∧
      R (.ok (.ret (.ref (s.heap.push o).objs.size))) { s with heap := (s.heap.push o).push { cls := .type "enumerate", data := .fields #[.none, .bool false, .ref s.heap.objs.size, rawInt 0, .none, .none] } }) :=
  .of_wp fun prog w A R s h => by
    obtain ⟨hp, g, d, tk, os⟩ := s
    obtain ⟨h1, h⟩ := h
    have hsub := sub_enumerate
    have q1 : ∀ {A' : Around} {E : Value → Shared → Prop} {Q : Value → Shared → Prop}, Q (.ref hp.objs.size) ⟨hp.push o, g, d, tk, os⟩ → wpAny (model prog w) A' (pyIter v) Q E ⟨hp, g, d, tk, os⟩ := fun q => B.iter prog w _ _ ⟨hp, g, d, tk, os⟩ _ h1 q
    wp_walk using q1
    refine wpAny_stack_any fun st => wpAny_pure ?_
    split
    · rename_i c _ _ _ _ _
      cases (c == Value.type "enumerate") <;> (wp_walk using q1; exact ⟨_, rfl, h⟩)
    · wp_walk using q1
      exact ⟨_, rfl, h⟩
theorem enum_begins1 {prog : Program} {w : World} {A : Around} {E : Value → Shared → Prop} {s : Shared} {v : Value} {o : Obj} {H : Heap → Prop} {Q : Value → Shared → Prop} (B : Begins v o H) (h1 : H s.heap)
    (h : ∀ h', IsEnum h' (s.heap.objs.size + 1) s.heap.objs.size 0 .none → h'.get? s.heap.objs.size = some o → (∀ b o, s.heap.get? b = some o → h'.get? b = some o) → Q (.ref (s.heap.objs.size + 1)) { s with heap := h' }) :
    wpAny (model prog w) A (call (.type "enumerate") [v]) Q E s := by
  refine callType_new F.called_enumerate (by decide) (F.typeCall_enumerate_1 _) (F.newCall_enumerate_1 _) (fun obj => F.args_object_init_2 obj _) F.entry_enumerate_new (enum_new1 B) ⟨h1, ?_⟩
  have hz : (s.heap.push o).objs.size = s.heap.objs.size + 1 := Heap.size_push ..
  have he : IsEnum ((s.heap.push o).push { cls := .type "enumerate", data := .fields #[.none, .bool false, .ref s.heap.objs.size, rawInt 0, .none, .none] }) (s.heap.objs.size + 1) s.heap.objs.size 0 .none := by
    have e := Heap.get?_push_size (s.heap.push o) (o := { cls := .type "enumerate", data := .fields #[.none, .bool false, .ref s.heap.objs.size, rawInt 0, .none, .none] }) rfl
    rw [hz] at e
    exact e
  show _ ∧ _
  rw [hz]
  exact ⟨⟨_, he, rfl⟩, h _ he (Heap.get?_push_of_some _ (Heap.get?_push_size _ B.free)) fun b o x => Heap.get?_push_of_some _ (Heap.get?_push_of_some _ x)⟩
def ItE (K : PySem.W.Frag) (k : SK) : It :=
  ⟨fun i H => ∃ xs : List V, rdS K H k xs ∧ i < xs.length,
    fun i H v H' => ∃ T x, v = .ref T ∧ H T = none ∧ H' = upd H T (.tup [.int (i : Nat), x]) ∧ ∀ xs, rdS K H k xs → xs[i]? = some x,
    fun i H => ∃ xs : List V, rdS K H k xs ∧ i = xs.length⟩
theorem turn_E {P : Program} {w : World} {K : PySem.W.Frag} {elts : List Expr} {kk : Nat} {tpos : Pos} {k : SK} {e it : Addr} (hne : e ≠ it) (he : e ∉ k.at) (hi : it ∉ k.at) :
    Turn P w K (.Tuple elts kk tpos) (ItE K k) [e, it] e (fun i h => (∃ old, IsEnum h e it (0 + (i : Nat)) old) ∧ tnS k it i h) where
  mem := by simp
  obj := fun i h st b hb => by
    obtain ⟨⟨old, he⟩, h1⟩ := st
    have e' : b = e ∨ b = it := by simpa using hb
    rcases e' with z | z
    · rw [z]; exact ⟨_, he, fun v q => nomatch q⟩
    · rw [z]; exact tnS_obj h1
  keep := fun i h h' st k => let ⟨⟨old, he⟩, hi⟩ := st; ⟨⟨old, k e (by simp) _ he⟩, tnS_at hi fun o q => k it (by simp) o q⟩
  item := by
    intro X hP hw hK hc i pins s σ H E I hf st hg
    subst hP hw hK
    obtain ⟨hen, h1⟩ := st
    obtain ⟨xs, r1, hlt⟩ := hg
    obtain ⟨P1, St1, D1, st1, p1, b1⟩ := rdS_draws I (I.ok.hd hc) r1 h1 hi
    have fl : ∀ c ∈ [e, it], c < s.heap.objs.size := fun c hcm => by
      have e' : c = e ∨ c = it := by simpa using hcm
      obtain ⟨old, hen⟩ := hen
      rcases e' with q | q
      · rw [q]; exact Heap.lt_size hen
      · rw [q]; obtain ⟨o, ho, _⟩ := tnS_obj h1; exact Heap.lt_size ho
    refine (GoesN.enumFrom (elts := elts) (x1 := kk) (pos := tpos) 0 D1 e hne (fun hm => (List.mem_cons.mp hm).elim hne he) (by simp)).goes i s (fun u s2 => ∃ x H', Inv X pins σ H' s2 ∧ RelV x u ∧ (ItE X.K k).yld i H x H' ∧ ((∃ old, IsEnum s2.heap e it (0 + ((i + 1 : Nat) : Int)) old) ∧ tnS k it (i + 1) s2.heap) ∧ ∀ b ∈ [e, it], H' b = none) E hlt ⟨hen, st1⟩ ?_
    intro v h' tk hy hst hk ht
    obtain ⟨T, t, x, rfl, hT, px, hTup⟩ := hy
    obtain ⟨vx, ex, rx⟩ := p1 i x hlt px
    have hfr : H T = none := I.hok.fresh hT
    have new : ObjOk X.prog X.w (upd H T (.tup [.int (i : Nat), vx])) h' T (.tup [.int (i : Nat), vx]) := ⟨by show 2 ≤ sizeLine; decide, [.int (0 + (i : Int)) t, x], .cons ⟨t, by rw [Int.zero_add]⟩ (.cons rx .nil), hTup⟩
    exact ⟨.ref T, _, I.turnedNew (t' := tk) (ch := [e, it]) (fun c o hb q => hk c o hb q) hf hT new, rfl, ⟨T, vx, rfl, hfr, rfl, fun l hl => by rw [rdS_inj I hl r1]; exact ex⟩, ⟨hst.1, b1 _ _ hst.2⟩, fun b hb => by
      rw [upd_ne (Nat.ne_of_lt (Nat.lt_of_lt_of_le (fl b hb) hT))]
      exact (hf b hb).1⟩
  done := by
    intro X hP hw hK hc i pins s σ H E I hf st hg
    subst hP hw hK
    obtain ⟨hen, h1⟩ := st
    obtain ⟨xs, r1, rfl⟩ := hg
    obtain ⟨P1, St1, D1, st1, p1, b1⟩ := rdS_draws I (I.ok.hd hc) r1 h1 hi
    refine (GoesN.enumFrom (elts := elts) (x1 := kk) (pos := tpos) 0 D1 e hne (fun hm => (List.mem_cons.mp hm).elim hne he) (by simp)).stops s (fun s1 => Inv X pins σ H s1) E ⟨hen, st1⟩ fun h' tk hk ht => ?_
    exact I.turnedL (t' := tk) (ch := [e, it]) (fun c o hb q => hk c o hb q) hf
  self := fun A i s Q E st h => let ⟨⟨_, he⟩, _⟩ := st; wpAny_pyIter_enum he h
def iE (K : PySem.W.Frag) (ta : TA) : TI := fun σ H R => ta σ H fun vs H1 => ∃ k xs, vs = [kvS k] ∧ rdS K H1 k xs ∧ R (ItE K k) H1
theorem pi_E {X : Cx} {e : Expr} {ta : TA} {p pos tpos : Pos} {elts : List Expr} {kk : Nat} (hg : Gl X "enumerate") (hm : X.mg "enumerate" = none) (ha : PA X [e] ta) (hs : starEach [e] X.env = [(false, eval e X.env)] := by rfl) :
    PI X (.Tuple elts kk tpos) (.Call (.Name "enumerate" p) [e] [] pos) (iE X.K ta) := by
  refine ⟨fun pins s σ H R I h => ?_⟩
  refine Call_ (ld_blt I hg hm boot_enumerate (PyProof.Rows.callWith_type1 (thn (ha.run pos pins s σ H _ I h) fun us s1 ⟨vs, H1, I1, r1, q1⟩ => ?_) hs rfl))
  obtain ⟨k, xs, rfl, d1, q⟩ := q1
  cases r1 with
  | cons r rr =>
    cases rr
    obtain ⟨Hp1, B1, hp1, l1, t1⟩ := rdS_begins I1 d1 r
    refine enum_begins1 B1 hp1 fun h' he hit hk => wpAny_pyIter_enum he ?_
    have I2 : Inv X pins σ H1 { s1 with heap := h' } := I1.kept (t' := s1.toks) hk
    refine ⟨s1.heap.objs.size + 1, [s1.heap.objs.size + 1, s1.heap.objs.size], _, _, H1, rfl, I2, turn_E (Nat.succ_ne_self _) (fun hm => Nat.not_succ_lt_self (l1 _ hm)) (fun hm => Nat.lt_irrefl _ (l1 _ hm)), ⟨⟨.none, he⟩, t1 _ _ hit⟩, fun b hb => ?_, q⟩
    have hle : s1.heap.objs.size ≤ b := by
      simp only [List.mem_cons, List.not_mem_nil, or_false] at hb
      rcases hb with z | z
      · exact z ▸ Nat.le_add_right _ _
      · exact z ▸ Nat.le_refl _
    exact I1.fpOk hle (I1.hok.fresh hle)
end DL

namespace DL
open PySem PySem.Spec PyProof.Rows L2
variable {T : LT}
/-! ### any source, item by item -/
def ItS (K : PySem.W.Frag) : SK → It
  | .l a => Itl K a
  | .t a => Itt K a
  | .s x => Its x
def iS (K : PySem.W.Frag) (te : TE) : TI := fun σ H R => te σ H fun v H1 => ∃ k xs, v = kvS k ∧ rdS K H1 k xs ∧ R (ItS K k) H1
theorem pi_S {X : Cx} {tg e : Expr} {te : TE} (he : PE X e te) : PI X tg e (iS X.K te) := by
  refine ⟨fun pins s σ H R I h => ?_⟩
  refine thn (he.run pins s σ H _ I h) fun v s1 ⟨x, H1, I1, r1, k, xs, ex, d, q⟩ => ?_
  subst ex
  obtain ⟨Hp1, B, hp, _, t⟩ := rdS_begins I1 d r1
  refine B.iter _ _ _ _ s1 _ hp ?_
  have st := t s1.heap.objs.size (s1.heap.push (obS k v)) (Heap.get?_push_size _ B.free)
  cases k with
  | l a => exact pi_one (tk := s1.toks) I1 _ (turn_list a _) st q
  | t a => exact pi_one (tk := s1.toks) I1 _ (turn_tuple a _) st q
  | s x =>
    obtain ⟨tk, st⟩ := st
    refine pi_one (tk := s1.toks) I1 _ (turn_str _ x tk (strIterType x) ?_) st q
    unfold strIterType
    split
    · exact .inl rfl
    · exact .inr rfl
def signsD (s : String) : List D := s.toList.map fun c => .str (String.singleton c)
def iterD (G : DG) : D → Option (List D)
  | .tup xs => some xs
  | .str s => some (signsD s)
  | d => asL G d
def adr : V → Addr
  | .ref a => a
  | _ => 0
def kD : D → V → SK
  | .tup _, v => .t (adr v)
  | .str s, _ => .s (S s)
  | _, v => .l (adr v)
theorem S_single (c : Char) : S (String.singleton c) = ⟨#[c.toNat]⟩ := by
  unfold S
  rw [Str.ofString_eq_toList]
  simp
section
variable {K : PySem.W.Frag} {F : FS} {G : DG} {H : Hp}
theorem relDs_signs (s : String) : RelDs K F H (signsD s) (signV (S s)) := by
  unfold signsD signV
  rw [S_cps]
  induction s.toList with
  | nil => rfl
  | cons c cs ih => exact ⟨_, _, rfl, (show V.str _ = V.str (S (String.singleton c)) by rw [S_single]), ih⟩
theorem srcD {d : D} {v : V} {ds : List D} (hg : RelG K T F G H) (r : RelD K F H d v) (e : iterD G d = some ds) : v = kvS (kD d v) ∧ ∃ vs, rdS K H (kD d v) vs ∧ RelDs K F H ds vs := by
  have key : ∀ d', asL G d' = some ds → RelD K F H d' v → v = .ref (adr v) ∧ ∃ vs, SqL K H (adr v) vs ∧ RelDs K F H ds vs := fun d' e r => by
    obtain ⟨a, vs, rfl, h, k⟩ := asL_ok hg r e
    exact ⟨rfl, vs, .inl h, k⟩
  cases d with
  | tup xs =>
    cases e
    obtain ⟨a, vs, rfl, t, k⟩ := r
    exact ⟨rfl, vs, t.sq, k⟩
  | str s =>
    cases e
    exact ⟨r, _, rfl, relDs_signs s⟩
  | lst xs => exact key (.lst xs) e r
  | ref a => exact key (.ref a) e r
  | _ => cases e
end
/-! ranges -/
def intsFrom (lo : Int) : Nat → List D
  | 0 => []
  | n + 1 => .int lo :: intsFrom (lo + 1) n
theorem intsFrom_len : ∀ (n : Nat) (lo : Int), (intsFrom lo n).length = n
  | 0, _ => rfl
  | n + 1, lo => by simp [intsFrom, intsFrom_len n]
theorem intsFrom_get : ∀ (n : Nat) (lo : Int) (i : Nat), i < n → (intsFrom lo n)[i]? = some (.int (lo + i))
  | 0, _, i, h => by omega
  | n + 1, lo, 0, h => by simp [intsFrom]
  | n + 1, lo, i + 1, h => by
    simp only [intsFrom, List.getElem?_cons_succ]
    rw [intsFrom_get n (lo + 1) i (by omega)]
    congr 2
    omega
def dRange1 (ta : DTA) : DTI := fun E env G Q => ta E env G fun xs G1 => ∃ hi, xs = [.int hi] ∧ -(2 ^ 62) ≤ hi ∧ hi < 2 ^ 62 ∧ Q (intsFrom 0 hi.toNat) (fun _ => True) G1
def dRange2 (ta : DTA) : DTI := fun E env G Q => ta E env G fun xs G1 => ∃ lo hi, xs = [.int lo, .int hi] ∧ (-(2 ^ 62) ≤ lo ∧ lo < 2 ^ 62 ∧ -(2 ^ 62) ≤ hi ∧ hi < 2 ^ 62) ∧ Q (intsFrom lo (hi - lo).toNat) (fun _ => True) G1
def dIter (te : DTE) : DTI := fun E env G Q => te E env G fun d G1 => ∃ xs, iterD G1 d = some xs ∧ Q xs (fun G' => iterD G' d = some xs) G1
def zipD : List D → List D → List D
  | x :: xs, y :: ys => .tup [x, y] :: zipD xs ys
  | _, _ => []
def enumD (i : Nat) : List D → List D
  | [] => []
  | x :: xs => .tup [.int i, x] :: enumD (i + 1) xs
theorem zipD_len : ∀ xs ys : List D, (zipD xs ys).length = min xs.length ys.length
  | [], ys => by simp [zipD]
  | x :: xs, [] => by simp [zipD]
  | x :: xs, y :: ys => by simp [zipD, zipD_len xs ys]
theorem enumD_len : ∀ (xs : List D) (i : Nat), (enumD i xs).length = xs.length
  | [], _ => rfl
  | x :: xs, i => by simp [enumD, enumD_len xs]
theorem zipD_get : ∀ (xs ys : List D) (i : Nat) (d : D), (zipD xs ys)[i]? = some d → ∃ x y, xs[i]? = some x ∧ ys[i]? = some y ∧ d = .tup [x, y]
  | [], ys, i, d, e => by simp [zipD] at e
  | x :: xs, [], i, d, e => by simp [zipD] at e
  | x :: xs, y :: ys, 0, d, e => by
    simp only [zipD, List.getElem?_cons_zero, Option.some.injEq] at e
    exact ⟨x, y, rfl, rfl, e.symm⟩
  | x :: xs, y :: ys, i + 1, d, e => by
    simp only [zipD, List.getElem?_cons_succ] at e ⊢
    exact zipD_get xs ys i d e
theorem enumD_get : ∀ (xs : List D) (k i : Nat) (d : D), (enumD k xs)[i]? = some d → ∃ x, xs[i]? = some x ∧ d = .tup [.int ((k + i : Nat) : Int), x]
  | [], k, i, d, e => by simp [enumD] at e
  | x :: xs, k, 0, d, e => by
    simp only [enumD, List.getElem?_cons_zero, Option.some.injEq] at e
    exact ⟨x, rfl, e.symm⟩
  | x :: xs, k, i + 1, d, e => by
    simp only [enumD, List.getElem?_cons_succ] at e ⊢
    obtain ⟨y, h1, h2⟩ := enumD_get xs (k + 1) i d e
    exact ⟨y, h1, by rw [h2]; congr 3; omega⟩
def dZip (ta : DTA) : DTI := fun E env G Q => ta E env G fun xs G1 => ∃ a b as bs, xs = [a, b] ∧ iterD G1 a = some as ∧ iterD G1 b = some bs ∧ Q (zipD as bs) (fun G' => iterD G' a = some as ∧ iterD G' b = some bs) G1
def dEnum (ta : DTA) : DTI := fun E env G Q => ta E env G fun xs G1 => ∃ a as, xs = [a] ∧ iterD G1 a = some as ∧ Q (enumD 0 as) (fun G' => iterD G' a = some as) G1
section
variable {X : Cx} {W : WX} {pos p tpos : Pos} {tg e e2 : Expr} {te : DTE} {ta : DTA}
theorem qi_it (he : QE X T W e te) : QI X T W tg e (dIter te) :=
  PI.imp (pi_S he) fun σ H R ⟨env, F, G, E, P, hg, hs, hx, ht, hq⟩ => ⟨env, F, G, E, _, hg, hs, hx, ht, fun d F1 G1 v1 H1 ⟨ds, ed, p⟩ s1 g1 r1 => by
    obtain ⟨ek, vs, rd, rl⟩ := srcD g1 r1 ed
    refine ⟨_, vs, ek, rd, hq ds _ F1 G1 H1 _ p s1 g1 fun i F2 G2 H2 s2 g2 gd => ?_⟩
    obtain ⟨_, vs2, rd2, rl2⟩ := srcD g2 (RelD.step s2 d r1) gd
    have hl := rl2.length
    constructor
    · intro d' e'
      obtain ⟨x, ex, rx⟩ := rl2.get e'
      cases hk : kD d v1 with
      | l a =>
        rw [hk] at rd2
        exact ⟨⟨vs2, x, rd2, ex⟩, fun y H3 ⟨eH, hy⟩ => ⟨F2, by rw [eH]; exact ⟨Step.refl, g2, by have := hy vs2 rd2; rw [ex] at this; cases this; exact rx⟩⟩⟩
      | t a =>
        rw [hk] at rd2
        exact ⟨⟨vs2, x, rd2, ex⟩, fun y H3 ⟨eH, hy⟩ => ⟨F2, by rw [eH]; exact ⟨Step.refl, g2, by have := hy vs2 rd2; rw [ex] at this; cases this; exact rx⟩⟩⟩
      | s z =>
        rw [hk] at rd2
        have ez : vs2 = signV z := rd2
        subst ez
        have hi : i < z.cps.size := by
          have := (List.getElem?_eq_some_iff.mp ex).1
          simpa [signV] using this
        refine ⟨hi, ?_⟩
        rintro y H3 ⟨rfl, c, hc, ey⟩
        refine ⟨F2, Step.refl, g2, ?_⟩
        have : (signV z)[i]? = some y := by rw [ey]; simp [signV, hc]
        rw [ex] at this
        cases this
        exact rx
    · intro e'
      subst e'
      cases hk : kD d v1 with
      | l a => rw [hk] at rd2; exact ⟨vs2, rd2, Nat.le_of_eq hl.symm⟩
      | t a => rw [hk] at rd2; exact ⟨vs2, rd2, Nat.le_of_eq hl.symm⟩
      | s z =>
        rw [hk] at rd2
        show z.cps.size ≤ _
        rw [hl, show vs2 = signV z from rd2]
        simp [signV]⟩
theorem iterOk_rng {K : PySem.W.Frag} {F : FS} {G : DG} {H : Hp} (lo : Int) (n : Nat) : IterOk K T F G H (Itr lo n) (intsFrom lo n) fun _ => True := fun i F1 G1 H1 s1 g1 _ => by
  constructor
  · intro d e
    have hi : i < n := by
      have := (List.getElem?_eq_some_iff.mp e).1
      rwa [intsFrom_len] at this
    rw [intsFrom_get n lo i hi] at e
    cases e
    exact ⟨hi, fun x H2 ⟨eH, ex⟩ => ⟨F1, by rw [eH]; exact ⟨Step.refl, g1, ex⟩⟩⟩
  · intro e
    rw [intsFrom_len] at e
    exact Nat.le_of_eq e.symm
theorem qi_range1 (hg : Gl X "range") (hm : X.mg "range" = none) (ha : QA X T W [e] ta) (hs : starEach [e] X.env = [(false, eval e X.env)] := by rfl) : QI X T W tg (.Call (.Name "range" p) [e] [] pos) (dRange1 ta) :=
  PI.imp (pi_range1 hg hm ha hs) fun σ H R ⟨env, F, G, E, P, hg, hs, hx, ht, hq⟩ => ⟨env, F, G, E, _, hg, hs, hx, ht, fun ds F1 G1 vs H1 ⟨hi, er, b3, b4, p⟩ s1 g1 r1 => by
    subst er
    obtain ⟨v, r, rfl, ev, er⟩ := r1
    have e1 : v = .int hi := ev
    have e2 : r = [] := er
    subst e1 e2
    exact ⟨hi, rfl, b3, b4, hq _ _ F1 G1 H1 _ p s1 g1 (iterOk_rng 0 _)⟩⟩
theorem qi_range2 (hg : Gl X "range") (hm : X.mg "range" = none) (ha : QA X T W [e, e2] ta) (hs : starEach [e, e2] X.env = [(false, eval e X.env), (false, eval e2 X.env)] := by rfl) (hs2 : starEach [e2] X.env = [(false, eval e2 X.env)] := by rfl) :
    QI X T W tg (.Call (.Name "range" p) [e, e2] [] pos) (dRange2 ta) :=
  PI.imp (pi_range2 hg hm ha hs hs2) fun σ H R ⟨env, F, G, E, P, hg, hs, hx, ht, hq⟩ => ⟨env, F, G, E, _, hg, hs, hx, ht, fun ds F1 G1 vs H1 ⟨lo, hi, er, b, p⟩ s1 g1 r1 => by
    subst er
    obtain ⟨v, r, rfl, ev, v2, r2, rfl, ev2, er⟩ := r1
    have e1 : v = .int lo := ev
    have e2 : v2 = .int hi := ev2
    have e3 : r2 = [] := er
    subst e1 e2 e3
    exact ⟨lo, hi, rfl, b, hq _ _ F1 G1 H1 _ p s1 g1 (iterOk_rng lo _)⟩⟩
theorem qi_zip {elts : List Expr} {kk : Nat} (hg : Gl X "zip") (hm : X.mg "zip" = none) (ha : QA X T W [e, e2] ta)
    (hs : starEach [e, e2] X.env = (false, eval e X.env) :: starEach [e2] X.env := by rfl) (hpl : (backTo pos (starEach [e2] X.env)).any (·.1) = false := by rfl) :
    QI X T W (.Tuple elts kk tpos) (.Call (.Name "zip" p) [e, e2] [] pos) (dZip ta) :=
  PI.imp (pi_Z hg hm ha hs hpl) fun σ H R ⟨env, F, G, E, P, hg, hs, hx, ht, hq⟩ => ⟨env, F, G, E, _, hg, hs, hx, ht, fun ds F1 G1 vs H1 ⟨a, b, as, bs, er, ea, eb, p⟩ s1 g1 r1 => by
    subst er
    obtain ⟨v, r, rfl, rv, v2, r2, rfl, rv2, er⟩ := r1
    have e3 : r2 = [] := er
    subst e3
    obtain ⟨ek, us, rd, rl⟩ := srcD g1 rv ea
    obtain ⟨ek2, us2, rd2, rl2⟩ := srcD g1 rv2 eb
    refine ⟨kD a v, kD b v2, us, us2, by rw [← ek, ← ek2], rd, rd2, hq _ _ F1 G1 H1 _ p s1 g1 fun i F2 G2 H2 s2 g2 gd => ?_⟩
    obtain ⟨_, ws, rd3, rl3⟩ := srcD g2 (RelD.step s2 a rv) gd.1
    obtain ⟨_, ws2, rd4, rl4⟩ := srcD g2 (RelD.step s2 b rv2) gd.2
    have l3 := rl3.length
    have l4 := rl4.length
    constructor
    · intro d e
      have hlt := (List.getElem?_eq_some_iff.mp e).1
      rw [zipD_len] at hlt
      obtain ⟨x, y, ex, ey, rfl⟩ := zipD_get as bs i d e
      obtain ⟨vx, evx, rx⟩ := rl3.get ex
      obtain ⟨vy, evy, ry⟩ := rl4.get ey
      refine ⟨⟨ws, ws2, rd3, rd4, by omega⟩, ?_⟩
      rintro z H3 ⟨T, x', y', rfl, hT, rfl, f1, f2⟩
      have q1 := f1 ws rd3
      have q2 := f2 ws2 rd4
      rw [evx] at q1
      rw [evy] at q2
      cases q1
      cases q2
      exact ⟨_, Step.new hT, g2.new hT, relD_newTup g2 hT ⟨_, _, rfl, rx, _, _, rfl, ry, rfl⟩⟩
    · intro e
      rw [zipD_len] at e
      exact ⟨ws, ws2, rd3, rd4, by omega⟩⟩
theorem qi_enum {elts : List Expr} {kk : Nat} (hg : Gl X "enumerate") (hm : X.mg "enumerate" = none) (ha : QA X T W [e] ta) (hs : starEach [e] X.env = [(false, eval e X.env)] := by rfl) :
    QI X T W (.Tuple elts kk tpos) (.Call (.Name "enumerate" p) [e] [] pos) (dEnum ta) :=
  PI.imp (pi_E hg hm ha hs) fun σ H R ⟨env, F, G, E, P, hg, hs, hx, ht, hq⟩ => ⟨env, F, G, E, _, hg, hs, hx, ht, fun ds F1 G1 vs H1 ⟨a, as, er, ea, p⟩ s1 g1 r1 => by
    subst er
    obtain ⟨v, r, rfl, rv, er⟩ := r1
    have e3 : r = [] := er
    subst e3
    obtain ⟨ek, us, rd, rl⟩ := srcD g1 rv ea
    refine ⟨kD a v, us, by rw [← ek], rd, hq _ _ F1 G1 H1 _ p s1 g1 fun i F2 G2 H2 s2 g2 gd => ?_⟩
    obtain ⟨_, ws, rd3, rl3⟩ := srcD g2 (RelD.step s2 a rv) gd
    have l3 := rl3.length
    constructor
    · intro d e
      have hlt := (List.getElem?_eq_some_iff.mp e).1
      rw [enumD_len] at hlt
      obtain ⟨x, ex, rfl⟩ := enumD_get as 0 i d e
      obtain ⟨vx, evx, rx⟩ := rl3.get ex
      refine ⟨⟨ws, rd3, by omega⟩, ?_⟩
      rintro z H3 ⟨T, x', rfl, hT, rfl, f1⟩
      have q1 := f1 ws rd3
      rw [evx] at q1
      cases q1
      exact ⟨_, Step.new hT, g2.new hT, relD_newTup g2 hT ⟨_, _, rfl, (show V.int _ = V.int _ by rw [Nat.zero_add]), _, _, rfl, rx, rfl⟩⟩
    · intro e
      rw [enumD_len] at e
      exact ⟨ws, rd3, by omega⟩⟩
end
/-! ### comprehensions -/
abbrev QTs (X : Cx) (T : LT) (W : WX) (es : List Expr) (t : DTT) : Prop := PTs X es (liftT X.K T W t)
theorem PTs.imp {X : Cx} {es : List Expr} {t t' : TT} (h : PTs X es t) (k : ∀ σ H Q, t' σ H Q → t σ H Q) : PTs X es t' := ⟨fun pins s σ H Q I w => h.run pins s σ H Q I (k σ H Q w)⟩
theorem qts_nil {X : Cx} {W : WX} : QTs X T W [] dYes := PTs.imp pts_nil fun σ H Q ⟨env, F, G, E, P, hg, hs, hx, ht, hq⟩ => hq true F G H ht Step.refl hg
theorem qts_one {X : Cx} {W : WX} {c : Expr} {t : DTT} (h : QT X T W c t) : QTs X T W [c] t := pts_one h
section
variable {X : Cx} {W : WX} {elt tg iter : Expr} {ifs : List Expr} {scope : Scope} {own : List (Str × Nat)} {pos : Pos} {wi : DTI} {g : Tg} {tt : DTT} {te : DTE}
theorem lc_lift {vs : List Nat} (hv : tgIn g vs = true) {σ : L2.St} {H : Hp} {Q : VK} (h : liftE X.K T W (dLc wi g tt te vs) σ H Q) : tLc (liftI X.K T W wi) (vTg X.K g) (liftT X.K T WF tt) (liftE X.K T WF te) vs σ H Q := by
  obtain ⟨env, F, G, E, P, hg, hs, hx, ht, hq⟩ := h
  refine ⟨env, F, G, E, _, hg, hs, hx, ht, fun items guard F1 G1 H1 J p s1 g1 ok D1 hD => ?_⟩
  refine lc_word hv p.1 g1 (hs.step s1) ok hD p.2 fun ys F2 G2 H2 ws p2 s2 g2 e2 f2 gd2 rel => ?_
  exact hq (.lst ys) (fadd F2 D1) G2 _ H2 p2 (s1.trans (s2.frz hD)) (g2.frz gd2 e2 rfl) ⟨D1, ws, rfl, ⟨.of e2, .inl rfl⟩, RelDs.kept (fun b o f e => ⟨.inr f, o, e, .inl rfl⟩) ys rel⟩
theorem lcB_lift {vs : List Nat} (hv : tgIn g vs = true) {σ : L2.St} {H : Hp} {Q : VK} (h : liftE X.K T W (dLcB wi g tt te vs) σ H Q) : tLc (liftI X.K T W wi) (vTg X.K g) (liftT X.K T WF tt) (liftE X.K T WF te) vs σ H Q := by
  obtain ⟨env, F, G, E, P, hg, hs, hx, ht, hq⟩ := h
  refine ⟨env, F, G, E, _, hg, hs, hx, ht, fun items guard F1 G1 H1 J p s1 g1 ok D1 hD => ?_⟩
  refine lc_word hv p.1 g1 (hs.step s1) ok hD p.2 fun ys F2 G2 H2 ws p2 s2 g2 e2 f2 gd2 rel => ?_
  exact hq (.ref D1) F2 _ _ H2 (p2 D1 gd2) (s1.trans (s2.trk hD)) (g2.trk f2 gd2 e2 rfl ⟨ws, rfl, rel⟩) rfl
theorem q_lc (own : List (Str × Nat)) (hc : X.calm = true) (hN : X.N.Nodup) (hi : QI X T W tg iter wi) (ok : BlkOk X.N X.env.scope scope own) (hv : tgIn g (own.map (·.2)) = true)
    (hg : ∀ (s : Shared) (H : Hp) (C : Addr) (cl : List (Str × Addr)) (fp : List Addr), PG (X.blk s H scope (compEnvC scope cl C X.env) fp) tg (vTg X.K g)) (ht : ∀ (s : Shared) (H : Hp) (C : Addr) (cl : List (Str × Addr)) (fp : List Addr), QTs (X.blk s H scope (compEnvC scope cl C X.env) fp) T WF ifs tt)
    (he : ∀ (s : Shared) (H : Hp) (C : Addr) (cl : List (Str × Addr)) (fp : List Addr), QE (X.blk s H scope (compEnvC scope cl C X.env) fp) T WF elt te) (hs : ∀ x, foldedSetIterable iter X.env x = pure x := by intro _; rfl) :
    QE X T W (.ListComp elt [⟨tg, iter, ifs, 0⟩] scope pos) (dLc wi g tt te (own.map (·.2))) := PE.imp (pe_lc hc hN hi ok hg ht he hs) fun σ H Q h => lc_lift hv h
theorem q_lcB (own : List (Str × Nat)) (hc : X.calm = true) (hN : X.N.Nodup) (hi : QI X T W tg iter wi) (ok : BlkOk X.N X.env.scope scope own) (hv : tgIn g (own.map (·.2)) = true)
    (hg : ∀ (s : Shared) (H : Hp) (C : Addr) (cl : List (Str × Addr)) (fp : List Addr), PG (X.blk s H scope (compEnvC scope cl C X.env) fp) tg (vTg X.K g)) (ht : ∀ (s : Shared) (H : Hp) (C : Addr) (cl : List (Str × Addr)) (fp : List Addr), QTs (X.blk s H scope (compEnvC scope cl C X.env) fp) T WF ifs tt)
    (he : ∀ (s : Shared) (H : Hp) (C : Addr) (cl : List (Str × Addr)) (fp : List Addr), QE (X.blk s H scope (compEnvC scope cl C X.env) fp) T WF elt te) (hs : ∀ x, foldedSetIterable iter X.env x = pure x := by intro _; rfl) :
    QE X T W (.ListComp elt [⟨tg, iter, ifs, 0⟩] scope pos) (dLcB wi g tt te (own.map (·.2))) := PE.imp (pe_lc hc hN hi ok hg ht he hs) fun σ H Q h => lcB_lift hv h
variable {i : Nat} {y : Str} {py spos : Pos}
theorem asg_lift {t : DTE} {tv : TE} (h : ∀ σ H Q, liftE X.K T W t σ H Q → tv σ H Q) {D : Ends} {σ : L2.St} {H : Hp} (hw : liftS X.K T W (sSet i t) D σ H) : tAsg tv (gName i) D σ H := by
  obtain ⟨env, F, G, E, DE, hg, hs, hx, ht, hn, hr⟩ := hw
  exact h _ _ _ ⟨env, F, G, E, _, hg, hs, hx, ht, fun d F1 G1 v1 H1 p s1 g1 r1 => hn _ _ G1 _ H1 p s1 g1 ((hs.step s1).set r1)⟩
theorem qs_setLc (own : List (Str × Nat)) (hc : X.calm = true) (hN : X.N.Nodup) (hy : X.N[i]? = some y) (hyl : X.env.scope.names.lookup y = some .local)
    (hsw : swapsWith (.ListComp elt [⟨tg, iter, ifs, 0⟩] scope pos) (some (.Name y py)) spos.line X.env = pure true) (hi : QI X T W tg iter wi) (ok : BlkOk X.N X.env.scope scope own) (hv : tgIn g (own.map (·.2)) = true)
    (hg : ∀ (s : Shared) (H : Hp) (C : Addr) (cl : List (Str × Addr)) (fp : List Addr), PG (X.blk s H scope (compEnvC scope cl C X.env) fp) tg (vTg X.K g)) (ht : ∀ (s : Shared) (H : Hp) (C : Addr) (cl : List (Str × Addr)) (fp : List Addr), QTs (X.blk s H scope (compEnvC scope cl C X.env) fp) T WF ifs tt)
    (he : ∀ (s : Shared) (H : Hp) (C : Addr) (cl : List (Str × Addr)) (fp : List Addr), QE (X.blk s H scope (compEnvC scope cl C X.env) fp) T WF elt te) (hs : ∀ x, foldedSetIterable iter X.env x = pure x := by intro _; rfl) :
    QS X T W (.Assign [.Name y py] (.ListComp elt [⟨tg, iter, ifs, 0⟩] scope pos) spos) (sSet i (dLc wi g tt te (own.map (·.2)))) := PS.imp (ps_setLc hc hN hy hyl hsw hi ok hg ht he hs) fun D σ H h => asg_lift (fun _ _ _ => lc_lift hv) h
theorem qs_setLcB (own : List (Str × Nat)) (hc : X.calm = true) (hN : X.N.Nodup) (hy : X.N[i]? = some y) (hyl : X.env.scope.names.lookup y = some .local)
    (hsw : swapsWith (.ListComp elt [⟨tg, iter, ifs, 0⟩] scope pos) (some (.Name y py)) spos.line X.env = pure true) (hi : QI X T W tg iter wi) (ok : BlkOk X.N X.env.scope scope own) (hv : tgIn g (own.map (·.2)) = true)
    (hg : ∀ (s : Shared) (H : Hp) (C : Addr) (cl : List (Str × Addr)) (fp : List Addr), PG (X.blk s H scope (compEnvC scope cl C X.env) fp) tg (vTg X.K g)) (ht : ∀ (s : Shared) (H : Hp) (C : Addr) (cl : List (Str × Addr)) (fp : List Addr), QTs (X.blk s H scope (compEnvC scope cl C X.env) fp) T WF ifs tt)
    (he : ∀ (s : Shared) (H : Hp) (C : Addr) (cl : List (Str × Addr)) (fp : List Addr), QE (X.blk s H scope (compEnvC scope cl C X.env) fp) T WF elt te) (hs : ∀ x, foldedSetIterable iter X.env x = pure x := by intro _; rfl) :
    QS X T W (.Assign [.Name y py] (.ListComp elt [⟨tg, iter, ifs, 0⟩] scope pos) spos) (sSet i (dLcB wi g tt te (own.map (·.2)))) := PS.imp (ps_setLc hc hN hy hyl hsw hi ok hg ht he hs) fun D σ H h => asg_lift (fun _ _ _ => lcB_lift hv) h
end
end DL

namespace DL
open PySem PySem.Spec PyProof.Rows L2
/-! ### try with several clauses «except C as n» (one name n in all of them) -/
abbrev TSx := Addr → Value → Option Addr → TS
/-- leaving a clause the name is gone -/
def endsN (i : Nat) (D : Ends) : Ends := { nx := fun σ H => D.nx (σ.set i none) H, rt := D.rt, bk := fun σ H => D.bk (σ.set i none) H, ct := fun σ H => D.ct (σ.set i none) H }
def wAll (K : PySem.W.Frag) (i : Nat) (Wo : WX) (D : Ends) : List (Value × TSx) → WX
  | [] => Wo
  | (c, ts) :: r => fun cls d σ H => ∃ b, PySem.W.exmOne K cls c = some b ∧ (b = true → ∀ a, H a = none → ts a cls d (endsN i D) (σ.set i (some (.ref a))) H) ∧ (b = false → wAll K i Wo D r cls d σ H)
inductive HdN (X : Cx) (n : Str) : List ExceptHandler → List (Value × TSx) → Prop
  | nil : HdN X n [] []
  | cons {x : Str} {c : Value} {ts : TSx} {st : Stmt} {sts : List Stmt} {p1 p2 : Pos} {hds : List ExceptHandler} {l : List (Value × TSx)} (hx : Names X x c)
      (hsu : ∀ (a : Addr) (oe : Obj) (cls : Value) (d : Option Addr) (pn : List (Addr × Obj)), L2N.Zn cls d oe → (∃ vs, oe.data = .fields vs) → PSs (X.suite a ((a, oe) :: pn)) (st :: sts) (ts a cls d)) (r : HdN X n hds l) :
      HdN X n (.ExceptHandler (some (.Name x p1)) (some n) (st :: sts) p2 :: hds) ((c, ts) :: l)
section
variable {X : Cx} {body : List Stmt} {hd1 : ExceptHandler} {hds : List ExceptHandler} {l : List (Value × TSx)} {pos : Pos} {tb : WX → TS} {Wo : WX} {n : Str} {i : Nat}
theorem ps_tryN (hstk : X.stack = X.env :: X.outer) (hfrm : X.env.frame = some X.env.locals) (nd : X.N.Nodup) (hi : X.N[i]? = some n) (hk : X.env.kindOf n = some .local) (tk : L2N.Takes X Wo)
    (hb : ∀ (W : WX) (pn : List (Addr × Obj)) (xe : Value → Shared → Prop), L2N.Takes (X.tr pn xe) W → PassesOwn (model X.prog X.w) X.A X.env xe → PSs (X.tr pn xe) body (tb W))
    (hh : HdN X n (hd1 :: hds) l) : PS X (.Try body (hd1 :: hds) [] [] pos) (fun D σ H => tb (wAll X.K i Wo D l) D σ H) := by
  constructor
  intro pins s σ H D I hw
  have okX := I.ok
  have frX : X.A.frames = some (X.env :: X.outer) := okX.frames.trans (by rw [hstk])
  apply wpAny_Try_except
  have run := (hb (wAll X.K i Wo D l) (X.pn ++ pins) (fun e t1 => wpAny (model X.prog X.w) X.A (noteFrame e X.env) (fun _ t2 => wpAny (model X.prog X.w) X.A (setFlight e none)
    (fun _ t3 => wpAny (model X.prog X.w) X.A (handleBy e X.env (hd1 :: hds)) (SP X pins D) X.xe t3) X.xe t2) X.xe t1) ?caught PassesOwn.looking).run [] s σ H D (I.toTry _) hw
  case caught =>
    rintro u s' ⟨a, B, sI, pins', σ', H', cls, d, rfl, J', nb, up, sky, na, eos, ag, w⟩
    have J : Inv X pins σ' H' sI := J'.ofTry okX
    rw [show (X.tr (X.pn ++ pins) _).stack = X.env :: X.outer from hstk] at sky
    show wpAny (model X.prog X.w) X.A (noteFrame (.ref a) X.env) _ _ _
    apply L2N.Sky.land L2N.Zn.steady frX hfrm sky
    intro hq flq upq
    have Jq : Inv X pins σ' H' { s' with heap := hq } := J.landed nb flq.1 (up.trans upq) eos ag
    obtain ⟨oq, vq, getq, zq, dq⟩ := flq.there
    have nfr : a ∉ frs (X.env :: X.outer) := fun hm => by
      obtain ⟨_, o', e', hnf⟩ := flq.2.2.1.mem hm
      rw [getq] at e'
      cases e'
      exact hnf _ dq
    have nL : a ≠ X.env.locals := fun z => nfr (List.mem_filterMap.mpr ⟨X.env, List.mem_cons_self, by rw [hfrm, z]⟩)
    have nF : a ∉ X.fs := fun hm => by
      obtain ⟨ev, hev, q⟩ := List.mem_filterMap.mp hm
      exact nfr (List.mem_filterMap.mpr ⟨ev, List.mem_cons_of_mem _ hev, q⟩)
    have Sq := Jq.suite getq dq na nL nF
    suffices go : ∀ {hs : List ExceptHandler} {ls : List (Value × TSx)}, HdN X n hs ls → wAll X.K i Wo D ls cls d σ' H' → wpAny (model X.prog X.w) X.A (handleBy (.ref a) X.env hs) (SP X pins D) X.xe { s' with heap := hq } from go hh w
    intro hs ls hk'
    induction hk' with
    | nil =>
      intro w
      apply wpAny_handleBy_nil
      obtain ⟨_, _, _, oe, vs, tb', _, _, he, _, hd, h1, _⟩ := id flq
      unfold PySem.passOn
      refine wpAny_bind (wpAny_field he hd h1 ?_)
      rw [if_neg (show ¬ ((Value.ref tb' == Value.none) = true) from by simp)]
      have out : wpAny (model X.prog X.w) X.A (setFlight (.ref a) X.env.frame) (fun _ t4 => wpAny (model X.prog X.w) X.A (throw (.ref a) : Sem Flow) (SP X pins D) X.xe t4) X.xe { s' with heap := hq } := by
        rw [hfrm]
        exact HandSPX.setFlight_upZ flq fun hr hhr upr => wpAny_throw (tk _ _ ⟨a, B, sI, pins, σ', H', cls, d, rfl, J, nb, (up.trans upq).trans upr, .inr (.inr (by rw [hstk]; exact hhr)), na, eos, ag, w⟩)
      first
        | exact wpAny_bind (wpAny_pure (wpAny_bind out))
        | exact wpAny_bind out
    | @cons x c ts st sts p1 p2 hds2 l2 hx hsu r ih =>
      rintro ⟨b, hb1, hyes, hno⟩
      refine wpAny_handleBy_cons (codeAny_handlers_test ?_) (by intro q; cases q)
      have look : PySem.W.Looks (model X.prog X.w) hq (typeOf (.ref a)) cls := fun A' Q' E' t k q => wpAny_typeOf_ref (k _ _ getq) (by rw [zq.1]; exact q)
      have named : ∀ {Q' : Value → Shared → Prop} {E' : Value → Shared → Prop}, Q' c { s' with heap := hq } → wpAny (model X.prog X.w) (X.A.mark (some (.ref a))) (eval (.Name x p1) X.env) Q' E' { s' with heap := hq } := fun {Q' E'} q => by
        obtain ⟨hgl, hdbg, hm | ⟨hm, hv, hnn⟩⟩ := hx
        · exact ld_glob (X := X.suite a ((a, oq) :: (X.pn ++ pins))) Sq hgl hm q hdbg
        · exact ld_blt (X := X.suite a ((a, oq) :: (X.pn ++ pins))) Sq hgl hm hv q hnn hdbg
      refine named ((PySem.W.exm_one (M := model X.prog X.w) Jq.kIn look hb1).here ?_)
      cases b with
      | false => exact ih (hno rfl)
      | true =>
        refine codeAny_handlers_suite_as (HandSPX.lands_againZ flq fun hr flr upr => ?_)
        have Jr : Inv X pins σ' H' { s' with heap := hr } := J.landed nb flr.1 ((up.trans upq).trans upr) eos ag
        obtain ⟨oR, vR, getR, zR, dR⟩ := flr.there
        have Sr := Jr.suite getR dR na nL nF
        refine store_ok (X := X.suite a ((a, oR) :: (X.pn ++ pins))) (v := .ref a) Sr nd hi (.inl hk) rfl (fun s5 S5 => ?_) (.inr hk)
        refine wpAny_mono ((hsu a oR cls d (X.pn ++ pins) zR ⟨_, dR⟩).run [] s5 _ H' _ S5 (hyes rfl a na)) (fun f s6 hsp => ?_) (fun _ _ z => False.elim z)
        have drop : ∀ {σ6 : L2.St} {H6 : Hp} {Q' : Shared → Prop}, Inv (X.suite a ((a, oR) :: (X.pn ++ pins))) [] σ6 H6 s6 → (∀ s7, Inv X pins (σ6.set i none) H6 s7 → Q' s7) →
            wpAny (model X.prog X.w) X.A (do bindName X.env n .none; unbindBehindTheSuite X.env n p2) (fun _ s7 => Q' s7) X.xe s6 := fun {σ6 H6 Q'} S6 q => gone_ok (S6.unsuite okX) nd hi hk q
        cases f with
        | ret u =>
          obtain ⟨v6, σ6, H6, S6, r6, q6⟩ := hsp
          exact drop S6 fun s7 J7 => ⟨_, _, _, J7, r6, q6⟩
        | _ =>
          obtain ⟨σ6, H6, S6, q6⟩ := hsp
          exact drop S6 fun s7 J7 => ⟨_, _, J7, q6⟩
  refine wpAny_mono run (fun f s1 hsp => ?_) (fun _ _ q => q)
  cases f with
  | next =>
    obtain ⟨σ', H', J', q⟩ := hsp
    exact wpAny_execs_nil ⟨σ', H', J'.ofTry okX, q⟩
  | ret u =>
    obtain ⟨v, σ', H', J', r, q⟩ := hsp
    exact ⟨v, σ', H', J'.ofTry okX, r, q⟩
  | brk =>
    obtain ⟨σ', H', J', q⟩ := hsp
    exact ⟨σ', H', J'.ofTry okX, q⟩
  | cont =>
    obtain ⟨σ', H', J', q⟩ := hsp
    exact ⟨σ', H', J'.ofTry okX, q⟩
end
end DL

namespace DL
open PySem PySem.Spec PyProof.Rows L2 LamX
/-! ### a lambda of no parameter handed to a def (exceptions with context None) -/
def lamXe (X : Cx) (A : Around) (outer : List Env) (s : Shared) (H : Hp) (E : XK) (scope : Scope) (f c' : Addr) : Value → Shared → Prop := fun e t =>
  wpAny (model X.prog X.w) (A.deeper (lamEnv X scope s.heap.objs.size f c')) (leaving (lamEnv X scope s.heap.objs.size f c') e) (fun _ t' => L2N.CX X.prog X.w outer H s E e t') (fun e' t' => L2N.CX X.prog X.w outer H s E e' t') t
abbrev lamN (X : Cx) (A : Around) (outer : List Env) (s : Shared) (H : Hp) (E : XK) (scope : Scope) (f c' : Addr) : Cx := (lamCx X A outer s H E scope f c').tr [] (lamXe X A outer s H E scope f c')
theorem takes_lam {X : Cx} {A : Around} {outer : List Env} {s : Shared} {H : Hp} {E : XK} {scope : Scope} {f c' : Addr} : L2N.Takes (lamN X A outer s H E scope f c') (fun cls d _ H' => E cls d H') := L2N.takes_of rfl rfl rfl rfl
abbrev DefX (X : Cx) (Ng : List Str) (x : Str) (sg : Scope) (g : Addr) (cdg : Value) (s : Shared) (H : Hp) : Cx := cxOf C8.CX0 X.prog X.w X.K X.mg X.base Ng x sg g cdg X.A X.stack s H C8.E0
section
variable {X : Cx} {pins : List (Addr × Obj)} {σ : L2.St} {H : Hp} {s : Shared}
theorem lam_runs {Ng : List Str} {x : Str} {sg : Scope} {g f c' : Addr} {cdg pm ctv : Value} {params : Arguments} {body : Expr} {scope : Scope} {k i : Nat} {a : Str} {pn : List (Addr × Obj)} {xe : Value → Shared → Prop} {W : WX} {E : XK} {tb : TE} {p1 p2 : Pos}
    (I : Inv X pins σ H s) (L : LamS X.env.scope scope) (hf : s.heap.get? f = some (PySem.W.kla_obj "<lambda>" (X.env.qual ++ "<lambda>") params body scope (cloFrom X.env.cells scope.names []) pm c' ctv)) (hfn : H f = none) (hfr : f ∉ frs X.stack)
    (hbind : bindArgs (PySem.W.kla_fn "<lambda>" (X.env.qual ++ "<lambda>") params body scope (cloFrom X.env.cells scope.names []) pm (.ref c') ctv) ⟨[], []⟩ = pure [])
    (tk : L2N.Takes ((DefX X Ng x sg g cdg s H).tr pn xe) W) (hW : ∀ cls d σ' H', E cls d H' → W cls d σ' H') (hr : Room (k + 1) (X.A.deeper (envOfC x sg s.heap.objs.size g cdg)))
    (hbody : ∀ (A : Around) (outer : List Env) (s : Shared) (H : Hp), Room k (A.deeper (lamEnv X scope s.heap.objs.size f c')) → PE (lamN X A outer s H E scope f c') body tb)
    (hN : Ng[i]? = some a) (hv : Vis sg a) (hd : (a == ("__debug__" : Str)) = false) (hcd : (a == ("__classdict__" : Str)) = false) :
    PE ((DefX X Ng x sg g cdg s H).tr pn xe) (.Call (.Name a p1) [] [] p2) (fun σZ HZ Q => σZ[i]? = some (some (.ref f)) ∧ HZ c' = some (CodeO c' (X.env.qual ++ "<lambda>")) ∧ tb σ HZ Q) := by
  constructor
  rintro pinsZ sZ σZ HZ Q IZ ⟨hs, hc, ht⟩
  apply wpAny_Call_Name_kw
  refine thn ((pe_var (pos := p1) (i := i) hN hv hd hcd).run pinsZ sZ σZ HZ (fun v H1 => v = .ref f ∧ H1 = HZ) IZ ⟨.ref f, hs, rfl, rfl⟩) ?_
  rintro u s1 ⟨v, H1, I1, r1, rfl, eH⟩
  rw [eH] at I1
  obtain rfl : u = Value.ref f := r1
  have obf := I1.base.keep f _ hf hfn hfr (fun z => nomatch (show f ∈ ([] : List Addr) from z))
  refine PySem.W.callWith_F0 ⟨_, _, _, _, obf⟩ ?_
  obtain ⟨⟨oc, vs, t, hoc, hdc, hvc⟩, _, _⟩ := I1.hok c' _ hc
  have rc : codeAny (model X.prog X.w) (X.A.deeper (envOfC x sg s.heap.objs.size g cdg)) (.call (.ref f) ⟨[], []⟩) (CR (L2N.CX X.prog X.w) (envOfC x sg s.heap.objs.size g cdg :: X.stack) X.prog X.w HZ s1 Q E) s1 := by
    apply PySem.W.kla_callFunE hr.depth obf rfl L.co L.gen rfl ⟨c', oc, vs, t, rfl, hoc, hdc, hvc⟩
    rw [hbind]
    refine wpAny_pure (wpAny_newFunctionEnv (fun y hy => (L.own y hy).2) (fun y hy => absurd hy (by simp)) (fun hq hns hsb => ⟨I1.nolimit.fresh _ hsb, ?_⟩) L.kind)
    show codeAny _ _ (.expr body (lamEnv X scope s1.heap.objs.size f c')) _ _
    have keeps : ∀ b o, s1.heap.get? b = some o → hq.get? b = some o := fun b o e => hsb.extBut b o (Nat.ne_of_lt (Heap.lt_size e)) (Heap.get?_push_of_some _ e)
    have J := (lam_start2 (E := E) (f := f) (c' := c') (tk := s1.toks + ([] : List (Str × Value)).length) I L I1.env0 hr.hd I1.base hns keeps).toTry (lamXe X (X.A.deeper (envOfC x sg s.heap.objs.size g cdg)) (envOfC x sg s.heap.objs.size g cdg :: X.stack) s1 HZ E scope f c')
    refine PySem.W.kla_codeExpr (wpAny_mono ((hbody _ _ s1 HZ (hr.deeper _)).run [] _ _ HZ Q J ht) ?_ fun e s' hq => hq)
    rintro v s' ⟨w', H', J', rv, q⟩
    exact ⟨w', H', J'.os, J'.bare, J'.base, J'.hok, rv, q⟩
  refine wpAny_call (codeAny_mono rc fun r s' hq => ?_)
  cases r with
  | error e => exact L2N.passes_call tk hW pinsZ σZ HZ s1 e s' I1 hq
  | ok fl =>
    cases fl with
    | ret u => exact I1.after hq
    | _ => exact False.elim hq
end
/-- what the def makes of the lambda's reading -/
def Gives (X : Cx) (Ng : List Str) (x : Str) (sg : Scope) (g : Addr) (cdg : Value) (bg : List Stmt) (a : Str) (q : Str) (TT : (XK → Hp → VK → Prop) → Hp → VK → Prop) (k : Nat) : Prop :=
  ∀ (f c' : Addr) (s : Shared) (H : Hp) (Q : VK) (tl : XK → Hp → VK → Prop), Room (k + 1) (X.A.deeper (envOfC x sg s.heap.objs.size g cdg)) →
    (∀ (W : WX) (pn : List (Addr × Obj)) (xe : Value → Shared → Prop) (E : XK) (p1 p2 : Pos), L2N.Takes ((DefX X Ng x sg g cdg s H).tr pn xe) W → (∀ cls d σ' H', E cls d H' → W cls d σ' H') →
      PE ((DefX X Ng x sg g cdg s H).tr pn xe) (.Call (.Name a p1) [] [] p2) (fun σZ HZ Q => σZ[0]? = some (some (.ref f)) ∧ HZ c' = some (CodeO c' q) ∧ tl E HZ Q)) →
    H c' = some (CodeO c' q) → TT tl H Q → ∃ t, PSs (DefX X Ng x sg g cdg s H).nox bg t ∧ t { nx := fun _ H' => Q .non H', rt := Q } (L2.start Ng [.ref f]) H
theorem pe_lamto {X : Cx} {T : LT} {TT : (XK → Hp → VK → Prop) → Hp → VK → Prop} {x a : Str} {g c P : Addr} {k : Nat} {pg : Arguments} {bg : List Stmt} {sg : Scope} {dV kV doc pm cdv ct oc : Value} {an od : Option Addr} {osl : Array (Option Value)} {Ng : List Str}
    {params : Arguments} {body : Expr} {scope : Scope} {t : XK → TE} {p lpos pos : Pos} (hg : Gl X x) (hm : X.mg x = some (.ref g)) (hk : PySem.W.keepIn X.K (.ref g) = true)
    (lk : X.K.lookup g = some ⟨oc, od, .func (PySem.W.fnOf x x pg bg sg dV kV doc pm an cdv ct), osl⟩) (hcg : PySem.W.codeIn X.K cdv x = true) (hb : L2.Binds X.K (PySem.W.fnOf x x pg bg sg dV kV doc pm an cdv ct) [a] []) (Sg : FnScope Ng [a] sg) (hNg : Ng[0]? = some a) (hva : Vis sg a)
    (hG : Gives X Ng x sg g cdv bg a (X.env.qual ++ "<lambda>") TT k)
    (TB : TabB X.base X.mg c P) (hcode : X.env.code = .ref c) (hmT : (P, X.env.qual ++ "<lambda>") ∈ T) (hu : ∀ p ∈ T, p.1 = P → p.2 = X.env.qual ++ "<lambda>") (hr : Room (k + 2) X.A) (L : LamS X.env.scope scope) (hdef : defaultsOf params X.env = ([], []))
    (hbind : ∀ (q : Str) (cl : List (Str × Addr)) (pm cv ctv : Value), bindArgs (PySem.W.kla_fn "<lambda>" q params body scope cl pm cv ctv) ⟨[], []⟩ = pure [])
    (hbody : ∀ (A : Around) (outer : List Env) (s : Shared) (H : Hp) (E : XK) (f c' : Addr), Room k (A.deeper (lamEnv X scope s.heap.objs.size f c')) → PE (lamN X A outer s H E scope f c') body (t E))
    (hdb : (x == ("__debug__" : Str)) = false) (hd : (a == ("__debug__" : Str)) = false) (hcd : (a == ("__classdict__" : Str)) = false) :
    PE X (.Call (.Name x p) [.Lambda params body scope lpos] [] pos) (tLam T TT t) := by
  constructor
  rintro pins s σ H Q I ⟨hT, h⟩
  apply wpAny_Call_Name_kw
  refine ld_glob I hg hm ?_ hdb
  refine PySem.W.callWith_K (h₀ := X.base) I.ok.mod.kin hk ?_ (by rfl) (by rfl)
  show wpAny _ _ (spliced ((false, eval (.Lambda params body scope lpos) X.env) :: backTo pos (starEach [] X.env))) _ _ s
  apply Calls.spliced_cons
  refine lam_make2 I TB hcode hmT hu hT hdef (L.has I.ok) ?_
  intro f c' pm' ctv H1 s' I1 eN T1 hf hfn hfr hco
  refine Calls.spliced_nil ⟨I1.kIn, ?_⟩
  have rc : codeAny (model X.prog X.w) X.A (.call (.ref g) ⟨[.ref f], []⟩) (CR C8.CX0 X.stack X.prog X.w H1 s' Q C8.E0) s' := by
    refine run_ofS (N := Ng) (ps := [a]) (us := [.ref f]) (vs := [.ref f]) lk hcg Sg hr I1.env0 (hb s' [.ref f] I1.kIn rfl) (.cons rfl .nil) rfl fun hr' => ?_
    obtain ⟨t', ht', hq'⟩ := hG f c' s' H1 Q (fun E H' Q' => t E σ H' Q') hr' (fun W pn xe E p1 p2 tk hW => lam_runs (i := 0) I1 L hf hfn hfr (hbind _ _ _ _ _) tk hW hr' (fun A outer s H hr2 => hbody A outer s H E f c' hr2) hNg hva hd hcd) hco (h H1 eN T1)
    exact ⟨t', ht'.nox, hq'⟩
  refine wpAny_call (codeAny_mono rc fun r s2 hq => ?_)
  cases r with
  | error e => exact (show False from hq).elim
  | ok fl =>
    cases fl with
    | ret u => exact I1.after hq
    | _ => exact False.elim hq
end DL

namespace DL
open PySem PySem.Spec PyProof.Rows L2 LamX HotX
variable {T : LT}
/-! ### list comprehensions while an exception is handled -/
theorem next_list_end_hot {prog : Program} {w : World} {A : Around} {E : Value → Shared → Prop} {s : Shared} {it l x1 : Addr} {i : Nat} {items : Array Value} {Q : Option Value → Shared → Prop} (hot : HotAt A x1 s.heap) (hx1 : x1 ≠ it)
    (hit : s.heap.IsListIter it l i) (hl : s.heap.IsList l items) (hx : items[i]? = none) (hQ : ∀ h', Heap.ExtBut it s.heap h' → Q none { s with heap := h' }) : wpAny (model prog w) A (pyNext (.ref it)) Q E s := by
  obtain ⟨o, ho, hc, hd⟩ := id hit
  obtain ⟨ol, hol, _, nl, hdl⟩ := hl
  obtain ⟨hh, o1, vs1, h1, d1, c1⟩ := hot
  unfold pyNext
  refine wpAny_bind (wpAny_attempt (wpAny_callSpecial?_slot (name := Str.ofString "__next__") hit.typeIs slot_listiter_next (wpAny_call_entry slot_listiter_next hit.typeIs entry_listiter_next ?_ (args_listiter_next _))))
  show wpAny _ _ (field (.ref it) 0 >>= _) _ _ s
  apply wpAny_bind
  refine wpAny_field ho hd (x := .ref l) rfl ?_
  show wpAny _ _ (if (Value.ref l == Value.none) = true then _ else _) _ _ s
  rw [if_neg (show ¬ ((Value.ref l == Value.none) = true) from Bool.false_ne_true)]
  apply wpAny_bind
  refine wpAny_field ho hd (x := .int i 0) rfl ?_
  apply wpAny_bind
  refine wpAny_seqItems hol hdl ?_
  simp only [Int.toNat_natCast, hx]
  refine wpAny_bind (wpAny_rule (wpAny_bind (wpAny_setField ho hd (by simp) ?_)))
  show wpAny _ _ (newExc (.type "StopIteration") [] >>= _) _ _ _
  apply wpAny_bind
  simp only [newExc, newTuple]
  refine wpAny_bind (wpAny_newObj_type ?_ (by size_fits))
  refine wpAny_bind (m := firstArgMember _ _) (wpAny_of_eq (a := Value.none) (by first | rfl | (simp only [firstArgMember]; rfl)) ?_)
  refine wpAny_newObj_type ?_ (by size_fits)
  have hu := Heap.SameBut.update s.heap it (Obj.mapFields (·.setIfInBounds 0 Value.none))
  have g1 := (hu.2 x1 hx1).trans h1
  refine raiseNew_hot ⟨hh, o1, vs1, Heap.get?_push_of_some _ (Heap.get?_push_of_some _ g1), d1, c1⟩ (Nat.ne_of_lt (Heap.lt_size (Heap.get?_push_of_some _ g1))) (Heap.get?_push_size _ rfl) rfl (by simp; omega) ?_
  refine wpAny_bind (wpAny_isInstance (T := "StopIteration") (b := true) ⟨_, Heap.get?_update_self _ (Heap.get?_push_size _ rfl) rfl, rfl⟩ isSubtype_stop ?_)
  refine wpAny_pure (hQ _ fun b ob hb e => ?_)
  have e1 := (hu.extBut b ob hb e)
  rw [Heap.get?_update_other _ _ (Nat.ne_of_gt (Heap.lt_size (Heap.get?_push_of_some _ e1)))]
  exact Heap.get?_push_of_some _ (Heap.get?_push_of_some _ e1)
structure TurnQ (P : Program) (w : World) (K : PySem.W.Frag) (tg : Expr) (J : It) (fp : List Addr) (it : Addr) (tn : Nat → Heap → Prop) : Prop where
  obj : ∀ i h, tn i h → ∀ b ∈ fp, ∃ o, h.get? b = some o ∧ ∀ v, o.data ≠ .cell v
  keep : ∀ i h h', tn i h → (∀ b ∈ fp, ∀ o, h.get? b = some o → h'.get? b = some o) → tn i h'
  item : ∀ (X : Cx), X.prog = P → X.w = w → X.K = K → ∀ (i : Nat) (pins : List (Addr × Obj)) (s : Shared) (σ : L2.St) (H : Hp) (E : Value → Shared → Prop), Inv X pins σ H s → (∀ b ∈ fp, FpOk X pins H b) → tn i s.heap → J.go i H →
    wpAny (model P w) X.A (pyNext (.ref it)) (fun r t => ∃ u, r = some u ∧ wpAny (model P w) X.A (letOwnedTupleGo tg (.ref it) u) (fun _ t2 => ∃ x H', Inv X pins σ H' t2 ∧ RelV x u ∧ J.yld i H x H' ∧ tn (i + 1) t2.heap ∧ ∀ b ∈ fp, H' b = none) E t) E s
  done : ∀ (X : Cx), X.prog = P → X.w = w → X.K = K → ∀ (x1 : Addr) (i : Nat) (pins : List (Addr × Obj)) (s : Shared) (σ : L2.St) (H : Hp) (E : Value → Shared → Prop), HotAt X.A x1 s.heap → x1 ∉ fp → Inv X pins σ H s → (∀ b ∈ fp, FpOk X pins H b) → tn i s.heap → J.stop i H →
    wpAny (model P w) X.A (pyNext (.ref it)) (fun r t => r = none ∧ Inv X pins σ H t) E s
  self : ∀ (A : Around) (i : Nat) (s : Shared) (Q : Value → Shared → Prop) (E : Value → Shared → Prop), tn i s.heap → Q (.ref it) s → wpAny (model P w) A (pyIter (.ref it)) Q E s
theorem turnQ_list {P : Program} {w : World} {K : PySem.W.Frag} {tg : Expr} (a it : Addr) : TurnQ P w K tg (Itl K a) [it] it (fun i h => h.IsListIter it a i) where
  obj := (turn_list (P := P) (w := w) (K := K) (tg := tg) a it).obj
  keep := (turn_list (P := P) (w := w) (K := K) (tg := tg) a it).keep
  self := (turn_list (P := P) (w := w) (K := K) (tg := tg) a it).self
  item := by
    rintro X rfl rfl rfl i pins s σ H E I hf st ⟨xs, x, hq, hx⟩
    obtain ⟨its, rv, p, _⟩ := I.list hq
    obtain ⟨u, hu, ru⟩ := rv.get hx
    obtain ⟨f0, f1, f2, f3, f4, f5⟩ := hf it (by simp)
    apply wpAny_pyNext_list_item st p.isList (x := u) (by simpa using hu)
    intro h' st' sb
    obtain ⟨o, e, c, d⟩ := id st'
    refine ⟨u, rfl, go_of (s := { s with heap := h' }) e c d (by decide) ⟨x, H, I.turned (t' := s.toks) (fun b o hb e => (sb.2 b hb).trans e) f0 f1 f3 f4 f5, ru, ⟨rfl, fun ys hy => ?_⟩, st', fun b hb => (hf b hb).1⟩⟩
    rw [I.list_inj hy hq]
    exact hx
  done := by
    rintro X rfl rfl rfl x1 i pins s σ H E hot hn I hf st ⟨xs, hq, hx⟩
    obtain ⟨its, rv, p, _⟩ := I.list hq
    obtain ⟨f0, f1, f2, f3, f4, f5⟩ := hf it (by simp)
    have hl := rv.length
    exact next_list_end_hot hot (fun z => hn (by simp [z])) st p.isList (by simp; omega) fun h' eb => ⟨rfl, I.turned (t' := s.toks) (fun b o hb e => eb b o hb e) f0 f1 f3 f4 f5⟩
def PIQ (X : Cx) (tg iter : Expr) (wi : TI) : Prop := ∀ (pins : List (Addr × Obj)) (s : Shared) (σ : L2.St) (H : Hp) (R : It → Hp → Prop), Inv X pins σ H s → wi σ H R →
  wpAny (model X.prog X.w) X.A (eval iter X.env) (fun v t => wpAny (model X.prog X.w) X.A (pyIter v) (fun itv t2 =>
    ∃ (it : Addr) (fp : List Addr) (tn : Nat → Heap → Prop) (J : It) (H' : Hp), itv = .ref it ∧ Inv X pins σ H' t2 ∧ TurnQ X.prog X.w X.K tg J fp it tn ∧ tn 0 t2.heap ∧ (∀ b ∈ fp, FpOk X pins H' b) ∧ R J H') X.xe t) X.xe s
theorem piq_list {X : Cx} {tg l : Expr} {tl : TE} (hl : PE X l tl) : PIQ X tg l (fun σ H R => tl σ H fun x H1 => ∃ a, x = .ref a ∧ (∃ xs, SqL X.K H1 a xs) ∧ R (Itl X.K a) H1) := by
  intro pins s σ H R I h
  refine thn (hl.run pins s σ H _ I h) ?_
  rintro v s1 ⟨x, H1, I1, r1, a, rfl, ⟨xs, hq⟩, q⟩
  cases r1
  obtain ⟨its, rv, p, _⟩ := I1.list hq
  refine (begins_list a its.toArray).iter _ _ _ _ s1 _ p.isList ?_
  refine ⟨s1.heap.objs.size, [s1.heap.objs.size], _, _, H1, rfl, I1.kept (t' := s1.toks) fun b o e => Heap.get?_push_of_some _ e, turnQ_list a _, ⟨_, Heap.get?_push_size _ rfl, rfl, rfl⟩, fun b hb => ?_, q⟩
  rw [List.mem_singleton.mp hb]
  exact I1.fpOk (Nat.le_refl _) I1.fresh
section
variable {X : Cx} {elt tg iter : Expr} {ifs : List Expr} {scope : Scope} {own : List (Str × Nat)} {pos : Pos} {wi : TI} {g : TG} {tt : TT} {te : TE}
theorem pe_lcQ (hot : L2H.HotC X) (nd : X.N.Nodup) (hi : PIQ X tg iter wi) (ok : BlkOk X.N X.env.scope scope own)
    (hg : ∀ (s : Shared) (H : Hp) (C : Addr) (cl : List (Str × Addr)) (fp : List Addr), PG (X.blk s H scope (compEnvC scope cl C X.env) fp) tg g) (ht : ∀ (s : Shared) (H : Hp) (C : Addr) (cl : List (Str × Addr)) (fp : List Addr), PTs (X.blk s H scope (compEnvC scope cl C X.env) fp) ifs tt)
    (he : ∀ (s : Shared) (H : Hp) (C : Addr) (cl : List (Str × Addr)) (fp : List Addr), PE (X.blk s H scope (compEnvC scope cl C X.env) fp) elt te) (hs : ∀ x, foldedSetIterable iter X.env x = pure x := by intro _; rfl) :
    PE X (.ListComp elt [⟨tg, iter, ifs, 0⟩] scope pos) (tLc wi g tt te (own.map (·.2))) := by
  constructor
  intro pins s σ H Q I h
  rw [eval_ListComp]
  have capt : ∀ y ∈ scope.names, y.2 = .free → ∃ c, X.env.cells.lookup y.1 = some c := fun y hy e => (ok.free y hy e).elim (fun k => I.ok.has _ (.inl k)) fun k => I.ok.has _ (.inr k)
  apply wpAny_comprehension_free rfl hs (closure_ok capt) ok.kind (fun y hy e => by rw [ok.uniq y hy, e])
  refine thn (hi pins s σ H _ I h) fun xv s1 hx => thn hx ?_
  rintro itv s2 ⟨it, fp, tn, J, H2, rfl, I2, Tn, st2, f2, q⟩
  refine wpAny_newObj_type (newEnv_comp ?_) (by show 0 ≤ sizeLine; decide)
  obtain ⟨Dn, hD⟩ : ∃ Dn, s2.heap.objs.size = Dn := ⟨_, rfl⟩
  have hDn : H2 Dn = none := I2.hok.fresh (Nat.le_of_eq hD)
  rw [hD]
  obtain ⟨W, ⟨m0, w0⟩, turn⟩ := q Dn hDn
  obtain ⟨s3, hs3⟩ : ∃ s3 : Shared, { s2 with heap := s2.heap.push { cls := .type "list", data := .seq ([] : List Value).toArray } } = s3 := ⟨_, rfl⟩
  have h3 : s3.heap = s2.heap.push { cls := .type "list", data := .seq ([] : List Value).toArray } := by rw [← hs3]
  have I3 : Inv X pins σ (upd H2 Dn (.lst [])) s3 := by
    rw [← hs3]
    apply I2.laid (t' := s2.toks) (fun b o e => Heap.get?_push_of_some _ e) (Nat.le_of_eq hD)
    refine ⟨Nat.zero_le _, [], 0, .nil, ?_⟩
    rw [← hD]
    exact Heap.get?_push_size _ rfl
  have f3 : ∀ b ∈ fp, FpOk X pins (upd H2 Dn (.lst [])) b ∧ b < s3.heap.objs.size := fun b hb => by
    obtain ⟨ob, eb, _⟩ := Tn.obj _ _ st2 b hb
    have hlt := Heap.lt_size eb
    refine ⟨⟨?_, (f2 b hb).2⟩, by rw [h3, Heap.size_push]; exact Nat.lt_succ_of_lt hlt⟩
    rw [upd_ne (by rw [← hD]; exact Nat.ne_of_lt hlt)]
    exact (f2 b hb).1
  have st3 : tn 0 s3.heap := Tn.keep _ _ _ st2 fun b _ o e => by rw [h3]; exact Heap.get?_push_of_some _ e
  have I4 := block_start I3 ok nd f3
  have pg := hg s3 (upd H2 Dn (.lst [])) s3.heap.objs.size (cellsFrom (s3.heap.objs.size + 1) scope.names (cloFrom X.env.cells scope.names [])) fp
  have pt := ht s3 (upd H2 Dn (.lst [])) s3.heap.objs.size (cellsFrom (s3.heap.objs.size + 1) scope.names (cloFrom X.env.cells scope.names [])) fp
  have pe := he s3 (upd H2 Dn (.lst [])) s3.heap.objs.size (cellsFrom (s3.heap.objs.size + 1) scope.names (cloFrom X.env.cells scope.names [])) fp
  rw [hs3]
  show codeAny _ _ (.compStart (.ListComp elt [⟨tg, iter, ifs, 0⟩] scope pos) 0 (.ref it) (.ref Dn) (compEnvC scope (cellsFrom (s3.heap.objs.size + 1) scope.names (cloFrom X.env.cells scope.names [])) s3.heap.objs.size X.env)) (compPost (model X.prog X.w) X.A X.xe none (EP X pins σ Q) (.ref Dn) s3.heap.objs.size) { s3 with heap := pushCells (s3.heap.push { cls := .type "dict", data := .dict #[] }) scope.names }
  have nfp : ∀ b ∈ fp, (upd H2 Dn (.lst [])) b = none := fun b hb => (f3 b hb).1.1
  -- the handled exception
  obtain ⟨px, ⟨hh, vx, dx, cx⟩, hpx⟩ := hot
  obtain ⟨getx, freex, nlx, nfx, _⟩ := I3.pin px (List.mem_append_left _ hpx)
  have nstk : px.1 ∉ frs X.stack := fun hm => by
    rcases I3.ok.stk with e1 | ⟨e1, e2⟩
    · rw [e1] at hm; exact nfx hm
    · rw [e1] at hm
      unfold frs at hm
      rw [List.filterMap_cons] at hm
      rw [e2] at hm
      rcases List.mem_cons.mp hm with z | z
      · exact nlx z
      · exact nfx z
  have nfpx : px.1 ∉ fp := fun hm => (f3 _ hm).1.2.2.2.2.2 px (List.mem_append_left _ hpx) rfl
  obtain ⟨ce, hce⟩ : ∃ ce, compEnvC scope (cellsFrom (s3.heap.objs.size + 1) scope.names (cloFrom X.env.cells scope.names [])) s3.heap.objs.size X.env = ce := ⟨_, rfl⟩
  rw [hce] at I4 pg pt pe ⊢
  have cL : ce.locals = s3.heap.objs.size := by rw [← hce]; rfl
  obtain ⟨H3, hH3⟩ : ∃ H3, upd H2 Dn (.lst []) = H3 := ⟨_, rfl⟩
  rw [hH3] at I3 I4 pg pt pe w0 nfp f3 freex
  obtain ⟨s4, hs4⟩ : ∃ s4 : Shared, { s3 with heap := pushCells (s3.heap.push { cls := .type "dict", data := .dict #[] }) scope.names } = s4 := ⟨_, rfl⟩
  rw [hs4] at I4 ⊢
  have st4 : tn 0 s4.heap := Tn.keep _ _ _ st3 fun b _ o e => by rw [← hs4]; exact pushCells_keeps _ _ _ _ (Heap.get?_push_of_some _ e)
  have fps : ∀ {σ' : L2.St} {H' : Hp} {t : Shared}, Inv (X.blk s3 H3 scope ce fp) [] σ' H' t → (∀ b ∈ fp, H' b = none) → ∀ b ∈ fp, FpOk (X.blk s3 H3 scope ce fp) [] H' b := fun {σ' H' t} I' hn b hb =>
    ⟨hn b hb, (I'.ok.exf b hb).1, I'.ok.exfs b hb, .inl hb, fun x c e => (I'.ok.exf b hb).2 x c e, fun p hp => absurd (show p ∈ ([] : List (Addr × Obj)) ++ [] from hp) (by simp)⟩
  have loop : codeAny (model X.prog X.w) X.A (.compLoop (.ListComp elt [⟨tg, iter, ifs, 0⟩] scope pos) 0 (.ref it) (.ref Dn) ce) (compPost (model X.prog X.w) X.A X.xe none (EP X pins σ Q) (.ref Dn) s3.heap.objs.size) s4 := by
    refine compLoop_any (fun n t => ∃ i H', Inv (X.blk s3 H3 scope ce fp) [] (wipe σ (own.map (·.2))) H' t ∧ tn i t.heap ∧ (∀ b ∈ fp, H' b = none) ∧ W i n H') ?_ m0 ⟨0, H3, I4, st4, nfp, w0⟩
    rintro n s5 ⟨i, H5, I5, st5, n5, w5⟩
    rcases turn i n H5 w5 with ⟨stop, qq⟩ | ⟨go, Nx, hNx, step⟩
    · have hot5 : HotAt (X.blk s3 H3 scope ce fp).A px.1 s5.heap := ⟨hh, px.2, vx, I5.base.keep _ _ getx freex nstk nfpx, dx, cx⟩
      refine thnF (Tn.done (X.blk s3 H3 scope ce fp) rfl rfl rfl px.1 i [] s5 _ H5 (fun _ _ => False) hot5 nfpx I5 (fps I5 n5) st5 stop) ?_
      rintro r s6 ⟨rfl, I6⟩
      have I7 : Inv X pins σ H5 s6 := I3.call' (ch := fp) I6.os I6.base I6.hok I6.bare fun b hb => ⟨(f3 b hb).1.2.2.2.1, (f3 b hb).1.2.1, (f3 b hb).1.2.2.2.2.1, (f3 b hb).1.2.2.2.2.2⟩
      have nC : H5 s3.heap.objs.size = none := cL ▸ (show H5 ce.locals = none from I6.free)
      obtain ⟨m, hn, _⟩ := I6.loc
      have hn' : s6.heap.Ns s3.heap.objs.size m := cL ▸ (show s6.heap.Ns ce.locals m from hn)
      obtain ⟨k0, k1, k2, k3, k4, k5⟩ := I3.fpOk (Nat.le_refl _) nC
      exact ⟨m, hn', fun h'' sb => ⟨.ref Dn, H5, I7.turned (t' := s6.toks) (fun b o hb e => (sb.2 b hb).trans e) k0 k1 k3 k4 k5, rfl, qq⟩⟩
    · refine thnF (Tn.item (X.blk s3 H3 scope ce fp) rfl rfl rfl i [] s5 _ H5 (fun _ _ => False) I5 (fps I5 n5) st5 go) ?_
      rintro r s6 ⟨u, rfl, h6⟩
      refine thnF h6 ?_
      rintro _ s7 ⟨x, H7, I7, r7, y7, st7, n7⟩
      refine thnF (pg.run _ s7 _ H7 x u _ (I7.pinned (fps I7 n7) (Tn.obj _ _ st7)) r7 (step x H7 y7)) ?_
      rintro _ s8 ⟨σ8, H8, I8, hw8, q8⟩
      refine thnF (pt.run _ s8 σ8 H8 _ I8 q8) ?_
      rintro b s9 ⟨H9, I9, q9⟩
      have again : ∀ {t : Shared} {H' : Hp}, Inv (X.blk s3 H3 scope ce fp) ([] ++ pinsAt fp s7.heap) σ8 H' t → Nx H' → ∃ m, m < n ∧ ∃ i H', Inv (X.blk s3 H3 scope ce fp) [] (wipe σ (own.map (·.2))) H' t ∧ tn i t.heap ∧ (∀ b ∈ fp, H' b = none) ∧ W i m H' := fun {t H'} I' nx => by
        obtain ⟨m', hm, w'⟩ := hNx H' nx
        have pinned : ∀ b ∈ fp, ∀ o, s7.heap.get? b = some o → t.heap.get? b = some o ∧ H' b = none := fun b hb o e => by
          have z := I'.pin (b, o) (List.mem_append_right _ (List.mem_append_right _ (mem_pinsAt hb e)))
          exact ⟨z.1, z.2.1⟩
        refine ⟨m', hm, i + 1, H', (I'.unpinned (pins := [])).weak (by rw [← hw8, wipe_length]) (fun j v e => ?_), Tn.keep _ _ _ st7 fun b hb o e => (pinned b hb o e).1, fun b hb => ?_, w'⟩
        · rw [← hw8] at e
          exact (wipe_some e).1
        · obtain ⟨o, e, _⟩ := Tn.obj _ _ st7 b hb
          exact (pinned b hb o e).2
      cases b with
      | false => exact again I9 q9
      | true =>
        refine thnF (pe.run _ s9 σ8 H9 _ I9 q9) ?_
        rintro z s10 ⟨yv, H10, I10, r10, acc, hD10, hz10, nx⟩
        exact app_ok (X := X.blk s3 H3 scope ce fp) I10 hD10 hz10 r10 fun s11 I11 => again I11 nx
  exact codeAny_compStart_list loop (Tn.self X.A 0 _ _ _ st4 loop)
end
end DL

namespace DL
open PySem PySem.Spec PyProof.Rows L2 LamX HotX L2H
variable {T : LT}
/-! ### a def that is handed the handled exception itself -/
/-- the promise knows the exception p -/
abbrev SpT := Addr × Obj → List V → Hp → VK → Prop
structure FnT (P : Program) (w : World) (K : PySem.W.Frag) (mg : Str → Option Value) (base : Heap) (k : Nat) (f : Addr) (fd : FuncData) (ps : List Str) (sp : SpT) : Prop where
  len : ∀ p vs H Q, sp p vs H Q → vs.length = ps.length
  run : ∀ (p : Addr × Obj) (A : Around) (outer : List Env) (s : Shared) (H : Hp) (args : Args) (us : List Value) (vs : List V) (Q : VK), RoomH k A → Hot1 A p → PinOk outer H s p → Env0 P w K mg base A outer s H → BindsTo s fd args (ps.zip us) → Vals vs us → sp p vs H Q →
    codeAny (model P w) A (.call (.ref f) args) (CR C8.CX0 outer P w H s Q C8.E0) s
theorem fnT_of {P : Program} {w : World} {K : PySem.W.Frag} {mg : Str → Option Value} {base : Heap} {k : Nat} {x : Str} {params : Arguments} {body : List Stmt} {scope : Scope} {f : Addr} {fd : FuncData} {N ps : List Str} {sp : SpT}
    (F : FunD K x x params body scope [] [] f fd) (Sc : FnScope N ps scope) (len : ∀ p vs H Q, sp p vs H Q → vs.length = ps.length)
    (hbody : ∀ (cdv : Value) (A : Around) (outer : List Env) (s : Shared) (H : Hp) (vs : List V) (Q : VK) (p : Addr × Obj), Hot1 A p → RoomH k (A.deeper (envOfC x scope s.heap.objs.size f cdv)) → sp p vs H Q →
      ∃ t, PSs (cxH C8.CX0 P w K mg base N x scope f cdv A outer s H C8.E0 p) body t ∧ t { nx := fun _ H' => Q .non H', rt := Q } (L2.start N vs) H) : FnT P w K mg base (k + 1) f fd ps sp := by
  obtain ⟨oc, od, dV, kV, doc, pm, an, cdv, ct, osl, rfl, lk, hcd, _, _⟩ := F.ex
  refine ⟨len, ?_⟩
  intro p A outer s H args us vs Q hr hot hpin e0 hb r hsp
  have inK : K.In s.heap := e0.mod.kin.keeps fun b o e => (e0.bs b o e).1
  have nolim : s.heap.NoLimit := e0.mod.nolimit.keeps fun b o e => (e0.bs b o e).1
  apply codeAny_call_function hr.depth (inK _ _ lk) rfl Sc.co Sc.gen rfl (PySem.W.codeRec_of inK hcd)
  apply hb
  apply wpAny_newFunctionEnv_cells Sc.kind
  · rintro ⟨n, v⟩ hy
    rcases Sc.par n (List.of_mem_zip hy).1 with q | q
    · exact .inl q
    · exact .inr ⟨q, PySem.W.cellsFrom_some _ _ _ (.inl q)⟩
  · rintro env rfl s1 x1
    refine ⟨nolim.keeps x1.toInCall.keep, codeAny_func ?_⟩
    obtain ⟨t, ht, hq⟩ := hbody cdv A outer s H vs Q p hot (hr.deeper _) hsp
    refine wpAny_mono (ht.run [] s1 (L2.start N vs) H _ (inv_startH Sc hpin e0 (len _ _ _ _ hsp) r x1) hq) (fun fl s' hs => ?_) fun e s' hs => hs
    cases fl with
    | ret u =>
      obtain ⟨v, σ', H', J, rv, q⟩ := hs
      exact ⟨v, H', J.os, J.bare, J.base, J.hok, rv, q⟩
    | next =>
      obtain ⟨σ', H', J, q⟩ := hs
      exact ⟨.non, H', J.os, J.bare, J.base, J.hok, rfl, q⟩
    | brk => exact hs.elim fun _ z => z.elim fun _ z => False.elim z.2
    | cont => exact hs.elim fun _ z => z.elim fun _ z => False.elim z.2
theorem pe_callT {X : Cx} {k : Nat} {f : Addr} {fd : FuncData} {ps : List Str} {sp : SpT} {x : Str} {q pos : Pos} {e : Expr} {es : List Expr} {t : TA} {p : Addr × Obj} (F : FnT X.prog X.w X.K X.mg X.base k f fd ps sp) (hr : RoomH k X.A) (hot : Hot1 X.A p) (hp : p ∈ X.pn)
    (hg : Gl X x) (hm : X.mg x = some (.ref f)) (hk : PySem.W.keepIn X.K (.ref f) = true) (hb : L2.Binds X.K fd ps []) (ha : PA X (e :: es) t) (hdb : (x == ("__debug__" : Str)) = false := by decide) (he : starEach (e :: es) X.env = (false, eval e X.env) :: starEach es X.env := by rfl)
    (hpl : (backTo pos (starEach es X.env)).any (·.1) = false := by rfl) : PE X (.Call (.Name x q) (e :: es) [] pos) (fun σ H Q => t σ H fun vs H1 => sp p vs H1 Q) := by
  constructor
  intro pins s σ H Q I h
  apply wpAny_Call_Name_kw
  refine ld_glob I hg hm ?_ hdb
  refine PySem.W.callWith_K (h₀ := X.base) I.ok.mod.kin hk (thn (ha.run pos pins s σ H _ I h) ?_) he hpl
  rintro us s1 ⟨vs, H1, I1, r, q⟩
  refine ⟨I1.kIn, ?_⟩
  have b := hb s1 us I1.kIn (by rw [List.append_nil, ← r.length]; exact F.len _ _ _ _ q)
  rw [List.append_nil] at b
  obtain ⟨p1, p2, p3, p4, p5⟩ := I1.pin p (List.mem_append_left _ hp)
  refine wpAny_call (codeAny_mono (F.run p X.A X.stack s1 H1 ⟨us, []⟩ us vs Q hr hot ⟨p1, p2, fun hm => (List.mem_cons.mp (I1.stkSub p.1 hm)).elim p3 p4, p5⟩ I1.env0 b r q) fun r s' hq => ?_)
  cases r with
  | error e => exact (show False from hq).elim
  | ok fl =>
    cases fl with
    | ret u => exact I1.after hq
    | _ => exact False.elim hq
/-- isinstance(e, C), e pinned -/
theorem call_isP {X : Cx} {a D : Addr} {oe : Obj} (C : ExcC X.K D) (hz : Zc (.ref D) none oe) (hf : ∃ vs, oe.data = .fields vs) (hp : (a, oe) ∈ X.pn) : CallR X (.builtin "isinstance") (rIsE X.K D a) := by
  rintro pins s σ H xs us Q I r ⟨c, cv, b, rfl, hcv, e, q⟩
  cases r with
  | cons rx rr =>
    cases rr with
    | cons rt rr =>
      cases rr
      cases rx
      obtain rfl := hcv _ rt
      obtain ⟨hget, _⟩ := I.pin (a, oe) (List.mem_append.mpr (.inl hp))
      obtain ⟨vs, hv⟩ := hf
      have J : PySem.W.InstAt s.heap a oe D none := by
        obtain ⟨oc, od, oda, osl⟩ := oe
        obtain ⟨h1, h2⟩ := hz
        dsimp only at h1 h2 hv
        subst h1 h2 hv
        exact ⟨hget, rfl, rfl, trivial⟩
      exact PySem.W.kia_one (PySem.W.handS_kitx_exc C.hg C.hk C.hs C.hd C.ha C.hn C.ht C.hm) I.kIn J e (fun z => nomatch z) fun tk => ⟨.bl b, H, I.kept (t' := tk) fun _ _ z => z, rfl, q⟩
end DL

namespace DL
open PySem PySem.Spec PyProof.Rows L2 LamX HotX L2H
variable {T : LT}
theorem walks_hot {prog : Program} {w : World} {A : Around} {x1 : Addr} {o1 : Obj} {vs1 : Array Value} (hh : A.handled = some (.ref x1)) (d1 : o1.data = .fields vs1) (c1 : vs1[2]? = some .none) (I l : Addr) (hne : l ≠ I) (hx : x1 ≠ I) (items : Array Value) :
    Walks prog w A I [I, l, x1] [I] items.size (fun i v => items[i]? = some v) (fun i h => h.IsListIter I l i ∧ h.IsList l items ∧ h.get? x1 = some o1) where
  sub := fun b hb => by simp at hb; simp [hb]
  frame := fun _ _ _ st hk => ⟨st.1.at fun o e => hk I (by simp) o e, st.2.1.at fun o e => hk l (by simp) o e, hk x1 (by simp) _ st.2.2⟩
  item := fun i s Q E hi st hQ => by
    apply wpAny_pyNext_list_item st.1 st.2.1 (x := items[i]) (by simp [hi])
    intro h' hit' hs'
    exact hQ _ h' s.toks (by simp [hi]) ⟨hit', st.2.1.extBut hs'.extBut hne, (hs'.2 x1 hx).trans st.2.2⟩ fun b o hb e => hs'.extBut b o (fun h => hb (by simp [h])) e
  done := fun s Q E st hQ => next_list_end_hot ⟨hh, o1, vs1, st.2.2, d1, c1⟩ hx st.1 st.2.1 (by simp) fun h' he' => hQ h' s.toks fun b o hb e => he' b o (fun h => hb (by simp [h])) e
  self := fun _ _ _ _ st hQ => wpAny_pyIter_listiter st.1 hQ
theorem cr_sumQ {X : Cx} (hot : HotC X) : CallR X (.builtin "sum") (rSum X.K) := by
  rintro pins s σ H vs us Q I r ⟨a, ns, rfl, hs, q⟩
  obtain ⟨its, rv, hl, _⟩ := I.list hs
  rw [Vals.ref1 r]
  obtain ⟨p, ⟨hh, v1, e1, c1⟩, hp⟩ := hot
  have getp := (I.pin p (List.mem_append_left _ hp)).1
  have hi := rv.ints
  obtain ⟨xs, e⟩ := hi.allInts.items
  have hn : numsOf (intItems xs).toList = ns := by rw [← e]; exact hi.numsOf
  rw [nums_intItems] at hn
  have hl' := hl.isList
  rw [e] at hl'
  apply call_sum_walkG
  refine iter_intList hl' fun s2 es st hfp hlI => ?_
  subst es
  have hx : p.1 ≠ s.heap.objs.size := Nat.ne_of_lt (Heap.lt_size getp)
  refine ⟨_, _, _, _, _, _, numAt xs, rfl, walks_hot (A := X.A.in1) (o1 := p.2) hh e1 c1 _ a hlI hx (intItems xs), ⟨st.1, st.2, Heap.get?_push_of_some _ getp⟩, ?_, (fun _ _ => intItems_at), fun h' tk t' hk => ?_⟩
  · intro b hb
    simp only [List.mem_cons, List.not_mem_nil, or_false] at hb
    rcases hb with z | z | z
    · exact hfp b (by simp [z])
    · exact hfp b (by simp [z])
    · rw [z]; exact Heap.lt_size (Heap.get?_push_of_some _ getp)
  · rw [preSum_eq, List.take_of_length_le (by simp [intItems]), hn]
    exact ⟨.int _, H, I.kept (old_kept hk), ⟨_, rfl⟩, q⟩
end DL

namespace DL
open PySem PySem.Spec PyProof.Rows L2
variable {T : LT}
/-! ### built-ins by values -/
def allB : List D → Option (List Bool)
  | [] => some []
  | .bl b :: r => (allB r).map (b :: ·)
  | _ => none
def allI : List D → Option (List Int)
  | [] => some []
  | .int b :: r => (allI r).map (b :: ·)
  | _ => none
def allS : List D → Option (List String)
  | [] => some []
  | .str b :: r => (allS r).map (b :: ·)
  | _ => none
theorem allB_eq : ∀ {xs : List D} {bs : List Bool}, allB xs = some bs → xs = bs.map .bl
  | [], bs, h => by cases h; rfl
  | .bl b :: r, bs, h => by
    obtain ⟨cs, e, rfl⟩ := Option.map_eq_some_iff.mp h
    rw [allB_eq e, List.map_cons]
  | .non :: _, _, h => by cases h
  | .int _ :: _, _, h => by cases h
  | .str _ :: _, _, h => by cases h
  | .tup _ :: _, _, h => by cases h
  | .lst _ :: _, _, h => by cases h
  | .dct _ :: _, _, h => by cases h
  | .ref _ :: _, _, h => by cases h
  | .scr _ :: _, _, h => by cases h
theorem allI_eq : ∀ {xs : List D} {bs : List Int}, allI xs = some bs → xs = bs.map .int
  | [], bs, h => by cases h; rfl
  | .int b :: r, bs, h => by
    obtain ⟨cs, e, rfl⟩ := Option.map_eq_some_iff.mp h
    rw [allI_eq e, List.map_cons]
  | .non :: _, _, h => by cases h
  | .bl _ :: _, _, h => by cases h
  | .str _ :: _, _, h => by cases h
  | .tup _ :: _, _, h => by cases h
  | .lst _ :: _, _, h => by cases h
  | .dct _ :: _, _, h => by cases h
  | .ref _ :: _, _, h => by cases h
  | .scr _ :: _, _, h => by cases h
theorem allS_eq : ∀ {xs : List D} {bs : List String}, allS xs = some bs → xs = bs.map .str
  | [], bs, h => by cases h; rfl
  | .str b :: r, bs, h => by
    obtain ⟨cs, e, rfl⟩ := Option.map_eq_some_iff.mp h
    rw [allS_eq e, List.map_cons]
  | .non :: _, _, h => by cases h
  | .bl _ :: _, _, h => by cases h
  | .int _ :: _, _, h => by cases h
  | .tup _ :: _, _, h => by cases h
  | .lst _ :: _, _, h => by cases h
  | .dct _ :: _, _, h => by cases h
  | .ref _ :: _, _, h => by cases h
  | .scr _ :: _, _, h => by cases h
def pyLen (G : DG) : List D → Option D
  | [.str s] => if s.length ≤ 16000000 then some (.int s.length) else none
  | [x] => match asQ G x with
    | some xs => some (.int xs.length)
    | none => match asD G x with
      | some kvs => some (.int kvs.length)
      | none => none
  | _ => none
def pyInt1 (_ : DG) : List D → Option D
  | [.int i] => some (.int i)
  | [.bl b] => some (.int (if b then 1 else 0))
  | _ => none
def pySum (G : DG) : List D → Option D
  | [x] => (asL G x).bind fun xs => (allI xs).map fun ns => .int ns.sum
  | _ => none
def pyAll (G : DG) : List D → Option D
  | [x] => (asL G x).bind fun xs => (allB xs).map fun bs => .bl (bs.all id)
  | _ => none
def pyAny (G : DG) : List D → Option D
  | [x] => (asL G x).bind fun xs => (allB xs).map fun bs => .bl (bs.any id)
  | _ => none
def pyMin2 (_ : DG) : List D → Option D
  | [.int i, .int j] => some (.int (if j < i then j else i))
  | _ => none
def pyMax2 (_ : DG) : List D → Option D
  | [.int i, .int j] => some (.int (if j > i then j else i))
  | _ => none
def pyTup (G : DG) : List D → Option D
  | [x] => (asQ G x).map .tup
  | _ => none
def pyLst (G : DG) : List D → Option D
  | [x] => (asQ G x).map .lst
  | _ => none
def pyAbs (_ : DG) : List D → Option D
  | [.int i] => some (.int (if i < 0 then -i else i))
  | _ => none
theorem RelDs.one {K : PySem.W.Frag} {F : FS} {H : Hp} {x : D} {vs : List V} (r : RelDs K F H [x] vs) : ∃ v, vs = [v] ∧ RelD K F H x v := by
  obtain ⟨v, t, rfl, h, e⟩ := r
  have e : t = [] := e
  rw [e]
  exact ⟨v, rfl, h⟩
theorem RelDs.two {K : PySem.W.Frag} {F : FS} {H : Hp} {x y : D} {vs : List V} (r : RelDs K F H [x, y] vs) : ∃ v u, vs = [v, u] ∧ RelD K F H x v ∧ RelD K F H y u := by
  obtain ⟨v, t, rfl, h, r⟩ := r
  obtain ⟨u, rfl, h'⟩ := RelDs.one r
  exact ⟨v, u, rfl, h, h'⟩
section
variable {X : Cx}
theorem call_pyLen : CallR X (.builtin "len") (rDB X.K T pyLen) := by
  rintro pins s σ H xs us Q I rs ⟨F, G, ds, z, hg, r, e, q⟩
  unfold pyLen at e
  split at e
  · rename_i t
    obtain ⟨v, rfl, rv⟩ := r.one
    split at e
    · rename_i hl
      cases e
      exact call_len pins s σ H _ us Q I rs ⟨v, _, rfl, (by rw [show v = V.str (S t) from rv]; exact ⟨by rw [S_len]; exact small_line hl, rfl⟩), q _ _ H Step.refl hg (by rw [S_len]; rfl)⟩
    · cases e
  · rename_i x _
    obtain ⟨v, rfl, rv⟩ := r.one
    split at e
    · rename_i ys ey
      cases e
      obtain ⟨a, vs, rfl, h, k⟩ := asQ_ok hg rv ey
      refine call_len pins s σ H _ us Q I rs ⟨_, vs.length, rfl, h.imp (fun h => ⟨vs, h, rfl⟩) (fun h => ⟨vs, h, rfl⟩), q _ _ H Step.refl hg (by rw [← k.length]; rfl)⟩
    · split at e
      · rename_i kvs ek
        cases e
        obtain ⟨a, ws, rfl, h, k⟩ := asD_ok hg rv ek
        cases rs with
        | cons ru rt =>
          cases rt
          cases ru
          exact d_len I h fun t s' I' => ⟨.int ws.length, H, I', ⟨t, rfl⟩, q _ _ H Step.refl hg (by rw [k.length]; rfl)⟩
      · cases e
  · cases e
theorem call_pyInt1 : CallR X (.type "int") (rDB X.K T pyInt1) := by
  rintro pins s σ H xs us Q I rs ⟨F, G, ds, z, hg, r, e, q⟩
  unfold pyInt1 at e
  split at e
  · cases e
    obtain ⟨v, rfl, rv⟩ := r.one
    exact call_int1 pins s σ H _ us Q I rs (.inl ⟨_, by rw [show v = _ from rv], q _ _ H Step.refl hg rfl⟩)
  · cases e
    obtain ⟨v, rfl, rv⟩ := r.one
    exact call_int1 pins s σ H _ us Q I rs (.inr ⟨_, by rw [show v = _ from rv], q _ _ H Step.refl hg rfl⟩)
  · cases e
theorem sum_word {G : DG} {F : FS} {H : Hp} {ds : List D} {z : D} {xs : List V} (hg : RelG X.K T F G H) (r : RelDs X.K F H ds xs) (e : pySum G ds = some z) : ∃ (a : Addr) (ns : List Int), xs = [V.ref a] ∧ SqL X.K H a (ns.map V.int) ∧ z = .int ns.sum := by
  unfold pySum at e
  split at e
  · obtain ⟨v, rfl, rv⟩ := r.one
    obtain ⟨ys, ey, e⟩ := Option.bind_eq_some_iff.mp e
    obtain ⟨ns, en, rfl⟩ := Option.map_eq_some_iff.mp e
    obtain ⟨a, vs, rfl, h, k⟩ := asL_ok hg rv ey
    rw [allI_eq en] at k
    rw [k.ints] at h
    exact ⟨a, ns, rfl, .inl h, rfl⟩
  · cases e
theorem call_pySum (hc : X.calm = true) : CallR X (.builtin "sum") (rDB X.K T pySum) := by
  rintro pins s σ H xs us Q I rs ⟨F, G, ds, z, hg, r, e, q⟩
  obtain ⟨a, ns, ex, h, rfl⟩ := sum_word hg r e
  exact cr_sum hc pins s σ H xs us Q I rs ⟨a, ns, ex, h, q _ _ H Step.refl hg rfl⟩
theorem call_pySumQ (hc : L2H.HotC X) : CallR X (.builtin "sum") (rDB X.K T pySum) := by
  rintro pins s σ H xs us Q I rs ⟨F, G, ds, z, hg, r, e, q⟩
  obtain ⟨a, ns, ex, h, rfl⟩ := sum_word hg r e
  exact cr_sumQ hc pins s σ H xs us Q I rs ⟨a, ns, ex, h, q _ _ H Step.refl hg rfl⟩
theorem call_pyAll (hc : X.calm = true) : CallR X (.builtin "all") (rDB X.K T pyAll) := by
  rintro pins s σ H xs us Q I rs ⟨F, G, ds, z, hg, r, e, q⟩
  unfold pyAll at e
  split at e
  · obtain ⟨v, rfl, rv⟩ := r.one
    obtain ⟨ys, ey, e⟩ := Option.bind_eq_some_iff.mp e
    obtain ⟨bs, en, rfl⟩ := Option.map_eq_some_iff.mp e
    obtain ⟨a, vs, rfl, h, k⟩ := asL_ok hg rv ey
    rw [allB_eq en] at k
    rw [k.bls] at h
    exact cr_all hc pins s σ H _ us Q I rs ⟨a, bs, rfl, .inl h, q _ _ H Step.refl hg rfl⟩
  · cases e
theorem call_pyAny (hc : X.calm = true) : CallR X (.builtin "any") (rDB X.K T pyAny) := by
  rintro pins s σ H xs us Q I rs ⟨F, G, ds, z, hg, r, e, q⟩
  unfold pyAny at e
  split at e
  · obtain ⟨v, rfl, rv⟩ := r.one
    obtain ⟨ys, ey, e⟩ := Option.bind_eq_some_iff.mp e
    obtain ⟨bs, en, rfl⟩ := Option.map_eq_some_iff.mp e
    obtain ⟨a, vs, rfl, h, k⟩ := asL_ok hg rv ey
    rw [allB_eq en] at k
    rw [k.bls] at h
    exact cr_any hc pins s σ H _ us Q I rs ⟨a, bs, rfl, .inl h, q _ _ H Step.refl hg rfl⟩
  · cases e
theorem call_pyMin2 (hc : X.calm = true) : CallR X (.builtin "min") (rDB X.K T pyMin2) := by
  rintro pins s σ H xs us Q I rs ⟨F, G, ds, z, hg, r, e, q⟩
  unfold pyMin2 at e
  split at e
  · cases e
    obtain ⟨v, u, rfl, rv, ru⟩ := r.two
    exact call_min2 hc pins s σ H _ us Q I rs ⟨_, _, by rw [show v = _ from rv, show u = _ from ru], q _ _ H Step.refl hg rfl⟩
  · cases e
theorem call_pyMax2 (hc : X.calm = true) : CallR X (.builtin "max") (rDB X.K T pyMax2) := by
  rintro pins s σ H xs us Q I rs ⟨F, G, ds, z, hg, r, e, q⟩
  unfold pyMax2 at e
  split at e
  · cases e
    obtain ⟨v, u, rfl, rv, ru⟩ := r.two
    exact call_max2 hc pins s σ H _ us Q I rs ⟨_, _, by rw [show v = _ from rv, show u = _ from ru], q _ _ H Step.refl hg rfl⟩
  · cases e
theorem call_pyAbs : CallR X (.builtin "abs") (rDB X.K T pyAbs) := by
  rintro pins s σ H xs us Q I rs ⟨F, G, ds, z, hg, r, e, q⟩
  unfold pyAbs at e
  split at e
  · cases e
    obtain ⟨v, rfl, rv⟩ := r.one
    exact call_abs pins s σ H _ us Q I rs ⟨_, by rw [show v = _ from rv], q _ _ H Step.refl hg rfl⟩
  · cases e
theorem call_pyTup : CallR X (.type "tuple") (rDB X.K T pyTup) := by
  rintro pins s σ H xs us Q I rs ⟨F, G, ds, z, hg, r, e, q⟩
  unfold pyTup at e
  split at e
  · rename_i d
    obtain ⟨v, rfl, rv⟩ := r.one
    obtain ⟨ys, ey, rfl⟩ := Option.map_eq_some_iff.mp e
    cases d with
    | tup zs =>
      cases ey
      obtain ⟨a, vs, rfl, t, k⟩ := rv
      exact call_tuple_of pins s σ H _ us Q I rs ⟨a, vs, rfl, .inr ⟨t.sq, q _ _ H Step.refl hg ⟨a, vs, rfl, t, k⟩⟩⟩
    | lst zs =>
      obtain ⟨a, vs, rfl, h, k⟩ := asL_ok hg rv ey
      exact call_tuple_of pins s σ H _ us Q I rs ⟨a, vs, rfl, .inl ⟨.inl h, fun p hp => q _ _ _ (Step.new hp) (hg.new hp) (relD_newTup hg hp k)⟩⟩
    | scr ns =>
      cases ey
      obtain ⟨a, rfl, h⟩ := rv
      exact call_tuple_of pins s σ H _ us Q I rs ⟨a, ns.map V.int, rfl, .inl ⟨h.imp (fun h => h.1.rd) id, fun p hp => q _ _ _ (Step.new hp) (hg.new hp) (relD_newTup hg hp (relDs_ints ns))⟩⟩
    | ref b =>
      obtain ⟨a, vs, rfl, h, k⟩ := asL_ok hg rv ey
      exact call_tuple_of pins s σ H _ us Q I rs ⟨a, vs, rfl, .inl ⟨.inl h, fun p hp => q _ _ _ (Step.new hp) (hg.new hp) (relD_newTup hg hp k)⟩⟩
    | _ => cases ey
  · cases e
theorem call_pyLst : CallR X (.type "list") (rDB X.K T pyLst) := by
  rintro pins s σ H xs us Q I rs ⟨F, G, ds, z, hg, r, e, q⟩
  unfold pyLst at e
  split at e
  · obtain ⟨v, rfl, rv⟩ := r.one
    obtain ⟨ys, ey, rfl⟩ := Option.map_eq_some_iff.mp e
    obtain ⟨a, vs, rfl, h, k⟩ := asQ_ok hg rv ey
    exact call_list_of pins s σ H _ us Q I rs ⟨a, vs, rfl, h, fun p hp => q _ _ _ (Step.new hp) (hg.new hp) (relD_newLst hg hp k)⟩
  · cases e
end
/-! isinstance with a built-in class -/
def tyO : Option DO → Option String
  | some (.lst _) => some "list"
  | some (.dct _) => some "dict"
  | some (.lck _ _) => some "dict"
  | _ => none
def tyD (G : DG) : D → Option String
  | .non => some "NoneType"
  | .bl _ => some "bool"
  | .int _ => some "int"
  | .str _ => some "str"
  | .tup _ => some "tuple"
  | .lst _ => some "list"
  | .dct _ => some "dict"
  | .ref a => tyO (G a)
  | .scr _ => none
def isiB (t ty : String) : Bool := t == ty || (t == "bool" && ty == "int")
def pyIsi (ty : String) (G : DG) (x : D) : Option D := (tyD G x).map fun t => .bl (isiB t ty)
theorem kit_isi {K : PySem.W.Frag} {t ty : String} (ht : t ∈ ["NoneType", "bool", "int", "str", "tuple", "list", "dict"]) (hty : ty ∈ ["int", "bool", "str", "tuple", "list", "dict"]) : PySem.W.kitOne K (.type t) (.type ty) = some (isiB t ty) := by
  have all : ∀ t ∈ ["NoneType", "bool", "int", "str", "tuple", "list", "dict"], ∀ ty ∈ ["int", "bool", "str", "tuple", "list", "dict"], kitB t ty = some (isiB t ty) := by decide +kernel
  exact kit_ty (all t ht ty hty)
theorem Rs.tyL {K : PySem.W.Frag} {H : Hp} {a : Addr} {vs : List V} (h : Rs H a (.lst vs)) : TyX K H (.ref a) (.type "list") := by
  rcases h.rd with h | ⟨o, h⟩
  · exact .base (.lst h)
  · exact .base (.frz h)
theorem Rs.tyT {K : PySem.W.Frag} {H : Hp} {a : Addr} {vs : List V} (h : Rs H a (.tup vs)) : TyX K H (.ref a) (.type "tuple") := by
  rcases h.rd with h | ⟨o, h⟩
  · exact .base (.tup h)
  · exact .fTuple h
theorem Rs.tyD {K : PySem.W.Frag} {H : Hp} {a : Addr} {vs : List (Key × V)} (h : Rs H a (.dK vs)) : TyX K H (.ref a) (.type "dict") := by
  rcases h.rd with h | ⟨o, h⟩
  · exact .base (.dK h)
  · exact .fDict h
theorem tyD_ok {K : PySem.W.Frag} {F : FS} {G : DG} {H : Hp} {d : D} {v : V} {t : String} (hg : RelG K T F G H) (r : RelD K F H d v) (e : tyD G d = some t) : TyX K H v (.type t) ∧ t ∈ ["NoneType", "bool", "int", "str", "tuple", "list", "dict"] := by
  cases d with
  | non => cases e; rw [show v = _ from r]; exact ⟨.base .non, by decide⟩
  | bl b => cases e; rw [show v = _ from r]; exact ⟨.base (.bl b), by decide⟩
  | int b => cases e; rw [show v = _ from r]; exact ⟨.base (.int b), by decide⟩
  | str b => cases e; rw [show v = _ from r]; exact ⟨.base (.str _), by decide⟩
  | tup b =>
    cases e
    obtain ⟨a, vs, rfl, h, _⟩ := r
    refine ⟨?_, by decide⟩
    rcases h with ⟨h, _⟩ | ⟨o, its, n, hk, hc, _⟩
    · exact h.tyT
    · exact .kTuple hk hc
  | lst b =>
    cases e
    obtain ⟨a, vs, rfl, h, _⟩ := r
    exact ⟨h.1.tyL, by decide⟩
  | dct b =>
    cases e
    obtain ⟨a, vs, rfl, h, _⟩ := r
    exact ⟨h.1.tyD, by decide⟩
  | scr ns => cases e
  | ref a =>
    rw [show v = _ from r]
    have e : tyO (G a) = some t := e
    cases q : G a with
    | none => rw [q] at e; cases e
    | some o =>
      rw [q] at e
      cases o with
      | lst xs =>
        cases e
        obtain ⟨vs, h, _⟩ := hg.ob a _ q
        exact ⟨.base (.lst h), by decide⟩
      | dct xs =>
        cases e
        obtain ⟨vs, h, _⟩ := hg.ob a _ q
        exact ⟨.base (.dK h), by decide⟩
      | lck xs u =>
        cases e
        obtain ⟨o, vs, e1, h, _⟩ := hg.ob a _ q
        exact ⟨Rs.tyD (vs := vs) ⟨_, h, by rw [e1]; rfl⟩, by decide⟩
      | ins c fs => cases e
theorem q_isi {X : Cx} {W : WX} {e : Expr} {te : DTE} {p p2 pos : Pos} {ty : String} (hg : Gl X "isinstance") (hm : X.mg "isinstance" = none) (hgt : Gl X (Str.ofString ty)) (hmt : X.mg (Str.ofString ty) = none) (hv : bootBuiltins (Str.ofString ty) = some (.type ty)) (he : QE X T W e te)
    (hty : ty ∈ ["int", "bool", "str", "tuple", "list", "dict"] := by decide) (hn : Str.ofString ty ≠ "__name__" := by decide) (hd : (Str.ofString ty == ("__debug__" : Str)) = false := by decide)
    (hs1 : starEach [e, .Name (Str.ofString ty) p2] X.env = (false, eval e X.env) :: starEach [.Name (Str.ofString ty) p2] X.env := by rfl) :
    QE X T W (.Call (.Name "isinstance" p) [e, .Name (Str.ofString ty) p2] [] pos) (dUn (pyIsi ty) te) :=
  PE.imp (pe_callB (call_isi (X := X)) hg hm PyProof.Rows.boot_isinstance (pa_cons he (pa_cons (pe_bltn hgt hmt hv (v := .ty ty) rfl hn hd) pa_nil) hs1) (he := hs1)) fun σ H Q ⟨env, F, G, E, P, hg, hs, hx, ht, hq⟩ =>
    ⟨env, F, G, E, _, hg, hs, hx, ht, fun x F1 G1 v1 H1 ⟨z, e, p⟩ s1 g1 r1 => by
      obtain ⟨t, et, rfl⟩ := Option.map_eq_some_iff.mp e
      obtain ⟨tx, mt⟩ := tyD_ok g1 r1 et
      exact ⟨v1, .ty ty, .type t, .type ty, isiB t ty, rfl, .ty ty, tx, kit_isi mt hty, hq _ F1 G1 _ H1 p s1 g1 rfl⟩⟩
end DL

namespace DL
open PySem PySem.Spec PyProof.Rows L2
variable {T : LT}
/-! ### methods of built-in types -/
abbrev DMF := DG → D → List D → Option (D × DG)
def tyL : Option DO → Option String
  | some (.lst _) => some "list"
  | some (.dct _) => some "dict"
  | _ => none
def tyM (G : DG) : D → Option String
  | .str _ => some "str"
  | .lst _ => some "list"
  | .ref a => tyL (G a)
  | _ => none
def dMt (ty : String) (f : DMF) (to : DTE) (ta : DTA) : DTE := fun E env G Q => to E env G fun x G1 => tyM G1 x = some ty ∧ ta E env G1 fun xs G2 => ∃ z G3, f G2 x xs = some (z, G3) ∧ Q z G3
def dMt0 (ty : String) (f : DMF) (to : DTE) : DTE := fun E env G Q => to E env G fun x G1 => tyM G1 x = some ty ∧ ∃ z G3, f G1 x [] = some (z, G3) ∧ Q z G3
def rDM (K : PySem.W.Frag) (T : LT) (f : DMF) : V → List V → Hp → VK → Prop := fun x xs H Q => ∃ F G d ds z G', RelG K T F G H ∧ RelD K F H d x ∧ RelDs K F H ds xs ∧ f G d ds = some (z, G') ∧
  ∀ F' v H', Step F G H F' G' H' → RelG K T F' G' H' → RelD K F' H' z v → Q v H'
theorem tyM_ok {K : PySem.W.Frag} {F : FS} {G : DG} {H : Hp} {d : D} {v : V} {t : String} (hg : RelG K T F G H) (r : RelD K F H d v) (e : tyM G d = some t) : tyV K t v H := by
  cases d with
  | str b => cases e; rw [show v = _ from r]; exact rfl
  | lst b =>
    cases e
    obtain ⟨a, vs, rfl, h, _⟩ := r
    exact .inl ⟨rfl, vs, .inl h.1.rd⟩
  | ref a =>
    rw [show v = _ from r]
    have e : tyL (G a) = some t := e
    cases q : G a with
    | none => rw [q] at e; cases e
    | some o =>
      rw [q] at e
      cases o with
      | lst xs =>
        cases e
        obtain ⟨vs, h, _⟩ := hg.ob a _ q
        exact .inl ⟨rfl, vs, .inl (.inl h)⟩
      | dct xs =>
        cases e
        obtain ⟨vs, h, _⟩ := hg.ob a _ q
        exact .inr (.inr (.inl ⟨rfl, .inl ⟨vs, h⟩⟩))
      | lck xs u => cases e
      | ins c fs => cases e
  | _ => cases e
section
variable {X : Cx} {W : WX} {o e : Expr} {es : List Expr} {to : DTE} {ta : DTA} {name : Str} {apos cpos : Pos} {ty id : String} {f : DMF}
theorem q_mt0 (pa : PlainAttrs ty) (slot : Slot ty name id) (hty : typeOf (.builtin id) = pure (.type "method_descriptor")) (hm : MtR X id (rDM X.K T f)) (ho : QE X T W o to)
    (hbase : attributeBase o name X.env (eval o X.env) = eval o X.env := by rfl) (hline : (apos.endLine == cpos.line) = true := by rfl) : QE X T W (.Call (.Attribute o name apos) [] [] cpos) (dMt0 ty f to) :=
  PE.imp (pe_bm0 pa slot hty hm ho hbase hline) fun σ H Q ⟨env, F, G, E, P, hg, hs, hx, ht, hq⟩ => ⟨env, F, G, E, _, hg, hs, hx, ht, fun x F1 G1 v1 H1 ⟨et, z, G3, ef, p⟩ s1 g1 r1 =>
    ⟨tyM_ok g1 r1 et, F1, G1, x, [], z, G3, g1, r1, rfl, ef, fun F' v H' s2 g2 r2 => hq z F' G3 v H' p (s1.trans s2) g2 r2⟩⟩
theorem q_mt (pa : PlainAttrs ty) (slot : Slot ty name id) (hty : typeOf (.builtin id) = pure (.type "method_descriptor")) (hm : MtR X id (rDM X.K T f)) (ho : QE X T W o to) (ha : QA X T W (e :: es) ta)
    (hbase : attributeBase o name X.env (eval o X.env) = eval o X.env := by rfl)
    (hfew : ((backTo cpos (starEach (e :: es) X.env)).all (fun x => !x.1) && (backToKw cpos (keywordEach [] X.env)).all (fun x => x.1.isSome) && decide ((e :: es).length + ([] : List Keyword).length + (if ([] : List Keyword).isEmpty then 0 else 1) < 30)) = true := by rfl)
    (hline : (apos.endLine == cpos.line) = true := by rfl) (hs : starEach (e :: es) X.env = (false, eval e X.env) :: starEach es X.env := by rfl) (hplain : (backTo cpos (starEach es X.env)).any (·.1) = false := by rfl) :
    QE X T W (.Call (.Attribute o name apos) (e :: es) [] cpos) (dMt ty f to ta) :=
  PE.imp (pe_bm pa slot hty hm ho ha hbase hfew hline hs hplain) fun σ H Q ⟨env, F, G, E, P, hg, hs, hx, ht, hq⟩ => ⟨env, F, G, E, _, hg, hs, hx, ht, fun x F1 G1 v1 H1 ⟨et, p1⟩ s1 g1 r1 =>
    ⟨tyM_ok g1 r1 et, env, F1, G1, E, _, g1, hs.step s1, hx.step s1, p1, fun xs F2 G2 vs H2 ⟨z, G3, ef, p⟩ s2 g2 r2 =>
      ⟨F2, G2, x, xs, z, G3, g2, RelD.step s2 x r1, r2, ef, fun F' v H' s3 g3 r3 => hq z F' G3 v H' p (s1.trans (s2.trans s3)) g3 r3⟩⟩⟩
end
/-! lists -/
def mAppend : DMF := fun G x xs => match x, xs with
  | .ref a, [y] => match lstO (G a) with
    | some ys => if ys.length < 16000000 then some (.non, gset G a (some (.lst (ys ++ [y])))) else none
    | none => none
  | _, _ => none
def mPop : DMF := fun G x xs => match x, xs with
  | .ref a, [] => match lstO (G a) with
    | some ys => match ys.getLast? with
      | some y => some (y, gset G a (some (.lst ys.dropLast)))
      | none => none
    | none => none
  | _, _ => none
def mPop0 : DMF := fun G x xs => match x, xs with
  | .ref a, [.int 0] => match lstO (G a) with
    | some (y :: ys) => some (y, gset G a (some (.lst ys)))
    | _ => none
  | _, _ => none
def idxF (y : D) : List D → Option Nat
  | [] => none
  | z :: zs => if eqF z y = true then some 0 else (idxF y zs).map (· + 1)
def mIndex : DMF := fun G x xs => match xs with
  | [y] => match asL G x with
    | some zs => if flatD y && zs.all flatD then (idxF y zs).map fun j => (.int (j : Nat), G) else none
    | none => none
  | _ => none
theorem idxF_at {y : D} : ∀ {zs : List D} {j : Nat}, idxF y zs = some j → ∃ z, zs[j]? = some z ∧ eqF z y = true ∧ ∀ m z', m < j → zs[m]? = some z' → eqF z' y = false
  | [], j, h => by cases h
  | z :: zs, j, h => by
    unfold idxF at h
    split at h
    · cases h
      rename_i hz
      exact ⟨z, rfl, hz, fun m z' hm => by omega⟩
    · rename_i hz
      obtain ⟨k, ek, rfl⟩ := Option.map_eq_some_iff.mp h
      obtain ⟨w, h1, h2, h3⟩ := idxF_at ek
      refine ⟨w, h1, h2, fun m z' hm e => ?_⟩
      cases m with
      | zero =>
        simp only [List.getElem?_cons_zero, Option.some.injEq] at e
        subst e
        simpa using hz
      | succ m =>
        simp only [List.getElem?_cons_succ] at e
        exact h3 m z' (by omega) e
theorem RelDs.back {K : PySem.W.Frag} {F : FS} {H : Hp} {ds : List D} {vs : List V} (r : RelDs K F H ds vs) {j : Nat} {v : V} (e : vs[j]? = some v) : ∃ d, ds[j]? = some d ∧ RelD K F H d v := by
  have hl := r.length
  have hj : j < ds.length := by
    have := (List.getElem?_eq_some_iff.mp e).1
    omega
  obtain ⟨v', e', r'⟩ := r.get (List.getElem?_eq_getElem hj)
  rw [e] at e'
  cases e'
  exact ⟨_, List.getElem?_eq_getElem hj, r'⟩
section
variable {X : Cx}
theorem mt_mAppend : MtR X "list.append" (rDM X.K T mAppend) := by
  rintro pins s σ H x xs v us Q I rx rs ⟨F, G, d, ds, z, G', hg, r1, r2, e, q⟩
  unfold mAppend at e
  split at e
  · rename_i a y
    split at e
    · rename_i ys ey
      split at e
      · rename_i hl
        cases e
        have hq := lstO_eq ey
        obtain ⟨vs, h, k⟩ := hg.ob a _ hq
        obtain ⟨w, rfl, rw'⟩ := r2.one
        have hs : H a = none ∨ G a ≠ none := .inr (by rw [hq]; simp)
        refine mt_append pins s σ H x _ v us Q I rx rs ⟨a, vs, w, r1, rfl, h, by rw [← k.length]; exact Nat.lt_of_lt_of_le hl (by decide), ?_⟩
        have st : Step F G H F (gset G a (some (.lst (ys ++ [y])))) (upd H a (.lst (vs ++ [w]))) := Step.set hg hs
        exact q F _ _ st (hg.set hs ⟨_, rfl, RelDs.step st _ (k.append ⟨w, [], rfl, rw', rfl⟩)⟩) rfl
      · cases e
    · cases e
  · cases e
theorem RelDs.dropLast {K : PySem.W.Frag} {F : FS} {H : Hp} : ∀ {ds : List D} {vs : List V}, RelDs K F H ds vs → RelDs K F H ds.dropLast vs.dropLast := fun {ds vs} r => by
  rw [List.dropLast_eq_take, List.dropLast_eq_take, ← r.length]
  exact r.take _
theorem mt_mPop : MtR X "list.pop" (rDM X.K T mPop) := by
  rintro pins s σ H x xs v us Q I rx rs ⟨F, G, d, ds, z, G', hg, r1, r2, e, q⟩
  unfold mPop at e
  split at e
  · rename_i a
    split at e
    · rename_i ys ey
      split at e
      · rename_i y el
        cases e
        have hq := lstO_eq ey
        obtain ⟨vs, h, k⟩ := hg.ob a _ hq
        have hs : H a = none ∨ G a ≠ none := .inr (by rw [hq]; simp)
        rw [List.getLast?_eq_getElem?] at el
        obtain ⟨w, ew, rw'⟩ := k.get el
        have ex : xs = [] := r2
        subst ex
        have st : Step F G H F (gset G a (some (.lst ys.dropLast))) (upd H a (.lst vs.dropLast)) := Step.set hg hs
        exact mt_pop pins s σ H x [] v us Q I rx rs ⟨a, vs, w, r1, rfl, h, by rw [← k.length]; exact ew, q F _ _ st (hg.set hs ⟨_, rfl, RelDs.step st _ k.dropLast⟩) (RelD.step st _ rw')⟩
      · cases e
    · cases e
  · cases e
theorem mt_mPop0 : MtR X "list.pop" (rDM X.K T mPop0) := by
  rintro pins s σ H x xs v us Q I rx rs ⟨F, G, d, ds, z, G', hg, r1, r2, e, q⟩
  unfold mPop0 at e
  split at e
  · rename_i a
    split at e
    · rename_i y ys ey
      cases e
      have hq := lstO_eq ey
      obtain ⟨vs, h, k⟩ := hg.ob a _ hq
      have hs : H a = none ∨ G a ≠ none := .inr (by rw [hq]; simp)
      obtain ⟨w, ws, rfl, rw', kt⟩ := k
      obtain ⟨i, rfl, ri⟩ := r2.one
      have st : Step F G H F (gset G a (some (.lst ys))) (upd H a (.lst ws)) := Step.set hg hs
      exact mt_popAt pins s σ H x _ v us Q I rx rs ⟨a, w :: ws, 0, 0, w, r1, by rw [show i = V.int 0 from ri], h, by decide, by decide, by simp [seqIndex?], rfl, q F _ _ st (hg.set hs ⟨_, rfl, RelDs.step st _ kt⟩) (RelD.step st _ rw')⟩
    · cases e
  · cases e
theorem mt_mIndex : MtR X "list.index" (rDM X.K T mIndex) := by
  rintro pins s σ H x xs v us Q I rx rs ⟨F, G, d, ds, z, G', hg, r1, r2, e, q⟩
  unfold mIndex at e
  split at e
  · rename_i y
    split at e
    · rename_i zs ez
      split at e
      · rename_i hf
        obtain ⟨j, ej, e⟩ := Option.map_eq_some_iff.mp e
        cases e
        rw [Bool.and_eq_true] at hf
        obtain ⟨a, vs, ea, h, k⟩ := asL_ok hg r1 ez
        obtain ⟨u, rfl, ru⟩ := r2.one
        obtain ⟨w, h1, h2, h3⟩ := idxF_at ej
        obtain ⟨wv, ew, rw'⟩ := k.get h1
        have fl : ∀ {m : Nat} {d : D}, zs[m]? = some d → flatD d = true := fun e => List.all_eq_true.mp hf.2 _ (List.mem_of_getElem? e)
        refine mt_index pins s σ H x _ v us Q I rx rs ⟨a, vs, u, j, wv, ea, rfl, .inl h, flat_rel hf.1 ru, flats_rel k hf.2, ew, by rw [eqF_rel (fl h1) hf.1 rw' ru]; exact h2, fun m z' hm em => ?_, q F _ H Step.refl hg rfl⟩
        obtain ⟨d', ed, rd'⟩ := k.back em
        rw [eqF_rel (fl ed) hf.1 rd' ru]
        exact h3 m d' hm ed
      · cases e
    · cases e
  · cases e
variable {W : WX} {o e : Expr} {to : DTE} {ta : DTA} {apos cpos : Pos}
end
end DL

namespace DL
open PySem PySem.Spec PyProof.Rows L2
variable {T : LT}
/-! ### names of the module -/
section
variable {X : Cx} {W : WX} {pos : Pos}
theorem q_gint {x : Str} {i : Int} (hg : Gl X x) (h : ∃ t, X.mg x = some (.int i t)) (hd : (x == ("__debug__" : Str)) = false := by decide) : QE X T W (.Name x pos) (dC (.int i)) := by
  obtain ⟨t, h⟩ := h
  exact q_con (pe_glob hg h (v := .int i) ⟨t, rfl⟩ hd) fun _ _ => rfl
theorem q_gstr {x : Str} {z : String} (hg : Gl X x) (h : ∃ t, X.mg x = some (.str (Str.ofString z) t)) (hd : (x == ("__debug__" : Str)) = false := by decide) : QE X T W (.Name x pos) (dC (.str z)) := by
  obtain ⟨t, h⟩ := h
  exact q_con (pe_glob hg h (v := .str (S z)) ⟨t, rfl⟩ hd) fun _ _ => rfl
/-- an object of the module whose reading never changes -/
theorem q_gref {x : Str} {d : D} {a : Addr} (hg : Gl X x) (h : X.mg x = some (.ref a)) (r : ∀ F H, RelD X.K F H d (.ref a)) (hd : (x == ("__debug__" : Str)) = false := by decide) : QE X T W (.Name x pos) (dC d) :=
  q_con (pe_glob hg h (v := .ref a) rfl hd) r
end
/-! ### a written table with text keys -/
structure KTab (K : PySem.W.Frag) (w : World) (mg : Str → Option Value) (x : String) (tab : List (String × D)) : Prop where
  mg : mg (S x) = some (.ref (He.ga K (S x)))
  kd : ∃ es n, KDict K w (He.ga K (S x)) es n
  val : ∀ z : String, (PySem.W.nsIn K (He.ga K (S x)) (S z) = some none ∧ tab.lookup z = none) ∨ ∃ u v d, PySem.W.nsIn K (He.ga K (S x)) (S z) = some (some u) ∧ tab.lookup z = some d ∧ RelV v u ∧ ∀ F H, RelD K F H d v
def kIn (tab : List (String × D)) (_ : DG) : D → Option D
  | .str z => some (.bl (tab.lookup z).isSome)
  | _ => none
def kNotIn (tab : List (String × D)) (_ : DG) : D → Option D
  | .str z => some (.bl (!(tab.lookup z).isSome))
  | _ => none
def kItem (tab : List (String × D)) (_ : DG) : D → Option D
  | .str z => tab.lookup z
  | _ => none
def kGet (tab : List (String × D)) (_ : DG) : D → Option D
  | .str z => some ((tab.lookup z).getD .non)
  | _ => none
section
variable {X : Cx} {W : WX} {x : String} {tab : List (String × D)} {e : Expr} {te : DTE} {p pos apos : Pos}
theorem ktab_in {K : PySem.W.Frag} {w : World} {mg : Str → Option Value} (k : KTab K w mg x tab) (z : String) : ∃ r, PySem.W.nsIn K (He.ga K (S x)) (S z) = some r ∧ r.isSome = (tab.lookup z).isSome := by
  rcases k.val z with ⟨h1, h2⟩ | ⟨u, v, d, h1, h2, _⟩
  · exact ⟨none, h1, by rw [h2]; rfl⟩
  · exact ⟨some u, h1, by rw [h2]; rfl⟩
theorem q_kin (k : KTab X.K X.w X.mg x tab) (hg : Gl X (Str.ofString x)) (he : QE X T W e te) (hd : (Str.ofString x == ("__debug__" : Str)) = false := by decide) : QE X T W (.Compare e [.In] [.Name (Str.ofString x) p] pos) (dUn (kIn tab) te) := by
  obtain ⟨es, n, kd⟩ := k.kd
  refine PE.imp (pe_cmpR (op_in_kd kd) he (pe_glob hg k.mg (v := .ref (He.ga X.K (S x))) rfl hd) rfl) fun σ H Q ⟨env, F, G, E, P, hg, hs, hx, ht, hq⟩ => ⟨env, F, G, E, _, hg, hs, hx, ht, fun d F1 G1 v1 H1 ⟨z, e, p⟩ s1 g1 r1 => ?_⟩
  cases d with
  | str t =>
    cases e
    obtain ⟨r, h1, h2⟩ := ktab_in k t
    exact ⟨S t, r, r1, rfl, h1, hq _ F1 G1 _ H1 p s1 g1 (by rw [h2]; rfl)⟩
  | _ => cases e
theorem q_knotin (k : KTab X.K X.w X.mg x tab) (hg : Gl X (Str.ofString x)) (he : QE X T W e te) (hd : (Str.ofString x == ("__debug__" : Str)) = false := by decide) : QE X T W (.Compare e [.NotIn] [.Name (Str.ofString x) p] pos) (dUn (kNotIn tab) te) := by
  obtain ⟨es, n, kd⟩ := k.kd
  refine PE.imp (pe_cmpR (op_notIn_kd kd) he (pe_glob hg k.mg (v := .ref (He.ga X.K (S x))) rfl hd) rfl) fun σ H Q ⟨env, F, G, E, P, hg, hs, hx, ht, hq⟩ => ⟨env, F, G, E, _, hg, hs, hx, ht, fun d F1 G1 v1 H1 ⟨z, e, p⟩ s1 g1 r1 => ?_⟩
  cases d with
  | str t =>
    cases e
    obtain ⟨r, h1, h2⟩ := ktab_in k t
    exact ⟨S t, r, r1, rfl, h1, hq _ F1 G1 _ H1 p s1 g1 (by rw [h2]; rfl)⟩
  | _ => cases e
theorem q_kinT (k : KTab X.K X.w X.mg x tab) (hg : Gl X (Str.ofString x)) (he : QE X T W e te) (hd : (Str.ofString x == ("__debug__" : Str)) = false := by decide) : QT X T W (.Compare e [.In] [.Name (Str.ofString x) p] pos) (dTest (dUn (kIn tab) te)) := by
  obtain ⟨es, n, kd⟩ := k.kd
  refine PT.imp (pt_cmpR (op_in_kd kd) he (pe_glob hg k.mg (v := .ref (He.ga X.K (S x))) rfl hd) rfl) fun σ H Q ⟨env, F, G, E, P, hg, hs, hx, ht, hq⟩ => ⟨env, F, G, E, _, hg, hs, hx, ht, fun d F1 G1 v1 H1 ⟨z, e, b, eb, p⟩ s1 g1 r1 => ?_⟩
  cases d with
  | str t =>
    cases e
    cases eb
    obtain ⟨r, h1, h2⟩ := ktab_in k t
    exact ⟨S t, r, r1, rfl, h1, _, rfl, hq _ F1 G1 H1 (by rw [h2]; exact p) s1 g1⟩
  | _ => cases e
theorem q_knotinT (k : KTab X.K X.w X.mg x tab) (hg : Gl X (Str.ofString x)) (he : QE X T W e te) (hd : (Str.ofString x == ("__debug__" : Str)) = false := by decide) : QT X T W (.Compare e [.NotIn] [.Name (Str.ofString x) p] pos) (dTest (dUn (kNotIn tab) te)) := by
  obtain ⟨es, n, kd⟩ := k.kd
  refine PT.imp (pt_cmpR (op_notIn_kd kd) he (pe_glob hg k.mg (v := .ref (He.ga X.K (S x))) rfl hd) rfl) fun σ H Q ⟨env, F, G, E, P, hg, hs, hx, ht, hq⟩ => ⟨env, F, G, E, _, hg, hs, hx, ht, fun d F1 G1 v1 H1 ⟨z, e, b, eb, p⟩ s1 g1 r1 => ?_⟩
  cases d with
  | str t =>
    cases e
    cases eb
    obtain ⟨r, h1, h2⟩ := ktab_in k t
    exact ⟨S t, r, r1, rfl, h1, _, rfl, hq _ F1 G1 H1 (by rw [h2]; exact p) s1 g1⟩
  | _ => cases e
theorem q_kitem (k : KTab X.K X.w X.mg x tab) (hg : Gl X (Str.ofString x)) (he : QE X T W e te) (hs : PlainIx e := by exact fun _ _ => rfl) (hd : (Str.ofString x == ("__debug__" : Str)) = false := by decide) : QE X T W (.Subscript (.Name (Str.ofString x) p) e pos) (dUn (kItem tab) te) := by
  obtain ⟨es, n, kd⟩ := k.kd
  refine PE.imp (pe_ix (ix_kdict (X := X)) (pe_glob hg k.mg (v := .ref (He.ga X.K (S x))) rfl hd) he hs) fun σ H Q ⟨env, F, G, E, P, hg, hs, hx, ht, hq⟩ => ⟨env, F, G, E, _, hg, hs, hx, ht, fun d F1 G1 v1 H1 ⟨z, e, p⟩ s1 g1 r1 => ?_⟩
  cases d with
  | str t =>
    rcases k.val t with ⟨h1, h2⟩ | ⟨u, v', d', h1, h2, rv, rd'⟩
    · rw [show kItem tab G1 (.str t) = tab.lookup t from rfl, h2] at e; cases e
    · rw [show kItem tab G1 (.str t) = tab.lookup t from rfl, h2] at e
      cases e
      exact ⟨_, S t, v', rfl, r1, ⟨es, n, u, kd.at_, kd.lit, h1, rv⟩, hq _ F1 G1 _ H1 p s1 g1 (rd' F1 H1)⟩
  | _ => cases e
theorem q_kget (k : KTab X.K X.w X.mg x tab) (hg : Gl X (Str.ofString x)) (he : QE X T W e te) (hd : (Str.ofString x == ("__debug__" : Str)) = false := by decide)
    (hs : starEach [e] X.env = (false, eval e X.env) :: starEach [] X.env := by rfl) (hline : (apos.endLine == pos.line) = true := by rfl)
    (hfew : ((backTo pos (starEach [e] X.env)).all (fun x => !x.1) && (backToKw pos (keywordEach [] X.env)).all (fun x => x.1.isSome) && decide ([e].length + ([] : List Keyword).length + (if ([] : List Keyword).isEmpty then 0 else 1) < 30)) = true := by rfl)
    (hbase : attributeBase (.Name (Str.ofString x) p) "get" X.env (eval (.Name (Str.ofString x) p) X.env) = eval (.Name (Str.ofString x) p) X.env := by rfl) : QE X T W (.Call (.Attribute (.Name (Str.ofString x) p) "get" apos) [e] [] pos) (dUn (kGet tab) te) := by
  obtain ⟨es, n, kd⟩ := k.kd
  refine ⟨fun pins s σ H Q I h => ?_⟩
  obtain ⟨env, F, G, E, P, hG, hS, hx, ht, hq⟩ := h
  refine wpAny_Call_method_late hbase hfew hline rfl (thn ((pe_glob hg k.mg (v := .ref (He.ga X.K (S x))) rfl hd).run pins s σ H (fun v H1 => v = .ref (He.ga X.K (S x)) ∧ H1 = H) I ⟨rfl, rfl⟩) ?_)
  rintro v s1 ⟨y, H1, I1, r1, rfl, rfl⟩
  obtain rfl : v = Value.ref (He.ga X.K (S x)) := r1
  have mo := PySem.W.mapOf_K (prog := X.prog) (w := X.w) I1.kIn kd.at_ kd.lit
  refine ⟨"dict", "dict.get", PySem.F.plainAttrs_dict, PySem.F.slot_dict_get, PySem.F.type_dict_get, mo.typeIs, mo.noDict, ?_⟩
  have hA := (pa_cons he pa_nil hs).run pos pins s1 σ H1 (fun vs H2 => ∃ v, vs = [v] ∧ (∃ d F1 G1, kGet tab G1 d ≠ none ∧ RelD X.K F1 H2 d v ∧ ∀ z u, kGet tab G1 d = some z → RelD X.K F1 H2 z u → Q u H2)) I1 ⟨env, F, G, E, _, hG, hS, hx, ht, fun d F1 G1 v1 H1 ⟨z, e, p⟩ s1 g1 r1 =>
    ⟨v1, rfl, d, F1, G1, by rw [e]; simp, r1, fun z' u e' ru => by rw [e] at e'; cases e'; exact hq z F1 G1 u H1 p s1 g1 ru⟩⟩
  rw [hs] at hA ⊢
  refine Calls.callWith_builtin (by rfl) (Calls.evalArgs_plain ?_)
  refine thn hA ?_
  rintro us s2 ⟨vs, H2, I2, r2, v, rfl, d, F1, G1, hne, rd, q⟩
  cases r2 with
  | cons ru rt =>
    cases rt
    cases d with
    | str t =>
      have ev : v = V.str (S t) := rd
      subst ev
      obtain ⟨tk, rfl⟩ := ru
      have mo2 := PySem.W.mapOf_K (prog := X.prog) (w := X.w) I2.kIn kd.at_ kd.lit
      refine call_meetsIn PySem.F.slot_dict_get mo2.typeIs PySem.F.entry_dict_get (PySem.F.args_dict_get_2 _ _) (meets_dict_get (strKind X.prog X.w) (He.ga X.K (S x)) (PySem.strKind_is X.prog X.w (S t) tk) kd.low) ⟨_, mo2, ?_⟩
      rcases k.val t with ⟨h1, h2⟩ | ⟨u, v', d', h1, h2, rv, rd'⟩
      · rw [PySem.W.find_K kd.at_ h1]
        exact ⟨.non, H2, I2.tok _, rfl, q .non _ (by simp [kGet, h2]) rfl⟩
      · rw [PySem.W.find_K kd.at_ h1]
        exact ⟨v', H2, I2.tok _, rv, q d' _ (by simp [kGet, h2]) (rd' F1 H2)⟩
    | _ => exact absurd rfl hne
end
end DL

namespace DL
open PySem PySem.Spec PyProof.Rows L2
variable {T : LT}
/-! ### stores -/
def setAt (G : DG) (o i x : D) : Option DG := match o with
  | .ref a => match G a with
    | some (.lst xs) => match i with
      | .int k => (ixN xs.length k).map fun j => gset G a (some (.lst (xs.set j x)))
      | _ => none
    | some (.dct kvs) => match keyOf i with
      | some _ => if kvs.length < 1000000 then some (gset G a (some (.dct (dput kvs i x)))) else none
      | none => none
    | _ => none
  | _ => none
def sSub (te to ti : DTE) : DTS := fun E DE env G => te E env G fun x G1 => to E env G1 fun o G2 => ti E env G2 fun i G3 => ∃ G4, setAt G3 o i x = some G4 ∧ DE.nx env G4
def sPar (is : List Nat) (ta : DTA) : DTS := fun E DE env G => ta E env G fun xs G1 => xs.length = is.length ∧ DE.nx (setAll env is xs) G1
def sTg (tg : Tg) (te : DTE) : DTS := fun E DE env G => te E env G fun x G1 => dTg tg x env fun env' => DE.nx env' G1
def sStar (i j : Nat) (te : DTE) : DTS := fun E DE env G => te E env G fun d G1 => ∃ x xs, asL G1 d = some (x :: xs) ∧ DE.nx ((env.set i (some x)).set j (some (.lst xs))) G1
def dWhile (E : DXK) (tc : DTT) (tb : DTS) (DE : DEnds) : Nat → DSt → DG → Prop
  | 0, _, _ => False
  | n + 1, env, G => tc E env G fun b G1 => if b = true then tb E { DE with nx := fun env' G' => dWhile E tc tb DE n env' G' } env G1 else DE.nx env G1
def sWhile (tc : DTT) (tb : DTS) : DTS := fun E DE env G => ∃ n, dWhile E tc tb DE n env G
theorem setL_len {α : Type} (xs : List α) (j : Nat) (x : α) : (xs.set j x).length = xs.length := List.length_set
theorem RelDs.set {K : PySem.W.Frag} {F : FS} {H : Hp} : ∀ {ds : List D} {vs : List V} {j : Nat} {d : D} {v : V}, RelDs K F H ds vs → RelD K F H d v → RelDs K F H (ds.set j d) (vs.set j v)
  | [], vs, j, d, v, h, _ => by
    have e : vs = [] := h
    subst e
    exact h
  | x :: xs, _, 0, d, v, ⟨w, r, rfl, h, t⟩, hd => ⟨v, r, rfl, hd, t⟩
  | x :: xs, _, j + 1, d, v, ⟨w, r, rfl, h, t⟩, hd => ⟨w, _, rfl, h, RelDs.set t hd⟩
section
variable {X : Cx} {W : WX} {pos : Pos}
def rSetA (K : PySem.W.Frag) (T : LT) : TSet := fun o i v H Q => ∃ F G do_ di dx G', RelG K T F G H ∧ RelD K F H do_ o ∧ RelD K F H di i ∧ RelD K F H dx v ∧ setAt G do_ di dx = some G' ∧ ∀ F' H', Step F G H F' G' H' → RelG K T F' G' H' → Q H'
theorem set_A (hu : X.A.units + 1 < cLine) : PSet X (rSetA X.K T) := by
  rintro pins s σ H o i v ov iv u Q I ro ri rv ⟨F, G, do_, di, dx, G', hg, r1, r2, r3, e, q⟩
  unfold setAt at e
  split at e
  · rename_i a
    split at e
    · rename_i xs ga
      split at e
      rotate_left
      · cases e
      rename_i k
      obtain ⟨j, ej, rfl⟩ := Option.map_eq_some_iff.mp e
      obtain ⟨vs, h, kk⟩ := hg.ob a _ ga
      have hs : H a = none ∨ G a ≠ none := .inr (by rw [ga]; simp)
      have st : Step F G H F (gset G a (some (.lst (xs.set j dx)))) (upd H a (.lst (vs.set j v))) := Step.set hg hs
      exact set_list pins s σ H o i v ov iv u Q I ro ri rv ⟨a, vs, k, j, r1, r2, h, by rw [← kk.length]; exact ej, q F _ st (hg.set hs ⟨_, rfl, RelDs.step st _ (kk.set r3)⟩)⟩
    · rename_i kvs ga
      split at e
      · rename_i key ek
        split at e
        · rename_i hl
          cases e
          obtain ⟨ws, h, kk⟩ := hg.ob a _ ga
          have hs : H a = none ∨ G a ≠ none := .inr (by rw [ga]; simp)
          have st : Step F G H F (gset G a (some (.dct (dput kvs di dx)))) (upd H a (.dK (putK ws key v))) := Step.set hg hs
          refine set_dict hu pins s σ H o i v ov iv u Q I ro ri rv ⟨a, _, r1, ?_, q F _ st (hg.set hs ⟨_, rfl, RelKs.step st _ (RelKs.put ek r3 kk)⟩)⟩
          exact .inl ⟨ws, key, h, keyOf_rel ek r2, by rw [← kk.length]; exact Nat.lt_of_lt_of_le hl (by decide), rfl⟩
        · cases e
      · cases e
    · cases e
  · cases e
theorem qs_sub {o i e : Expr} {to ti te : DTE} {p' : Pos} (hu : X.A.units + 1 < cLine) (he : QE X T W e te) (ho : QE X T W o to) (hi : QE X T W i ti)
    (ha : ∀ v, assign (.Subscript o i p') X.env v = (do
      let ov ← holding [v] (eval o X.env)
      let iv ← holding [v, ov] (eval i X.env)
      standAt p'
      holding [v, ov, iv] (setItem ov iv v)
      release [v, ov, iv] []) := by intro _; rfl)
    (hs : swapsWithSole [.Subscript o i p'] e pos.line X.env = pure false := by rfl) (hw : swappedStores [.Subscript o i p'] e X.env = pure none := by rfl) (h1 : (assignEach [.Subscript o i p'] X.env).map (·.2) = [assign (.Subscript o i p') X.env] := by rfl) :
    QS X T W (.Assign [.Subscript o i p'] e pos) (sSub te to ti) :=
  PS.imp (ps_asg he (pg_sub ho hi (set_A hu) ha) hs hw h1) fun D σ H ⟨env, F, G, E, DE, hg, hs, hx, ht, hn, hr⟩ => ⟨env, F, G, E, _, hg, hs, hx, ht, fun x F1 G1 v1 H1 p1 s1 g1 r1 =>
    ⟨env, F1, G1, E, _, g1, hs.step s1, hx.step s1, p1, fun o F2 G2 v2 H2 p2 s2 g2 r2 => ⟨env, F2, G2, E, _, g2, hs.step (s1.trans s2), hx.step (s1.trans s2), p2, fun i F3 G3 v3 H3 ⟨G4, e, p3⟩ s3 g3 r3 =>
      ⟨F3, G3, o, i, x, G4, g3, RelD.step s3 o r2, r3, RelD.step (s2.trans s3) x r1, e, fun F' H' s4 g4 => hn env F' G4 σ H' p3 (s1.trans (s2.trans (s3.trans s4))) g4 (hs.step (s1.trans (s2.trans (s3.trans s4))))⟩⟩⟩⟩
/-- a, b = x, y -/
theorem qs_par {i j : Nat} {x y : Str} {a b : Expr} {ta : DTA} {px py pt : Pos} {kt k2 pt2} (hc : X.calm = true) (hN : X.N.Nodup) (hi : X.N[i]? = some x) (hj : X.N[j]? = some y) (hij : i ≠ j)
    (hx : X.env.scope.names.lookup x = some .local) (hy : X.env.scope.names.lookup y = some .local) (ha : QA X T W [a, b] ta)
    (hw : swappedStores [.Tuple [.Name x px, .Name y py] kt pt] (.Tuple [a, b] k2 pt2) X.env = pure (some [x, y]))
    (hs : swapsWithSole [.Tuple [.Name x px, .Name y py] kt pt] (.Tuple [a, b] k2 pt2) pos.line X.env = pure false := by rfl) :
    QS X T W (.Assign [.Tuple [.Name x px, .Name y py] kt pt] (.Tuple [a, b] k2 pt2) pos) (sPar [i, j] ta) :=
  PS.imp (ps_par hc hN hi hj hij hx hy ha hw hs) fun D σ H ⟨env, F, G, E, DE, hg, hs, hx, ht, hn, hr⟩ => ⟨env, F, G, E, _, hg, hs, hx, ht, fun ds F1 G1 vs H1 ⟨hl, p⟩ s1 g1 r1 => by
    obtain ⟨d1, d2, rfl⟩ : ∃ d1 d2, ds = [d1, d2] := by
      match ds, hl with
      | [d1, d2], _ => exact ⟨d1, d2, rfl⟩
    obtain ⟨v, u, rfl, rv, ru⟩ := r1.two
    exact ⟨v, u, rfl, hn _ F1 G1 _ H1 p s1 g1 (((hs.step s1).set rv).set ru)⟩⟩
/-- a name or several = a value -/
theorem qs_tg {tgE e : Expr} {te : DTE} {tg : Tg} (he : QE X T W e te) (hg : PG X tgE (vTg X.K tg)) (hs : swapsWithSole [tgE] e pos.line X.env = pure false := by rfl) (hw : swappedStores [tgE] e X.env = pure none := by rfl)
    (h1 : (assignEach [tgE] X.env).map (·.2) = [assign tgE X.env] := by rfl) : QS X T W (.Assign [tgE] e pos) (sTg tg te) :=
  PS.imp (ps_asg he hg hs hw h1) fun D σ H ⟨env, F, G, E, DE, hg, hs, hx, ht, hn, hr⟩ => ⟨env, F, G, E, _, hg, hs, hx, ht, fun x F1 G1 v1 H1 p1 s1 g1 r1 =>
    tg_run (hs.step s1) r1 p1 fun env' σ' p r' _ => hn env' F1 G1 σ' H1 p s1 g1 r'⟩
/-! first, *rest = a list -/
theorem walks_from {prog : Program} {w : World} {A : Around} (hh : A.handled = none) (I l : Addr) (hne : l ≠ I) (items : Array Value) (k : Nat) (hk : k ≤ items.size) :
    Walks prog w A I [I, l] [I] (items.size - k) (fun i v => items[i + k]? = some v) (fun i h => h.IsListIter I l (i + k) ∧ h.IsList l items) where
  sub := fun b hb => by simp at hb; simp [hb]
  frame := fun _ _ _ st hq => ⟨st.1.at fun o e => hq I (by simp) o e, st.2.at fun o e => hq l (by simp) o e⟩
  item := fun i s Q E hi st hQ => by
    have hlt : i + k < items.size := by omega
    apply wpAny_pyNext_list_item st.1 st.2 (x := items[i + k]) (by simp [hlt])
    intro h' hit' hs'
    refine hQ _ h' s.toks (by simp [hlt]) ⟨?_, st.2.extBut hs'.extBut hne⟩ fun b o hb e => hs'.extBut b o (fun h => hb (by simp [h])) e
    rw [show i + 1 + k = i + k + 1 by omega]
    exact hit'
  done := fun s Q E st hQ => by
    have e : items.size - k + k = items.size := by omega
    have st1 := st.1
    rw [e] at st1
    exact wpAny_pyNext_list_end hh st1 st.2 (by simp) fun h' he' => hQ h' s.toks fun b o hb e => he' b o (fun h => hb (by simp [h])) e
  self := fun _ _ _ _ st hQ => wpAny_pyIter_listiter st.1 hQ
theorem unpack_star {prog : Program} {w : World} {A : Around} {E : Value → Shared → Prop} {s : Shared} {l : Addr} {u0 : Value} {us : List Value} {Q : List Value → Shared → Prop} (hh : A.handled = none) (hl : s.heap.IsList l (u0 :: us).toArray) (hz : us.length ≤ sizeLine)
    (hQ : ∀ (h' : Heap) tk, (∀ b o, s.heap.get? b = some o → h'.get? b = some o) → Q [u0, .ref h'.objs.size] { s with heap := h'.push { cls := .type "list", data := .seq us.toArray }, toks := tk }) : wpAny (model prog w) A (unpackItems (.ref l) 2 (some 1)) Q E s := by
  have hlt : l < s.heap.objs.size := by obtain ⟨_, e, _⟩ := hl; exact Heap.lt_size e
  unfold unpackItems
  refine wpAny_bind ?_
  unfold notIterableAtAll
  refine wpAny_bind (wpAny_specialOf hl.typeIs slot_list_iter.lookup ?_)
  refine wpAny_pure ?_
  simp only [Bool.false_eq_true, if_false]
  refine wpAny_bind (wpAny_holding (wpAny_pyIter_list hl ?_))
  show wpAny _ _ (holding [Value.ref s.heap.objs.size] (draw (.ref s.heap.objs.size) 1) >>= _) _ _ _
  refine wpAny_bind (wpAny_holding ?_)
  show wpAny _ _ (pyNext (.ref s.heap.objs.size) >>= _) _ _ _
  have hit : (s.heap.push { cls := .type "list_iterator", data := .fields #[.ref l, .int 0 0] }).IsListIter s.heap.objs.size l 0 := ⟨_, Heap.get?_push_size _ rfl, rfl, rfl⟩
  refine wpAny_bind (wpAny_pyNext_list_item hit (hl.push _) (x := u0) (by simp) fun h1 hit1 hs1 => ?_)
  refine wpAny_bind (wpAny_holding (wpAny_pure (wpAny_pure ?_)))
  rw [if_neg (by simp)]
  have hl1 : h1.IsList l (u0 :: us).toArray := (hl.push _).extBut hs1.extBut (Nat.ne_of_lt hlt)
  have W := (walks_from (prog := prog) (w := w) (A := A.in1) hh s.heap.objs.size l (Nat.ne_of_lt hlt) (u0 :: us).toArray 1 (by simp)).toS
  refine wpAny_bind (wpAny_holding (wpAny_collect_iter (T := "list_iterator") (.inr (.inr (.inl rfl))) W (fun i s st => st.1.typeIs) ⟨hit1, hl1⟩ ?_ (by simp) (fun s2 acc hm hacc => ?_) (by simp; exact hz)))
  · intro b hb
    have hsz : s.heap.objs.size < h1.objs.size := by obtain ⟨_, e, _⟩ := hit1; exact Heap.lt_size e
    simp only [List.mem_cons, List.not_mem_nil, or_false] at hb
    rcases hb with z | z
    · rw [z]; exact hsz
    · rw [z]; exact Nat.lt_trans hlt hsz
  · have el : acc.toList = us := by
      apply List.ext_getElem?
      intro j
      obtain ⟨hsz, hel⟩ := hacc
      have hsz : acc.size = us.length := by rw [hsz]; simp
      by_cases hj : j < us.length
      · have h1 : acc[j]? = some acc[j] := Array.getElem?_eq_getElem (by omega)
        have h2 := hel j _ h1
        rw [Array.getElem?_toList, h1, ← h2]
        simp
      · rw [List.getElem?_eq_none (by rw [Array.length_toList]; omega), List.getElem?_eq_none (by omega)]
    rw [el]
    show wpAny _ _ (if us.length < 0 then _ else _) _ _ s2
    rw [if_neg (Nat.not_lt_zero _)]
    show wpAny _ _ (newList (us.take (us.length - 0)) >>= fun r => pure ([u0] ++ [r] ++ us.drop (us.length - 0))) _ _ s2
    rw [Nat.sub_zero, List.take_length, List.drop_length]
    refine wpAny_bind (wpAny_newList ?_ (by simpa using hz))
    refine wpAny_pure ?_
    obtain ⟨m1, m2, m3, m4, m5⟩ := hm
    have keep : ∀ b o, s.heap.get? b = some o → s2.heap.get? b = some o := fun b o e => m1 b o (by simp; exact Nat.ne_of_lt (Heap.lt_size e)) ((hs1.extBut b o (Nat.ne_of_lt (Heap.lt_size e))) (Heap.get?_push_of_some _ e))
    have fin := hQ s2.heap s2.toks keep
    obtain ⟨hp2, gn2, dr2, tk2, os2⟩ := s2
    obtain ⟨hp, gn, dr, tk, os⟩ := s
    dsimp only at m2 m3 m4 fin ⊢
    subst m2 m3 m4
    exact fin
def gStar (K : PySem.W.Frag) (i j : Nat) : TG := fun v σ H Q => ∃ a x xs, v = .ref a ∧ SqL K H a (x :: xs) ∧ ∀ p, H p = none → Q ((σ.set i (some x)).set j (some (.ref p))) (upd H p (.lst xs))
theorem pg_star {i j k : Nat} {x y : Str} {px py ps p' : Pos} (hc : X.calm = true) (hN : X.N.Nodup) (hi : X.N[i]? = some x) (hj : X.N[j]? = some y) (hx : Loc X.env.scope x) (hy : Loc X.env.scope y) (hfx : X.fn x = true ∨ X.env.scope.names.lookup x = some .local) (hfy : X.fn y = true ∨ X.env.scope.names.lookup y = some .local) :
    PG X (.Tuple [.Name x px, .Starred (.Name y py) ps] k p') (gStar X.K i j) := by
  constructor
  rintro pins s σ H v u Q I r ⟨a, w, ws, rfl, hq, q⟩
  obtain rfl : u = Value.ref a := r
  obtain ⟨its, rv, pl, hz⟩ := I.list hq
  rw [assign_Tuple]
  refine wpAny_bind (wpAny_standAt ?_)
  unfold unpack
  cases rv with
  | cons r0 rt =>
    rename_i u0 us
    have hz' : us.length ≤ sizeLine := by rw [← rt.length]; exact Nat.le_trans (Nat.le_succ _) hz
    refine wpAny_bind (wpAny_holding (unpack_star (I.ok.hd hc) pl.isList hz' fun h' tk keep => ?_))
    have I2 : Inv X pins σ H { s with heap := h', toks := tk } := I.kept keep
    have I3 := I2.lnew (t' := tk) rt (by rw [rt.length]; exact hz')
    exact (pgs_cons (pg_name (pos := px) hN hi hx hfx) (pgs_cons (pg_name (pos := py) hN hj hy hfy) pgs_nil)).run pins _ σ _ [w, .ref h'.objs.size] [u0, .ref h'.objs.size] Q I3 (.cons r0 (.cons rfl .nil)) ⟨w, _, rfl, .ref h'.objs.size, _, rfl, rfl, q _ I2.fresh⟩
theorem qs_star {i j k : Nat} {x y : Str} {px py ps p' : Pos} {e : Expr} {te : DTE} (hc : X.calm = true) (hN : X.N.Nodup) (hi : X.N[i]? = some x) (hj : X.N[j]? = some y) (hx : Loc X.env.scope x) (hy : Loc X.env.scope y) (hfx : X.fn x = true ∨ X.env.scope.names.lookup x = some .local) (hfy : X.fn y = true ∨ X.env.scope.names.lookup y = some .local) (he : QE X T W e te)
    (hs : swapsWithSole [.Tuple [.Name x px, .Starred (.Name y py) ps] k p'] e pos.line X.env = pure false := by rfl) (hw : swappedStores [.Tuple [.Name x px, .Starred (.Name y py) ps] k p'] e X.env = pure none := by rfl) :
    QS X T W (.Assign [.Tuple [.Name x px, .Starred (.Name y py) ps] k p'] e pos) (sStar i j te) :=
  PS.imp (ps_asg he (pg_star hc hN hi hj hx hy hfx hfy) hs hw rfl) fun D σ H ⟨env, F, G, E, DE, hg, hs, hx, ht, hn, hr⟩ => ⟨env, F, G, E, _, hg, hs, hx, ht, fun d F1 G1 v1 H1 ⟨x, xs, ex, p⟩ s1 g1 r1 => by
    obtain ⟨a, vs, rfl, h, ⟨w, ws, rfl, rw', rt⟩⟩ := asL_ok g1 r1 ex
    refine ⟨a, w, ws, rfl, .inl h, fun q hq => hn _ (fadd F1 q) G1 _ _ p (s1.trans (Step.new hq)) (g1.new hq) ?_⟩
    exact (((hs.step s1).set rw').step (Step.new (G := G1) hq)).set (relD_newLst g1 hq rt)⟩
/-! while -/
theorem qs_while {c : Expr} {body : List Stmt} {tc : DTT} {tb : DTS} (hp : PassesOwn (model X.prog X.w) X.A X.env X.xe) (hc : QT X T W c tc) (hb : QSs X T W body tb) : QS X T W (.While c body [] pos) (sWhile tc tb) :=
  PS.imp (ps_while hp hc hb) fun D σ H ⟨env, F, G, E, DE, hg, hs, hx, ⟨n, ht⟩, hn, hr⟩ => by
    refine ⟨fun m σ2 H2 => ∃ env2 F2 G2, Step F G H F2 G2 H2 ∧ RelG X.K T F2 G2 H2 ∧ RelSt X.K F2 H2 env2 σ2 ∧ dWhile E tc tb DE m env2 G2, ⟨n, env, F, G, Step.refl, hg, hs, ht⟩, ?_⟩
    rintro m σ2 H2 ⟨env2, F2, G2, s2, g2, r2, w2⟩
    cases m with
    | zero => exact False.elim w2
    | succ m =>
      refine ⟨env2, F2, G2, E, _, g2, r2, hx.step s2, w2, fun b F3 G3 H3 p3 s3 g3 => ?_⟩
      cases b with
      | true =>
        rw [if_pos rfl] at p3 ⊢
        exact ⟨fun σ' H' => ∃ env2 F2 G2, Step F G H F2 G2 H' ∧ RelG X.K T F2 G2 H' ∧ RelSt X.K F2 H' env2 σ' ∧ dWhile E tc tb DE m env2 G2, fun σ' H' w => ⟨m, Nat.lt_succ_self m, w⟩,
          env2, F3, G3, E, _, g3, r2.step s3, hx.step (s2.trans s3), p3, fun env' F' G' σ' H' p' s' g' r' => ⟨env', F', G', s2.trans (s3.trans s'), g', r', p'⟩, fun d F' G' v H' p' s' g' r' => hr d F' G' v H' p' (s2.trans (s3.trans s')) g' r'⟩
      | false =>
        rw [if_neg Bool.false_ne_true] at p3 ⊢
        exact hn env2 F3 G3 σ2 H3 p3 (s2.trans s3) g3 (r2.step s3)
end
end DL

namespace DL
open PySem PySem.Spec PyProof.Rows L2 TL
variable {T : LT}
/-! ### texts -/
/-- split at a sign -/
def splC (c : Char) (acc : List Char) : List Char → List (List Char)
  | [] => [acc]
  | d :: r => if d = c then acc :: splC c [] r else splC c (acc ++ [d]) r
def splitS (s : String) (c : Char) : List String := (splC c [] s.toList).map String.ofList
def joinC (sep : List Char) : List (List Char) → List Char
  | [] => []
  | [x] => x
  | x :: y :: r => x ++ sep ++ joinC sep (y :: r)
def joinS (sep : String) (xs : List String) : String := String.ofList (joinC sep.toList (xs.map String.toList))
theorem S_ofList (l : List Char) : TL.tl (S (String.ofList l)) = l.map Char.toNat := by
  rw [show TL.tl (S (String.ofList l)) = (S (String.ofList l)).cps.toList from rfl, S_cps]
  simp
theorem S_tl (s : String) : TL.tl (S s) = s.toList.map Char.toNat := S_cps s
theorem spl_chars (c : Char) : ∀ (l acc : List Char), spl [c.toNat] 0 (acc.map Char.toNat) (l.map Char.toNat) = (splC c acc l).map (List.map Char.toNat)
  | [], acc => by simp [splC, spl_nil]
  | d :: r, acc => by
    rw [List.map_cons]
    by_cases h : d = c
    · rw [spl_hit (by simp [pre, h])]
      unfold splC
      rw [if_pos h, List.map_cons]
      exact congrArg _ (spl_chars c r [])
    · have hp : pre [c.toNat] (d.toNat :: r.map Char.toNat) = false := by
        simp only [pre, List.length_singleton, List.take_succ_cons, List.take_zero, beq_eq_false_iff_ne, ne_eq, List.cons.injEq, and_true]
        exact fun e => h (Char.ext (UInt32.toNat_inj.mp e))
      rw [show spl [c.toNat] 0 (acc.map Char.toNat) (d.toNat :: r.map Char.toNat) = spl [c.toNat] 0 (acc.map Char.toNat ++ [d.toNat]) (r.map Char.toNat) by
        rw [spl]; rw [if_neg (by rw [hp]; decide)]]
      unfold splC
      rw [if_neg h]
      have := spl_chars c r (acc ++ [d])
      rwa [List.map_append] at this
theorem split_S (s : String) (c : Char) (hc : c.toNat < 256) : Txt.split (S s) (S (String.singleton c)) = (splitS s c).map S := by
  apply map_tl_inj
  have e1 : TL.tl (S (String.singleton c)) = [c.toNat] := by rw [S_single]
  rw [split_spl _ _ (by rw [e1]; simp) (kind_ok (by rw [S_single]; simp [hc])), e1, S_tl]
  have := spl_chars c s.toList []
  rw [List.map_nil] at this
  rw [this]
  unfold splitS
  rw [List.map_map, List.map_map]
  apply List.map_congr_left
  intro l _
  simp only [Function.comp]
  exact (S_ofList l).symm
theorem join_tl (sep : List Char) : ∀ xs : List (List Char), joinL (sep.map Char.toNat) (xs.map (List.map Char.toNat)) = (joinC sep xs).map Char.toNat
  | [] => rfl
  | [x] => rfl
  | x :: y :: r => by
    show x.map Char.toNat ++ (sep.map Char.toNat ++ joinL (sep.map Char.toNat) ((y :: r).map (List.map Char.toNat))) = (x ++ sep ++ joinC sep (y :: r)).map Char.toNat
    rw [join_tl sep (y :: r)]
    simp
theorem join_S (sep : String) (xs : List String) : Txt.join (S sep) (xs.map S) = S (joinS sep xs) := by
  apply ext_tl
  rw [join_eq, tl_join]
  unfold joinS
  rw [S_ofList, S_tl, ← join_tl, List.map_map, List.map_map]
  congr 1
  exact List.map_congr_left fun s _ => S_tl s
def mSplit : DMF := fun G x xs => match x, xs with
  | .str a, [.str b] => match signOf b with
    | some c => if c.toNat < 256 ∧ a.length + 2 ≤ 16000000 then some (.lst ((splitS a c).map .str), G) else none
    | none => none
  | _, _ => none
def mJoin : DMF := fun G x xs => match x, xs with
  | .str a, [d] => match asQ G d with
    | some ys => match allS ys with
      | some zs => if (zs.map String.length).sum + zs.length * a.length ≤ 16000000 then some (.str (joinS a zs), G) else none
      | none => none
    | none => none
  | _, _ => none
def pyIntS (G : DG) : List D → Option D
  | [.str s] => if s.length ≤ 640 then (PySem.intText? (S s)).map .int else none
  | xs => pyInt1 G xs
def pyStr (_ : DG) : List D → Option D
  | [.int i] => if i.natAbs < 2 ^ 1000 then some (.str (toString i)) else none
  | [.str s] => some (.str s)
  | _ => none
theorem signOf_eq {b : String} {c : Char} (h : signOf b = some c) : b = String.singleton c := by
  unfold signOf at h
  split at h
  · rename_i d e
    cases h
    apply String.toList_inj.mp
    rw [e]
    simp
  · cases h
section
variable {X : Cx}
theorem mt_mSplit : MtR X "str.split" (rDM X.K T mSplit) := by
  rintro pins s σ H x xs v us Q I rx rs ⟨F, G, d, ds, z, G', hg, r1, r2, e, q⟩
  unfold mSplit at e
  split at e
  · rename_i a b
    split at e
    · rename_i c ec
      split at e
      · rename_i hc
        cases e
        obtain ⟨w, rfl, rw'⟩ := r2.one
        have hb := signOf_eq ec
        refine mt_split pins s σ H x _ v us Q I rx rs ⟨S a, S b, r1, by rw [show w = V.str (S b) from rw'], by rw [hb, S_single]; rfl, by rw [S_len]; exact Nat.le_trans hc.2 (by decide), fun p hp => ?_⟩
        rw [hb, split_S a c hc.1]
        refine q _ _ _ (Step.new hp) (hg.new hp) (relD_newLst hg hp ?_)
        have := relDs_strs (K := X.K) (F := F) (H := H) (splitS a c)
        rw [List.map_map]
        exact this
      · cases e
    · cases e
  · cases e
theorem mt_mJoin : MtR X "str.join" (rDM X.K T mJoin) := by
  rintro pins s σ H x xs v us Q I rx rs ⟨F, G, d, ds, z, G', hg, r1, r2, e, q⟩
  unfold mJoin at e
  split at e
  · rename_i a d
    split at e
    · rename_i ys ey
      split at e
      · rename_i zs ez
        split at e
        · rename_i hl
          cases e
          obtain ⟨w, rfl, rw'⟩ := r2.one
          obtain ⟨p, vs, rfl, h, k⟩ := asQ_ok hg rw' ey
          rw [allS_eq ez] at k
          have ev := k.strs
          rw [show (zs.map fun s => V.str (S s)) = (zs.map S).map V.str by rw [List.map_map]; rfl] at ev
          rw [ev] at h
          refine mt_join pins s σ H x _ v us Q I rx rs ⟨S a, p, zs.map S, r1, rfl, h, ?_, by rw [join_S]; exact q F _ H Step.refl hg rfl⟩
          rw [List.map_map, List.length_map, S_len]
          rw [show (fun x : Str => x.length) ∘ S = String.length from funext fun s => S_len s]
          exact Nat.le_trans hl (by decide)
        · cases e
      · cases e
    · cases e
  · cases e
theorem call_pyIntS : CallR X (.type "int") (rDB X.K T pyIntS) := by
  rintro pins s σ H xs us Q I rs ⟨F, G, ds, z, hg, r, e, q⟩
  unfold pyIntS at e
  split at e
  · rename_i t
    split at e
    · rename_i hl
      obtain ⟨n, en, rfl⟩ := Option.map_eq_some_iff.mp e
      obtain ⟨v, rfl, rv⟩ := r.one
      exact call_int_str pins s σ H _ us Q I rs ⟨S t, n, by rw [show v = _ from rv], en, by rw [S_len]; exact hl, q _ _ H Step.refl hg rfl⟩
    · cases e
  · exact call_pyInt1 (T := T) pins s σ H xs us Q I rs ⟨F, G, _, z, hg, r, e, q⟩
theorem call_pyStr : CallR X (.type "str") (rDB X.K T pyStr) := by
  rintro pins s σ H xs us Q I rs ⟨F, G, ds, z, hg, r, e, q⟩
  unfold pyStr at e
  split at e
  · split at e
    · rename_i hl
      cases e
      obtain ⟨v, rfl, rv⟩ := r.one
      refine call_str_int pins s σ H _ us Q I rs ⟨_, by rw [show v = _ from rv], ?_, q _ _ H Step.refl hg rfl⟩
      rename_i i
      by_cases h0 : i.natAbs = 0
      · rw [h0]; decide
      · have := (Nat.log2_lt h0).mpr hl
        omega
    · cases e
  · cases e
    obtain ⟨v, rfl, rv⟩ := r.one
    exact SkE.call_str_str pins s σ H _ us Q I rs ⟨_, by rw [show v = _ from rv], q _ _ H Step.refl hg rfl⟩
  · cases e
end
end DL

namespace DL
open PySem PySem.Spec PyProof.Rows L2 LamX HotX L2H
variable {T : LT}
/-! ### while an exception is handled: comprehensions over a list -/
abbrev QIQ (X : Cx) (T : LT) (W : WX) (tg e : Expr) (t : DTI) : Prop := PIQ X tg e (liftI X.K T W t)
def dIterL (te : DTE) : DTI := fun E env G Q => te E env G fun d G1 => ∃ xs, asL G1 d = some xs ∧ Q xs (fun G' => asL G' d = some xs) G1
section
variable {X : Cx} {W : WX} {elt tg iter e : Expr} {ifs : List Expr} {scope : Scope} {pos : Pos} {wi : DTI} {g : Tg} {tt : DTT} {te : DTE}
theorem qiq_it (he : QE X T W e te) : QIQ X T W tg e (dIterL te) := fun pins s σ H R I ⟨env, F, G, E, P, hg, hs, hx, ht, hq⟩ => by
  refine piq_list he pins s σ H R I ⟨env, F, G, E, _, hg, hs, hx, ht, fun d F1 G1 v1 H1 ⟨ds, ed, p⟩ s1 g1 r1 => ?_⟩
  obtain ⟨a, vs, rfl, h, k⟩ := asL_ok g1 r1 ed
  refine ⟨a, rfl, ⟨vs, .inl h⟩, hq ds _ F1 G1 H1 _ p s1 g1 fun i F2 G2 H2 s2 g2 gd => ?_⟩
  obtain ⟨a', vs2, ea, h2, k2⟩ := asL_ok g2 (RelD.step s2 d r1) gd
  cases ea
  constructor
  · intro d' e'
    obtain ⟨x, ex, rx⟩ := k2.get e'
    refine ⟨⟨vs2, x, .inl h2, ex⟩, ?_⟩
    rintro y H3 ⟨rfl, hy⟩
    have := hy vs2 (.inl h2)
    rw [ex] at this
    cases this
    exact ⟨F2, Step.refl, g2, rx⟩
  · intro e'
    exact ⟨vs2, .inl h2, by rw [e', k2.length]; exact Nat.le_refl _⟩
theorem q_lcQ (own : List (Str × Nat)) (hot : HotC X) (hN : X.N.Nodup) (hi : QIQ X T W tg iter wi) (ok : BlkOk X.N X.env.scope scope own) (hv : tgIn g (own.map (·.2)) = true)
    (hg : ∀ (s : Shared) (H : Hp) (C : Addr) (cl : List (Str × Addr)) (fp : List Addr), PG (X.blk s H scope (compEnvC scope cl C X.env) fp) tg (vTg X.K g)) (ht : ∀ (s : Shared) (H : Hp) (C : Addr) (cl : List (Str × Addr)) (fp : List Addr), QTs (X.blk s H scope (compEnvC scope cl C X.env) fp) T WF ifs tt)
    (he : ∀ (s : Shared) (H : Hp) (C : Addr) (cl : List (Str × Addr)) (fp : List Addr), QE (X.blk s H scope (compEnvC scope cl C X.env) fp) T WF elt te) (hs : ∀ x, foldedSetIterable iter X.env x = pure x := by intro _; rfl) :
    QE X T W (.ListComp elt [⟨tg, iter, ifs, 0⟩] scope pos) (dLc wi g tt te (own.map (·.2))) := PE.imp (pe_lcQ hot hN hi ok hg ht he hs) fun σ H Q h => lc_lift hv h
end
/-! ### the refusals -/
structure ToldK (K : PySem.W.Frag) : Prop where
  exc : ∀ c ∈ refusals, ExcC K (He.ga K (S c))
  kit : ∀ c ∈ refusals, ∀ c' ∈ kinds13, PySem.W.kitOne K (.ref (He.ga K (S c))) (.ref (He.ga K (S c'))) = some (c == c')
  kitV : ∀ c ∈ refusals, PySem.W.kitOne K (.ref (He.ga K (S c))) (.type "ValueError") = some true
  exmT : ∀ c ∈ refusals, PySem.W.exmOne K (.ref (He.ga K (S c))) (.ref (He.ga K (S "TooMuch"))) = some false
  exmC : ∀ c ∈ refusals, PySem.W.exmOne K (.ref (He.ga K (S c))) (.ref (He.ga K (S "CageError"))) = some true
theorem excB_ok {K : PySem.W.Frag} {D : Addr} (h : excB K D = true) : ExcC K D := by
  unfold excB at h
  simp only [Bool.and_eq_true, decide_eq_true_eq] at h
  exact ⟨h.1, h.2.1, h.2.2.1, h.2.2.2.1, h.2.2.2.2.1, h.2.2.2.2.2.1, h.2.2.2.2.2.2.1, h.2.2.2.2.2.2.2⟩
theorem toldB_ok {K : PySem.W.Frag} (h : toldB K = true) : ToldK K := by
  unfold toldB at h
  rw [List.all_eq_true] at h
  have g := fun c hc => by
    have := h c hc
    simp only [Bool.and_eq_true, decide_eq_true_eq, List.all_eq_true] at this
    exact this
  exact ⟨fun c hc => excB_ok (g c hc).1, fun c hc c' hc' => (g c hc).2.1 c' hc', fun c hc => (g c hc).2.2.1, fun c hc => (g c hc).2.2.2.1, fun c hc => (g c hc).2.2.2.2⟩
/-! isinstance(e, C) of the handled exception at a -/
def dIsE (i : Nat) (a : Addr) (b : Bool) : DTE := fun _ env G Q => env[i]? = some (some (.ref a)) ∧ Q (.bl b) G
section
variable {X : Cx} {W : WX} {a D : Addr} {oe : Obj} {e : Str} {i : Nat} {p1 p2 p3 pos : Pos} {b : Bool}
theorem q_isE {x : Str} {cv : Value} {c : V} (C : ExcC X.K D) (hz : Zc (.ref D) none oe) (hf : ∃ vs, oe.data = .fields vs) (hp : (a, oe) ∈ X.pn) (hg : Gl X "isinstance") (hm : X.mg "isinstance" = none) (hN : X.N[i]? = some e) (hv : Vis X.env.scope e)
    (hc : PE X (.Name x p3) (tC c)) (hcv : ∀ u, RelV c u → u = cv) (hk : PySem.W.kitOne X.K (.ref D) cv = some b) (hd : (e == ("__debug__" : Str)) = false := by decide) (hcd : (e == ("__classdict__" : Str)) = false := by decide) :
    QE X T W (.Call (.Name "isinstance" p1) [.Name e p2, .Name x p3] [] pos) (dIsE i a b) :=
  PE.imp (pe_callB (call_isP C hz hf hp) hg hm PyProof.Rows.boot_isinstance (pa_cons (pe_var hN hv hd hcd) (pa_cons hc pa_nil))) fun σ H Q ⟨env, F, G, E, P, hg, hs, hx, ⟨ht, p⟩, hq⟩ => by
    obtain ⟨v, ev, rv⟩ := hs.get ht
    exact ⟨v, ev, c, cv, b, by rw [show v = V.ref a from rv], hcv, hk, hq _ F G _ H p Step.refl hg rfl⟩
end
end DL

namespace DL
open PySem PySem.Spec PyProof.Rows L2 LamX HotX L2H
variable {T : LT}
/-! ### told -/
/-- what the def term promises of the handled exception p -/
def spTerm (K : PySem.W.Frag) (T : LT) : SpT := fun p vs H Q => ∃ F G c, RelG K T F G H ∧ vs = [.ref p.1] ∧ Zc (.ref (He.ga K (S c))) none p.2 ∧ (∃ fs, p.2.data = .fields fs) ∧ c ∈ refusals ∧
  ∀ F' v H', Step F G H F' G H' → RelG K T F' G H' → RelD K F' H' (.tup [.str "refused", .str c]) v → Q v H'
structure DTerm (P : Program) (w : World) (K : PySem.W.Frag) (T : LT) (mg : Str → Option Value) (base : Heap) (k : Nat) : Prop where
  ok : ∃ fd, FnT P w K mg base k (He.ga K "_law_term") fd ["e"] (spTerm K T) ∧ L2.Binds K fd ["e"] []
  mg : mg "_law_term" = some (.ref (He.ga K "_law_term"))
  kp : PySem.W.keepIn K (.ref (He.ga K "_law_term")) = true
/-- the promise from the body's derivation, p held fast -/
theorem dterm_of {P : Program} {w : World} {K : PySem.W.Frag} {mg : Str → Option Value} {base : Heap} {k : Nat} {params : Arguments} {body : List Stmt} {scope : Scope} {fd : FuncData} {N : List Str} {t : Addr → String → DTS}
    (F : FunD K "_law_term" "_law_term" params body scope [] [] (He.ga K "_law_term") fd) (hmg : mg "_law_term" = some (.ref (He.ga K "_law_term"))) (Sc : FnScope N ["e"] scope)
    (hb : ∀ (kV doc pm : Value) (an : Option Addr) (cdv ct : Value) (us : List Value), us.length = 1 → bindArgs (PySem.W.fnOf "_law_term" "_law_term" params body scope .none kV doc pm an cdv ct) ⟨us, []⟩ = pure ((["e"] : List Str).zip us))
    (hbody : ∀ (cdv : Value) (A : Around) (outer : List Env) (s : Shared) (H : Hp) (p : Addr × Obj) (c : String), Hot1 A p → RoomH k (A.deeper (envOfC "_law_term" scope s.heap.objs.size (He.ga K "_law_term") cdv)) → Zc (.ref (He.ga K (S c))) none p.2 → (∃ fs, p.2.data = .fields fs) → c ∈ refusals →
      QSs (cxH C8.CX0 P w K mg base N "_law_term" scope (He.ga K "_law_term") cdv A outer s H C8.E0 p) T WF body (t p.1 c))
    (hsp : ∀ a c G (Q : DK), c ∈ refusals → Q (.tup [.str "refused", .str c]) G → t a c EF { nx := fun _ G' => Q .non G', rt := Q } (dstart N [.ref a]) G) : DTerm P w K T mg base (k + 1) := by
  refine ⟨⟨fd, fnT_of F Sc ?_ ?_, F.bindsN hb⟩, hmg, F.kp⟩
  · rintro p vs H Q ⟨F, G, c, _, rfl, _⟩
    rfl
  · rintro cdv A outer s H vs Q p hot hr ⟨F, G, c, hg, rfl, hz, hf, hc, hq⟩
    refine ⟨_, hbody cdv A outer s H p c hot hr hz hf hc, dstart N [.ref p.1], F, G, EF, { nx := fun _ G' => G' = G ∧ False, rt := fun d G' => d = .tup [.str "refused", .str c] ∧ G' = G }, hg, relSt_start ⟨_, _, rfl, rfl, rfl⟩, fun _ _ _ _ _ _ _ _ z => z.elim, ?_, fun _ _ _ _ _ z => z.2.elim, ?_⟩
    · exact hsp p.1 c G (fun d G' => d = .tup [.str "refused", .str c] ∧ G' = G) hc ⟨rfl, rfl⟩ |> fun h => by
        have e : (fun (_ : DSt) (G' : DG) => (fun (d : D) (G' : DG) => d = .tup [.str "refused", .str c] ∧ G' = G) .non G') = fun _ G' => G' = G ∧ False := by
          funext _ G'
          simp
        rw [e] at h
        exact h
    · rintro d F' G' v H' ⟨rfl, rfl⟩ st g r
      exact hq F' v H' st g r
def toldX (P : DK) : DXK := fun x _ G => ∃ c, x = (c, none) ∧ c ∈ refusals ∧ P (.tup [.str "refused", .str c]) G
def dTold (te : DTE) : DTE := fun _ env G Q => te (toldX Q) env G Q
/-- the tables' growth leaves the rest -/
theorem extN_step {F : FS} {G : DG} {H H1 : Hp} (e : ExtN H H1) (hg : ∀ a, F a → ∃ o, H a = some o ∧ isDat (strip o) = true) : Step F G H F G H1 := by
  refine ⟨fun a o f h => ⟨f, o, e a o h fun ps z => ?_, .inl rfl⟩, fun a o f g h pl => ⟨f, g, e a o h fun ps z => ?_⟩⟩
  · obtain ⟨o', h', d⟩ := hg a f
    rw [h] at h'
    cases h'
    rw [z] at d
    cases d
  · rw [z] at pl
    cases pl
theorem extN_relG {K : PySem.W.Frag} {F : FS} {G : DG} {H H1 : Hp} (e : ExtN H H1) (t : Tabs T H1) (hg : RelG K T F G H) : RelG K T F G H1 := by
  have st := extN_step (G := G) e fun a f => (hg.fz a f).2
  refine hg.to st (fun a f => .inl f) t fun a o ga => ?_
  obtain ⟨u, hu, pu⟩ := hg.obj ga
  rw [hu]
  exact e a u hu fun ps z => by rw [z] at pu; cases pu
/-- told's own reading -/
def TTold (K : PySem.W.Frag) (T : LT) : (XK → Hp → VK → Prop) → Hp → VK → Prop := fun tl H Q =>
  tl (fun cls d H' => ∃ F G c, c ∈ refusals ∧ cls = .ref (He.ga K (S c)) ∧ d = none ∧ RelG K T F G H' ∧ ∀ F' v H'', Step F G H' F' G H'' → RelG K T F' G H'' → RelD K F' H'' (.tup [.str "refused", .str c]) v → Q v H'') H Q
section
variable {X : Cx}
theorem told_gives {sg : Scope} {g : Addr} {cdg : Value} {q : Str} {k : Nat} {b1 : Stmt} {p1 p2 p3 p4 p5 p6 p7 p8 p9 p10 p11 : Pos} (tk : ToldK X.K) (FT : DTerm X.prog X.w X.K T X.mg X.base k)
    (hge : sg.names.lookup ("e" : Str) = some .local) (hgm : sg.names.lookup ("TooMuch" : Str) = some .globalImplicit) (hgc : sg.names.lookup ("CageError" : Str) = some .globalImplicit) (hgt : sg.names.lookup ("_law_term" : Str) = some .globalImplicit)
    (hmm : X.mg "TooMuch" = some (.ref (He.ga X.K (S "TooMuch")))) (hmc : X.mg "CageError" = some (.ref (He.ga X.K (S "CageError")))) :
    Gives X ["deed", "e"] "_law_told" sg g cdg [.Try [.Return (some (.Call (.Name "deed" p1) [] [] p2)) p3]
      [.ExceptHandler (some (.Name "TooMuch" p4)) (some "e") [b1] p5, .ExceptHandler (some (.Name "CageError" p6)) (some "e") [.Return (some (.Call (.Name "_law_term" p7) [.Name "e" p8] [] p9)) p10] p11] [] [] pos] "deed" q (TTold X.K T) k := by
  intro f c' s H Q tl hr act hc h
  obtain ⟨fd, F1, B⟩ := FT.ok
  have hn : (["deed", "e"] : List Str).Nodup := by decide
  refine ⟨_, pss_one (ps_tryN (X := (DefX X ["deed", "e"] "_law_told" sg g cdg s H).nox) (n := "e") (i := 1) (Wo := WF)
      (l := [(.ref (He.ga X.K (S "TooMuch")), fun _ _ _ _ _ _ => False), (.ref (He.ga X.K (S "CageError")), fun a cls d D σ H => (σ.length = 2 → σ[1]? = some (some (.ref a))) ∧ ∃ F G c, c ∈ refusals ∧ cls = .ref (He.ga X.K (S c)) ∧ d = none ∧ RelG X.K T F G H ∧
        ∀ F' v H', Step F G H F' G H' → RelG X.K T F' G H' → RelD X.K F' H' (.tup [.str "refused", .str c]) v → D.rt v H')])
      (tb := fun W D σ H => ∃ Ech : XK, (∀ cls d σ' H', Ech cls d H' → W cls d σ' H') ∧ σ[0]? = some (some (.ref f)) ∧ H c' = some (CodeO c' q) ∧ tl Ech H D.rt)
      rfl rfl hn rfl hge ?wo ?body (.cons ⟨hgm, by decide, .inl hmm⟩ ?s1 (.cons ⟨hgc, by decide, .inl hmc⟩ ?s2 .nil))), ?run⟩
  case wo =>
    rintro u s' ⟨_, _, _, _, _, _, _, _, _, _, _, _, _, _, _, _, z⟩
    exact z.elim
  case body =>
    intro W pn xe tk' _
    constructor
    rintro pins s' σ H' D I ⟨Ech, hW, h1, h2, h3⟩
    exact (pss_one (ps_ret (pos := p3) (act W pn xe Ech p1 p2 tk' hW))).run pins s' σ H' D I ⟨h1, h2, h3⟩
  case s1 =>
    intro a oe cls d pn hz hf
    exact ⟨fun pins s σ H D I z => z.elim⟩
  case s2 =>
    intro a oe cls d pn hz hf
    obtain ⟨fs, hfs⟩ := hf
    have hot : Hot1 ((DefX X ["deed", "e"] "_law_told" sg g cdg s H).nox.suite a ((a, oe) :: pn)).A (a, oe) := ⟨rfl, fs, hfs, hz.2.2 fs hfs⟩
    have hr' : RoomH k ((DefX X ["deed", "e"] "_law_told" sg g cdg s H).nox.suite a ((a, oe) :: pn)).A := roomH_mark (hr.mono (Nat.le_succ k)) _
    have run := (pss_one (ps_ret (pos := p10) (pe_callT (q := p7) (pos := p9) (X := (DefX X ["deed", "e"] "_law_told" sg g cdg s H).nox.suite a ((a, oe) :: pn)) (p := (a, oe)) F1 hr' hot List.mem_cons_self hgt FT.mg FT.kp B (pa_cons (pe_var (pos := p8) (i := 1) (x := "e") rfl (Or.inl hge)) pa_nil))))
    constructor
    rintro pins s' σ H' D I ⟨hσ, F, G, c, hcr, rfl, rfl, hg, hq⟩
    exact run.run pins s' σ H' D I ⟨.ref a, hσ I.len, F, G, c, hg, rfl, hz.zc, ⟨fs, hfs⟩, hcr, hq⟩
  case run =>
    refine ⟨_, fun cls d σ' H' hE => ?_, rfl, hc, h⟩
    obtain ⟨F, G, c, hcr, rfl, rfl, hg, hq⟩ := hE
    refine ⟨false, tk.exmT c hcr, fun z => (Bool.false_ne_true z).elim, fun _ => ⟨true, tk.exmC c hcr, fun _ a ha => ⟨fun hl => ?_, F, G, c, hcr, rfl, rfl, hg, hq⟩, fun z => (Bool.noConfusion z)⟩⟩
    rw [List.length_set] at hl
    exact List.getElem?_set_self (by omega)
/-- the tables of lambdas -/
structure LamT (X : Cx) (T : LT) : Prop where
  ex : ∃ c P, TabB X.base X.mg c P ∧ X.env.code = .ref c ∧ (P, X.env.qual ++ "<lambda>") ∈ T ∧ ∀ p ∈ T, p.1 = P → p.2 = X.env.qual ++ "<lambda>"
/-- told as the top has left it -/
structure DTold (P : Program) (w : World) (K : PySem.W.Frag) (T : LT) (mg : Str → Option Value) (base : Heap) (k : Nat) : Prop where
  mgt : mg "_law_told" = some (.ref (He.ga K "_law_told"))
  gv : ∀ X : Cx, X.prog = P → X.w = w → X.K = K → X.mg = mg → X.base = base → ∃ (pg : Arguments) (bg : List Stmt) (sg : Scope) (dV kV doc pm cdv ct oc : Value) (an od : Option Addr) (osl : Array (Option Value)),
    K.lookup (He.ga K "_law_told") = some ⟨oc, od, .func (PySem.W.fnOf "_law_told" "_law_told" pg bg sg dV kV doc pm an cdv ct), osl⟩ ∧ PySem.W.codeIn K cdv "_law_told" = true ∧ L2.Binds K (PySem.W.fnOf "_law_told" "_law_told" pg bg sg dV kV doc pm an cdv ct) ["deed"] [] ∧ FnScope ["deed", "e"] ["deed"] sg ∧ Vis sg "deed" ∧
      ∀ q, Gives X ["deed", "e"] "_law_told" sg (He.ga K "_law_told") cdv bg "deed" q (TTold K T) k
  kp : PySem.W.keepIn K (.ref (He.ga K "_law_told")) = true
theorem dtold_of {P : Program} {w : World} {K : PySem.W.Frag} {mg : Str → Option Value} {base : Heap} {k : Nat} {params : Arguments} {scope : Scope} {fd : FuncData} {b1 : Stmt} {p1 p2 p3 p4 p5 p6 p7 p8 p9 p10 p11 p12 : Pos}
    (F : FunD K "_law_told" "_law_told" params [.Try [.Return (some (.Call (.Name "deed" p1) [] [] p2)) p3]
      [.ExceptHandler (some (.Name "TooMuch" p4)) (some "e") [b1] p5, .ExceptHandler (some (.Name "CageError" p6)) (some "e") [.Return (some (.Call (.Name "_law_term" p7) [.Name "e" p8] [] p9)) p10] p11] [] [] p12] scope [] [] (He.ga K "_law_told") fd) (hmg : mg "_law_told" = some (.ref (He.ga K "_law_told"))) (Sc : FnScope ["deed", "e"] ["deed"] scope)
    (hb : ∀ (body : List Stmt) (kV doc pm : Value) (an : Option Addr) (cdv ct : Value) (us : List Value), us.length = 1 → bindArgs (PySem.W.fnOf "_law_told" "_law_told" params body scope .none kV doc pm an cdv ct) ⟨us, []⟩ = pure ((["deed"] : List Str).zip us))
    (tk : ToldK K) (FT : DTerm P w K T mg base k) (hvd : Vis scope "deed")
    (hge : scope.names.lookup ("e" : Str) = some .local) (hgm : scope.names.lookup ("TooMuch" : Str) = some .globalImplicit) (hgc : scope.names.lookup ("CageError" : Str) = some .globalImplicit) (hgt : scope.names.lookup ("_law_term" : Str) = some .globalImplicit)
    (hmm : mg "TooMuch" = some (.ref (He.ga K (S "TooMuch")))) (hmc : mg "CageError" = some (.ref (He.ga K (S "CageError")))) : DTold P w K T mg base k := by
  have bd := F.bindsN (ps := ["deed"]) (fun kV doc pm an cdv ct us hl => hb _ kV doc pm an cdv ct us hl)
  refine ⟨hmg, ?_, F.kp⟩
  rintro X rfl rfl rfl rfl rfl
  obtain ⟨oc, od, dV, kV, doc, pm, an, cdv, ct, osl, rfl, lk, hcd, _, _⟩ := F.ex
  exact ⟨_, _, _, dV, kV, doc, pm, cdv, ct, oc, an, od, osl, lk, hcd, bd, Sc, hvd, fun q => told_gives tk FT hge hgm hgc hgt hmm hmc⟩
theorem q_told {W : WX} {params : Arguments} {body : Expr} {scope : Scope} {te : DTE} {p lpos pos : Pos} {k j : Nat} (FT : DTold X.prog X.w X.K T X.mg X.base k) (LTb : LamT X T) (hg : Gl X "_law_told") (hr : Room j X.A) (hj : k + 2 ≤ j) (L : LamS X.env.scope scope)
    (hbody : ∀ (A : Around) (outer : List Env) (s : Shared) (H : Hp) (E : XK) (f c' : Addr), Room k (A.deeper (lamEnv X scope s.heap.objs.size f c')) → QE (lamN X A outer s H E scope f c') T (fun cls d _ H' => E cls d H') body te)
    (hdef : defaultsOf params X.env = ([], []) := by rfl)
    (hbind : ∀ (q : Str) (cl : List (Str × Addr)) (pm cv ctv : Value), bindArgs (PySem.W.kla_fn "<lambda>" q params body scope cl pm cv ctv) ⟨[], []⟩ = pure [] := by intros; rfl) :
    QE X T W (.Call (.Name "_law_told" p) [.Lambda params body scope lpos] [] pos) (dTold te) := by
  obtain ⟨pg, bg, sg, dV, kV, doc, pm, cdv, ct, oc, an, od, osl, lk, hcg, hb, Sg, hva, gv⟩ := FT.gv X rfl rfl rfl rfl rfl
  obtain ⟨c, P, TB, hcode, hmT, hu⟩ := LTb.ex
  refine PE.imp (pe_lamto (t := fun E => liftE X.K T (fun cls d _ H' => E cls d H') te) hg FT.mgt FT.kp lk hcg hb Sg rfl hva (gv _) TB hcode hmT hu (hr.mono hj) L hdef hbind hbody (by decide) (by decide) (by decide)) ?_
  rintro σ H Q ⟨env, F, G, E, Pk, hG, hs, hx, ht, hq⟩
  refine ⟨hG.tb, fun H1 eN T1 => ?_⟩
  have st := extN_step (G := G) eN fun a f => (hG.fz a f).2
  have g1 := extN_relG eN T1 hG
  refine ⟨env, F, G, toldX Pk, Pk, g1, hs.step st, ?_, ht, fun d F' G' v H' p s' g' r' => hq d F' G' v H' p (st.trans s') g' r'⟩
  rintro x env' F' G' cls d σ' H' ⟨c0, rfl, hc0, p⟩ s' g' rs ⟨rfl, rfl⟩
  exact ⟨F', G', c0, hc0, rfl, rfl, g', fun F2 v H2 s2 g2 r2 => hq _ F2 G' v H2 p (st.trans (s'.trans s2)) g2 r2⟩
end
end DL

namespace DL
open PySem PySem.Spec PyProof.Rows L2 LamX HotX L2H
variable {T : LT}
/-! ### for the printed walk -/
def spOf (N : List Str) (n : Nat) (t : DTS) : DSp := fun ds G Q E => ds.length = n ∧ t (fun x _ G' => E x G') { nx := fun _ G' => Q .non G', rt := Q } (dstart N ds) G
theorem takesF {X : Cx} : L2N.Takes X WF := fun _ _ x => by
  obtain ⟨_, _, _, _, _, _, _, _, _, _, _, _, _, _, _, _, z⟩ := x
  exact z.elim
structure XcK (K : PySem.W.Frag) (mg : Str → Option Value) (c : String) : Prop where
  ok : (He.Fa.exc (S c)).ok K = true
  mg : mg (S c) = some (.ref (He.ga K (S c)))
theorem dxc {X : Cx} {c : String} (x : XcK X.K X.mg c) : DXc X c := by
  obtain ⟨h1, h2, h3, h4⟩ := He.exc_ok x.ok
  exact ⟨h1, x.mg, h2, raises_own h3 h4⟩
theorem hotu {k : Nat} {A : Around} (r : RoomH k A) : A.units + 64 < cLine := by have := r.un; omega
theorem hotu1 {k : Nat} {A : Around} (r : RoomH k A) : A.units + 1 < cLine := by have := r.un; omega
section
variable {P : Program} {w : World} {K : PySem.W.Frag} {mg : Str → Option Value} {base : Heap} {k : Nat} {x : Str} {params : Arguments} {body : List Stmt} {scope : Scope} {fd : FuncData} {N ps : List Str} {t : DTS}
/-- a def whose code object is told (it makes lambdas) -/
theorem fnk_of (F : FunD K x x params body scope [] [] (He.ga K x) fd) (Sc : FnScope N ps scope)
    (hbody : ∀ (cdv : Value) (A : Around) (outer : List Env) (s : Shared) (H : Hp) (E : XK), cdv = .ref (He.codeOf K (x, none)) → Room k (A.deeper (envOfC x scope s.heap.objs.size (He.ga K x) cdv)) →
      QSs (cxOf (L2N.CX P w) P w K mg base N x scope (He.ga K x) cdv A outer s H E) T (fun cls d _ H' => E cls d H') body t) :
    FnOk P w K mg base (L2N.CX P w) (k + 1) (He.ga K x) fd ps (liftSp K T (spOf N ps.length t)) := by
  obtain ⟨oc, od, dV, kV, doc, pm, an, cdv, ct, osl, rfl, lk, hcd, _, _⟩ := F.ex
  obtain ⟨c, rfl⟩ := He.codeIn_ref hcd
  have ec : He.codeOf K (x, none) = c := He.codeOf_eq (p := (x, none)) lk rfl
  refine fn_of lk hcd Sc (fun vs H Q E h => ?_) fun A outer s H vs Q E hr h => ⟨_, hbody (.ref c) A outer s H E (by rw [ec]) hr, ?_⟩
  · obtain ⟨ds, F, G, P, Ed, hg, hr, hs, _⟩ := h
    rw [← hr.length]
    exact hs.1
  · obtain ⟨ds, F, G, P, Ed, hg, hr, hs, hq, hx⟩ := h
    exact ⟨dstart N ds, F, G, _, _, hg, relSt_start hr, fun x env' F' G' cls d σ' H' p s g r rx => hx x _ G' cls d H' p s g rx, hs.2, fun env' F' G' σ' H' p s g r => hq .non F' G' .non H' p s g rfl, hq⟩
theorem dfnk_of (F : ∃ fd, FunD K x x params body scope [] [] (He.ga K x) fd) (hmg : mg x = some (.ref (He.ga K x))) (Sc : FnScope N ps scope)
    (hb : ∀ (kV doc pm : Value) (an : Option Addr) (cdv ct : Value) (us : List Value), us.length = ps.length → bindArgs (PySem.W.fnOf x x params body scope .none kV doc pm an cdv ct) ⟨us, []⟩ = pure (ps.zip us))
    (hbody : ∀ (cdv : Value) (A : Around) (outer : List Env) (s : Shared) (H : Hp) (E : XK), cdv = .ref (He.codeOf K (x, none)) → Room k (A.deeper (envOfC x scope s.heap.objs.size (He.ga K x) cdv)) →
      QSs (cxOf (L2N.CX P w) P w K mg base N x scope (He.ga K x) cdv A outer s H E) T (fun cls d _ H' => E cls d H') body t) :
    DFn P w K T mg base (k + 1) x ps (spOf N ps.length t) := by
  obtain ⟨fd, F⟩ := F
  exact ⟨⟨fd, fnk_of F Sc hbody, F.bindsN hb⟩, hmg, F.kp⟩
end
theorem DTerm.mono {P : Program} {w : World} {K : PySem.W.Frag} {mg : Str → Option Value} {base : Heap} {j k : Nat} (h : DTerm P w K T mg base j) (hjk : j ≤ k) : DTerm P w K T mg base k := by
  obtain ⟨fd, F, B⟩ := h.ok
  exact ⟨⟨fd, ⟨F.len, fun p A outer s H args us vs Q hr => F.run p A outer s H args us vs Q (hr.mono hjk)⟩, B⟩, h.mg, h.kp⟩
/-! the law itself -/
def G0 : DG := fun _ => none
theorem relG_start {K : PySem.W.Frag} {H : Hp} {a : Addr} {ns : List Int} (hT : Tabs T H) (hS : SqL K H a (ns.map V.int)) : ∃ F, RelG K T F G0 H ∧ RelDs K F H [.scr ns] [.ref a] := by
  rcases hS with h | h
  · have hr : ∃ o, H a = some o ∧ strip o = .lst (ns.map V.int) := by
      rcases h with h | ⟨o, h⟩
      · exact ⟨_, h, rfl⟩
      · exact ⟨_, h, rfl⟩
    obtain ⟨o, ho, es⟩ := hr
    refine ⟨fun b => b = a, ⟨fun b hb => ⟨rfl, o, by rw [hb]; exact ho, by rw [es]; rfl⟩, hT, fun b o e => by cases e⟩, _, _, rfl, ⟨a, rfl, .inl ⟨⟨o, ho, es⟩, rfl⟩⟩, rfl⟩
  · exact ⟨fun _ => False, ⟨fun b hb => hb.elim, hT, fun b o e => by cases e⟩, _, _, rfl, ⟨a, rfl, .inr h⟩, rfl⟩
theorem law_sp {K : PySem.W.Frag} {sp : DSp} {H : Hp} {a : Addr} {ns : List Int} (hT : Tabs T H) (hS : SqL K H a (ns.map V.int)) (h : sp [.scr ns] G0 (fun d _ => d = .bl true) fun _ _ => False) : liftSp K T sp [.ref a] H (fun v _ => v = .bl true) fun _ _ _ => False := by
  obtain ⟨F, hg, hr⟩ := relG_start hT hS
  exact ⟨_, F, G0, _, _, hg, hr, h, fun d F' G' v H' e _ _ r => by rw [e] at r; exact r, fun _ _ _ _ _ _ z _ _ _ => z⟩
end DL

namespace DL
open PySem PySem.Spec PyProof.Rows L2
/-! ### readings that can be run: values without tracked objects -/
abbrev Ev (α : Type) := DSt → Option (Except DX α)
def endE (E : DXK) (env : DSt) (G : DG) {α : Type} (Q : α → DG → Prop) : Except DX α → Prop
  | .ok d => Q d G
  | .error x => E x env G
def bindE {α β : Type} (a : Option (Except DX α)) (f : α → Option (Except DX β)) : Option (Except DX β) := match a with
  | some (.ok x) => f x
  | some (.error x) => some (.error x)
  | none => none
def EvE (t : DTE) (e : Ev D) : Prop := ∀ env r, e env = some r → ∀ E G Q, endE E env G Q r → t E env G Q
def EvT (t : DTT) (e : Ev Bool) : Prop := ∀ env r, e env = some r → ∀ E G Q, endE E env G Q r → t E env G Q
def EvA (t : DTA) (e : Ev (List D)) : Prop := ∀ env r, e env = some r → ∀ E G Q, endE E env G Q r → t E env G Q
def EvO (t : DTO) (e : Ev (Option Int)) : Prop := ∀ env r, e env = some r → ∀ E G Q, endE E env G Q r → t E env G Q
def EvI (t : DTI) (e : Ev (List D)) : Prop := ∀ env r, e env = some r → ∀ E G Q, endE E env G (fun xs G => ∀ g : DG → Prop, (∀ G', g G') → Q xs g G) r → t E env G Q
inductive SR where
  | nx (env : DSt) | rt (d : D) | ex (x : DX) (env : DSt)
abbrev EvX := DSt → Option SR
def endS (E : DXK) (DE : DEnds) (G : DG) : SR → Prop
  | .nx env => DE.nx env G
  | .rt d => DE.rt d G
  | .ex x env => E x env G
def EvS (t : DTS) (e : EvX) : Prop := ∀ env r, e env = some r → ∀ E DE G, endS E DE G r → t E DE env G
theorem bind_ok {α β : Type} {a : Option (Except DX α)} {f : α → Option (Except DX β)} {r : Except DX β} (h : bindE a f = some r) : (∃ x, a = some (.ok x) ∧ f x = some r) ∨ ∃ x, a = some (.error x) ∧ r = .error x := by
  unfold bindE at h
  split at h
  · exact .inl ⟨_, rfl, h⟩
  · cases h; exact .inr ⟨_, rfl, rfl⟩
  · cases h
/-- what is read of values that know no tracked object is read so everywhere -/
def Mono1 (f : DG → D → Option D) : Prop := ∀ G x z, f G0 x = some z → f G x = some z
def Mono2 (f : DG → D → D → Option D) : Prop := ∀ G x y z, f G0 x y = some z → f G x y = some z
def MonoB (f : DG → List D → Option D) : Prop := ∀ G xs z, f G0 xs = some z → f G xs = some z
def MonoM (f : DMF) : Prop := ∀ G x xs z G', f G0 x xs = some (z, G') → f G x xs = some (z, G)
section
variable {t ta tb tc : DTE} {e ea eb ec : Ev D}
def eVar (i : Nat) : Ev D := fun env => match env[i]? with
  | some (some d) => some (.ok d)
  | _ => none
theorem ev_var (i : Nat) : EvE (dVar i) (eVar i) := fun env r h E G Q q => by
  unfold eVar at h
  split at h
  · rename_i d hd
    cases h
    exact ⟨d, hd, q⟩
  · cases h
def eC {α : Type} (d : α) : Ev α := fun _ => some (.ok d)
theorem ev_c (d : D) : EvE (dC d) (eC d) := fun env r h E G Q q => by cases h; exact q
def okE {α : Type} : Option α → Option (Except DX α)
  | some z => some (.ok z)
  | none => none
theorem okE_eq {α : Type} {o : Option α} {r : Except DX α} (h : okE o = some r) : ∃ z, o = some z ∧ r = .ok z := by
  cases o with
  | none => cases h
  | some z => cases h; exact ⟨z, rfl, rfl⟩
def eOp (f : DG → D → D → Option D) (ea eb : Ev D) : Ev D := fun env => bindE (ea env) fun x => bindE (eb env) fun y => okE (f G0 x y)
theorem ev_op {f : DG → D → D → Option D} (m : Mono2 f) (ha : EvE ta ea) (hb : EvE tb eb) : EvE (dOp f ta tb) (eOp f ea eb) := fun env r h E G Q q => by
  rcases bind_ok h with ⟨x, hx, h⟩ | ⟨x, hx, rfl⟩
  · refine ha env _ hx E G _ ?_
    rcases bind_ok h with ⟨y, hy, h⟩ | ⟨y, hy, rfl⟩
    · refine hb env _ hy E G _ ?_
      obtain ⟨z, hz, rfl⟩ := okE_eq h
      exact ⟨z, m G x y z hz, q⟩
    · exact hb env _ hy E G _ q
  · exact ha env _ hx E G _ q
def eUn (f : DG → D → Option D) (ea : Ev D) : Ev D := fun env => bindE (ea env) fun x => okE (f G0 x)
theorem ev_un {f : DG → D → Option D} (m : Mono1 f) (ha : EvE ta ea) : EvE (dUn f ta) (eUn f ea) := fun env r h E G Q q => by
  rcases bind_ok h with ⟨x, hx, h⟩ | ⟨x, hx, rfl⟩
  · refine ha env _ hx E G _ ?_
    obtain ⟨z, hz, rfl⟩ := okE_eq h
    exact ⟨z, m G x z hz, q⟩
  · exact ha env _ hx E G _ q
def blOf : D → Option Bool
  | .bl b => some b
  | _ => none
theorem blOf_eq {d : D} {b : Bool} (h : blOf d = some b) : d = .bl b := by cases d <;> first | (cases h; rfl) | cases h
def blE (d : D) : Option (Except DX Bool) := okE (blOf d)
def eChain (f g : DG → D → D → Option D) (ea eb ec : Ev D) : Ev D := fun env => bindE (ea env) fun x => bindE (eb env) fun y => bindE (okE (f G0 x y)) fun d => bindE (blE d) fun b =>
  if b = true then bindE (ec env) fun z => okE (g G0 y z) else some (.ok (.bl false))
theorem ev_chain {f g : DG → D → D → Option D} (m : Mono2 f) (n : Mono2 g) (ha : EvE ta ea) (hb : EvE tb eb) (hc : EvE tc ec) : EvE (dChain f g ta tb tc) (eChain f g ea eb ec) := fun env r h E G Q q => by
  rcases bind_ok h with ⟨x, hx, h⟩ | ⟨x, hx, rfl⟩
  · refine ha env _ hx E G _ ?_
    rcases bind_ok h with ⟨y, hy, h⟩ | ⟨y, hy, rfl⟩
    · refine hb env _ hy E G _ ?_
      rcases bind_ok h with ⟨d, hd, h⟩ | ⟨d, hd, rfl⟩
      · obtain ⟨z, hz, ez⟩ := okE_eq hd
        cases ez
        rcases bind_ok h with ⟨b, hb', h4⟩ | ⟨b, hb', rfl⟩
        · obtain ⟨b', hb2, eb⟩ := okE_eq hb'
          cases eb
          cases blOf_eq hb2
          refine ⟨b, m G x y _ hz, ?_⟩
          cases b with
          | true =>
            rw [if_pos rfl] at h4 ⊢
            rcases bind_ok h4 with ⟨w, hw, h5⟩ | ⟨w, hw, rfl⟩
            · refine hc env _ hw E G _ ?_
              obtain ⟨u, hu, rfl⟩ := okE_eq h5
              exact ⟨u, n G y w u hu, q⟩
            · exact hc env _ hw E G _ q
          | false =>
            rw [if_neg Bool.false_ne_true] at h4 ⊢
            cases h4
            exact q
        · obtain ⟨b', hb2, eb⟩ := okE_eq hb'
          cases eb
      · obtain ⟨z, hz, ez⟩ := okE_eq hd
        cases ez
    · exact hb env _ hy E G _ q
  · exact ha env _ hx E G _ q
def eTest (ea : Ev D) : Ev Bool := fun env => bindE (ea env) blE
theorem ev_test (ha : EvE ta ea) : EvT (dTest ta) (eTest ea) := fun env r h E G Q q => by
  rcases bind_ok h with ⟨x, hx, h⟩ | ⟨x, hx, rfl⟩
  · refine ha env _ hx E G _ ?_
    obtain ⟨b, hb, rfl⟩ := okE_eq h
    exact ⟨b, blOf_eq hb, q⟩
  · exact ha env _ hx E G _ q
variable {tt uu : DTT} {et eu : Ev Bool}
def eAnd (et eu : Ev Bool) : Ev Bool := fun env => bindE (et env) fun b => if b = true then eu env else some (.ok false)
theorem ev_and (ht : EvT tt et) (hu : EvT uu eu) : EvT (dAnd tt uu) (eAnd et eu) := fun env r h E G Q q => by
  rcases bind_ok h with ⟨x, hx, h⟩ | ⟨x, hx, rfl⟩
  · refine ht env _ hx E G _ ?_
    cases x with
    | true => exact hu env r h E G Q q
    | false => cases h; exact q
  · exact ht env _ hx E G _ q
def eOr (et eu : Ev Bool) : Ev Bool := fun env => bindE (et env) fun b => if b = true then some (.ok true) else eu env
theorem ev_or (ht : EvT tt et) (hu : EvT uu eu) : EvT (dOr tt uu) (eOr et eu) := fun env r h E G Q q => by
  rcases bind_ok h with ⟨x, hx, h⟩ | ⟨x, hx, rfl⟩
  · refine ht env _ hx E G _ ?_
    cases x with
    | false => exact hu env r h E G Q q
    | true => cases h; exact q
  · exact ht env _ hx E G _ q
def eNot (et : Ev Bool) : Ev Bool := fun env => bindE (et env) fun b => some (.ok (!b))
theorem ev_not (ht : EvT tt et) : EvT (dNot tt) (eNot et) := fun env r h E G Q q => by
  rcases bind_ok h with ⟨x, hx, h⟩ | ⟨x, hx, rfl⟩
  · refine ht env _ hx E G _ ?_
    cases h
    exact q
  · exact ht env _ hx E G _ q
def eAndV (ea eb : Ev D) : Ev D := fun env => bindE (ea env) fun x => bindE (blE x) fun b => if b = true then eb env else some (.ok (.bl false))
theorem ev_andV (ha : EvE ta ea) (hb : EvE tb eb) : EvE (dAndV ta tb) (eAndV ea eb) := fun env r h E G Q q => by
  rcases bind_ok h with ⟨x, hx, h⟩ | ⟨x, hx, rfl⟩
  · refine ha env _ hx E G _ ?_
    rcases bind_ok h with ⟨b, hb', h⟩ | ⟨b, hb', rfl⟩
    · obtain ⟨b', hb2, e'⟩ := okE_eq hb'
      cases e'
      refine ⟨b, blOf_eq hb2, ?_⟩
      cases b with
      | true => exact hb env r h E G Q q
      | false => cases h; exact q
    · obtain ⟨b', hb2, e'⟩ := okE_eq hb'
      cases e'
  · exact ha env _ hx E G _ q
def eOrV (ea eb : Ev D) : Ev D := fun env => bindE (ea env) fun x => bindE (blE x) fun b => if b = true then some (.ok (.bl true)) else eb env
theorem ev_orV (ha : EvE ta ea) (hb : EvE tb eb) : EvE (dOrV ta tb) (eOrV ea eb) := fun env r h E G Q q => by
  rcases bind_ok h with ⟨x, hx, h⟩ | ⟨x, hx, rfl⟩
  · refine ha env _ hx E G _ ?_
    rcases bind_ok h with ⟨b, hb', h⟩ | ⟨b, hb', rfl⟩
    · obtain ⟨b', hb2, e'⟩ := okE_eq hb'
      cases e'
      refine ⟨b, blOf_eq hb2, ?_⟩
      cases b with
      | false => exact hb env r h E G Q q
      | true => cases h; exact q
    · obtain ⟨b', hb2, e'⟩ := okE_eq hb'
      cases e'
  · exact ha env _ hx E G _ q
def eNotV (ea : Ev D) : Ev D := fun env => bindE (ea env) fun x => bindE (blE x) fun b => some (.ok (.bl (!b)))
theorem ev_notV (ha : EvE ta ea) : EvE (dNotV ta) (eNotV ea) := fun env r h E G Q q => by
  rcases bind_ok h with ⟨x, hx, h⟩ | ⟨x, hx, rfl⟩
  · refine ha env _ hx E G _ ?_
    rcases bind_ok h with ⟨b, hb', h⟩ | ⟨b, hb', rfl⟩
    · obtain ⟨b', hb2, e'⟩ := okE_eq hb'
      cases e'
      cases h
      exact ⟨b, blOf_eq hb2, q⟩
    · obtain ⟨b', hb2, e'⟩ := okE_eq hb'
      cases e'
  · exact ha env _ hx E G _ q
def eIf (et : Ev Bool) (ea eb : Ev D) : Ev D := fun env => bindE (et env) fun b => if b = true then ea env else eb env
theorem ev_if (ht : EvT tt et) (ha : EvE ta ea) (hb : EvE tb eb) : EvE (dIf tt ta tb) (eIf et ea eb) := fun env r h E G Q q => by
  rcases bind_ok h with ⟨x, hx, h⟩ | ⟨x, hx, rfl⟩
  · refine ht env _ hx E G _ ?_
    cases x with
    | true => exact ha env r h E G Q q
    | false => exact hb env r h E G Q q
  · exact ht env _ hx E G _ q
variable {tr : DTA} {er : Ev (List D)}
theorem ev_nil : EvA dNil (eC []) := fun env r h E G Q q => by cases h; exact q
def eCons (ea : Ev D) (er : Ev (List D)) : Ev (List D) := fun env => bindE (ea env) fun x => bindE (er env) fun xs => some (.ok (x :: xs))
theorem ev_cons (ha : EvE ta ea) (hr : EvA tr er) : EvA (dCons ta tr) (eCons ea er) := fun env r h E G Q q => by
  rcases bind_ok h with ⟨x, hx, h⟩ | ⟨x, hx, rfl⟩
  · refine ha env _ hx E G _ ?_
    rcases bind_ok h with ⟨xs, hxs, h⟩ | ⟨xs, hxs, rfl⟩
    · refine hr env _ hxs E G _ ?_
      cases h
      exact q
    · exact hr env _ hxs E G _ q
  · exact ha env _ hx E G _ q
def eTup (er : Ev (List D)) : Ev D := fun env => bindE (er env) fun xs => if xs.length ≤ 16000000 then some (.ok (.tup xs)) else none
theorem ev_tup (hr : EvA tr er) : EvE (dTup tr) (eTup er) := fun env r h E G Q q => by
  rcases bind_ok h with ⟨x, hx, h⟩ | ⟨x, hx, rfl⟩
  · refine hr env _ hx E G _ ?_
    split at h
    · rename_i hl
      cases h
      exact ⟨hl, q⟩
    · cases h
  · exact hr env _ hx E G _ q
def eLst (er : Ev (List D)) : Ev D := fun env => bindE (er env) fun xs => if xs.length ≤ 16000000 then some (.ok (.lst xs)) else none
theorem ev_lst (hr : EvA tr er) : EvE (dLst tr) (eLst er) := fun env r h E G Q q => by
  rcases bind_ok h with ⟨x, hx, h⟩ | ⟨x, hx, rfl⟩
  · refine hr env _ hx E G _ ?_
    split at h
    · rename_i hl
      cases h
      exact ⟨hl, q⟩
    · cases h
  · exact hr env _ hx E G _ q
def eB (f : DG → List D → Option D) (er : Ev (List D)) : Ev D := fun env => bindE (er env) fun xs => okE (f G0 xs)
theorem ev_b {f : DG → List D → Option D} (m : MonoB f) (hr : EvA tr er) : EvE (dB f tr) (eB f er) := fun env r h E G Q q => by
  rcases bind_ok h with ⟨x, hx, h⟩ | ⟨x, hx, rfl⟩
  · refine hr env _ hx E G _ ?_
    obtain ⟨z, hz, rfl⟩ := okE_eq h
    exact ⟨z, m G x z hz, q⟩
  · exact hr env _ hx E G _ q
/-- a def -/
def EvF (sp : DSp) (e : List D → Option (Except DX D)) : Prop := ∀ ds r, e ds = some r → ∀ G Q (E : DX → DG → Prop), (match r with | .ok d => Q d G | .error x => E x G) → sp ds G Q E
def eCall (ef : List D → Option (Except DX D)) (er : Ev (List D)) : Ev D := fun env => bindE (er env) ef
theorem ev_call {sp : DSp} {ef : List D → Option (Except DX D)} (hf : EvF sp ef) (hr : EvA tr er) : EvE (dCall sp tr) (eCall ef er) := fun env r h E G Q q => by
  rcases bind_ok h with ⟨x, hx, h⟩ | ⟨x, hx, rfl⟩
  · refine hr env _ hx E G _ ?_
    refine hf x r h G Q _ ?_
    cases r with
    | ok d => exact q
    | error x => exact q
  · exact hr env _ hx E G _ q
def eMt (ty : String) (f : DMF) (ea : Ev D) (er : Ev (List D)) : Ev D := fun env => bindE (ea env) fun x => if tyM G0 x = some ty then bindE (er env) fun xs => okE ((f G0 x xs).map (·.1)) else none
theorem tyM_mono {G : DG} {x : D} {ty : String} (h : tyM G0 x = some ty) : tyM G x = some ty := by
  cases x <;> first | exact h | cases h
theorem ev_mt {ty : String} {f : DMF} (m : MonoM f) (ha : EvE ta ea) (hr : EvA tr er) : EvE (dMt ty f ta tr) (eMt ty f ea er) := fun env r h E G Q q => by
  rcases bind_ok h with ⟨x, hx, h⟩ | ⟨x, hx, rfl⟩
  · refine ha env _ hx E G _ ?_
    split at h
    · rename_i hty
      refine ⟨tyM_mono hty, ?_⟩
      rcases bind_ok h with ⟨xs, hxs, h⟩ | ⟨xs, hxs, rfl⟩
      · refine hr env _ hxs E G _ ?_
        obtain ⟨z, hz, rfl⟩ := okE_eq h
        obtain ⟨⟨z', G'⟩, hz', rfl⟩ := Option.map_eq_some_iff.mp hz
        exact ⟨_, G, m G x xs _ G' hz', q⟩
      · exact hr env _ hxs E G _ q
    · cases h
  · exact ha env _ hx E G _ q
theorem ev_noPart : EvO dNoPart (eC none) := fun env r h E G Q q => by cases h; exact q
def intOf : D → Option Int
  | .int i => some i
  | _ => none
def ePart (ea : Ev D) : Ev (Option Int) := fun env => bindE (ea env) fun x => okE ((intOf x).map some)
theorem intOf_eq {d : D} {i : Int} (h : intOf d = some i) : d = .int i := by cases d <;> first | (cases h; rfl) | cases h
theorem ev_part (ha : EvE ta ea) : EvO (dPart ta) (ePart ea) := fun env r h E G Q q => by
  rcases bind_ok h with ⟨x, hx, h⟩ | ⟨x, hx, rfl⟩
  · refine ha env _ hx E G _ ?_
    obtain ⟨z, hz, rfl⟩ := okE_eq h
    obtain ⟨i, hi, rfl⟩ := Option.map_eq_some_iff.mp hz
    exact ⟨i, intOf_eq hi, q⟩
  · exact ha env _ hx E G _ q
theorem asL_mono {G : DG} {x : D} {xs : List D} (h : asL G0 x = some xs) : asL G x = some xs := by cases x <;> first | exact h | cases h
theorem asQ_mono {G : DG} {x : D} {xs : List D} (h : asQ G0 x = some xs) : asQ G x = some xs := by cases x <;> first | exact h | cases h
theorem asD_mono {G : DG} {x : D} {xs : List (D × D)} (h : asD G0 x = some xs) : asD G x = some xs := by cases x <;> first | exact h | cases h
theorem iterD_mono {G : DG} {x : D} {xs : List D} (h : iterD G0 x = some xs) : iterD G x = some xs := by cases x <;> first | exact h | cases h
theorem slice_mono {G : DG} {x z : D} {lo hi : Option Int} (h : pySlice G0 x lo hi = some z) : pySlice G x lo hi = some z := by cases x <;> first | exact h | cases h
def eSlice (ea : Ev D) (l h : Ev (Option Int)) : Ev D := fun env => bindE (ea env) fun x => bindE (l env) fun lo => bindE (h env) fun hi => okE (pySlice G0 x lo hi)
theorem ev_slice {tl th : DTO} {el eh : Ev (Option Int)} (ha : EvE ta ea) (hl : EvO tl el) (hh : EvO th eh) : EvE (dSlice ta tl th) (eSlice ea el eh) := fun env r h E G Q q => by
  rcases bind_ok h with ⟨x, hx, h⟩ | ⟨x, hx, rfl⟩
  · refine ha env _ hx E G _ ?_
    rcases bind_ok h with ⟨lo, hlo, h⟩ | ⟨lo, hlo, rfl⟩
    · refine hl env _ hlo E G _ ?_
      rcases bind_ok h with ⟨hi, hhi, h⟩ | ⟨hi, hhi, rfl⟩
      · refine hh env _ hhi E G _ ?_
        obtain ⟨z, hz, rfl⟩ := okE_eq h
        exact ⟨z, slice_mono hz, q⟩
      · exact hh env _ hhi E G _ q
    · exact hl env _ hlo E G _ q
  · exact ha env _ hx E G _ q
/-! iterables -/
def eIter (ea : Ev D) : Ev (List D) := fun env => bindE (ea env) fun x => okE (iterD G0 x)
theorem ev_iter (ha : EvE ta ea) : EvI (dIter ta) (eIter ea) := fun env r h E G Q q => by
  rcases bind_ok h with ⟨x, hx, h⟩ | ⟨x, hx, rfl⟩
  · refine ha env _ hx E G _ ?_
    obtain ⟨z, hz, rfl⟩ := okE_eq h
    exact ⟨z, iterD_mono hz, q _ fun G' => iterD_mono hz⟩
  · exact ha env _ hx E G _ q
def eZip (er : Ev (List D)) : Ev (List D) := fun env => bindE (er env) fun xs => match xs with
  | [a, b] => match iterD G0 a, iterD G0 b with
    | some as, some bs => some (.ok (zipD as bs))
    | _, _ => none
  | _ => none
theorem ev_zip (hr : EvA tr er) : EvI (dZip tr) (eZip er) := fun env r h E G Q q => by
  rcases bind_ok h with ⟨x, hx, h⟩ | ⟨x, hx, rfl⟩
  · refine hr env _ hx E G _ ?_
    split at h
    · rename_i a b
      split at h
      · rename_i as bs ha hb
        cases h
        exact ⟨a, b, as, bs, rfl, iterD_mono ha, iterD_mono hb, q _ fun G' => ⟨iterD_mono ha, iterD_mono hb⟩⟩
      · cases h
    · cases h
  · exact hr env _ hx E G _ q
def eEnum (er : Ev (List D)) : Ev (List D) := fun env => bindE (er env) fun xs => match xs with
  | [a] => match iterD G0 a with
    | some as => some (.ok (enumD 0 as))
    | _ => none
  | _ => none
theorem ev_enum (hr : EvA tr er) : EvI (dEnum tr) (eEnum er) := fun env r h E G Q q => by
  rcases bind_ok h with ⟨x, hx, h⟩ | ⟨x, hx, rfl⟩
  · refine hr env _ hx E G _ ?_
    split at h
    · rename_i a
      split at h
      · rename_i as ha
        cases h
        exact ⟨a, as, rfl, iterD_mono ha, q _ fun G' => iterD_mono ha⟩
      · cases h
    · cases h
  · exact hr env _ hx E G _ q
def eRange1 (er : Ev (List D)) : Ev (List D) := fun env => bindE (er env) fun xs => match xs with
  | [.int hi] => if -(2 ^ 62) ≤ hi ∧ hi < 2 ^ 62 then some (.ok (intsFrom 0 hi.toNat)) else none
  | _ => none
theorem ev_range1 (hr : EvA tr er) : EvI (dRange1 tr) (eRange1 er) := fun env r h E G Q q => by
  rcases bind_ok h with ⟨x, hx, h⟩ | ⟨x, hx, rfl⟩
  · refine hr env _ hx E G _ ?_
    split at h
    · rename_i hi
      split at h
      · rename_i hb
        cases h
        exact ⟨hi, rfl, hb.1, hb.2, q _ fun _ => trivial⟩
      · cases h
    · cases h
  · exact hr env _ hx E G _ q
def eRange2 (er : Ev (List D)) : Ev (List D) := fun env => bindE (er env) fun xs => match xs with
  | [.int lo, .int hi] => if -(2 ^ 62) ≤ lo ∧ lo < 2 ^ 62 ∧ -(2 ^ 62) ≤ hi ∧ hi < 2 ^ 62 then some (.ok (intsFrom lo (hi - lo).toNat)) else none
  | _ => none
theorem ev_range2 (hr : EvA tr er) : EvI (dRange2 tr) (eRange2 er) := fun env r h E G Q q => by
  rcases bind_ok h with ⟨x, hx, h⟩ | ⟨x, hx, rfl⟩
  · refine hr env _ hx E G _ ?_
    split at h
    · rename_i lo hi
      split at h
      · rename_i hb
        cases h
        exact ⟨lo, hi, rfl, hb, q _ fun _ => trivial⟩
      · cases h
    · cases h
  · exact hr env _ hx E G _ q
/-! comprehensions -/
def eTg : Tg → D → DSt → Option DSt
  | .n i, d, env => some (env.set i (some d))
  | .t is, .tup xs, env => if xs.length = is.length then some (setAll env is xs) else none
  | .t _, _, _ => none
theorem eTg_ok {tg : Tg} {d : D} {env env' : DSt} {P : DSt → Prop} (h : eTg tg d env = some env') (p : P env') : dTg tg d env P := by
  cases tg with
  | n i => cases h; exact p
  | t is =>
    cases d with
    | tup xs =>
      simp only [eTg] at h
      split at h
      · rename_i hl
        cases h
        exact ⟨xs, rfl, hl, p⟩
      · cases h
    | _ => cases h
def eLcL (tg : Tg) (et : Ev Bool) (ee : Ev D) (env : DSt) : List D → Option (List D)
  | [] => some []
  | d :: ds => match eTg tg d env with
    | some env1 => match et env1 with
      | some (.ok true) => match ee env1 with
        | some (.ok y) => match eLcL tg et ee env ds with
          | some ys => some (y :: ys)
          | none => none
        | _ => none
      | some (.ok false) => eLcL tg et ee env ds
      | _ => none
    | none => none
theorem eLcL_ok {tg : Tg} (ht : EvT tt et) (he : EvE t e) {guard : DG → Prop} (hg : ∀ G, guard G) {env : DSt} {G : DG} : ∀ {ds ys : List D} {Q : List D → DG → Prop}, eLcL tg et e env ds = some ys → Q ys G → dLcL tg tt t guard env ds G Q
  | [], ys, Q, h, q => by cases h; exact ⟨hg G, q⟩
  | d :: ds, ys, Q, h, q => by
    unfold eLcL at h
    split at h
    · rename_i env1 h1
      refine ⟨hg G, eTg_ok h1 ?_⟩
      split at h
      · rename_i h2
        refine ht env1 _ h2 EF G _ ?_
        simp only [endE, if_true]
        split at h
        · rename_i y h3
          refine he env1 _ h3 EF G _ ?_
          split at h
          · rename_i zs h4
            cases h
            exact eLcL_ok ht he hg h4 q
          · cases h
        · cases h
      · rename_i h2
        refine ht env1 _ h2 EF G _ ?_
        simp only [endE, Bool.false_eq_true, if_false]
        exact eLcL_ok ht he hg h q
      · cases h
    · cases h
theorem ev_yes : EvT dYes (eC true) := fun env r h E G Q q => by cases h; exact q
def eLc (ei : Ev (List D)) (tg : Tg) (et : Ev Bool) (ee : Ev D) (vs : List Nat) : Ev D := fun env => bindE (ei env) fun items => if items.length ≤ 16000000 then okE ((eLcL tg et ee (wipeD env vs) items).map .lst) else none
theorem ev_lc {wi : DTI} {ei : Ev (List D)} {tg : Tg} {vs : List Nat} (hi : EvI wi ei) (ht : EvT tt et) (he : EvE t e) : EvE (dLc wi tg tt t vs) (eLc ei tg et e vs) := fun env r h E G Q q => by
  rcases bind_ok h with ⟨x, hx, h⟩ | ⟨x, hx, rfl⟩
  · refine hi env _ hx E G _ fun g hg => ?_
    split at h
    · rename_i hl
      obtain ⟨z, hz, rfl⟩ := okE_eq h
      obtain ⟨ys, hy, rfl⟩ := Option.map_eq_some_iff.mp hz
      exact ⟨hl, eLcL_ok ht he hg hy q⟩
    · cases h
  · exact hi env _ hx E G _ q
end
/-! statements -/
section
variable {t u : DTS} {e f : EvX} {te : DTE} {ee : Ev D}
def exE {α : Type} (env : DSt) (a : Option (Except DX α)) (k : α → Option SR) : Option SR := match a with
  | some (.ok x) => k x
  | some (.error x) => some (.ex x env)
  | none => none
theorem exE_ok {α : Type} {env : DSt} {a : Option (Except DX α)} {k : α → Option SR} {r : SR} (h : exE env a k = some r) : (∃ x, a = some (.ok x) ∧ k x = some r) ∨ ∃ x, a = some (.error x) ∧ r = .ex x env := by
  unfold exE at h
  split at h
  · exact .inl ⟨_, rfl, h⟩
  · cases h; exact .inr ⟨_, rfl, rfl⟩
  · cases h
def xNext : EvX := fun env => some (.nx env)
theorem xv_next : EvS sNext xNext := fun env r h E DE G q => by cases h; exact q
def xSeq (e f : EvX) : EvX := fun env => match e env with
  | some (.nx env') => f env'
  | r => r
theorem xv_seq (h1 : EvS t e) (h2 : EvS u f) : EvS (sSeq t u) (xSeq e f) := fun env r h E DE G q => by
  unfold xSeq at h
  split at h
  · rename_i env' he
    exact h1 env _ he E _ G (h2 env' r h E DE G q)
  · rename_i he
    refine h1 env r h E _ G ?_
    cases r with
    | nx env' => exact absurd h (he env')
    | rt d => exact q
    | ex x env' => exact q
def xDrop (ee : Ev D) : EvX := fun env => exE env (ee env) fun _ => some (.nx env)
theorem xv_drop (he : EvE te ee) : EvS (sDrop te) (xDrop ee) := fun env r h E DE G q => by
  rcases exE_ok h with ⟨x, hx, h⟩ | ⟨x, hx, rfl⟩
  · cases h; exact he env _ hx E G _ q
  · exact he env _ hx E G _ q
def xRet (ee : Ev D) : EvX := fun env => exE env (ee env) fun d => some (.rt d)
theorem xv_ret (he : EvE te ee) : EvS (sRet te) (xRet ee) := fun env r h E DE G q => by
  rcases exE_ok h with ⟨x, hx, h⟩ | ⟨x, hx, rfl⟩
  · cases h; exact he env _ hx E G _ q
  · exact he env _ hx E G _ q
def xRetN : EvX := fun _ => some (.rt .non)
theorem xv_retN : EvS sRetN xRetN := fun env r h E DE G q => by cases h; exact q
def xSet (i : Nat) (ee : Ev D) : EvX := fun env => exE env (ee env) fun d => some (.nx (env.set i (some d)))
theorem xv_set {i : Nat} (he : EvE te ee) : EvS (sSet i te) (xSet i ee) := fun env r h E DE G q => by
  rcases exE_ok h with ⟨x, hx, h⟩ | ⟨x, hx, rfl⟩
  · cases h; exact he env _ hx E G _ q
  · exact he env _ hx E G _ q
def xIf (et : Ev Bool) (e f : EvX) : EvX := fun env => exE env (et env) fun b => if b = true then e env else f env
theorem xv_if {tt : DTT} {et : Ev Bool} (ht : EvT tt et) (h1 : EvS t e) (h2 : EvS u f) : EvS (sIf tt t u) (xIf et e f) := fun env r h E DE G q => by
  rcases exE_ok h with ⟨x, hx, h⟩ | ⟨x, hx, rfl⟩
  · refine ht env _ hx E G _ ?_
    cases x with
    | true => exact h1 env r h E DE G q
    | false => exact h2 env r h E DE G q
  · exact ht env _ hx E G _ q
def xRaise (c : String) : EvX := fun env => some (.ex (c, none) env)
theorem xv_raise {c : String} : EvS (sRaise c) (xRaise c) := fun env r h E DE G q => by cases h; exact q
def xTg (tg : Tg) (ee : Ev D) : EvX := fun env => exE env (ee env) fun d => (eTg tg d env).map .nx
theorem xv_tg {tg : Tg} (he : EvE te ee) : EvS (sTg tg te) (xTg tg ee) := fun env r h E DE G q => by
  rcases exE_ok h with ⟨x, hx, h⟩ | ⟨x, hx, rfl⟩
  · refine he env _ hx E G _ ?_
    obtain ⟨env', h', rfl⟩ := Option.map_eq_some_iff.mp h
    exact eTg_ok h' q
  · exact he env _ hx E G _ q
def xPar (is : List Nat) (er : Ev (List D)) : EvX := fun env => exE env (er env) fun xs => if xs.length = is.length then some (.nx (setAll env is xs)) else none
theorem xv_par {is : List Nat} {tr : DTA} {er : Ev (List D)} (hr : EvA tr er) : EvS (sPar is tr) (xPar is er) := fun env r h E DE G q => by
  rcases exE_ok h with ⟨x, hx, h⟩ | ⟨x, hx, rfl⟩
  · refine hr env _ hx E G _ ?_
    split at h
    · rename_i hl
      cases h
      exact ⟨hl, q⟩
    · cases h
  · exact hr env _ hx E G _ q
def xStar (i j : Nat) (ee : Ev D) : EvX := fun env => exE env (ee env) fun d => match asL G0 d with
  | some (x :: xs) => some (.nx ((env.set i (some x)).set j (some (.lst xs))))
  | _ => none
theorem xv_star {i j : Nat} (he : EvE te ee) : EvS (sStar i j te) (xStar i j ee) := fun env r h E DE G q => by
  rcases exE_ok h with ⟨x, hx, h⟩ | ⟨x, hx, rfl⟩
  · refine he env _ hx E G _ ?_
    split at h
    · rename_i y ys hy
      cases h
      exact ⟨y, ys, asL_mono hy, q⟩
    · cases h
  · exact he env _ hx E G _ q
def xLoop (tg : Tg) (e : EvX) : List D → EvX
  | [], env => some (.nx env)
  | d :: ds, env => match eTg tg d env with
    | some env1 => match e env1 with
      | some (.nx env2) => xLoop tg e ds env2
      | r => r
    | none => none
theorem xLoop_ok {tg : Tg} (h1 : EvS t e) {guard : DG → Prop} (hg : ∀ G, guard G) {E : DXK} {DE : DEnds} {G : DG} : ∀ {ds : List D} {env : DSt} {r : SR}, xLoop tg e ds env = some r → endS E DE G r → dLoop E tg t DE guard ds env G
  | [], env, r, h, q => by cases h; exact ⟨hg G, q⟩
  | d :: ds, env, r, h, q => by
    unfold xLoop at h
    split at h
    · rename_i env1 h2
      refine ⟨hg G, eTg_ok h2 ?_⟩
      split at h
      · rename_i env2 h3
        exact h1 env1 _ h3 E _ G (xLoop_ok h1 hg h q)
      · rename_i h3
        refine h1 env1 r h E _ G ?_
        cases r with
        | nx env' => exact absurd h (h3 env')
        | rt d => exact q
        | ex x env' => exact q
    · cases h
def xFor (ei : Ev (List D)) (tg : Tg) (e : EvX) : EvX := fun env => exE env (ei env) fun items => xLoop tg e items env
theorem xv_for {wi : DTI} {ei : Ev (List D)} {tg : Tg} (hi : EvI wi ei) (h1 : EvS t e) : EvS (sFor wi tg t) (xFor ei tg e) := fun env r h E DE G q => by
  rcases exE_ok h with ⟨x, hx, h⟩ | ⟨x, hx, rfl⟩
  · exact hi env _ hx E G _ fun g hg => xLoop_ok h1 hg h q
  · exact hi env _ hx E G _ q
def fnE (N : List Str) (n : Nat) (e : EvX) (ds : List D) : Option (Except DX D) := if ds.length = n then match e (dstart N ds) with
    | some (.nx _) => some (.ok .non)
    | some (.rt d) => some (.ok d)
    | some (.ex x _) => some (.error x)
    | none => none
  else none
theorem evf {N : List Str} {n : Nat} (h1 : EvS t e) : EvF (spOf N n t) (fnE N n e) := fun ds r h G Q E q => by
  unfold fnE at h
  split at h
  · rename_i hl
    refine ⟨hl, ?_⟩
    split at h
    · rename_i env' h2
      cases h
      exact h1 _ _ h2 _ _ G q
    · rename_i d h2
      cases h
      exact h1 _ _ h2 _ _ G q
    · rename_i x env' h2
      cases h
      exact h1 _ _ h2 _ _ G q
    · cases h
  · cases h
end
end DL

namespace DL
open PySem PySem.Spec PyProof.Rows L2
theorem m_add : Mono2 pyAdd := fun G x y z h => by cases x <;> cases y <;> first | exact h | cases h
theorem m_sub : Mono2 pySub := fun _ _ _ _ h => h
theorem m_mul : Mono2 pyMul := fun G x y z h => by cases x <;> cases y <;> first | exact h | cases h
theorem m_mod : Mono2 pyMod := fun _ _ _ _ h => h
theorem m_div : Mono2 pyDiv := fun _ _ _ _ h => h
theorem m_pow : Mono2 pyPow := fun _ _ _ _ h => h
theorem m_lt : Mono2 pyLt := fun _ _ _ _ h => h
theorem m_gt : Mono2 pyGt := fun _ _ _ _ h => h
theorem m_le : Mono2 pyLe := fun _ _ _ _ h => h
theorem m_ge : Mono2 pyGe := fun _ _ _ _ h => h
theorem m_is : Mono2 pyIs := fun _ _ _ _ h => h
theorem m_isnot : Mono2 pyIsNot := fun _ _ _ _ h => h
theorem m_neg : Mono1 pyNeg := fun _ _ _ h => h
theorem mapO_mono {f g : D → Option PyData} (h : ∀ d y, f d = some y → g d = some y) : ∀ {xs : List D} {ys : List PyData}, mapO f xs = some ys → mapO g xs = some ys
  | [], _, e => e
  | x :: xs, ys, e => by
    unfold mapO at e ⊢
    split at e
    · rename_i y zs e1 e2
      rw [h x y e1, mapO_mono h e2]
      exact e
    · cases e
theorem toPy_mono {G : DG} : ∀ (n : Nat) (d : D) (y : PyData), toPy G0 n d = some y → toPy G n d = some y := by
  intro n
  induction n with
  | zero => intro d y h; cases d <;> first | exact h | cases h
  | succ n ih =>
    intro d y h
    cases d with
    | tup xs => obtain ⟨ys, h1, h2⟩ := Option.map_eq_some_iff.mp h; exact Option.map_eq_some_iff.mpr ⟨ys, mapO_mono ih h1, h2⟩
    | lst xs => obtain ⟨ys, h1, h2⟩ := Option.map_eq_some_iff.mp h; exact Option.map_eq_some_iff.mpr ⟨ys, mapO_mono ih h1, h2⟩
    | scr xs => obtain ⟨ys, h1, h2⟩ := Option.map_eq_some_iff.mp h; exact Option.map_eq_some_iff.mpr ⟨ys, mapO_mono ih h1, h2⟩
    | ref a => cases h
    | _ => first | exact h | cases h
theorem eqB_mono {G : DG} {x y : D} {b : Bool} (h : pyEqB G0 x y = some b) : pyEqB G x y = some b := by
  unfold pyEqB at h ⊢
  split at h
  · exact h
  · exact h
  · rename_i h1 h2
    split at h
    · rename_i d e hd he
      rw [toPy_mono 40 _ _ hd, toPy_mono 40 _ _ he]
      exact h
    · cases h
theorem m_eq : Mono2 pyEq := fun G x y z h => by
  obtain ⟨b, hb, rfl⟩ := Option.map_eq_some_iff.mp h
  exact Option.map_eq_some_iff.mpr ⟨b, eqB_mono hb, rfl⟩
theorem m_ne : Mono2 pyNe := fun G x y z h => by
  obtain ⟨b, hb, rfl⟩ := Option.map_eq_some_iff.mp h
  exact Option.map_eq_some_iff.mpr ⟨b, eqB_mono hb, rfl⟩
theorem inB_mono {G : DG} {x y : D} {b : Bool} (h : pyInB G0 x y = some b) : pyInB G x y = some b := by
  cases y with
  | ref a => cases x <;> first | exact h | cases h | (simp [pyInB, asQ, asL, asD, G0, lstO, dctO] at h)
  | _ => cases x <;> first | exact h | cases h
theorem m_in : Mono2 pyIn := fun G x y z h => by
  obtain ⟨b, hb, rfl⟩ := Option.map_eq_some_iff.mp h
  exact Option.map_eq_some_iff.mpr ⟨b, inB_mono hb, rfl⟩
theorem m_notin : Mono2 pyNotIn := fun G x y z h => by
  obtain ⟨b, hb, rfl⟩ := Option.map_eq_some_iff.mp h
  exact Option.map_eq_some_iff.mpr ⟨b, inB_mono hb, rfl⟩
theorem m_item : Mono2 pyItem := fun G x y z h => by
  cases x with
  | ref a => cases y <;> first | exact h | cases h | (simp [pyItem, asQ, asL, asD, G0, lstO, dctO] at h)
  | _ => cases y <;> first | exact h | cases h
/-- told, run -/
def toldR : Option (Except DX D) → Option (Except DX D)
  | some (.ok d) => some (.ok d)
  | some (.error (c, none)) => if c ∈ refusals then some (.ok (.tup [.str "refused", .str c])) else none
  | _ => none
def eTold (ee : Ev D) : Ev D := fun env => toldR (ee env)
theorem ev_told {te : DTE} {ee : Ev D} (he : EvE te ee) : EvE (dTold te) (eTold ee) := fun env r h E G Q q => by
  unfold eTold toldR at h
  split at h
  · rename_i d hd
    cases h
    exact he env _ hd (toldX Q) G Q q
  · rename_i c hd
    split at h
    · rename_i hc
      cases h
      exact he env _ hd (toldX Q) G Q ⟨c, rfl, hc, q⟩
    · cases h
  · cases h
theorem m_isi {ty : String} : Mono1 (pyIsi ty) := fun G x z h => by cases x <;> first | exact h | cases h
theorem m_len : MonoB pyLen := fun G xs z h => by
  match xs, h with
  | [], h => exact h
  | [x], h => cases x <;> first | exact h | cases h
  | x :: y :: r, h => cases x <;> exact h
theorem m_sum : MonoB pySum := fun G xs z h => by
  match xs, h with
  | [], h => exact h
  | [x], h => cases x <;> first | exact h | cases h
  | _ :: _ :: _, h => cases h
theorem m_all : MonoB pyAll := fun G xs z h => by
  match xs, h with
  | [], h => exact h
  | [x], h => cases x <;> first | exact h | cases h
  | _ :: _ :: _, h => cases h
theorem m_any : MonoB pyAny := fun G xs z h => by
  match xs, h with
  | [], h => exact h
  | [x], h => cases x <;> first | exact h | cases h
  | _ :: _ :: _, h => cases h
theorem m_tup : MonoB pyTup := fun G xs z h => by
  match xs, h with
  | [], h => exact h
  | [x], h => cases x <;> first | exact h | cases h
  | _ :: _ :: _, h => cases h
theorem m_lst : MonoB pyLst := fun G xs z h => by
  match xs, h with
  | [], h => exact h
  | [x], h => cases x <;> first | exact h | cases h
  | _ :: _ :: _, h => cases h
theorem m_min2 : MonoB pyMin2 := fun _ _ _ h => h
theorem m_max2 : MonoB pyMax2 := fun _ _ _ h => h
theorem m_abs : MonoB pyAbs := fun _ _ _ h => h
theorem m_int : MonoB pyIntS := fun _ _ _ h => h
theorem m_str : MonoB pyStr := fun _ _ _ h => h
theorem m_kin {tab : List (String × D)} : Mono1 (kIn tab) := fun _ _ _ h => h
theorem m_knotin {tab : List (String × D)} : Mono1 (kNotIn tab) := fun _ _ _ h => h
theorem m_kitem {tab : List (String × D)} : Mono1 (kItem tab) := fun _ _ _ h => h
theorem m_kget {tab : List (String × D)} : Mono1 (kGet tab) := fun _ _ _ h => h
theorem m_split : MonoM mSplit := fun G x xs z G' h => by
  unfold mSplit at h ⊢
  split at h
  · split at h
    · rename_i c hc
      split at h
      · rename_i hl
        cases h
        simp only [hc, hl, and_self, if_true]
      · cases h
    · cases h
  · cases h
theorem m_join : MonoM mJoin := fun G x xs z G' h => by
  unfold mJoin at h ⊢
  split at h
  · split at h
    · rename_i ys hy
      split at h
      · rename_i zs hz
        split at h
        · rename_i hl
          cases h
          simp only [asQ_mono hy, hz, hl, if_true]
        · cases h
      · cases h
    · cases h
  · cases h
theorem m_index : MonoM mIndex := fun G x xs z G' h => by
  unfold mIndex at h ⊢
  split at h
  · split at h
    · rename_i zs hz
      split at h
      · rename_i hl
        obtain ⟨j, hj, e⟩ := Option.map_eq_some_iff.mp h
        cases e
        simp only [asL_mono hz, hl, if_true, hj, Option.map_some]
      · cases h
    · cases h
  · cases h
/-! sums as read -/
theorem mulS (G : DG) (x : Int) {y : Int} (hy : y.natAbs < 2 ^ 64) : pyMul G (.int x) (.int y) = some (.int (x * y)) := by
  show (if mulOk x y = true then _ else _) = _
  rw [if_pos (by unfold mulOk; simp only [Bool.or_eq_true, decide_eq_true_eq]; exact .inl (.inr hy))]
theorem mulW (G : DG) {x y : Int} (hx : x.natAbs < 2 ^ 600) (hy : y.natAbs < 2 ^ 600) : pyMul G (.int x) (.int y) = some (.int (x * y)) := by
  show (if mulOk x y = true then _ else _) = _
  rw [if_pos (by unfold mulOk; simp only [Bool.or_eq_true, Bool.and_eq_true, decide_eq_true_eq]; exact .inr ⟨hx, hy⟩)]
theorem modP (G : DG) (x : Int) {y : Int} (hy : 0 < y) : pyMod G (.int x) (.int y) = some (.int (x % y)) := by
  show (if 0 < y then _ else _) = _
  rw [if_pos hy]
theorem divP (G : DG) (x : Int) {y : Int} (hy : 0 < y) (h2 : y < 2 ^ 600) : pyDiv G (.int x) (.int y) = some (.int (x / y)) := by
  show (if 0 < y ∧ y < 2 ^ 600 then _ else _) = _
  rw [if_pos ⟨hy, h2⟩]
theorem bits_lt {x : Int} {n : Nat} (h0 : 0 ≤ x) (h : x < 2 ^ n) : x.natAbs < 2 ^ n := by
  have : (x.natAbs : Int) < ((2 ^ n : Nat) : Int) := by
    rw [Int.natAbs_of_nonneg h0]
    simpa using h
  exact Int.ofNat_lt.mp this
theorem pow_600 {m : Nat} (h : m ≤ 600) {x : Nat} (hx : x < 2 ^ m) : x < 2 ^ 600 := Nat.lt_of_lt_of_le hx (Nat.pow_le_pow_right (by decide) h)
end DL

namespace DL
open PySem PySem.Spec PyProof.Rows L2
/-! ### from the head -/
theorem lookup_tabS (z : String) : ∀ l : List (String × String), (tabS l).lookup z = (l.lookup z).map .str
  | [] => rfl
  | (k, v) :: r => by
    simp only [tabS, List.map_cons, List.lookup_cons]
    cases h : (z == k) with
    | true => rfl
    | false => exact lookup_tabS z r
theorem lookup_mem' {z v : String} : ∀ {l : List (String × String)}, l.lookup z = some v → (z, v) ∈ l
  | [], h => by cases h
  | (k, u) :: r, h => by
    rw [List.lookup_cons] at h
    cases q : (z == k) with
    | true =>
      rw [q] at h
      cases h
      have : z = k := by simpa using q
      rw [this]
      exact List.mem_cons_self
    | false =>
      rw [q] at h
      exact List.mem_cons_of_mem _ (lookup_mem' h)
theorem keys_none {P : Params} {z : String} : ∀ {es : List DictEntry} {l : List (String × String)}, es.map He.keyOf = He.keysIn P (l.map fun p => S p.1) → l.lookup z = none → (es.find? fun e => e.key.isStr (S z)) = none ∧ (es.any fun e => e.refKey) = false
  | [], l, _, _ => ⟨rfl, rfl⟩
  | e :: es, [], h, _ => by cases h
  | e :: es, (k, v) :: r, h, hz => by
    have h1 : He.keyOf e :: es.map He.keyOf = some (S k, PyData.keyHash P (S k)) :: He.keysIn P (r.map fun p => S p.1) := h
    injection h1 with h2 h3
    rw [List.lookup_cons] at hz
    have hk : (z == k) = false := by
      cases q : (z == k) with
      | true => rw [q] at hz; cases hz
      | false => rfl
    rw [hk] at hz
    obtain ⟨i1, i2⟩ := keys_none h3 hz
    unfold He.keyOf at h2
    split at h2
    · rename_i x t q
      obtain ⟨ex, _⟩ := Prod.mk.inj (Option.some.inj h2)
      have b : e.key.isStr (S z) = false := by
        rw [q]
        show (x == S z) = false
        rw [ex, S_beq]
        cases w : (k == z) with
        | true => have : k = z := by simpa using w
                  rw [this] at hk; simp at hk
        | false => rfl
      refine ⟨?_, ?_⟩
      · rw [List.find?_cons, b]
        exact i1
      · rw [List.any_cons, i2]
        unfold DictEntry.refKey
        rw [q]
        rfl
    · cases h2
theorem ktab_of {K : PySem.W.Frag} {w : World} {mg : Str → Option Value} {x : String} {l : List (String × String)} (hmg : mg (S x) = some (.ref (He.ga K (S x)))) (hd : He.dicW K (He.ga K (S x)) = some (He.keysIn w.params (l.map fun p => S p.1))) (hv : He.valsB K (He.ga K (S x)) (tabV l) = true) : KTab K w mg x (tabS l) := by
  refine ⟨hmg, He.dicW_ok hd, fun z => ?_⟩
  rw [lookup_tabS]
  cases q : l.lookup z with
  | none =>
    left
    refine ⟨?_, rfl⟩
    unfold He.dicW at hd
    unfold PySem.W.nsIn
    split at hd
    · rename_i c es n sl hk
      split at hd
      · have hd' := Option.some.inj hd
        obtain ⟨h1, h2⟩ := keys_none hd' q
        rw [hk]
        simp only [h1, h2, Bool.false_eq_true, if_false]
      · cases hd
    · cases hd
  | some v =>
    right
    have hm : (S z, He.Dv.str (S v)) ∈ tabV l := List.mem_map.mpr ⟨(z, v), lookup_mem' q, rfl⟩
    obtain ⟨u, hu, ru⟩ := He.valsB_ok hv hm
    exact ⟨u, .str (S v), .str v, hu, rfl, ru, fun _ _ => rfl⟩
theorem says_tab {fa : List He.Fa} {fn : List He.DefD} {ts : List He.Tab} {w : World} {K : PySem.W.Frag} (c : He.SaysT fa fn ts w K) (i : Nat) {t : He.Tab} (h : ts[i]? = some t := by rfl) : He.dicW K (t.1 K) = some (He.keysIn w.params t.2) := by
  have e : ts.map (fun t => He.dicW K (t.1 K)) = ts.map fun t => some (He.keysIn w.params t.2) := congrArg (fun z : He.AlT => z.2) c
  have e1 := congrArg (fun l => l[i]?) e
  simp only [List.getElem?_map, h, Option.map_some, Option.some.injEq] at e1
  exact e1
end DL

namespace DL
open PySem PySem.Spec PyProof.Rows L2
variable {T : LT}
/-! ### dict displays -/
def dPairs : List (DTE × DTE) → DXK → DSt → DG → (List (D × D) → DG → Prop) → Prop
  | [], _, _, G, Q => Q [] G
  | (tk, tv) :: r, E, env, G, Q => tk E env G fun x G1 => tv E env G1 fun y G2 => dPairs r E env G2 fun ps G3 => Q ((x, y) :: ps) G3
def mergeD (kvs : List (D × D)) : List (D × D) → List (D × D)
  | [] => kvs
  | (k, v) :: r => mergeD (dput kvs k v) r
def keysOk (ps : List (D × D)) : Bool := ps.all fun p => (keyOf p.1).isSome
def dDct (trs : List (DTE × DTE)) : DTE := fun E env G Q => dPairs trs E env G fun ps G1 => (keysOk ps = true ∧ ps.length ≤ 15) ∧ Q (.dct (mergeD [] ps)) G1
def dDctB (trs : List (DTE × DTE)) : DTE := fun E env G Q => dPairs trs E env G fun ps G1 => (keysOk ps = true ∧ ps.length ≤ 15) ∧ ∀ p, G1 p = none → Q (.ref p) (gset G1 p (some (.dct (mergeD [] ps))))
def dDct0 : DTE := fun _ _ G Q => Q (.dct []) G
def dDct0B : DTE := fun _ _ G Q => ∀ p, G p = none → Q (.ref p) (gset G p (some (.dct [])))
def RelPs (K : PySem.W.Frag) (F : FS) (H : Hp) : List (D × D) → List (V × V) → Prop
  | [], vs => vs = []
  | (k, x) :: r, vs => ∃ a b t, vs = (a, b) :: t ∧ RelD K F H k a ∧ RelD K F H x b ∧ RelPs K F H r t
theorem RelPs.keys {K : PySem.W.Frag} {F : FS} {H : Hp} : ∀ {ps : List (D × D)} {vs : List (V × V)}, RelPs K F H ps vs → keysOk ps = true → ∃ kvs : List (Key × V), vs = kvs.map (fun kv => (kV kv.1, kv.2)) ∧ kvs.length = ps.length ∧
    ∀ (acc : List (D × D)) (ws : List (Key × V)), RelKs K F H acc ws → RelKs K F H (mergeD acc ps) (mergeK ws kvs)
  | [], vs, h, _ => ⟨[], by rw [show vs = [] from h]; rfl, rfl, fun acc ws r => r⟩
  | (k, x) :: r, _, ⟨a, b, t, rfl, ra, rb, rr⟩, hk => by
    unfold keysOk at hk
    rw [List.all_cons, Bool.and_eq_true] at hk
    obtain ⟨key, ek⟩ := Option.isSome_iff_exists.mp hk.1
    obtain ⟨kvs, e1, e2, e3⟩ := RelPs.keys rr hk.2
    refine ⟨(key, b) :: kvs, ?_, by simp [e2], fun acc ws ha => ?_⟩
    · rw [List.map_cons, e1, keyOf_rel ek ra]
    · exact e3 _ _ (RelKs.put ek rb ha)
section
variable {X : Cx} {W : WX} {pos : Pos}
abbrev liftP (K : PySem.W.Frag) (T : LT) (W : WX) (trs : List (DTE × DTE)) : List (TE × TE) := trs.map fun p => (liftE K T W p.1, liftE K T W p.2)
theorem pairs_run {K : PySem.W.Frag} {σ : L2.St} {env : DSt} {E : DXK} : ∀ {trs : List (DTE × DTE)} {F : FS} {G : DG} {H : Hp} {P : List (D × D) → DG → Prop} {Q : List (V × V) → Hp → Prop}, RelG K T F G H → RelSt K F H env σ → XOk K T W E F G H → dPairs trs E env G P →
    (∀ ps F' G' vs H', P ps G' → Step F G H F' G' H' → RelG K T F' G' H' → RelPs K F' H' ps vs → Q vs H') → tPairs (liftP K T W trs) σ H Q
  | [], F, G, H, P, Q, hg, hs, hx, h, q => q [] F G [] H h Step.refl hg rfl
  | (tk, tv) :: r, F, G, H, P, Q, hg, hs, hx, h, q => by
    refine ⟨env, F, G, E, _, hg, hs, hx, h, fun x F1 G1 v1 H1 p1 s1 g1 r1 => ⟨env, F1, G1, E, _, g1, hs.step s1, hx.step s1, p1, fun y F2 G2 v2 H2 p2 s2 g2 r2 => ?_⟩⟩
    refine pairs_run g2 (hs.step (s1.trans s2)) (hx.step (s1.trans s2)) p2 fun ps F3 G3 vs H3 p3 s3 g3 r3 => ?_
    exact q _ F3 G3 _ H3 p3 (s1.trans (s2.trans s3)) g3 ⟨v1, v2, vs, rfl, RelD.step (s2.trans s3) x r1, RelD.step s3 y r2, r3⟩
abbrev QPs (X : Cx) (T : LT) (W : WX) (pos : Pos) (keys : List (Option Expr)) (values : List Expr) (trs : List (DTE × DTE)) : Prop := PPs X pos keys values (liftP X.K T W trs)
theorem qp_nil : QPs X T W pos [] [] [] := pps_nil
theorem qp_cons {k v : Expr} {ks : List (Option Expr)} {vs : List Expr} {tk tv : DTE} {trs : List (DTE × DTE)} (hk : QE X T W k tk) (hv : QE X T W v tv) (hr : QPs X T W pos ks vs trs) : QPs X T W pos (some k :: ks) (v :: vs) ((tk, tv) :: trs) := pps_cons hk hv hr
theorem q_dct {keys : List (Option Expr)} {values : List Expr} {trs : List (DTE × DTE)} (h : QPs X T W pos keys values trs) (hall : keys.all (·.isSome) = true := by rfl) (hl : keys.length = values.length := by rfl) (h0 : keys ≠ [] := by exact fun z => nomatch z) (h15 : keys.length ≤ 15 := by decide) :
    QE X T W (.Dict keys values pos) (dDct trs) :=
  PE.imp (pe_disp h hall hl h0 h15) fun σ H Q ⟨env, F, G, E, P, hg, hs, hx, ht, hq⟩ p hp => by
    have st : Step F G H F G (upd H p (.dK [])) := Step.priv hp
    refine pairs_run (hg.priv hp) (hs.step st) (hx.step st) ht fun ps F1 G1 vs H1 ⟨⟨hk, hlen⟩, p1⟩ s1 g1 r1 => ?_
    obtain ⟨f1, gd1, e1⟩ := s1.pv p _ (hg.nof hp) (hg.free hp) upd_same rfl
    obtain ⟨kvs, ev, el, rel⟩ := RelPs.keys r1 hk
    refine ⟨e1, kvs, ev, by omega, ?_⟩
    have s2 := ((st.trans s1).wr (u := .dK (mergeK [] kvs)) hp).frz hp
    exact hq _ (fadd F1 p) G1 _ _ p1 s2 ((g1.wr f1 gd1 e1 rfl).frz gd1 upd_same rfl) ⟨p, _, rfl, ⟨.of upd_same, .inl rfl⟩, RelKs.kept (fun b o f e => by
      obtain ⟨f', r'⟩ := kept_wr (u := .dK (mergeK [] kvs)) f1 b o f e
      exact ⟨.inr f', r'⟩) _ (rel [] [] rfl)⟩
theorem q_dctB {keys : List (Option Expr)} {values : List Expr} {trs : List (DTE × DTE)} (h : QPs X T W pos keys values trs) (hall : keys.all (·.isSome) = true := by rfl) (hl : keys.length = values.length := by rfl) (h0 : keys ≠ [] := by exact fun z => nomatch z) (h15 : keys.length ≤ 15 := by decide) :
    QE X T W (.Dict keys values pos) (dDctB trs) :=
  PE.imp (pe_disp h hall hl h0 h15) fun σ H Q ⟨env, F, G, E, P, hg, hs, hx, ht, hq⟩ p hp => by
    have st : Step F G H F G (upd H p (.dK [])) := Step.priv hp
    refine pairs_run (hg.priv hp) (hs.step st) (hx.step st) ht fun ps F1 G1 vs H1 ⟨⟨hk, hlen⟩, p1⟩ s1 g1 r1 => ?_
    obtain ⟨f1, gd1, e1⟩ := s1.pv p _ (hg.nof hp) (hg.free hp) upd_same rfl
    obtain ⟨kvs, ev, el, rel⟩ := RelPs.keys r1 hk
    refine ⟨e1, kvs, ev, by omega, ?_⟩
    have s2 := ((st.trans s1).wr (u := .dK (mergeK [] kvs)) hp).trk (o := some (.dct (mergeD [] ps))) hp
    exact hq _ F1 _ _ _ (p1 p gd1) s2 ((g1.wr f1 gd1 e1 rfl).trk f1 gd1 upd_same rfl ⟨_, rfl, RelKs.kept (kept_wr f1) _ (rel [] [] rfl)⟩) rfl
theorem q_dct0 : QE X T W (.Dict [] [] pos) dDct0 := PE.imp pe_dnewK fun σ H Q ⟨env, F, G, E, P, hg, hs, hx, ht, hq⟩ p hp => hq _ (fadd F p) G _ _ ht (Step.new hp) (hg.new hp) ⟨p, [], rfl, ⟨.of upd_same, .inl rfl⟩, rfl⟩
theorem q_dct0B : QE X T W (.Dict [] [] pos) dDct0B := PE.imp pe_dnewK fun σ H Q ⟨env, F, G, E, P, hg, hs, hx, ht, hq⟩ p hp =>
  hq _ F _ _ _ (ht p (hg.free hp)) (Step.set hg (.inl hp)) (hg.set (.inl hp) ⟨[], rfl, rfl⟩) rfl
end
/-! run -/
def ePairs : List (Ev D × Ev D) → Ev (List (D × D))
  | [] => fun _ => some (.ok [])
  | (ek, ev) :: r => fun env => bindE (ek env) fun x => bindE (ev env) fun y => bindE (ePairs r env) fun ps => some (.ok ((x, y) :: ps))
inductive EvP : List (DTE × DTE) → List (Ev D × Ev D) → Prop
  | nil : EvP [] []
  | cons {tk tv : DTE} {ek ev : Ev D} {r : List (DTE × DTE)} {s : List (Ev D × Ev D)} (hk : EvE tk ek) (hv : EvE tv ev) (hr : EvP r s) : EvP ((tk, tv) :: r) ((ek, ev) :: s)
theorem ev_pairs {r : List (DTE × DTE)} {s : List (Ev D × Ev D)} (h : EvP r s) : ∀ env res, ePairs s env = some res → ∀ E G Q, endE E env G Q res → dPairs r E env G Q := by
  induction h with
  | nil => intro env res h E G Q q; cases h; exact q
  | cons hk hv hr ih =>
    intro env res h E G Q q
    rcases bind_ok h with ⟨x, hx, h⟩ | ⟨x, hx, rfl⟩
    · refine hk env _ hx E G _ ?_
      rcases bind_ok h with ⟨y, hy, h⟩ | ⟨y, hy, rfl⟩
      · refine hv env _ hy E G _ ?_
        rcases bind_ok h with ⟨ps, hps, h⟩ | ⟨ps, hps, rfl⟩
        · refine ih env _ hps E G _ ?_
          cases h
          exact q
        · exact ih env _ hps E G _ q
      · exact hv env _ hy E G _ q
    · exact hk env _ hx E G _ q
def eDct (s : List (Ev D × Ev D)) : Ev D := fun env => bindE (ePairs s env) fun ps => if keysOk ps = true ∧ ps.length ≤ 15 then some (.ok (.dct (mergeD [] ps))) else none
theorem ev_dct {r : List (DTE × DTE)} {s : List (Ev D × Ev D)} (h : EvP r s) : EvE (dDct r) (eDct s) := fun env res hr E G Q q => by
  rcases bind_ok hr with ⟨x, hx, h'⟩ | ⟨x, hx, rfl⟩
  · refine ev_pairs h env _ hx E G _ ?_
    split at h'
    · rename_i hc
      cases h'
      exact ⟨hc, q⟩
    · cases h'
  · exact ev_pairs h env _ hx E G _ q
theorem ev_dct0 : EvE dDct0 (eC (.dct [])) := fun env r h E G Q q => by cases h; exact q
end DL

namespace DL
open PySem PySem.Spec PyProof.Rows L2 LamX HotX L2H
variable {T : LT}
/-! ### what is never reached -/
def dNever : DTE := fun _ _ _ _ => False
def dNeverT : DTT := fun _ _ _ _ => False
section
variable {X : Cx} {W : WX}
theorem q_never {e : Expr} : QE X T W e dNever := ⟨fun _ _ _ _ _ _ ⟨_, _, _, _, _, _, _, _, h, _⟩ => h.elim⟩
theorem qt_never {e : Expr} : QT X T W e dNeverT := ⟨fun _ _ _ _ _ _ ⟨_, _, _, _, _, _, _, _, h, _⟩ => h.elim⟩
theorem qs_never {st : Stmt} : QS X T W st sNever := ⟨fun _ _ _ _ _ _ ⟨_, _, _, _, _, _, _, _, h, _⟩ => h.elim⟩
theorem qss_never {st : List Stmt} : QSs X T W st sNever := ⟨fun _ _ _ _ _ _ ⟨_, _, _, _, _, _, _, _, h, _⟩ => h.elim⟩
end
def eNever {α : Type} : Ev α := fun _ => none
theorem ev_never : EvE dNever eNever := fun _ _ h => nomatch h
theorem ev_neverT : EvT dNeverT eNever := fun _ _ h => nomatch h
def xNever : EvX := fun _ => none
theorem xv_never : EvS sNever xNever := fun _ _ h => nomatch h
/-! ### defs by where they stand -/
structure DFa (P : Program) (w : World) (K : PySem.W.Frag) (T : LT) (mg : Str → Option Value) (base : Heap) (k : Nat) (p : Str × Option Str) (ps : List Str) (sp : DSp) : Prop where
  ok : ∃ fd, FnOk P w K mg base (L2N.CX P w) k (He.fAd K p) fd ps (liftSp K T sp) ∧ Binds K fd ps []
  kp : PySem.W.keepIn K (.ref (He.fAd K p)) = true
/-- with keywords ks behind n values: gD puts them into the parameters' order -/
structure DFk (P : Program) (w : World) (K : PySem.W.Frag) (T : LT) (mg : Str → Option Value) (base : Heap) (k : Nat) (p : Str × Option Str) (ps : List Str) (n : Nat) (ks : List Str) (gD : List D → List D → List D) (sp : DSp) : Prop where
  ok : ∃ fd g gV, FnOk P w K mg base (L2N.CX P w) k (He.fAd K p) fd ps (liftSp K T sp) ∧ KBn K fd ps n ks g gV ∧ ∀ F H ds vs es zs, RelDs K F H ds vs → RelDs K F H es zs → RelDs K F H (gD ds es) (gV vs zs)
  kp : PySem.W.keepIn K (.ref (He.fAd K p)) = true
section
variable {P : Program} {w : World} {K : PySem.W.Frag} {mg : Str → Option Value} {base : Heap} {k : Nat} {p : Str × Option Str} {x qual : Str} {params : Arguments} {body : List Stmt} {scope : Scope} {kws : List (Str × V)} {fd : FuncData} {N ps : List Str} {t : DTS}
theorem fna_of (F : FunD K x qual params body scope [] kws (He.fAd K p) fd) (Sc : FnScope N ps scope)
    (hbody : ∀ (cdv : Value) (A : Around) (outer : List Env) (s : Shared) (H : Hp) (E : XK), cdv = .ref (He.codeOf K p) → Room k (A.deeper (envOfC qual scope s.heap.objs.size (He.fAd K p) cdv)) →
      QSs (cxOf (L2N.CX P w) P w K mg base N qual scope (He.fAd K p) cdv A outer s H E) T (fun cls d _ H' => E cls d H') body t) :
    FnOk P w K mg base (L2N.CX P w) (k + 1) (He.fAd K p) fd ps (liftSp K T (spOf N ps.length t)) := by
  obtain ⟨oc, od, dV, kV, doc, pm, an, cdv, ct, osl, rfl, lk, hcd, _, _⟩ := F.ex
  obtain ⟨c, rfl⟩ := He.codeIn_ref hcd
  have ec : He.codeOf K p = c := He.codeOf_eq (p := p) lk rfl
  refine fn_of lk hcd Sc (fun vs H Q E h => ?_) fun A outer s H vs Q E hr h => ⟨_, hbody (.ref c) A outer s H E (by rw [ec]) hr, ?_⟩
  · obtain ⟨ds, F, G, P, Ed, hg, hr, hs, _⟩ := h
    rw [← hr.length]
    exact hs.1
  · obtain ⟨ds, F, G, P, Ed, hg, hr, hs, hq, hx⟩ := h
    exact ⟨dstart N ds, F, G, _, _, hg, relSt_start hr, fun x env' F' G' cls d σ' H' p s g r rx => hx x _ G' cls d H' p s g rx, hs.2, fun env' F' G' σ' H' p s g r => hq .non F' G' .non H' p s g rfl, hq⟩
theorem dfa_of (F : ∃ fd, FunD K x qual params body scope [] kws (He.fAd K p) fd) (Sc : FnScope N ps scope)
    (hb : ∀ (kV doc pm : Value) (an : Option Addr) (cdv ct : Value) (us : List Value), us.length = ps.length → bindArgs (PySem.W.fnOf x qual params body scope .none kV doc pm an cdv ct) ⟨us, []⟩ = pure (ps.zip us))
    (hbody : ∀ (cdv : Value) (A : Around) (outer : List Env) (s : Shared) (H : Hp) (E : XK), cdv = .ref (He.codeOf K p) → Room k (A.deeper (envOfC qual scope s.heap.objs.size (He.fAd K p) cdv)) →
      QSs (cxOf (L2N.CX P w) P w K mg base N qual scope (He.fAd K p) cdv A outer s H E) T (fun cls d _ H' => E cls d H') body t) :
    DFa P w K T mg base (k + 1) p ps (spOf N ps.length t) := by
  obtain ⟨fd, F⟩ := F
  exact ⟨⟨fd, fna_of F Sc hbody, F.bindsN hb⟩, F.kp⟩
/-- a global def by its name -/
theorem DFa.fn {y : Str} {sp : DSp} (h : DFa P w K T mg base k (y, none) ps sp) (hmg : mg y = some (.ref (He.ga K y))) : DFn P w K T mg base k y ps sp := ⟨h.ok, hmg, h.kp⟩
/-- keyword-only defaults: the given ones stand in front (B) or behind (C) of those that lack -/
def gB {α : Type} (us mv ws : List α) : List α := us ++ (ws ++ mv)
def gC {α : Type} (us mv ws : List α) : List α := us ++ (mv ++ ws)
structure FnK (P : Program) (w : World) (K : PySem.W.Frag) (T : LT) (mg : Str → Option Value) (base : Heap) (k : Nat) (p : Str × Option Str) (x qual : Str) (params : Arguments) (body : List Stmt) (scope : Scope) (kws : List (Str × V)) (ps : List Str) (sp : DSp) : Prop where
  ok : ∃ fd, FunD K x qual params body scope [] kws (He.fAd K p) fd ∧ FnOk P w K mg base (L2N.CX P w) k (He.fAd K p) fd ps (liftSp K T sp)
theorem fnk2_of (F : ∃ fd, FunD K x qual params body scope [] kws (He.fAd K p) fd) (Sc : FnScope N ps scope)
    (hbody : ∀ (cdv : Value) (A : Around) (outer : List Env) (s : Shared) (H : Hp) (E : XK), cdv = .ref (He.codeOf K p) → Room k (A.deeper (envOfC qual scope s.heap.objs.size (He.fAd K p) cdv)) →
      QSs (cxOf (L2N.CX P w) P w K mg base N qual scope (He.fAd K p) cdv A outer s H E) T (fun cls d _ H' => E cls d H') body t) :
    FnK P w K T mg base (k + 1) p x qual params body scope kws ps (spOf N ps.length t) := by
  obtain ⟨fd, F⟩ := F
  exact ⟨fd, F, fna_of F Sc hbody⟩
theorem FnK.callB {sp : DSp} (h : FnK P w K T mg base k p x qual params body scope kws ps sp) (n : Nat) (ks : List Str) (ms : List (Str × V)) (md : List D) (hk : kws ≠ []) (hms : ∀ q ∈ ms, q ∈ kws) (hmd : ∀ F H, RelDs K F H md (ms.map (·.2)))
    (hb : ∀ (D : Addr) (doc pm : Value) (an : Option Addr) (cdv ct : Value) (us mv ws : List Value), us.length = n → mv.length = ms.length → ws.length = ks.length →
      KwChain D ((ms.map (·.1)).zip mv) (bindArgs (PySem.W.fnOf x qual params body scope .none (.ref D) doc pm an cdv ct) ⟨us, ks.zip ws⟩) (ps.zip (gB us mv ws))) :
    DFk P w K T mg base k p ps n ks (fun ds es => gB ds md es) sp := by
  obtain ⟨fd, F, O⟩ := h.ok
  obtain ⟨mv, B⟩ := F.kbinds0 n ks ms gB hk hms (fun r1 r2 r3 => r1.append (r3.append r2)) hb
  exact ⟨⟨fd, _, _, O, B, fun F H ds vs es zs r1 r2 => r1.append (r2.append (hmd F H))⟩, F.kp⟩
theorem FnK.callC {sp : DSp} (h : FnK P w K T mg base k p x qual params body scope kws ps sp) (n : Nat) (ks : List Str) (ms : List (Str × V)) (md : List D) (hk : kws ≠ []) (hms : ∀ q ∈ ms, q ∈ kws) (hmd : ∀ F H, RelDs K F H md (ms.map (·.2)))
    (hb : ∀ (D : Addr) (doc pm : Value) (an : Option Addr) (cdv ct : Value) (us mv ws : List Value), us.length = n → mv.length = ms.length → ws.length = ks.length →
      KwChain D ((ms.map (·.1)).zip mv) (bindArgs (PySem.W.fnOf x qual params body scope .none (.ref D) doc pm an cdv ct) ⟨us, ks.zip ws⟩) (ps.zip (gC us mv ws))) :
    DFk P w K T mg base k p ps n ks (fun ds es => gC ds md es) sp := by
  obtain ⟨fd, F, O⟩ := h.ok
  obtain ⟨mv, B⟩ := F.kbinds0 n ks ms gC hk hms (fun r1 r2 r3 => r1.append (r2.append r3)) hb
  exact ⟨⟨fd, _, _, O, B, fun F H ds vs es zs r1 r2 => r1.append ((hmd F H).append r2)⟩, F.kp⟩
end
/-! ### instances -/
def putD (f : String) (v : D) : List (String × D) → List (String × D)
  | [] => [(f, v)]
  | (g, x) :: r => if g = f then (g, v) :: r else (g, x) :: putD f v r
section
variable {K : PySem.W.Frag} {F : FS} {G : DG} {H : Hp}
theorem S_eq_iff {s t : String} : S s = S t ↔ s = t := ⟨S_inj, fun h => by rw [h]⟩
theorem RelFs.lookup {f : String} : ∀ {fs : List (String × D)} {ws : List (Str × V)}, RelFs K F H fs ws → (∀ d, fs.lookup f = some d → ∃ v, ws.lookup (S f) = some v ∧ RelD K F H d v) ∧ (fs.lookup f = none → ws.lookup (S f) = none)
  | [], ws, h => by
    rw [show ws = [] from h]
    exact ⟨fun d e => (by cases e), fun _ => rfl⟩
  | (g, x) :: r, ws, ⟨v, ws', e, h, t⟩ => by
    rw [e]
    have ih := RelFs.lookup (f := f) t
    simp only [List.lookup_cons]
    by_cases q : f = g
    · have q2 : (S f == S g) = true := by rw [q]; simp
      have q3 : (f == g) = true := by rw [q]; simp
      rw [q2, q3]
      exact ⟨fun d e => by cases e; exact ⟨v, rfl, h⟩, fun e => by cases e⟩
    · have q3 : (f == g) = false := by simpa using q
      have q2 : (S f == S g) = false := by rw [S_beq]; exact q3
      rw [q2, q3]
      exact ih
theorem RelFs.put {f : String} {x : D} {v : V} (rx : RelD K F H x v) : ∀ {fs : List (String × D)} {ws : List (Str × V)}, RelFs K F H fs ws → RelFs K F H (putD f x fs) (putF (S f) v ws)
  | [], ws, h => by
    rw [show ws = [] from h]
    exact ⟨v, [], rfl, rx, rfl⟩
  | (g, y) :: r, ws, ⟨u, ws', e, h, t⟩ => by
    rw [e]
    unfold putD putF
    by_cases q : g = f
    · rw [if_pos q, if_pos (by rw [q])]
      exact ⟨v, ws', rfl, rx, t⟩
    · rw [if_neg q, if_neg fun z => q (S_inj z)]
      exact ⟨u, _, rfl, h, RelFs.put rx t⟩
theorem RelFs.length : ∀ {fs : List (String × D)} {ws : List (Str × V)}, RelFs K F H fs ws → fs.length = ws.length
  | [], ws, h => by rw [show ws = [] from h]; rfl
  | (g, y) :: r, ws, ⟨u, ws', e, h, t⟩ => by rw [e, List.length_cons, List.length_cons, RelFs.length t]
theorem RelG.ins {a : Addr} {c : String} {fs : List (String × D)} (hg : RelG K T F G H) (e : G a = some (.ins c fs)) : ∃ dx ws, H a = some (.ins (He.ga K (S c)) dx ws) ∧ G dx = none ∧ ¬ F dx ∧ (∃ b, H dx = some (.own b)) ∧ RelFs K F H fs ws := hg.ob a _ e
/-- an attribute is written -/
theorem RelG.fld {a dx : Addr} {c f : String} {fs : List (String × D)} {ws : List (Str × V)} {y : D} {v : V} (hg : RelG K T F G H) (e : G a = some (.ins c fs)) (ea : H a = some (.ins (He.ga K (S c)) dx ws)) (r : RelFs K F H fs ws) (gd : G dx = none) (fd : ¬ F dx) (od : ∃ b, H dx = some (.own b)) (ry : RelD K F H y v) :
    Step F G H F (gset G a (some (.ins c (putD f y fs)))) (upd H a (.ins (He.ga K (S c)) dx (putF (S f) v ws))) ∧ RelG K T F (gset G a (some (.ins c (putD f y fs)))) (upd H a (.ins (He.ga K (S c)) dx (putF (S f) v ws))) := by
  have hs : H a = none ∨ G a ≠ none := .inr (by rw [e]; simp)
  have s : Step F G H F (gset G a (some (.ins c (putD f y fs)))) (upd H a (.ins (He.ga K (S c)) dx (putF (S f) v ws))) := Step.set hg hs
  have hda : dx ≠ a := fun z => by rw [z, e] at gd; cases gd
  refine ⟨s, hg.set hs ⟨dx, _, rfl, by rw [gset_ne hda]; exact gd, fd, ?_, RelFs.put (RelD.step s y ry) (RelFs.step s fs r)⟩⟩
  obtain ⟨b, q⟩ := od
  exact ⟨b, by rw [upd_ne hda]; exact q⟩
/-- a new instance -/
theorem RelG.made {x dx : Addr} {c : String} (hg : RelG K T F G H) (hx : H x = none) (hd : H dx = none) (hne : dx ≠ x) :
    Step F G H F (gset G x (some (.ins c []))) (upd (upd H dx (.own x)) x (.ins (He.ga K (S c)) dx [])) ∧ RelG K T F (gset G x (some (.ins c []))) (upd (upd H dx (.own x)) x (.ins (He.ga K (S c)) dx [])) := by
  have g1 : RelG K T F G (upd H dx (.own x)) := hg.priv hd
  have s1 : Step F G H F G (upd H dx (.own x)) := Step.priv hd
  have hx1 : (upd H dx (.own x)) x = none := by rw [upd_ne (Ne.symm hne)]; exact hx
  have s2 : Step F G (upd H dx (.own x)) F (gset G x (some (.ins c []))) (upd (upd H dx (.own x)) x (.ins (He.ga K (S c)) dx [])) := Step.set g1 (.inl hx1)
  refine ⟨s1.trans s2, g1.set (.inl hx1) ⟨dx, [], rfl, ?_, ?_, ⟨x, ?_⟩, rfl⟩⟩
  · rw [gset_ne hne]; exact hg.free hd
  · exact hg.nof hd
  · rw [upd_ne hne, upd_same]
end
def dFld (cs : List String) (f : String) (to : DTE) : DTE := fun E env G Q => to E env G fun x G1 => ∃ a c fs d, x = .ref a ∧ G1 a = some (.ins c fs) ∧ c ∈ cs ∧ fs.lookup f = some d ∧ Q d G1
def sFldS (cs : List String) (f : String) (to tv : DTE) : DTS := fun E DE env G => tv E env G fun y G1 => to E env G1 fun x G2 => ∃ a c fs, x = .ref a ∧ G2 a = some (.ins c fs) ∧ c ∈ cs ∧ fs.length < 1000 ∧ DE.nx env (gset G2 a (some (.ins c (putD f y fs))))
def dMeth (m : String) (ms : List (String × DSp)) (to : DTE) (ta : DTA) : DTE := fun E env G Q => to E env G fun x G1 => ∃ a c fs sp, x = .ref a ∧ G1 a = some (.ins c fs) ∧ fs.lookup m = none ∧ ms.lookup c = some sp ∧ ta E env G1 fun xs G2 => sp (.ref a :: xs) G2 Q fun x G' => E x env G'
def dMake (c : String) (sp : DSp) (ta : DTA) : DTE := fun E env G Q => ta E env G fun xs G1 => ∀ p, G1 p = none → sp (.ref p :: xs) (gset G1 p (some (.ins c []))) (fun v G2 => v = .non ∧ Q (.ref p) G2) fun x G' => E x env G'
def dMakeK (c : String) (n m : Nat) (gD : List D → List D → List D) (sp : DSp) (ta tk : DTA) : DTE := fun E env G Q => ta E env G fun xs G1 => tk E env G1 fun zs G2 => xs.length = n ∧ zs.length = m ∧ ∀ p, G2 p = none → sp (gD (.ref p :: xs) zs) (gset G2 p (some (.ins c []))) (fun v G3 => v = .non ∧ Q (.ref p) G3) fun x G' => E x env G'
def dMethK (m : String) (n l : Nat) (gD : List D → List D → List D) (c0 : String) (sp : DSp) (to : DTE) (ta tk : DTA) : DTE := fun E env G Q => to E env G fun x G1 => ∃ a fs, x = .ref a ∧ G1 a = some (.ins c0 fs) ∧ fs.lookup m = none ∧ ta E env G1 fun xs G2 => tk E env G2 fun zs G3 => xs.length = n ∧ zs.length = l ∧ sp (gD (.ref a :: xs) zs) G3 Q fun x G' => E x env G'
inductive MsOk (P : Program) (w : World) (K : PySem.W.Frag) (T : LT) (mg : Str → Option Value) (base : Heap) (j : Nat) (m : String) : List (String × DSp) → Prop
  | nil : MsOk P w K T mg base j m []
  | cons {c : String} {sp : DSp} {ms : List (String × DSp)} {k : Nat} {ps : List Str} (F : DFa P w K T mg base k (S c, some (S m)) ps sp) (hk : k ≤ j) (cl : Cls K (He.ga K (S c))) (hm : Meth K (He.ga K (S c)) (S m) (He.fAd K (S c, some (S m)))) (r : MsOk P w K T mg base j m ms) : MsOk P w K T mg base j m ((c, sp) :: ms)
theorem MsOk.get {P : Program} {w : World} {K : PySem.W.Frag} {mg : Str → Option Value} {base : Heap} {j : Nat} {m c : String} {sp : DSp} : ∀ {ms : List (String × DSp)}, MsOk P w K T mg base j m ms → ms.lookup c = some sp → (∃ k ps, k ≤ j ∧ DFa P w K T mg base k (S c, some (S m)) ps sp) ∧ Cls K (He.ga K (S c)) ∧ Meth K (He.ga K (S c)) (S m) (He.fAd K (S c, some (S m)))
  | _, .cons (c := c') F hk cl hm r, e => by
    rw [List.lookup_cons] at e
    by_cases q : c = c'
    · rw [q] at e ⊢
      simp at e
      rw [← e]
      exact ⟨⟨_, _, hk, F⟩, cl, hm⟩
    · rw [show (c == c') = false by simpa using q] at e
      exact r.get e
section
variable {X : Cx} {W : WX} {e o value : Expr} {es : List Expr} {to tv : DTE} {ta tk : DTA} {pos pos' apos p : Pos} {cs : List String} {f m : String} {j : Nat}
theorem q_fld (he : QE X T W e to) (hc : ∀ c ∈ cs, Cls X.K (He.ga X.K (S c)) ∧ NoAttr X.K (He.ga X.K (S c)) (S f)) (hb : attributeBase e (Str.ofString f) X.env (eval e X.env) = eval e X.env := by rfl) : QE X T W (.Attribute e (Str.ofString f) pos) (dFld cs f to) := by
  refine PE.imp (pe_fld he hb) fun σ H Q ⟨env, F, G, E, P, hg, hs, hx, ht, hq⟩ => ⟨env, F, G, E, _, hg, hs, hx, ht, fun d F1 G1 v H1 pk s1 g1 r1 => ?_⟩
  obtain ⟨a, c, fs, d', rfl, ea, hcs, el, hp⟩ := pk
  obtain ⟨dx, ws, eh, _, _, _, rf⟩ := g1.ins ea
  obtain ⟨u, lu, ru⟩ := rf.lookup.1 d' el
  exact ⟨a, _, dx, ws, u, r1, eh, (hc c hcs).1, (hc c hcs).2, lu, hq _ _ _ _ _ hp s1 g1 ru⟩
theorem qs_fld (ho : QE X T W o to) (hv : QE X T W value tv) (hc : ∀ c ∈ cs, Cls X.K (He.ga X.K (S c)) ∧ NoAttr X.K (He.ga X.K (S c)) (S f)) (hs : swapsWith value (some (.Attribute o (Str.ofString f) pos')) pos.line X.env = pure false := by rfl) :
    QS X T W (.Assign [.Attribute o (Str.ofString f) pos'] value pos) (sFldS cs f to tv) := by
  refine PS.imp (ps_fld ho hv hs) fun Dn σ H ⟨env, F, G, E, DE, hg, hst, hx, ht, hn, hr⟩ => ?_
  refine ⟨env, F, G, E, _, hg, hst, hx, ht, fun y F1 G1 v H1 pk s1 g1 r1 => ?_⟩
  refine ⟨env, F1, G1, E, _, g1, hst.step s1, hx.step s1, pk, fun d F2 G2 u H2 pk2 s2 g2 r2 => ?_⟩
  obtain ⟨a, c, fs, rfl, ea, hcs, hl, hp⟩ := pk2
  obtain ⟨dx, ws, eh, gd, fd, od, rf⟩ := g2.ins ea
  obtain ⟨s3, g3⟩ := g2.fld (f := f) ea eh rf gd fd od (RelD.step s2 y r1)
  exact ⟨a, _, dx, ws, r2, eh, (hc c hcs).1, (hc c hcs).2, by rw [← rf.length]; exact hl, hn _ _ _ _ _ hp ((s1.trans s2).trans s3) g3 (hst.step ((s1.trans s2).trans s3))⟩
theorem q_meth {pl : Sem Bool} {ms : List (String × DSp)} (hm : MsOk X.prog X.w X.K T X.mg X.base j m ms) (hr : Room j X.A) (tkx : L2N.Takes X W) (he : QE X T W o to) (ha : QA X T W (e :: es) ta)
    (hst : starEach (e :: es) X.env = (false, eval e X.env) :: starEach es X.env := by rfl) (hpl : (backTo pos (starEach es X.env)).any (·.1) = false := by rfl)
    (ht : eval (.Call (.Attribute o (Str.ofString m) apos) (e :: es) [] pos) X.env = (do
      let ov ← eval o X.env
      standAt apos.atName
      let (f, first) ← holding [ov] (getMethod ov (Str.ofString m) pl)
      callWith pos f first (backTo pos (starEach (e :: es) X.env)) (backToKw pos (keywordEach [] X.env))) := by rfl) :
    QE X T W (.Call (.Attribute o (Str.ofString m) apos) (e :: es) [] pos) (dMeth m ms to ta) := by
  refine ⟨fun pins s σ H Q I hw => ?_⟩
  obtain ⟨env, F, G, E, P, hg, hs, hx, hto, hq⟩ := hw
  refine PySem.W.methodCall_KW (pl := pl) (thn (he.run pins s σ H (fun v H1 => ∃ d F1 G1, Step F G H F1 G1 H1 ∧ RelG X.K T F1 G1 H1 ∧ RelD X.K F1 H1 d v ∧ ∃ a c fs sp, d = .ref a ∧ G1 a = some (.ins c fs) ∧ fs.lookup m = none ∧ ms.lookup c = some sp ∧ ta E env G1 fun xs G2 => sp (.ref a :: xs) G2 P fun x G' => E x env G')
    I ⟨env, F, G, E, _, hg, hs, hx, hto, fun d F1 G1 v H1 pk s1 g1 r1 => ⟨d, F1, G1, s1, g1, r1, pk⟩⟩) fun u s1 ⟨x, H1, I1, rx, d, F1, G1, st1, g1, r1, a, c, fs, sp, ed, ea, el, esp, hta⟩ => ?_) ht
  subst ed
  obtain rfl : x = V.ref a := r1
  obtain rfl : u = Value.ref a := rx
  obtain ⟨dx, ws, eh, _, _, _, rf⟩ := g1.ins ea
  obtain ⟨⟨k, ps, hk, DF⟩, cl, hmt⟩ := hm.get esp
  obtain ⟨fd, F2, B⟩ := DF.ok
  refine getmeth_ok I1 eh cl hmt (rf.lookup.2 el) ?_
  refine PySem.W.callWith_K (first := [.ref a]) (h₀ := X.base) I.ok.mod.kin hmt.kp (thn (ha.run pos pins s1 σ H1 (fun vs H2 => liftSp X.K T sp (V.ref a :: vs) H2 Q (WE W σ)) I1 ⟨env, F1, G1, E, _, g1, hs.step st1, hx.step st1, hta, fun xs F3 G3 vs H3 pk s3 g3 r3 => ?_⟩) fun us s2 ⟨vs, H2, I2, r, q2⟩ => ⟨I2.kIn, ?_⟩) hst hpl
  · exact ⟨.ref a :: xs, F3, G3, _, _, g3, ⟨V.ref a, vs, rfl, rfl, r3⟩, pk, fun d F' G' v H' p2 s2 g2 r2 => hq d _ G' v H' p2 ((st1.trans s3).trans s2) g2 r2, fun x F' G' cls d H' p2 s2 g2 r2 => hx x env _ G' cls d σ H' p2 ((st1.trans s3).trans s2) g2 (hs.step ((st1.trans s3).trans s2)) r2⟩
  · exact run_fnS (us := .ref a :: us) (vs := .ref a :: vs) (E := WE W) F2 (hr.mono hk) B (L2N.passAt tkx σ) I2 (.cons rfl r) q2
theorem q_meth0 {pl : Sem Bool} {ms : List (String × DSp)} (hm : MsOk X.prog X.w X.K T X.mg X.base j m ms) (hr : Room j X.A) (tkx : L2N.Takes X W) (he : QE X T W o to)
    (ht : eval (.Call (.Attribute o (Str.ofString m) apos) [] [] pos) X.env = (do
      let ov ← eval o X.env
      standAt apos.atName
      let (f, first) ← holding [ov] (getMethod ov (Str.ofString m) pl)
      callWith pos f first (backTo pos (starEach [] X.env)) (backToKw pos (keywordEach [] X.env))) := by rfl) :
    QE X T W (.Call (.Attribute o (Str.ofString m) apos) [] [] pos) (dMeth m ms to dNil) := by
  refine ⟨fun pins s σ H Q I hw => ?_⟩
  obtain ⟨env, F, G, E, P, hg, hs, hx, hto, hq⟩ := hw
  refine PySem.W.methodCall_KW (pl := pl) (thn (he.run pins s σ H (fun v H1 => ∃ d F1 G1, Step F G H F1 G1 H1 ∧ RelG X.K T F1 G1 H1 ∧ RelD X.K F1 H1 d v ∧ ∃ a c fs sp, d = .ref a ∧ G1 a = some (.ins c fs) ∧ fs.lookup m = none ∧ ms.lookup c = some sp ∧ sp [.ref a] G1 P fun x G' => E x env G')
    I ⟨env, F, G, E, _, hg, hs, hx, hto, fun d F1 G1 v H1 pk s1 g1 r1 => ⟨d, F1, G1, s1, g1, r1, pk⟩⟩) fun u s1 ⟨x, H1, I1, rx, d, F1, G1, st1, g1, r1, a, c, fs, sp, ed, ea, el, esp, hsp⟩ => ?_) ht
  subst ed
  obtain rfl : x = V.ref a := r1
  obtain rfl : u = Value.ref a := rx
  obtain ⟨dx, ws, eh, _, _, _, rf⟩ := g1.ins ea
  obtain ⟨⟨k, ps, hk, DF⟩, cl, hmt⟩ := hm.get esp
  obtain ⟨fd, F2, B⟩ := DF.ok
  refine getmeth_ok I1 eh cl hmt (rf.lookup.2 el) ?_
  exact PySem.W.callWith_K0 (first := [.ref a]) I1.kIn hmt.kp (run_fnS (us := [.ref a]) (vs := [.ref a]) (E := WE W) F2 (hr.mono hk) B (L2N.passAt tkx σ) I1 (.cons rfl .nil)
    ⟨[.ref a], F1, G1, _, _, g1, ⟨V.ref a, [], rfl, rfl, rfl⟩, hsp, fun d F' G' v H' p2 s2 g2 r2 => hq d _ G' v H' p2 (st1.trans s2) g2 r2, fun x F' G' cls d H' p2 s2 g2 r2 => hx x env _ G' cls d σ H' p2 (st1.trans s2) g2 (hs.step (st1.trans s2)) r2⟩)
end
end DL

namespace DL
open PySem PySem.Spec PyProof.Rows L2 LamX HotX L2H
variable {T : LT}
/-! ### instances are made; keywords -/
section
variable {X : Cx} {CX : CXT} {k n : Nat} {f C : Addr} {fd : FuncData} {ps ks : List Str} {sp : Sp} {E : XK} {g : List Value → List Value → List Value} {gV : List V → List V → List V} {pins : List (Addr × Obj)} {σ : L2.St} {H : Hp} {s : Shared} {Q : VK} {us ws : List Value} {vs zs : List V}
theorem mk_end {I2x : Hp} {t : Shared} (I2 : Inv X pins σ I2x t) (hx : PassesAt CX X σ E) {x : Addr} {r : Except Value (Flow)} {s' : Shared} (hq' : CR CX X.stack X.prog X.w I2x t (fun v H2 => v = .non ∧ Q (.ref x) H2) E r s') :
    (match r with
      | .ok (.ret u) => u = .none ∧ EP X pins σ Q (.ref x) s'
      | .error e => X.xe e s'
      | _ => False) := by
  cases r with
  | error e => exact hx pins _ _ e s' I2 hq'
  | ok fl => cases fl with
    | ret u =>
      obtain ⟨v, H', I3, rv, ev, q3⟩ := I2.after hq'
      subst ev
      exact ⟨rv, ⟨V.ref x, H', I3, rfl, q3⟩⟩
    | next => exact hq'.elim
    | brk => exact hq'.elim
    | cont => exact hq'.elim
theorem mk_run (M : Mk X.K C f) (F : FnOk X.prog X.w X.K X.mg X.base CX k f fd ps sp) (hr : Room (k + 1) X.A) (hb : KBn X.K fd ps (n + 1) ks g gV) (hx : PassesAt CX X σ E) (I : Inv X pins σ H s) (r : Vals vs us) (rz : Vals zs ws) (l1 : vs.length = n) (l2 : zs.length = ks.length)
    (h : ∀ x dx, H x = none → H dx = none → dx ≠ x → sp (gV (.ref x :: vs) zs) (upd (upd H dx (.own x)) x (.ins C dx [])) (fun v H2 => v = .non ∧ Q (.ref x) H2) E) : wpAny (model X.prog X.w) X.A (call (.ref C) us (ks.zip ws)) (EP X pins σ Q) X.xe s := by
  have hq := h (s.heap.objs.size + 1) s.heap.objs.size (I.hok.fresh (Nat.le_succ _)) (I.hok.fresh (Nat.le_refl _)) (Nat.ne_of_lt (Nat.lt_succ_self _))
  have I2 := Inv.made (C := C) I
  have r1 : Vals (V.ref (s.heap.objs.size + 1) :: vs) (Value.ref (s.heap.objs.size + 1) :: us) := .cons rfl r
  have n1 : (Value.ref (s.heap.objs.size + 1) :: us).length = n + 1 := by
    rw [List.length_cons, ← r.length, l1]
  refine wpAny_call (make_map (f := f) I.kIn M.makes M.init (beq_iff_eq.mp M.fn) (codeAny_mono (F.run _ X.stack _ _ ⟨Value.ref (s.heap.objs.size + 1) :: us, ks.zip ws⟩ (g (Value.ref (s.heap.objs.size + 1) :: us) ws) _ _ E (hr.make C us (ks.zip ws)) (I2.env0.make C us (ks.zip ws))
    (hb.to _ _ ws I2.kIn n1 (rz.length.symm.trans l2)) (hb.rel r1 rz) hq) fun r s' hq' => ?_))
  have z := mk_end I2 hx hq'
  cases r with
  | error e => exact z
  | ok fl => cases fl <;> exact z
theorem mk_run0 (M : Mk X.K C f) (F : FnOk X.prog X.w X.K X.mg X.base CX k f fd ps sp) (hr : Room (k + 1) X.A) (hb : Binds X.K fd ps []) (hx : PassesAt CX X σ E) (I : Inv X pins σ H s) (r : Vals vs us)
    (h : ∀ x dx, H x = none → H dx = none → dx ≠ x → sp (.ref x :: vs) (upd (upd H dx (.own x)) x (.ins C dx [])) (fun v H2 => v = .non ∧ Q (.ref x) H2) E) : wpAny (model X.prog X.w) X.A (call (.ref C) us) (EP X pins σ Q) X.xe s := by
  have hq := h (s.heap.objs.size + 1) s.heap.objs.size (I.hok.fresh (Nat.le_succ _)) (I.hok.fresh (Nat.le_refl _)) (Nat.ne_of_lt (Nat.lt_succ_self _))
  have I2 := Inv.made (C := C) I
  have r1 : Vals (V.ref (s.heap.objs.size + 1) :: vs) (Value.ref (s.heap.objs.size + 1) :: us) := .cons rfl r
  have hl : (Value.ref (s.heap.objs.size + 1) :: us).length = ps.length := by rw [← r1.length]; exact F.len _ _ _ _ hq
  have b := hb _ (Value.ref (s.heap.objs.size + 1) :: us) I2.kIn (by rw [List.append_nil]; exact hl)
  rw [List.append_nil] at b
  refine wpAny_call (make_map (f := f) I.kIn M.makes M.init (beq_iff_eq.mp M.fn) (codeAny_mono (F.run _ X.stack _ _ ⟨Value.ref (s.heap.objs.size + 1) :: us, []⟩ _ _ _ E (hr.make C us []) (I2.env0.make C us []) b r1 hq) fun r s' hq' => ?_))
  have z := mk_end I2 hx hq'
  cases r with
  | error e => exact z
  | ok fl => cases fl <;> exact z
end
abbrev QK (X : Cx) (T : LT) (W : WX) (kws : List Keyword) (t : DTA) : Prop := PK X kws (liftA X.K T W t)
theorem PK.imp {X : Cx} {kws : List Keyword} {t t' : TA} (h : PK X kws t) (k : ∀ σ H Q, t' σ H Q → t σ H Q) : PK X kws t' := ⟨fun pos pins s σ H Q I w => h.run pos pins s σ H Q I (k σ H Q w)⟩
section
variable {X : Cx} {W : WX} {e o : Expr} {es : List Expr} {to te : DTE} {ta tk : DTA} {pos apos p kpos : Pos} {m c : String} {j k n : Nat} {ps ks : List Str} {sp : DSp} {gD : List D → List D → List D} {kws : List Keyword} {nm : Option Str}
theorem qk_nil : QK X T W [] dNil := PK.imp pk_nil fun σ H Q ⟨env, F, G, E, P, hg, hs, hx, ht, hq⟩ => hq [] F G [] H ht Step.refl hg rfl
theorem qk_cons (he : QE X T W e te) (hr : QK X T W kws ta) : QK X T W (⟨nm, e, kpos⟩ :: kws) (dCons te ta) :=
  PK.imp (pk_cons he hr) fun σ H Q ⟨env, F, G, E, P, hg, hs, hx, ht, hq⟩ => ⟨env, F, G, E, _, hg, hs, hx, ht, fun x F1 G1 v H1 p1 s1 g1 r1 => ⟨env, F1, G1, E, _, g1, hs.step s1, hx.step s1, p1, fun xs F2 G2 vs H2 p2 s2 g2 r2 => hq (x :: xs) F2 G2 (v :: vs) H2 p2 (s1.trans s2) g2 ⟨v, vs, rfl, RelD.step s2 x r1, r2⟩⟩⟩
/-- C(e, ..) -/
theorem q_make (M : Mk X.K (He.ga X.K (S c)) (He.fAd X.K (S c, some "__init__"))) (DF : DFa X.prog X.w X.K T X.mg X.base k (S c, some "__init__") ps sp) (hr : Room j X.A) (hj : k + 1 ≤ j) (tkx : L2N.Takes X W) (hg : Gl X (Str.ofString c)) (hm : X.mg (S c) = some (.ref (He.ga X.K (S c)))) (ha : QA X T W (e :: es) ta)
    (hdb : (Str.ofString c == ("__debug__" : Str)) = false := by decide) (he : starEach (e :: es) X.env = (false, eval e X.env) :: starEach es X.env := by rfl) (hpl : (backTo pos (starEach es X.env)).any (·.1) = false := by rfl) :
    QE X T W (.Call (.Name (Str.ofString c) p) (e :: es) [] pos) (dMake c sp ta) := by
  obtain ⟨fd, F2, B⟩ := DF.ok
  refine ⟨fun pins s σ H Q I hw => ?_⟩
  obtain ⟨env, F, G, E, P, hg', hs, hx, hta, hq⟩ := hw
  refine wpAny_Call_Name_kw (ld_glob I hg hm ?_ hdb)
  refine PySem.W.callWith_K (h₀ := X.base) I.ok.mod.kin M.kp (thn (ha.run pos pins s σ H (fun vs H1 => ∀ x dx, H1 x = none → H1 dx = none → dx ≠ x → liftSp X.K T sp (.ref x :: vs) (upd (upd H1 dx (.own x)) x (.ins (He.ga X.K (S c)) dx [])) (fun v H2 => v = .non ∧ Q (.ref x) H2) (WE W σ)) I
    ⟨env, F, G, E, _, hg', hs, hx, hta, fun xs F1 G1 vs H1 pk s1 g1 r1 x dx h1 h2 h3 => ?_⟩) fun us s1 ⟨vs, H1, I1, r, q⟩ => ⟨I1.kIn, mk_run0 M F2 (hr.mono hj) B (L2N.passAt tkx σ) I1 r q⟩) he hpl
  obtain ⟨s2, g2⟩ := g1.made (c := c) h1 h2 h3
  refine ⟨.ref x :: xs, F1, _, _, _, g2, ⟨V.ref x, vs, rfl, rfl, RelDs.step s2 xs r1⟩, pk x (g1.free h1), fun d F' G' v H' p2 s3 g3 r3 => ?_, fun y F' G' cls d H' p2 s3 g3 r3 => hx y env _ G' cls d σ H' p2 ((s1.trans s2).trans s3) g3 (hs.step ((s1.trans s2).trans s3)) r3⟩
  obtain ⟨rfl, p3⟩ := p2
  exact ⟨r3, hq _ _ _ _ _ p3 ((s1.trans s2).trans s3) g3 rfl⟩
/-- C() -/
theorem q_make0 (M : Mk X.K (He.ga X.K (S c)) (He.fAd X.K (S c, some "__init__"))) (DF : DFa X.prog X.w X.K T X.mg X.base k (S c, some "__init__") ps sp) (hr : Room j X.A) (hj : k + 1 ≤ j) (tkx : L2N.Takes X W) (hg : Gl X (Str.ofString c)) (hm : X.mg (S c) = some (.ref (He.ga X.K (S c))))
    (hdb : (Str.ofString c == ("__debug__" : Str)) = false := by decide) : QE X T W (.Call (.Name (Str.ofString c) p) [] [] pos) (dMake c sp dNil) := by
  obtain ⟨fd, F2, B⟩ := DF.ok
  refine ⟨fun pins s σ H Q I hw => ?_⟩
  obtain ⟨env, F, G, E, P, hg', hs, hx, hta, hq⟩ := hw
  refine wpAny_Call_Name_kw (ld_glob I hg hm ?_ hdb)
  refine PySem.W.callWith_K0 I.kIn M.kp (mk_run0 (us := []) (vs := []) M F2 (hr.mono hj) B (L2N.passAt tkx σ) I .nil fun x dx h1 h2 h3 => ?_)
  obtain ⟨s2, g2⟩ := hg'.made (c := c) h1 h2 h3
  refine ⟨[.ref x], F, _, _, _, g2, ⟨V.ref x, [], rfl, rfl, rfl⟩, hta x (hg'.free h1), fun d F' G' v H' p2 s3 g3 r3 => ?_, fun y F' G' cls d H' p2 s3 g3 r3 => hx y env _ G' cls d σ H' p2 (s2.trans s3) g3 (hs.step (s2.trans s3)) r3⟩
  obtain ⟨rfl, p3⟩ := p2
  exact ⟨r3, hq _ _ _ _ _ p3 (s2.trans s3) g3 rfl⟩
/-- C(e, .., k = v, ..) -/
theorem q_makeK (M : Mk X.K (He.ga X.K (S c)) (He.fAd X.K (S c, some "__init__"))) (DF : DFk X.prog X.w X.K T X.mg X.base k (S c, some "__init__") ps (n + 1) ks gD sp) (hr : Room j X.A) (hj : k + 1 ≤ j) (tkx : L2N.Takes X W) (hg : Gl X (Str.ofString c)) (hm : X.mg (S c) = some (.ref (He.ga X.K (S c)))) (ha : QA X T W (e :: es) ta) (hkw : QK X T W kws tk)
    (hall : (backToKw pos (keywordEach kws X.env)).all (·.1.isSome) = true := by rfl) (hks : (backToKw pos (keywordEach kws X.env)).filterMap (·.1) = ks := by rfl)
    (hdb : (Str.ofString c == ("__debug__" : Str)) = false := by decide) (he : starEach (e :: es) X.env = (false, eval e X.env) :: starEach es X.env := by rfl) (hpl : ((backTo pos (starEach (e :: es) X.env)).any (·.1) || (backToKw pos (keywordEach kws X.env)).any (·.1.isNone)) = false := by rfl) :
    QE X T W (.Call (.Name (Str.ofString c) p) (e :: es) kws pos) (dMakeK c n ks.length gD sp ta tk) := by
  obtain ⟨fd, g, gV, F2, B, hrel⟩ := DF.ok
  refine ⟨fun pins s σ H Q I hw => ?_⟩
  obtain ⟨env, F, G, E, P, hg', hs, hx, hta, hq⟩ := hw
  refine wpAny_Call_Name_kw (ld_glob I hg hm ?_ hdb)
  let Rk : List V → List V → Hp → Prop := fun vs zs H2 => vs.length = n ∧ zs.length = ks.length ∧ ∀ x dx, H2 x = none → H2 dx = none → dx ≠ x → liftSp X.K T sp (gV (.ref x :: vs) zs) (upd (upd H2 dx (.own x)) x (.ins (He.ga X.K (S c)) dx [])) (fun v H2 => v = .non ∧ Q (.ref x) H2) (WE W σ)
  refine PySem.W.callWith_KW (h₀ := X.base) I.ok.mod.kin M.kp hall (thn (ha.run pos pins s σ H (fun vs H1 => liftA X.K T W tk σ H1 fun zs H2 => Rk vs zs H2) I
    ⟨env, F, G, E, _, hg', hs, hx, hta, fun xs F1 G1 vs H1 pk s1 g1 r1 => ⟨env, F1, G1, E, _, g1, hs.step s1, hx.step s1, pk, fun ys F2 G2 zs H2 pk2 s2 g2 r2 => ?_⟩⟩) fun us s1 ⟨vs, H1, I1, r, q⟩ => ?_) hpl he
  · obtain ⟨l1, l2, pk3⟩ := pk2
    refine ⟨by rw [← r1.length]; exact l1, by rw [← r2.length]; exact l2, fun x dx h1 h2 h3 => ?_⟩
    obtain ⟨s3, g3⟩ := g2.made (c := c) h1 h2 h3
    refine ⟨gD (.ref x :: xs) ys, F2, _, _, _, g3, hrel F2 _ _ _ _ _ ⟨V.ref x, vs, rfl, rfl, RelDs.step (s2.trans s3) xs r1⟩ (RelDs.step s3 ys r2), pk3 x (g2.free h1), fun d F' G' v H' p2 s4 g4 r4 => ?_, fun y F' G' cls d H' p2 s4 g4 r4 => hx y env _ G' cls d σ H' p2 (((s1.trans s2).trans s3).trans s4) g4 (hs.step (((s1.trans s2).trans s3).trans s4)) r4⟩
    obtain ⟨rfl, p3⟩ := p2
    exact ⟨r4, hq _ _ _ _ _ p3 (((s1.trans s2).trans s3).trans s4) g4 rfl⟩
  · refine thn (hkw.run pos pins s1 σ H1 _ I1 q) fun ws s2 ⟨zs, H2, I2, rz, l1, l2, q2⟩ => ⟨I2.kIn, ?_⟩
    rw [hks]
    exact mk_run M F2 (hr.mono hj) B (L2N.passAt tkx σ) I2 r rz l1 l2 q2
/-- o.m(e, .., k = v, ..) -/
theorem q_methK {pl : Sem Bool} (cl : Cls X.K (He.ga X.K (S c))) (hmt : Meth X.K (He.ga X.K (S c)) (S m) (He.fAd X.K (S c, some (S m)))) (DF : DFk X.prog X.w X.K T X.mg X.base k (S c, some (S m)) ps (n + 1) ks gD sp) (hr : Room j X.A) (hj : k ≤ j) (tkx : L2N.Takes X W) (he : QE X T W o to) (ha : QA X T W (e :: es) ta) (hkw : QK X T W kws tk)
    (hall : (backToKw pos (keywordEach kws X.env)).all (·.1.isSome) = true := by rfl) (hks : (backToKw pos (keywordEach kws X.env)).filterMap (·.1) = ks := by rfl)
    (hst : starEach (e :: es) X.env = (false, eval e X.env) :: starEach es X.env := by rfl) (hpl : ((backTo pos (starEach (e :: es) X.env)).any (·.1) || (backToKw pos (keywordEach kws X.env)).any (·.1.isNone)) = false := by rfl)
    (ht : eval (.Call (.Attribute o (Str.ofString m) apos) (e :: es) kws pos) X.env = (do
      let ov ← eval o X.env
      standAt apos.atName
      let (f, first) ← holding [ov] (getMethod ov (Str.ofString m) pl)
      callWith pos f first (backTo pos (starEach (e :: es) X.env)) (backToKw pos (keywordEach kws X.env))) := by rfl) :
    QE X T W (.Call (.Attribute o (Str.ofString m) apos) (e :: es) kws pos) (dMethK m n ks.length gD c sp to ta tk) := by
  obtain ⟨fd, g, gV, F2, B, hrel⟩ := DF.ok
  refine ⟨fun pins s σ H Q I hw => ?_⟩
  obtain ⟨env, F, G, E, P, hg, hs, hx, hto, hq⟩ := hw
  refine PySem.W.methodCall_KW (pl := pl) (thn (he.run pins s σ H (fun v H1 => ∃ d F1 G1, Step F G H F1 G1 H1 ∧ RelG X.K T F1 G1 H1 ∧ RelD X.K F1 H1 d v ∧ ∃ a fs, d = .ref a ∧ G1 a = some (.ins c fs) ∧ fs.lookup m = none ∧ ta E env G1 fun xs G2 => tk E env G2 fun zs G3 => xs.length = n ∧ zs.length = ks.length ∧ sp (gD (.ref a :: xs) zs) G3 P fun x G' => E x env G')
    I ⟨env, F, G, E, _, hg, hs, hx, hto, fun d F1 G1 v H1 pk s1 g1 r1 => ⟨d, F1, G1, s1, g1, r1, pk⟩⟩) fun u s1 ⟨x, H1, I1, rx, d, F1, G1, st1, g1, r1, a, fs, ed, ea, el, hta⟩ => ?_) ht
  subst ed
  obtain rfl : x = V.ref a := r1
  obtain rfl : u = Value.ref a := rx
  obtain ⟨dx, wf, eh, _, _, _, rf⟩ := g1.ins ea
  refine getmeth_ok I1 eh cl hmt (rf.lookup.2 el) ?_
  refine PySem.W.callWith_KW (first := [.ref a]) (h₀ := X.base) I.ok.mod.kin hmt.kp hall (thn (ha.run pos pins s1 σ H1 (fun vs H2 => liftA X.K T W tk σ H2 fun zs H3 => vs.length = n ∧ zs.length = ks.length ∧ liftSp X.K T sp (gV (.ref a :: vs) zs) H3 Q (WE W σ)) I1
    ⟨env, F1, G1, E, _, g1, hs.step st1, hx.step st1, hta, fun xs F3 G3 vs H3 pk s3 g3 r3 => ⟨env, F3, G3, E, _, g3, hs.step (st1.trans s3), hx.step (st1.trans s3), pk, fun ys F4 G4 zs H4 pk4 s4 g4 r4 => ?_⟩⟩) fun us s2 ⟨vs, H2, I2, r, q2⟩ => ?_) hpl hst
  · obtain ⟨l1, l2, pk5⟩ := pk4
    have st := (st1.trans s3).trans s4
    exact ⟨by rw [← r3.length]; exact l1, by rw [← r4.length]; exact l2, gD (.ref a :: xs) ys, F4, G4, _, _, g4, hrel F4 _ _ _ _ _ ⟨V.ref a, vs, rfl, rfl, RelDs.step s4 xs r3⟩ r4, pk5, fun d F' G' v H' p2 s5 g5 r5 => hq d _ G' v H' p2 (st.trans s5) g5 r5, fun y F' G' cls d H' p2 s5 g5 r5 => hx y env _ G' cls d σ H' p2 (st.trans s5) g5 (hs.step (st.trans s5)) r5⟩
  · refine thn (hkw.run pos pins s2 σ H2 _ I2 q2) fun ws s3 ⟨zs, H3, I3, rz, l1, l2, q3⟩ => ⟨I3.kIn, ?_⟩
    rw [hks]
    have n1 : (Value.ref a :: us).length = n + 1 := by
      rw [List.length_cons, ← r.length, l1]
    refine wpAny_call (codeAny_mono (F2.run X.A X.stack s3 H3 ⟨Value.ref a :: us, ks.zip ws⟩ (g (Value.ref a :: us) ws) _ Q (WE W σ) (hr.mono hj) I3.env0 (B.to _ _ ws I3.kIn n1 (rz.length.symm.trans l2)) (B.rel (vs := V.ref a :: vs) (.cons rfl r) rz) q3) fun r s' hq => ?_)
    cases r with
    | error e => exact L2N.passAt tkx σ pins H3 s3 e s' I3 hq
    | ok fl => cases fl with
      | ret u => exact I3.after hq
      | next => exact hq.elim
      | brk => exact hq.elim
      | cont => exact hq.elim
end
end DL

namespace DL
open PySem PySem.Spec PyProof.Rows L2 LamX HotX L2H
variable {T : LT}
theorem lookup_tabI (z : String) : ∀ l : List (String × Int), (tabI l).lookup z = (l.lookup z).map .int
  | [] => rfl
  | (k, v) :: r => by
    simp only [tabI, List.map_cons, List.lookup_cons]
    cases h : (z == k) with
    | true => rfl
    | false => exact lookup_tabI z r
theorem lookup_memI {z : String} {v : Int} : ∀ {l : List (String × Int)}, l.lookup z = some v → (z, v) ∈ l
  | [], h => by cases h
  | (k, u) :: r, h => by
    rw [List.lookup_cons] at h
    by_cases q : z = k
    · rw [q] at h ⊢
      simp at h
      rw [h]
      exact List.mem_cons_self
    · rw [show (z == k) = false by simpa using q] at h
      exact List.mem_cons_of_mem _ (lookup_memI h)
theorem look_keys {z : String} : ∀ (l : List (String × Int)), l.lookup z = none → (l.map fun p => (p.1, "")).lookup z = none
  | [], _ => rfl
  | (k, u) :: r, h => by
    rw [List.lookup_cons] at h
    rw [List.map_cons, List.lookup_cons]
    cases q : (z == k) with
    | true => rw [q] at h; cases h
    | false => rw [q] at h; exact look_keys r h
theorem ktabI_of {K : PySem.W.Frag} {w : World} {mg : Str → Option Value} {x : String} {l : List (String × Int)} (hmg : mg (S x) = some (.ref (He.ga K (S x)))) (hd : He.dicW K (He.ga K (S x)) = some (He.keysIn w.params (l.map fun p => S p.1))) (hv : He.valsB K (He.ga K (S x)) (tabVI l) = true) : KTab K w mg x (tabI l) := by
  refine ⟨hmg, He.dicW_ok hd, fun z => ?_⟩
  rw [lookup_tabI]
  cases q : l.lookup z with
  | none =>
    left
    refine ⟨?_, rfl⟩
    have hd2 : He.dicW K (He.ga K (S x)) = some (He.keysIn w.params ((l.map fun p => (p.1, "")).map fun p : String × String => S p.1)) := by rw [hd, List.map_map]; rfl
    unfold He.dicW at hd2
    unfold PySem.W.nsIn
    split at hd2
    · rename_i c es n sl hk
      split at hd2
      · obtain ⟨h1, h2⟩ := keys_none (Option.some.inj hd2) (look_keys l q)
        rw [hk]
        simp only [h1, h2, Bool.false_eq_true, if_false]
      · cases hd2
    · cases hd2
  | some v =>
    right
    obtain ⟨u, hu, ru⟩ := He.valsB_ok hv (List.mem_map.mpr ⟨(z, v), lookup_memI q, rfl⟩ : (S z, He.Dv.int v) ∈ tabVI l)
    exact ⟨u, .int v, .int v, hu, rfl, ru, fun _ _ => rfl⟩
/-! ### tuples of the module -/
mutual
theorem relKB_ok {K : PySem.W.Frag} : ∀ (d : D) (u : Value), relKB K d u = true → ∃ v, L2.RelV v u ∧ ∀ F H, RelD K F H d v
  | .non, u, h => by
    cases u <;> first | exact ⟨.non, rfl, fun _ _ => rfl⟩ | (simp [relKB] at h)
  | .bl a, u, h => by
    cases u with
    | bool b =>
      have : a = b := by simpa [relKB] using h
      exact ⟨.bl b, rfl, fun _ _ => by rw [this]; rfl⟩
    | _ => simp [relKB] at h
  | .int i, u, h => by
    cases u with
    | int j t =>
      have : i = j := by simpa [relKB] using h
      exact ⟨.int j, ⟨t, rfl⟩, fun _ _ => by rw [this]; rfl⟩
    | _ => simp [relKB] at h
  | .str s, u, h => by
    cases u with
    | str y t =>
      have : y = S s := by simpa [relKB] using h
      exact ⟨.str y, ⟨t, rfl⟩, fun _ _ => by rw [this]; rfl⟩
    | _ => simp [relKB] at h
  | .tup ds, u, h => by
    cases u with
    | ref a =>
      unfold relKB at h
      split at h
      · rename_i c od its n sl hk
        rw [Bool.and_eq_true, Bool.and_eq_true, decide_eq_true_eq, decide_eq_true_eq] at h
        obtain ⟨vs, rv, rd⟩ := relKBs_ok ds its.toList h.2.2
        exact ⟨.ref a, rfl, fun F H => ⟨a, vs, rfl, .inr ⟨_, its, n, hk, by rw [h.1], rfl, h.2.1, rv⟩, rd F H⟩⟩
      · cases h
    | _ => simp [relKB] at h
  | .lst _, u, h => by cases u <;> simp [relKB] at h
  | .dct _, u, h => by cases u <;> simp [relKB] at h
  | .ref _, u, h => by cases u <;> simp [relKB] at h
  | .scr _, u, h => by cases u <;> simp [relKB] at h
theorem relKBs_ok {K : PySem.W.Frag} : ∀ (ds : List D) (us : List Value), relKBs K ds us = true → ∃ vs, Vals vs us ∧ ∀ F H, RelDs K F H ds vs
  | [], us, h => by
    cases us with
    | nil => exact ⟨[], .nil, fun _ _ => rfl⟩
    | cons u us => simp [relKBs] at h
  | d :: ds, us, h => by
    cases us with
    | nil => simp [relKBs] at h
    | cons u us =>
      have h2 : relKB K d u = true ∧ relKBs K ds us = true := by simpa [relKBs] using h
      obtain ⟨v, r1, r2⟩ := relKB_ok d u h2.1
      obtain ⟨vs, r3, r4⟩ := relKBs_ok ds us h2.2
      exact ⟨v :: vs, .cons r1 r3, fun F H => ⟨v, vs, rfl, r2 F H, r4 F H⟩⟩
end
structure TupG (K : PySem.W.Frag) (mg : Str → Option Value) (x : String) (d : D) : Prop where
  ok : ∃ u v, mg (S x) = some u ∧ L2.RelV v u ∧ ∀ F H, RelD K F H d v
theorem tupG_of {K : PySem.W.Frag} {mg : Str → Option Value} {x : String} {d : D} (hmg : mg (S x) = some (.ref (He.ga K (S x)))) (h : tupGB K x d = true) : TupG K mg x d := by
  obtain ⟨v, r1, r2⟩ := relKB_ok d _ h
  exact ⟨_, v, hmg, r1, r2⟩
theorem q_gtup {X : Cx} {W : WX} {x : String} {d : D} {pos : Pos} (hg : Gl X (Str.ofString x)) (h : TupG X.K X.mg x d) (hd : (Str.ofString x == ("__debug__" : Str)) = false := by decide) : QE X T W (.Name (Str.ofString x) pos) (dC d) := by
  obtain ⟨u, v, hm, r, rd⟩ := h.ok
  exact q_con (pe_glob hg hm r hd) rd
end DL

namespace DL
open PySem PySem.Spec PyProof.Rows L2 LamX HotX L2H
variable {T : LT}
/-! ### keys of dicts -/
section
variable {K : PySem.W.Frag} {F : FS} {G : DG} {H : Hp}
theorem key_rel {k : D} {key : Key} (h : keyOf k = some key) : RelD K F H k (kV key) := by
  cases k with
  | int i => cases h; rfl
  | str s => cases h; rfl
  | _ => cases h
theorem RelKs.get : ∀ {kvs : List (D × D)} {ws : List (Key × V)} {i : Nat} {p : D × D}, RelKs K F H kvs ws → kvs[i]? = some p → ∃ key v, ws[i]? = some (key, v) ∧ keyOf p.1 = some key ∧ RelD K F H p.2 v
  | (k, x) :: r, _, 0, p, ⟨key, v, ws', e, ek, rv, t⟩, h => by
    cases h
    rw [e]
    exact ⟨key, v, rfl, ek, rv⟩
  | (k, x) :: r, _, i + 1, p, ⟨key, v, ws', e, ek, rv, t⟩, h => by
    rw [e]
    exact RelKs.get (i := i) t (by simpa using h)
theorem lk_same {od : Obj} {u o' : HO} (h : Lk (.frz od u) o') : o' = .frz od u := by
  rcases h with rfl | ⟨_, _, d⟩
  · rfl
  · cases d
/-- a frozen thing is locked -/
theorem RelG.lock {a : Addr} {u : HO} {od : Obj} (hg : RelG K T F G H) (hf : F a) (e : H a = some u) (hd : isDat u = true) : Step F G H F G (upd H a (.frz od u)) ∧ RelG K T F G (upd H a (.frz od u)) := by
  have s : Step F G H F G (upd H a (.frz od u)) := by
    refine ⟨fun b o f q => ?_, fun b o f g q p => ⟨f, g, ?_⟩⟩
    · by_cases hb : b = a
      · subst hb
        rw [e] at q
        cases q
        exact ⟨f, _, upd_same, .inr ⟨od, rfl, hd⟩⟩
      · exact ⟨f, o, by rw [upd_ne hb]; exact q, .inl rfl⟩
    · rw [upd_ne (fun (z : b = a) => f (z ▸ hf))]
      exact q
  refine ⟨s, hg.to s (fun b f => .inl f) (tabs_upd hg.tb fun o q => by rw [e] at q; cases q; exact dat_plain hd) fun b o q => upd_ne fun z => ?_⟩
  rw [z, (hg.fz a hf).1] at q
  cases q
end
/-- the value is locked for good -/
def tLk (t : TE) : TE := fun σ H Q => t σ H fun v H1 => ∃ a ws, v = .ref a ∧ ((H1 a = some (.dK ws) ∧ ∀ od, Q v (upd H1 a (.frz od (.dK ws)))) ∨ (∃ o, H1 a = some (.frz o (.dK ws)) ∧ Q v H1))
theorem pe_lk {X : Cx} {e : Expr} {t : TE} (h : PE X e t) : PE X e (tLk t) := by
  refine ⟨fun pins s σ H Q I hw => ?_⟩
  refine thn (h.run pins s σ H _ I hw) fun u s1 ⟨x, H1, I1, rx, a, ws, ex, q⟩ => ?_
  rcases q with ⟨e1, q⟩ | ⟨o, e1, q⟩
  · obtain ⟨od, I2⟩ := I1.lock e1 trivial
    exact ⟨x, _, I2, rx, q od⟩
  · exact ⟨x, H1, I1, rx, q⟩
/-- the keys of a dict, one by one -/
def dIterK (te : DTE) : DTI := fun E env G Q => te E env G fun d G1 => (∃ kvs, d = .dct kvs ∧ Q (kvs.map (·.1)) (fun _ => True) G1) ∨ ∃ a kvs o, d = .ref a ∧ G1 a = some (.lck kvs o) ∧ Q (kvs.map (·.1)) (fun G' => G' a = some (.lck kvs o)) G1
def dLockE (t : DTE) : DTE := fun E env G Q => t E env G Q ∨ ∃ a kvs, G a = some (.dct kvs) ∧ ∀ o, t EF env (gset G a (some (.lck kvs o))) fun v G' => G' a = some (.lck kvs o) ∧ Q v (gset G' a (some (.dct kvs)))
def sLock (t : DTS) : DTS := fun E DE env G => t E DE env G ∨ ∃ a kvs, G a = some (.dct kvs) ∧ ∀ o, t EF { nx := fun env' G' => G' a = some (.lck kvs o) ∧ DE.nx env' (gset G' a (some (.dct kvs))), rt := fun d G' => G' a = some (.lck kvs o) ∧ DE.rt d (gset G' a (some (.dct kvs))) } env (gset G a (some (.lck kvs o)))
section
variable {K : PySem.W.Frag} {F : FS} {G : DG} {H : Hp}
theorem RelG.lck {a : Addr} {kvs : List (D × D)} (hg : RelG K T F G H) (e : G a = some (.dct kvs)) : ∃ ws, H a = some (.dK ws) ∧ ∀ od, Step F G H F (gset G a (some (.lck kvs (.frz od (.dK ws))))) (upd H a (.frz od (.dK ws))) ∧ RelG K T F (gset G a (some (.lck kvs (.frz od (.dK ws))))) (upd H a (.frz od (.dK ws))) := by
  obtain ⟨ws, eh, r⟩ := hg.ob a _ e
  refine ⟨ws, eh, fun od => ?_⟩
  have hs : H a = none ∨ G a ≠ none := .inr (by rw [e]; simp)
  have s := Step.set (o := some (.lck kvs (.frz od (.dK ws)))) (u := .frz od (.dK ws)) hg hs
  exact ⟨s, hg.set hs ⟨od, ws, rfl, rfl, RelKs.step s kvs r⟩⟩
theorem RelG.unl {a : Addr} {kvs : List (D × D)} {o : HO} (hg : RelG K T F G H) (e : G a = some (.lck kvs o)) : H a = some o ∧ ∃ od ws, o = .frz od (.dK ws) ∧ Step F G H F (gset G a (some (.dct kvs))) (upd H a (.dK ws)) ∧ RelG K T F (gset G a (some (.dct kvs))) (upd H a (.dK ws)) := by
  obtain ⟨od, ws, e1, eh, r⟩ := hg.ob a _ e
  have hs : H a = none ∨ G a ≠ none := .inr (by rw [e]; simp)
  have s := Step.set (o := some (.dct kvs)) (u := .dK ws) hg hs
  exact ⟨eh, od, ws, e1, s, hg.set hs ⟨ws, rfl, RelKs.step s kvs r⟩⟩
end
section
variable {X : Cx} {W : WX} {e tg : Expr} {te t : DTE} {st : Stmt} {ts : DTS}
theorem xokF {K : PySem.W.Frag} {F : FS} {G : DG} {H : Hp} : XOk K T W EF F G H := fun _ _ _ _ _ _ _ _ z => z.elim
theorem qi_keys (he : QE X T W e te) : QI X T W tg e (dIterK te) := by
  refine PI.imp (pi_keys (pe_lk he)) fun σ H R ⟨env, F, G, E, P, hg, hs, hx, ht, hq⟩ => ⟨env, F, G, E, _, hg, hs, hx, ht, fun d F1 G1 v1 H1 pk s1 g1 r1 => ?_⟩
  have ok : ∀ (a : Addr) (od : Obj) (ws : List (Key × V)) (kvs : List (D × D)) (guard : DG → Prop) (F2 : FS) (G2 : DG) (H2 : Hp), RelKs X.K F2 H2 kvs ws → (∀ F3 G3 H3, Step F2 G2 H2 F3 G3 H3 → RelG X.K T F3 G3 H3 → guard G3 → H3 a = some (.frz od (.dK ws))) → IterOk X.K T F2 G2 H2 (Itk a od ws) (kvs.map (·.1)) guard := fun a od ws kvs guard F2 G2 H2 rk hl i F3 G3 H3 st g3 gd => by
    have eh := hl F3 G3 H3 st g3 gd
    have hlen := rk.length
    constructor
    · intro d' e'
      rw [List.getElem?_map] at e'
      obtain ⟨p, ep, rfl⟩ := Option.map_eq_some_iff.mp e'
      obtain ⟨key, v, ew, ek, _⟩ := RelKs.get rk ep
      refine ⟨⟨eh, (List.getElem?_eq_some_iff.mp ew).1⟩, fun x H4 ⟨eH, k, v', ek2, ex⟩ => ⟨F3, ?_⟩⟩
      rw [eH]
      rw [ew] at ek2
      cases ek2
      rw [ex]
      exact ⟨Step.refl, g3, key_rel ek⟩
    · intro hi
      rw [List.length_map] at hi
      exact ⟨eh, by omega⟩
  rcases pk with ⟨kvs, rfl, p⟩ | ⟨a, kvs, o, rfl, ea, p⟩
  · obtain ⟨a, ws, rfl, ⟨⟨o, eo, es⟩, hf⟩, rk⟩ := r1
    have fin : ∀ (od : Obj) (H2 : Hp), Step F1 G1 H1 F1 G1 H2 → RelG X.K T F1 G1 H2 → H2 a = some (.frz od (.dK ws)) → R (Itk a od ws) H2 := fun od H2 s2 g2 e2 =>
      hq _ _ F1 G1 H2 _ p (s1.trans s2) g2 (ok a od ws kvs _ F1 G1 H2 (RelKs.step s2 kvs rk) fun F3 G3 H3 s3 _ _ => by
        obtain ⟨_, o', h', l⟩ := s3.fz a _ hf e2
        rw [h', lk_same l])
    by_cases hl : ∃ od u, o = .frz od u
    · obtain ⟨od, u, rfl⟩ := hl
      have : u = .dK ws := es
      subst this
      exact ⟨a, ws, rfl, .inr ⟨od, eo, a, od, rfl, .inl ⟨ws, eo, fin od H1 Step.refl g1 eo⟩⟩⟩
    · have eo2 : o = .dK ws := by
        cases o with
        | frz od u => exact absurd ⟨od, u, rfl⟩ hl
        | _ => exact es
      subst eo2
      refine ⟨a, ws, rfl, .inl ⟨eo, fun od => ⟨a, od, rfl, .inl ⟨ws, upd_same, ?_⟩⟩⟩⟩
      obtain ⟨s2, g2⟩ := g1.lock (od := od) hf eo rfl
      exact fin od _ s2 g2 upd_same
  · obtain ⟨od, ws, eo, eh, rk⟩ := g1.ob a _ ea
    have r1 : v1 = .ref a := r1
    subst eo
    refine ⟨a, ws, r1, .inr ⟨od, eh, a, od, r1, .inl ⟨ws, eh, hq _ _ F1 G1 H1 _ p s1 g1 (ok a od ws kvs _ F1 G1 H1 rk fun F3 G3 H3 s3 g3 gd => ?_)⟩⟩⟩
    obtain ⟨_, _, _, e3, _⟩ := g3.ob a _ gd
    exact e3
theorem q_lock (h : QE X T W e t) : QE X T W e (dLockE t) := by
  refine ⟨fun pins s σ H Q I hw => ?_⟩
  obtain ⟨env, F, G, E, P, hg, hs, hx, ht, hq⟩ := hw
  rcases ht with ht | ⟨a, kvs, ea, ht⟩
  · exact h.run pins s σ H Q I ⟨env, F, G, E, P, hg, hs, hx, ht, hq⟩
  · obtain ⟨ws, eh, lk⟩ := hg.lck ea
    refine (pe_lock h).run pins s σ H Q I ⟨a, .dK ws, eh, trivial, fun od => ?_⟩
    obtain ⟨s1, g1⟩ := lk od
    refine ⟨env, F, _, EF, _, g1, hs.step s1, xokF, ht (.frz od (.dK ws)), fun d F' G' v H' pk s2 g2 r2 => ?_⟩
    obtain ⟨el, pk⟩ := pk
    obtain ⟨e3, od', ws', eo, s3, g3⟩ := g2.unl el
    cases eo
    exact ⟨e3, hq d F' _ v _ pk ((s1.trans s2).trans s3) g3 (RelD.step s3 d r2)⟩
theorem qs_lock (h : QS X T W st ts) : QS X T W st (sLock ts) := by
  refine ⟨fun pins s σ H D I hw => ?_⟩
  obtain ⟨env, F, G, E, DE, hg, hs, hx, ht, hn, hr⟩ := hw
  rcases ht with ht | ⟨a, kvs, ea, ht⟩
  · exact h.run pins s σ H D I ⟨env, F, G, E, DE, hg, hs, hx, ht, hn, hr⟩
  · obtain ⟨ws, eh, lk⟩ := hg.lck ea
    refine (ps_lock h).run pins s σ H D I ⟨a, .dK ws, eh, trivial, fun od => ?_⟩
    obtain ⟨s1, g1⟩ := lk od
    refine ⟨env, F, _, EF, _, g1, hs.step s1, xokF, ht (.frz od (.dK ws)), fun env' F' G' σ' H' pk s2 g2 r2 => ?_, fun d F' G' v H' pk s2 g2 r2 => ?_⟩
    · obtain ⟨el, pk⟩ := pk
      obtain ⟨e3, od', ws', eo, s3, g3⟩ := g2.unl el
      cases eo
      exact ⟨e3, hn env' F' _ σ' _ pk ((s1.trans s2).trans s3) g3 (r2.step s3)⟩
    · obtain ⟨el, pk⟩ := pk
      obtain ⟨e3, od', ws', eo, s3, g3⟩ := g2.unl el
      cases eo
      exact ⟨e3, hr d F' _ v _ pk ((s1.trans s2).trans s3) g3 (RelD.step s3 d r2)⟩
end
end DL

namespace DL
open PySem PySem.Spec PyProof.Rows L2 LamX HotX L2H
variable {T : LT}
/-! ### new lists and dicts that are written later -/
def dBB (f : DG → List D → Option DO) (t : DTA) : DTE := fun E env G Q => t E env G fun xs G1 => ∃ o, f G1 xs = some o ∧ ∀ p, G1 p = none → Q (.ref p) (gset G1 p (some o))
def dOpB (f : DG → D → D → Option DO) (ta tb : DTE) : DTE := fun E env G Q => ta E env G fun x G1 => tb E env G1 fun y G2 => ∃ o, f G2 x y = some o ∧ ∀ p, G2 p = none → Q (.ref p) (gset G2 p (some o))
def rBB (K : PySem.W.Frag) (T : LT) (f : DG → List D → Option DO) : List V → Hp → VK → Prop := fun xs H Q => ∃ F G ds o, RelG K T F G H ∧ RelDs K F H ds xs ∧ f G ds = some o ∧ ∀ p H', G p = none → Step F G H F (gset G p (some o)) H' → RelG K T F (gset G p (some o)) H' → Q (.ref p) H'
def rOB (K : PySem.W.Frag) (T : LT) (f : DG → D → D → Option DO) : R2 := fun x y H Q => ∃ F G dx dy o, RelG K T F G H ∧ RelD K F H dx x ∧ RelD K F H dy y ∧ f G dx dy = some o ∧ ∀ p H', G p = none → Step F G H F (gset G p (some o)) H' → RelG K T F (gset G p (some o)) H' → Q (.ref p) H'
def lstB (G : DG) : List D → Option DO
  | [x] => (asQ G x).map .lst
  | _ => none
def dctB (G : DG) : List D → Option DO
  | [x] => (asD G x).map .dct
  | _ => none
def addB (G : DG) (x y : D) : Option DO := match asL G x, asL G y with
  | some xs, some ys => if xs.length + ys.length ≤ 16000000 then some (.lst (xs ++ ys)) else none
  | _, _ => none
def mulB (G : DG) (x y : D) : Option DO := match y with
  | .int k => match asL G x with
    | some xs => if k ≤ 10000 ∧ xs.length ≤ 1000 ∧ -10000 ≤ k then some (.lst (List.replicate k.toNat xs).flatten) else none
    | _ => none
  | _ => none
section
variable {K : PySem.W.Frag} {F : FS} {G : DG} {H : Hp}
theorem RelG.newL {p : Addr} {ds : List D} {vs : List V} (hg : RelG K T F G H) (hp : H p = none) (r : RelDs K F H ds vs) : Step F G H F (gset G p (some (.lst ds))) (upd H p (.lst vs)) ∧ RelG K T F (gset G p (some (.lst ds))) (upd H p (.lst vs)) := by
  have s := Step.set (o := some (.lst ds)) (u := .lst vs) hg (.inl hp)
  exact ⟨s, hg.set (.inl hp) ⟨vs, rfl, RelDs.step s ds r⟩⟩
theorem RelG.newD {p : Addr} {ds : List (D × D)} {vs : List (Key × V)} (hg : RelG K T F G H) (hp : H p = none) (r : RelKs K F H ds vs) : Step F G H F (gset G p (some (.dct ds))) (upd H p (.dK vs)) ∧ RelG K T F (gset G p (some (.dct ds))) (upd H p (.dK vs)) := by
  have s := Step.set (o := some (.dct ds)) (u := .dK vs) hg (.inl hp)
  exact ⟨s, hg.set (.inl hp) ⟨vs, rfl, RelKs.step s ds r⟩⟩
end
section
variable {X : Cx} {W : WX} {a b e o fx : Expr} {es : List Expr} {ta tb to tk tx : DTE} {tr : DTA} {pos apos cpos : Pos}
theorem call_lstB : CallR X (.type "list") (rBB X.K T lstB) := by
  rintro pins s σ H xs us Q I rs ⟨F, G, ds, z, hg, r, e, q⟩
  unfold lstB at e
  split at e
  · obtain ⟨v, rfl, rv⟩ := r.one
    obtain ⟨ys, ey, rfl⟩ := Option.map_eq_some_iff.mp e
    obtain ⟨a, vs, rfl, h, k⟩ := asQ_ok hg rv ey
    exact call_list_of pins s σ H _ us Q I rs ⟨a, vs, rfl, h, fun p hp => q p _ (hg.free hp) (hg.newL hp k).1 (hg.newL hp k).2⟩
  · cases e
theorem call_dctB : CallR X (.type "dict") (rBB X.K T dctB) := by
  rintro pins s σ H xs us Q I rs ⟨F, G, ds, z, hg, r, e, q⟩
  unfold dctB at e
  split at e
  · obtain ⟨v, rfl, rv⟩ := r.one
    obtain ⟨ys, ey, rfl⟩ := Option.map_eq_some_iff.mp e
    obtain ⟨a, vs, rfl, h, k⟩ := asD_ok hg rv ey
    exact call_dictD pins s σ H _ us Q I rs ⟨a, vs, rfl, h, fun p hp => q p _ (hg.free hp) (hg.newD hp k).1 (hg.newD hp k).2⟩
  · cases e
theorem op_addB : OpR X (binaryOp .Add) (rOB X.K T addB) := by
  intro pins s σ H x y v u Q I rx ry ⟨F, G, dx, dy, z, hg, r1, r2, e, q⟩
  unfold addB at e
  split at e
  · rename_i xs ys ex ey
    split at e
    · rename_i hl
      cases e
      obtain ⟨a, vs, e1, t1, k1⟩ := asL_ok hg r1 ex
      obtain ⟨b, ws, e2, t2, k2⟩ := asL_ok hg r2 ey
      have hl' : vs.length + ws.length ≤ sizeLine := by rw [← k1.length, ← k2.length]; exact small_line hl
      exact op_catR pins s σ H x y v u Q I rx ry ⟨a, b, vs, ws, e1, e2, t1, t2, hl', fun p hp => q p _ (hg.free hp) (hg.newL hp (k1.append k2)).1 (hg.newL hp (k1.append k2)).2⟩
    · cases e
  · cases e
theorem op_mulB : OpR X (binaryOp .Mult) (rOB X.K T mulB) := by
  intro pins s σ H x y v u Q I rx ry ⟨F, G, dx, dy, z, hg, r1, r2, e, q⟩
  unfold mulB at e
  split at e
  · rename_i k
    split at e
    · rename_i xs ex
      split at e
      · rename_i hl
        cases e
        obtain ⟨a, vs, e1, t1, k1⟩ := asL_ok hg r1 ex
        have r2 : y = .int k := r2
        have hz : vs.length * k.toNat ≤ sizeLine := by
          rw [← k1.length]
          refine Nat.le_trans (Nat.mul_le_mul hl.2.1 (show k.toNat ≤ 10000 by omega)) (small_line (by decide))
        exact op_repR pins s σ H x y v u Q I rx ry ⟨a, k, vs, e1, r2, t1, by omega, by omega, hz, fun p hp => q p _ (hg.free hp) (hg.newL hp (relDs_flat k1 _)).1 (hg.newL hp (relDs_flat k1 _)).2⟩
      · cases e
    · cases e
  · cases e
theorem q_opB {op : Operator} {f : DG → D → D → Option DO} (ho : OpR X (binaryOp op) (rOB X.K T f)) (ha : QE X T W a ta) (hb : QE X T W b tb) : QE X T W (.BinOp a op b pos) (dOpB f ta tb) :=
  PE.imp (pe_op ho ha hb) fun σ H Q ⟨env, F, G, E, P, hg, hs, hx, ht, hq⟩ =>
    ⟨env, F, G, E, _, hg, hs, hx, ht, fun x F1 G1 v1 H1 h1 s1 g1 r1 => ⟨env, F1, G1, E, _, g1, hs.step s1, hx.step s1, h1, fun y F2 G2 v2 H2 ⟨z, e, p⟩ s2 g2 r2 =>
      ⟨F2, G2, x, y, z, g2, RelD.step s2 x r1, r2, e, fun q H' hq' s3 g3 => hq _ _ _ _ H' (p q hq') (s1.trans (s2.trans s3)) g3 rfl⟩⟩⟩
theorem q_callTyB {x : Str} {ty : String} {f : DG → List D → Option DO} {p : Pos} (hc : CallR X (.type ty) (rBB X.K T f)) (hg : Gl X x) (hm : X.mg x = none) (hv : bootBuiltins x = some (.type ty)) (ha : QA X T W (e :: es) tr) (hn : x ≠ "__name__" := by decide) (hdb : (x == ("__debug__" : Str)) = false := by decide)
    (he : starEach (e :: es) X.env = (false, eval e X.env) :: starEach es X.env := by rfl) (hpl : (backTo pos (starEach es X.env)).any (·.1) = false := by rfl) : QE X T W (.Call (.Name x p) (e :: es) [] pos) (dBB f tr) :=
  PE.imp (pe_callTy hc hg hm hv ha hn hdb he hpl) fun σ H Q ⟨env, F, G, E, P, hg, hs, hx, ht, hq⟩ => ⟨env, F, G, E, _, hg, hs, hx, ht, fun xs F1 G1 vs H1 ⟨z, e, p⟩ s1 g1 r1 =>
    ⟨F1, G1, xs, z, g1, r1, e, fun q H' hq' s2 g2 => hq _ _ _ _ H' (p q hq') (s1.trans s2) g2 rfl⟩⟩
end
/-! ### methods of dicts -/
def dDGet2 (to tk tx : DTE) : DTE := fun E env G Q => to E env G fun d G1 => (asD G1 d).isSome = true ∧ tk E env G1 fun k G2 => tx E env G2 fun x G3 => ∃ kvs, asD G3 d = some kvs ∧ (keyOf k).isSome = true ∧ Q ((dget kvs k).getD x) G3
def dDGet1 (to tk : DTE) : DTE := fun E env G Q => to E env G fun d G1 => (asD G1 d).isSome = true ∧ tk E env G1 fun k G2 => ∃ kvs, asD G2 d = some kvs ∧ (keyOf k).isSome = true ∧ Q ((dget kvs k).getD .non) G2
def dDPop (to tk : DTE) : DTE := fun E env G Q => to E env G fun d G1 => (asD G1 d).isSome = true ∧ tk E env G1 fun k G2 => ∃ a kvs v, d = .ref a ∧ G2 a = some (.dct kvs) ∧ (keyOf k).isSome = true ∧ dget kvs k = some v ∧ Q v (gset G2 a (some (.dct (ddrop kvs k))))
def dDSetd (to tk tx : DTE) : DTE := fun E env G Q => to E env G fun d G1 => (asD G1 d).isSome = true ∧ tk E env G1 fun k G2 => tx E env G2 fun x G3 => ∃ a kvs, d = .ref a ∧ G3 a = some (.dct kvs) ∧ (keyOf k).isSome = true ∧ kvs.length < 1000000 ∧
  (∀ v, dget kvs k = some v → Q v G3) ∧ (dget kvs k = none → Q x (gset G3 a (some (.dct (dput kvs k x)))))
section
variable {X : Cx} {W : WX} {e o fx : Expr} {to tk tx : DTE} {apos cpos : Pos}
theorem isSome_ex {α : Type} {o : Option α} (h : o.isSome = true) : ∃ x, o = some x := by cases o with
  | none => cases h
  | some x => exact ⟨x, rfl⟩
theorem isD_of {K : PySem.W.Frag} {F : FS} {G : DG} {H : Hp} {d : D} {v : V} (hg : RelG K T F G H) (r : RelD K F H d v) (h : (asD G d).isSome = true) : ∃ a, v = .ref a ∧ IsD H a := by
  obtain ⟨kvs, e⟩ := isSome_ex h
  obtain ⟨a, ws, ev, hr, _⟩ := asD_ok hg r e
  exact ⟨a, ev, .inl ⟨ws, hr⟩⟩
theorem q_dget2 (hu : X.A.units + 1 < cLine) (ho : QE X T W o to) (he : QE X T W e tk) (hf : QE X T W fx tx) (m : M2 X o "get" apos e fx cpos := by exact ⟨rfl, rfl, rfl, rfl⟩) : QE X T W (.Call (.Attribute o "get" apos) [e, fx] [] cpos) (dDGet2 to tk tx) := by
  refine PE.imp (pe_dget2 hu ho he hf m) fun σ H Q ⟨env, F, G, E, P, hg, hs, hx, ht, hq⟩ => ⟨env, F, G, E, _, hg, hs, hx, ht, fun d F1 G1 v H1 pk s1 g1 r1 => ?_⟩
  obtain ⟨hd, pk⟩ := pk
  obtain ⟨a, rfl, isd⟩ := isD_of g1 r1 hd
  refine ⟨a, rfl, isd, env, F1, G1, E, _, g1, hs.step s1, hx.step s1, pk, fun k F2 G2 u H2 pk2 s2 g2 r2 => ⟨env, F2, G2, E, _, g2, hs.step (s1.trans s2), hx.step (s1.trans s2), pk2, fun x F3 G3 w H3 pk3 s3 g3 r3 => ?_⟩⟩
  obtain ⟨kvs, ed, hk, p⟩ := pk3
  obtain ⟨key, ek⟩ := isSome_ex hk
  obtain ⟨a', ws, ea, hr, rk⟩ := asD_ok g3 (RelD.step (s2.trans s3) d r1) ed
  cases ea
  have uk := keyOf_rel ek (RelD.step s3 k r2)
  have vl := relKs_val ek rk
  refine ⟨_, .inl ⟨ws, key, hr, uk, rfl⟩, hq _ F3 G3 _ H3 p ((s1.trans s2).trans s3) g3 ?_⟩
  cases hg' : dget kvs k with
  | none => rw [vl.2 hg']; exact r3
  | some y =>
    obtain ⟨v', ev, rv⟩ := vl.1 y hg'
    rw [ev]
    exact rv
theorem q_dget1 (hu : X.A.units + 1 < cLine) (ho : QE X T W o to) (he : QE X T W e tk) (m : M1 X o "get" apos e cpos := by exact ⟨rfl, rfl, rfl, rfl⟩) : QE X T W (.Call (.Attribute o "get" apos) [e] [] cpos) (dDGet1 to tk) := by
  refine PE.imp (pe_dget1 hu ho he m) fun σ H Q ⟨env, F, G, E, P, hg, hs, hx, ht, hq⟩ => ⟨env, F, G, E, _, hg, hs, hx, ht, fun d F1 G1 v H1 pk s1 g1 r1 => ?_⟩
  obtain ⟨hd, pk⟩ := pk
  obtain ⟨a, rfl, isd⟩ := isD_of g1 r1 hd
  refine ⟨a, rfl, isd, env, F1, G1, E, _, g1, hs.step s1, hx.step s1, pk, fun k F2 G2 u H2 pk2 s2 g2 r2 => ?_⟩
  obtain ⟨kvs, ed, hk, p⟩ := pk2
  obtain ⟨key, ek⟩ := isSome_ex hk
  obtain ⟨a', ws, ea, hr, rk⟩ := asD_ok g2 (RelD.step s2 d r1) ed
  cases ea
  have vl := relKs_val ek rk
  refine ⟨_, .inl ⟨ws, key, hr, keyOf_rel ek r2, rfl⟩, hq _ F2 G2 _ H2 p (s1.trans s2) g2 ?_⟩
  cases hg' : dget kvs k with
  | none => rw [vl.2 hg']; rfl
  | some y =>
    obtain ⟨v', ev, rv⟩ := vl.1 y hg'
    rw [ev]
    exact rv
theorem q_dpop (ho : QE X T W o to) (he : QE X T W e tk) (m : M1 X o "pop" apos e cpos := by exact ⟨rfl, rfl, rfl, rfl⟩) : QE X T W (.Call (.Attribute o "pop" apos) [e] [] cpos) (dDPop to tk) := by
  refine PE.imp (pe_dpop1 ho he m) fun σ H Q ⟨env, F, G, E, P, hg, hs, hx, ht, hq⟩ => ⟨env, F, G, E, _, hg, hs, hx, ht, fun d F1 G1 v H1 pk s1 g1 r1 => ?_⟩
  obtain ⟨hd, pk⟩ := pk
  obtain ⟨a, rfl, isd⟩ := isD_of g1 r1 hd
  refine ⟨a, rfl, isd, env, F1, G1, E, _, g1, hs.step s1, hx.step s1, pk, fun k F2 G2 u H2 pk2 s2 g2 r2 => ?_⟩
  obtain ⟨a', kvs, y, rfl, ea, hk, ev, p⟩ := pk2
  have ra : V.ref a = V.ref a' := r1
  cases ra
  obtain ⟨key, ek⟩ := isSome_ex hk
  obtain ⟨ws, eh, rk⟩ := g2.ob a _ ea
  obtain ⟨w', ew, rw'⟩ := (relKs_val ek rk).1 y ev
  have hs' : H2 a = none ∨ G2 a ≠ none := .inr (by rw [ea]; simp)
  have s3 := Step.set (o := some (.dct (ddrop kvs k))) (u := .dK (dropK ws key)) g2 hs'
  exact ⟨ws, key, w', eh, keyOf_rel ek r2, ew, hq _ F2 _ _ _ p ((s1.trans s2).trans s3) (g2.set hs' ⟨_, rfl, RelKs.step s3 _ (RelKs.drop ek rk)⟩) (RelD.step s3 y rw')⟩
theorem q_dsetd (ho : QE X T W o to) (he : QE X T W e tk) (hf : QE X T W fx tx) (m : M2 X o "setdefault" apos e fx cpos := by exact ⟨rfl, rfl, rfl, rfl⟩) : QE X T W (.Call (.Attribute o "setdefault" apos) [e, fx] [] cpos) (dDSetd to tk tx) := by
  refine PE.imp (pe_dsetd ho he hf m) fun σ H Q ⟨env, F, G, E, P, hg, hs, hx, ht, hq⟩ => ⟨env, F, G, E, _, hg, hs, hx, ht, fun d F1 G1 v H1 pk s1 g1 r1 => ?_⟩
  obtain ⟨hd, pk⟩ := pk
  obtain ⟨a, rfl, isd⟩ := isD_of g1 r1 hd
  refine ⟨a, rfl, isd, env, F1, G1, E, _, g1, hs.step s1, hx.step s1, pk, fun k F2 G2 u H2 pk2 s2 g2 r2 => ⟨env, F2, G2, E, _, g2, hs.step (s1.trans s2), hx.step (s1.trans s2), pk2, fun x F3 G3 w H3 pk3 s3 g3 r3 => ?_⟩⟩
  obtain ⟨a', kvs, rfl, ea, hk, hl, p1, p2⟩ := pk3
  have ra : V.ref a = V.ref a' := r1
  cases ra
  obtain ⟨key, ek⟩ := isSome_ex hk
  obtain ⟨ws, eh, rk⟩ := g3.ob a _ ea
  have vl := relKs_val ek rk
  have hs' : H3 a = none ∨ G3 a ≠ none := .inr (by rw [ea]; simp)
  refine ⟨ws, key, eh, keyOf_rel ek (RelD.step s3 k r2), by rw [← rk.length]; exact Nat.lt_of_lt_of_le hl (small_line (by decide)), fun v' ev => ?_, fun ev => ?_⟩
  · cases hg' : dget kvs k with
    | none => rw [vl.2 hg'] at ev; cases ev
    | some y =>
      obtain ⟨v2, ev2, rv⟩ := vl.1 y hg'
      rw [ev2] at ev
      cases ev
      exact hq _ F3 G3 _ H3 (p1 y hg') ((s1.trans s2).trans s3) g3 rv
  · cases hg' : dget kvs k with
    | none =>
      have s4 := Step.set (o := some (.dct (dput kvs k x))) (u := .dK (putK ws key w)) g3 hs'
      exact hq _ F3 _ _ _ (p2 hg') (((s1.trans s2).trans s3).trans s4) (g3.set hs' ⟨_, rfl, RelKs.step s4 _ (RelKs.put ek r3 rk)⟩) (RelD.step s4 x r3)
    | some y =>
      obtain ⟨v2, ev2, rv⟩ := vl.1 y hg'
      rw [ev2] at ev
      cases ev
end
end DL

namespace DL
open PySem PySem.Spec PyProof.Rows L2 LamX HotX L2H
variable {T : LT}
/-! ### dicts by comprehension -/
def dDcL (tg : Tg) (tt : DTT) (tk tv : DTE) (guard : DG → Prop) (env : DSt) : List D → List (D × D) → DG → (List (D × D) → DG → Prop) → Prop
  | [], acc, G, Q => guard G ∧ Q acc G
  | d :: ds, acc, G, Q => guard G ∧ dTg tg d env fun env1 => tt EF env1 G fun b G1 => if b = true then tk EF env1 G1 fun k G2 => tv EF env1 G2 fun v G3 => (keyOf k).isSome = true ∧ dDcL tg tt tk tv guard env ds (dput acc k v) G3 Q else dDcL tg tt tk tv guard env ds acc G1 Q
def dDc (wi : DTI) (tg : Tg) (tt : DTT) (tk tv : DTE) (vs : List Nat) : DTE := fun E env G Q => wi E env G fun items guard G1 => items.length ≤ 1000000 ∧ dDcL tg tt tk tv guard (wipeD env vs) items [] G1 fun ys G2 => Q (.dct ys) G2
def dDcB (wi : DTI) (tg : Tg) (tt : DTT) (tk tv : DTE) (vs : List Nat) : DTE := fun E env G Q => wi E env G fun items guard G1 => items.length ≤ 1000000 ∧ dDcL tg tt tk tv guard (wipeD env vs) items [] G1 fun ys G2 => ∀ p, G2 p = none → Q (.ref p) (gset G2 p (some (.dct ys)))
theorem dput_len (kvs : List (D × D)) (k v : D) : (dput kvs k v).length ≤ kvs.length + 1 := by
  unfold dput
  split <;> simp
theorem dc_word {K : PySem.W.Frag} {J : It} {items : List D} {guard : DG → Prop} {tg : Tg} {tt : DTT} {tk tv : DTE} {vs : List Nat} {env : DSt} {σ : L2.St} {F1 : FS} {G1 : DG} {H1 : Hp} {D1 : Addr} {P : List (D × D) → DG → Prop} {Q : VK} (hv : tgIn tg vs = true) (hlen : items.length ≤ 1000000)
    (g1 : RelG K T F1 G1 H1) (r1 : RelSt K F1 H1 env σ) (ok : IterOk K T F1 G1 H1 J items guard) (hD : H1 D1 = none) (l : dDcL tg tt tk tv guard (wipeD env vs) items [] G1 P)
    (fin : ∀ ys F2 G2 H2 ws, P ys G2 → Step F1 G1 H1 F2 G2 H2 → RelG K T F2 G2 H2 → H2 D1 = some (.dK ws) → ¬ F2 D1 → G2 D1 = none → RelKs K F2 H2 ys ws → Q (.ref D1) H2) :
    ∃ Wd : Nat → Nat → Hp → Prop, (∃ m, Wd 0 m (upd H1 D1 (.dK []))) ∧ ∀ i m H, Wd i m H →
      (J.stop i H ∧ Q (.ref D1) H) ∨ (J.go i H ∧ ∃ Nx : Hp → Prop, (∀ H', Nx H' → ∃ m', m' < m ∧ Wd (i + 1) m' H') ∧ ∀ x H', J.yld i H x H' → vTg K tg x (wipe σ vs) H' fun σ2 H2 => wipe σ2 vs = wipe σ vs ∧ liftT K T WF tt σ2 H2 fun b H3 =>
        if b = true then liftE K T WF tk σ2 H3 fun y H4 => liftE K T WF tv σ2 H4 fun z H5 => ∃ kvs k, y = kV k ∧ H5 D1 = some (.dK kvs) ∧ kvs.length < sizeLine ∧ Nx (upd H5 D1 (.dK (putK kvs k z))) else Nx H3) := by
  refine ⟨fun i m H => m = items.length - i ∧ i ≤ items.length ∧ ∃ F G ys ws, Step F1 G1 H1 F G H ∧ RelG K T F G H ∧ H D1 = some (.dK ws) ∧ ¬ F D1 ∧ G D1 = none ∧ RelKs K F H ys ws ∧ ys.length ≤ i ∧ dDcL tg tt tk tv guard (wipeD env vs) (items.drop i) ys G P,
    ⟨_, rfl, Nat.zero_le _, F1, G1, [], [], Step.priv hD, g1.priv hD, upd_same, g1.nof hD, g1.free hD, rfl, Nat.le_refl _, by rw [List.drop_zero]; exact l⟩, ?_⟩
  rintro i m H ⟨rfl, hi, F, G, ys, ws, s2, g2, eD, fD, gD, rel, hyl, l⟩
  by_cases hlt : i < items.length
  · right
    rw [List.drop_eq_getElem_cons hlt] at l
    obtain ⟨gd, l⟩ := l
    obtain ⟨hgo, hy⟩ := (ok i F G H s2 g2 gd).1 items[i] (List.getElem?_eq_getElem hlt)
    refine ⟨hgo, fun H' => ∃ F G ys ws, Step F1 G1 H1 F G H' ∧ RelG K T F G H' ∧ H' D1 = some (.dK ws) ∧ ¬ F D1 ∧ G D1 = none ∧ RelKs K F H' ys ws ∧ ys.length ≤ i + 1 ∧ dDcL tg tt tk tv guard (wipeD env vs) (items.drop (i + 1)) ys G P,
      fun H' w => ⟨items.length - (i + 1), by omega, rfl, hlt, w⟩, fun x H3 y => ?_⟩
    obtain ⟨F3, s3, g3, r3⟩ := hy x H3 y
    have s13 := s2.trans s3
    refine tg_run (relSt_wipe (r1.step s13) vs) r3 l fun env4 σ4 p4 r4 e4 => ⟨?_, ?_⟩
    · obtain ⟨us, e4⟩ := e4
      rw [e4]
      cases tg with
      | n j => exact (wipe_set (by simpa [tgIn] using hv)).trans (wipe_wipe vs)
      | t js => exact (wipe_setAll js us _ (by simpa [tgIn] using hv)).trans (wipe_wipe vs)
    · refine ⟨env4, F3, G, EF, _, g3, r4, (fun _ _ _ _ _ _ _ _ z => z.elim), p4, fun b F5 G5 H5 p5 s5 g5 => ?_⟩
      obtain ⟨fd3, gd3, e3⟩ := s3.pv D1 _ fD gD eD rfl
      obtain ⟨fd5, gd5, e5⟩ := s5.pv D1 _ fd3 gd3 e3 rfl
      cases b with
      | false =>
        rw [if_neg Bool.false_ne_true] at p5 ⊢
        exact ⟨F5, G5, ys, ws, s13.trans s5, g5, e5, fd5, gd5, RelKs.step (s3.trans s5) ys rel, by omega, p5⟩
      | true =>
        rw [if_pos rfl] at p5 ⊢
        refine ⟨env4, F5, G5, EF, _, g5, r4.step s5, (fun _ _ _ _ _ _ _ _ z => z.elim), p5, fun k F6 G6 v6 H6 p6 s6 g6 r6 => ?_⟩
        refine ⟨env4, F6, G6, EF, _, g6, r4.step (s5.trans s6), (fun _ _ _ _ _ _ _ _ z => z.elim), p6, fun y F7 G7 v7 H7 p7 s7 g7 r7 => ?_⟩
        obtain ⟨hk, p7⟩ := p7
        obtain ⟨key, ek⟩ := isSome_ex hk
        obtain ⟨fd7, gd7, e7⟩ := (s6.trans s7).pv D1 _ fd5 gd5 e5 rfl
        have rel7 := RelKs.step (s3.trans (s5.trans (s6.trans s7))) ys rel
        have dl := dput_len ys k y
        refine ⟨ws, key, keyOf_rel ek (RelD.step s7 k r6), e7, by rw [← rel7.length]; exact Nat.lt_of_lt_of_le (Nat.lt_of_le_of_lt hyl (Nat.lt_of_lt_of_le hlt hlen)) (small_line (by decide)), ?_⟩
        exact ⟨F7, G7, dput ys k y, putK ws key v7, (((s13.trans s5).trans s6).trans s7).wr hD, g7.wr fd7 gd7 e7 rfl, upd_same, fd7, gd7, RelKs.kept (kept_wr fd7) _ (RelKs.put ek r7 rel7), by omega, p7⟩
  · left
    have e : i = items.length := by omega
    subst e
    rw [List.drop_length] at l
    obtain ⟨gd, l⟩ := l
    exact ⟨(ok _ F G H s2 g2 gd).2 rfl, fin ys F G H ws l s2 g2 eD fD gD rel⟩
section
variable {X : Cx} {W : WX} {kx vx tg iter : Expr} {ifs : List Expr} {scope : Scope} {own : List (Str × Nat)} {pos : Pos} {wi : DTI} {g : Tg} {tt : DTT} {tk tv : DTE}
theorem q_dc (own : List (Str × Nat)) (hc : X.calm = true) (hN : X.N.Nodup) (hi : QI X T W tg iter wi) (ok : BlkOk X.N X.env.scope scope own) (hv : tgIn g (own.map (·.2)) = true)
    (hg : ∀ (s : Shared) (H : Hp) (C : Addr) (cl : List (Str × Addr)) (fp : List Addr), PG (X.blk s H scope (compEnvC scope cl C X.env) fp) tg (vTg X.K g)) (ht : ∀ (s : Shared) (H : Hp) (C : Addr) (cl : List (Str × Addr)) (fp : List Addr), QTs (X.blk s H scope (compEnvC scope cl C X.env) fp) T WF ifs tt)
    (hk : ∀ (s : Shared) (H : Hp) (C : Addr) (cl : List (Str × Addr)) (fp : List Addr), QE (X.blk s H scope (compEnvC scope cl C X.env) fp) T WF kx tk) (he : ∀ (s : Shared) (H : Hp) (C : Addr) (cl : List (Str × Addr)) (fp : List Addr), QE (X.blk s H scope (compEnvC scope cl C X.env) fp) T WF vx tv) (hs : ∀ x, foldedSetIterable iter X.env x = pure x := by intro _; rfl) :
    QE X T W (.DictComp kx vx [⟨tg, iter, ifs, 0⟩] scope pos) (dDc wi g tt tk tv (own.map (·.2))) := PE.imp (pe_dc hc hN hi ok hg ht hk he hs) fun σ H Q h => by
  obtain ⟨env, F, G, E, P, hg, hs, hx, ht, hq⟩ := h
  refine ⟨env, F, G, E, _, hg, hs, hx, ht, fun items guard F1 G1 H1 J p s1 g1 ok D1 hD => ?_⟩
  refine dc_word hv p.1 g1 (hs.step s1) ok hD p.2 fun ys F2 G2 H2 ws p2 s2 g2 e2 f2 gd2 rel => ?_
  exact hq (.dct ys) (fadd F2 D1) G2 _ H2 p2 (s1.trans (s2.frz hD)) (g2.frz gd2 e2 rfl) ⟨D1, ws, rfl, ⟨.of e2, .inl rfl⟩, RelKs.kept (fun b o f e => ⟨.inr f, o, e, .inl rfl⟩) ys rel⟩
theorem q_dcB (own : List (Str × Nat)) (hc : X.calm = true) (hN : X.N.Nodup) (hi : QI X T W tg iter wi) (ok : BlkOk X.N X.env.scope scope own) (hv : tgIn g (own.map (·.2)) = true)
    (hg : ∀ (s : Shared) (H : Hp) (C : Addr) (cl : List (Str × Addr)) (fp : List Addr), PG (X.blk s H scope (compEnvC scope cl C X.env) fp) tg (vTg X.K g)) (ht : ∀ (s : Shared) (H : Hp) (C : Addr) (cl : List (Str × Addr)) (fp : List Addr), QTs (X.blk s H scope (compEnvC scope cl C X.env) fp) T WF ifs tt)
    (hk : ∀ (s : Shared) (H : Hp) (C : Addr) (cl : List (Str × Addr)) (fp : List Addr), QE (X.blk s H scope (compEnvC scope cl C X.env) fp) T WF kx tk) (he : ∀ (s : Shared) (H : Hp) (C : Addr) (cl : List (Str × Addr)) (fp : List Addr), QE (X.blk s H scope (compEnvC scope cl C X.env) fp) T WF vx tv) (hs : ∀ x, foldedSetIterable iter X.env x = pure x := by intro _; rfl) :
    QE X T W (.DictComp kx vx [⟨tg, iter, ifs, 0⟩] scope pos) (dDcB wi g tt tk tv (own.map (·.2))) := PE.imp (pe_dc hc hN hi ok hg ht hk he hs) fun σ H Q h => by
  obtain ⟨env, F, G, E, P, hg, hs, hx, ht, hq⟩ := h
  refine ⟨env, F, G, E, _, hg, hs, hx, ht, fun items guard F1 G1 H1 J p s1 g1 ok D1 hD => ?_⟩
  refine dc_word hv p.1 g1 (hs.step s1) ok hD p.2 fun ys F2 G2 H2 ws p2 s2 g2 e2 f2 gd2 rel => ?_
  exact hq (.ref D1) F2 _ _ H2 (p2 D1 gd2) (s1.trans (s2.trk hD)) (g2.trk f2 gd2 e2 rfl ⟨ws, rfl, rel⟩) rfl
end
end DL

namespace DL
open PySem PySem.Spec PyProof.Rows L2 LamX HotX L2H
variable {T : LT}
/-! ### targets of any kind -/
abbrev DTG := D → DXK → DSt → DG → (DSt → DG → Prop) → Prop
def liftG (K : PySem.W.Frag) (T : LT) (W : WX) (t : DTG) : TG := fun v σ H Q => ∃ env F G E P d, RelG K T F G H ∧ RelSt K F H env σ ∧ XOk K T W E F G H ∧ RelD K F H d v ∧ t d E env G P ∧
  ∀ env' F' G' σ' H', P env' G' → Step F G H F' G' H' → RelG K T F' G' H' → RelSt K F' H' env' σ' → Q σ' H'
abbrev QG (X : Cx) (T : LT) (W : WX) (tg : Expr) (t : DTG) : Prop := PG X tg (liftG X.K T W t)
theorem PG.imp {X : Cx} {tg : Expr} {t t' : TG} (h : PG X tg t) (k : ∀ v σ H Q, t' v σ H Q → t v σ H Q) : PG X tg t' := ⟨fun pins s σ H v u Q I r w => h.run pins s σ H v u Q I r (k v σ H Q w)⟩
def dgN (i : Nat) : DTG := fun d _ env G Q => Q (env.set i (some d)) G
def dgF (cs : List String) (f : String) (to : DTE) : DTG := fun d E env G Q => to E env G fun x G1 => ∃ a c fs, x = .ref a ∧ G1 a = some (.ins c fs) ∧ c ∈ cs ∧ fs.length < 1000 ∧ Q env (gset G1 a (some (.ins c (putD f d fs))))
def dgS (to ti : DTE) : DTG := fun d E env G Q => to E env G fun o G1 => ti E env G1 fun i G2 => ∃ G3, setAt G2 o i d = some G3 ∧ Q env G3
def dgAll : List DTG → List D → DXK → DSt → DG → (DSt → DG → Prop) → Prop
  | [], [], _, env, G, Q => Q env G
  | t :: ts, d :: ds, E, env, G, Q => t d E env G fun env1 G1 => dgAll ts ds E env1 G1 Q
  | _, _, _, _, _, _ => False
def dgT (ts : List DTG) : DTG := fun d E env G Q => ∃ xs, d = .tup xs ∧ xs.length = ts.length ∧ dgAll ts xs E env G Q
def sAsgG (te : DTE) (t : DTG) : DTS := fun E DE env G => te E env G fun x G1 => t x E env G1 DE.nx
abbrev gLs (K : PySem.W.Frag) (T : LT) (W : WX) : List DTG → TGs
  | [] => gNil
  | t :: ts => gCons (liftG K T W t) (gLs K T W ts)
/-- the attribute of an instance is stored to -/
def gFldV (K : PySem.W.Frag) (ta : TE) (f : Str) : TG := fun y σ H1 Q => ta σ H1 fun x H2 => ∃ a C dx fs, x = .ref a ∧ H2 a = some (.ins C dx fs) ∧ Cls K C ∧ NoAttr K C f ∧ fs.length < 1000 ∧ Q σ (upd H2 a (.ins C dx (putF f y fs)))
theorem pg_fldV {X : Cx} {o : Expr} {f : Str} {pos : Pos} {ta : TE} (ha : PE X o ta) : PG X (.Attribute o f pos) (gFldV X.K ta f) := by
  refine ⟨fun pins s σ H v u Q I r h => ?_⟩
  rw [PySem.assign_Attribute]
  refine wpAny_bind (wpAny_holding (thn (ha.run pins s σ H _ I h) fun ov s2 ⟨x, H2, I2, rx, a, C, dx, fs, ex, ea, c, n, l, q2⟩ => ?_))
  subst ex
  obtain rfl : ov = Value.ref a := rx
  refine wpAny_bind (wpAny_standAt (wpAny_bind (wpAny_holding (setattr_ok I2 ea c n l r fun s3 I3 => ?_))))
  exact wpAny_release ⟨σ, _, I3, q2⟩
section
variable {X : Cx} {W : WX} {o i : Expr} {to ti : DTE} {pos : Pos}
theorem qg_n {j : Nat} {x : Str} (hN : X.N.Nodup) (hi : X.N[j]? = some x) (hx : Loc X.env.scope x) (hf : X.fn x = true ∨ X.env.scope.names.lookup x = some .local := by first | exact .inl rfl | exact .inr rfl | assumption) : QG X T W (.Name x pos) (dgN j) :=
  PG.imp (pg_name hN hi hx hf) fun v σ H Q ⟨env, F, G, E, P, d, hg, hs, hx, rd, ht, hq⟩ => hq _ F G _ H ht Step.refl hg (hs.set rd)
theorem qg_f {cs : List String} {f : String} (ho : QE X T W o to) (hc : ∀ c ∈ cs, Cls X.K (He.ga X.K (S c)) ∧ NoAttr X.K (He.ga X.K (S c)) (S f)) : QG X T W (.Attribute o (Str.ofString f) pos) (dgF cs f to) := by
  refine PG.imp (pg_fldV ho) fun v σ H Q ⟨env, F, G, E, P, d, hg, hs, hx, rd, ht, hq⟩ => ⟨env, F, G, E, _, hg, hs, hx, ht, fun y F1 G1 u H1 pk s1 g1 r1 => ?_⟩
  obtain ⟨a, c, fs, rfl, ea, hcs, hl, p⟩ := pk
  obtain ⟨dx, ws, eh, gd, fd, od, rf⟩ := g1.ins ea
  obtain ⟨s2, g2⟩ := g1.fld (f := f) ea eh rf gd fd od (RelD.step s1 d rd)
  exact ⟨a, _, dx, ws, r1, eh, (hc c hcs).1, (hc c hcs).2, by rw [← rf.length]; exact hl, hq _ _ _ _ _ p (s1.trans s2) g2 (hs.step (s1.trans s2))⟩
theorem qg_s (hu : X.A.units + 1 < cLine) (ho : QE X T W o to) (hi : QE X T W i ti)
    (ha : ∀ v, assign (.Subscript o i pos) X.env v = (do let ov ← holding [v] (eval o X.env); let iv ← holding [v, ov] (eval i X.env); standAt pos; holding [v, ov, iv] (setItem ov iv v); release [v, ov, iv] []) := by intro _; rfl) : QG X T W (.Subscript o i pos) (dgS to ti) :=
  PG.imp (pg_sub ho hi (set_A (T := T) hu) ha) fun v σ H Q ⟨env, F, G, E, P, d, hg, hs, hx, rd, ht, hq⟩ => ⟨env, F, G, E, _, hg, hs, hx, ht, fun y F1 G1 u H1 p1 s1 g1 r1 => ⟨env, F1, G1, E, _, g1, hs.step s1, hx.step s1, p1, fun z F2 G2 w H2 ⟨G3, e, p2⟩ s2 g2 r2 =>
    ⟨F2, G2, y, z, d, G3, g2, RelD.step s2 y r1, r2, RelD.step (s1.trans s2) d rd, e, fun F' H' s3 g3 => hq env F' G3 σ H' p2 (s1.trans (s2.trans s3)) g3 (hs.step (s1.trans (s2.trans s3)))⟩⟩⟩
inductive QGs (X : Cx) (T : LT) (W : WX) : List Expr → List DTG → Prop
  | nil : QGs X T W [] []
  | cons {e : Expr} {es : List Expr} {t : DTG} {ts : List DTG} (h : QG X T W e t) (hr : QGs X T W es ts) (hs : (assignEach (e :: es) X.env).map (·.2) = assign e X.env :: (assignEach es X.env).map (·.2)) : QGs X T W (e :: es) (t :: ts)
theorem QGs.pgs : ∀ {es : List Expr} {ts : List DTG}, QGs X T W es ts → PGs X es (gLs X.K T W ts)
  | _, _, .nil => pgs_nil
  | _, _, .cons h hr hs => pgs_cons h hr.pgs hs
theorem gLs_run {K : PySem.W.Frag} : ∀ (ts : List DTG) (ds : List D) (vs : List V) (E : DXK) (env : DSt) (F : FS) (G : DG) (H : Hp) (σ : L2.St) (P : DSt → DG → Prop) (Q : L2.St → Hp → Prop), RelG K T F G H → RelSt K F H env σ → XOk K T W E F G H → RelDs K F H ds vs → dgAll ts ds E env G P →
    (∀ env' F' G' σ' H', P env' G' → Step F G H F' G' H' → RelG K T F' G' H' → RelSt K F' H' env' σ' → Q σ' H') → gLs K T W ts vs σ H Q
  | [], [], vs, E, env, F, G, H, σ, P, Q, hg, hs, hx, rd, ht, hq => ⟨rd, hq env F G σ H ht Step.refl hg hs⟩
  | t :: ts, d :: ds, vs, E, env, F, G, H, σ, P, Q, hg, hs, hx, ⟨v, r, ev, r1, rr⟩, ht, hq => ⟨v, r, ev, env, F, G, E, _, d, hg, hs, hx, r1, ht, fun env1 F1 G1 σ1 H1 p1 s1 g1 rs1 =>
    gLs_run ts ds r E env1 F1 G1 H1 σ1 P Q g1 rs1 (hx.step s1) (RelDs.step s1 ds rr) p1 fun env' F' G' σ' H' p s g rs => hq env' F' G' σ' H' p (s1.trans s) g rs⟩
  | [], _ :: _, _, _, _, _, _, _, _, _, _, _, _, _, _, ht, _ => ht.elim
  | _ :: _, [], _, _, _, _, _, _, _, _, _, _, _, _, _, ht, _ => ht.elim
theorem qg_t {es : List Expr} {kk : Nat} {ts : List DTG} (hc : X.calm = true) (h : QGs X T W es ts) (hn : (assignEach es X.env).length = ts.length := by rfl) (hst : (assignEach es X.env).findIdx? (·.1) = none := by rfl) : QG X T W (.Tuple es kk pos) (dgT ts) := by
  refine PG.imp (pg_tup hc h.pgs hn hst) fun v σ H Q ⟨env, F, G, E, P, d, hg, hs, hx, rd, ht, hq⟩ => ?_
  obtain ⟨xs, rfl, hl, ht⟩ := ht
  obtain ⟨a, vs, rfl, ta, rv⟩ := rd
  exact ⟨a, vs, rfl, ta.sq, by rw [← rv.length]; exact hl, gLs_run ts xs vs E env F G H σ P Q hg hs hx rv ht hq⟩
theorem qs_asgG {tg e : Expr} {te : DTE} {t : DTG} (he : QE X T W e te) (hg : QG X T W tg t) (hs : swapsWithSole [tg] e pos.line X.env = pure false := by rfl) (hw : swappedStores [tg] e X.env = pure none := by rfl)
    (h1 : (assignEach [tg] X.env).map (·.2) = [assign tg X.env] := by rfl) : QS X T W (.Assign [tg] e pos) (sAsgG te t) :=
  PS.imp (ps_asg he hg hs hw h1) fun D σ H ⟨env, F, G, E, DE, hg, hs, hx, ht, hn, hr⟩ => ⟨env, F, G, E, _, hg, hs, hx, ht, fun x F1 G1 v1 H1 p1 s1 g1 r1 =>
    ⟨env, F1, G1, E, _, x, g1, hs.step s1, hx.step s1, r1, p1, fun env' F' G' σ' H' p s g rs => hn env' F' G' σ' H' p (s1.trans s) g rs⟩⟩
end
/-! ### a table's get with a default -/
def kGet2 (tab : List (String × D)) (_ : DG) (x y : D) : Option D := match x with
  | .str z => some ((tab.lookup z).getD y)
  | _ => none
theorem m_kget2 {tab : List (String × D)} : Mono2 (kGet2 tab) := fun _ _ _ _ h => h
section
variable {X : Cx} {W : WX} {e fx : Expr} {te tx : DTE} {x : String} {tab : List (String × D)} {p apos pos : Pos}
theorem q_kget2 (k : KTab X.K X.w X.mg x tab) (hg : Gl X (Str.ofString x)) (he : QE X T W e te) (hf : QE X T W fx tx) (hd : (Str.ofString x == ("__debug__" : Str)) = false := by decide)
    (hs : starEach [e, fx] X.env = (false, eval e X.env) :: starEach [fx] X.env := by rfl) (hs2 : starEach [fx] X.env = (false, eval fx X.env) :: starEach [] X.env := by rfl) (hline : (apos.endLine == pos.line) = true := by rfl)
    (hfew : ((backTo pos (starEach [e, fx] X.env)).all (fun x => !x.1) && (backToKw pos (keywordEach [] X.env)).all (fun x => x.1.isSome) && decide ([e, fx].length + ([] : List Keyword).length + (if ([] : List Keyword).isEmpty then 0 else 1) < 30)) = true := by rfl)
    (hbase : attributeBase (.Name (Str.ofString x) p) "get" X.env (eval (.Name (Str.ofString x) p) X.env) = eval (.Name (Str.ofString x) p) X.env := by rfl) : QE X T W (.Call (.Attribute (.Name (Str.ofString x) p) "get" apos) [e, fx] [] pos) (dOp (kGet2 tab) te tx) := by
  obtain ⟨es, n, kd⟩ := k.kd
  refine ⟨fun pins s σ H Q I h => ?_⟩
  obtain ⟨env, F, G, E, P, hG, hS, hx, ht, hq⟩ := h
  refine wpAny_Call_method_late hbase hfew hline rfl (thn ((pe_glob hg k.mg (v := .ref (He.ga X.K (S x))) rfl hd).run pins s σ H (fun v H1 => v = .ref (He.ga X.K (S x)) ∧ H1 = H) I ⟨rfl, rfl⟩) ?_)
  rintro v s1 ⟨y, H1, I1, r1, rfl, rfl⟩
  obtain rfl : v = Value.ref (He.ga X.K (S x)) := r1
  have mo := PySem.W.mapOf_K (prog := X.prog) (w := X.w) I1.kIn kd.at_ kd.lit
  refine ⟨"dict", "dict.get", PySem.F.plainAttrs_dict, PySem.F.slot_dict_get, PySem.F.type_dict_get, mo.typeIs, mo.noDict, ?_⟩
  have hA := (pa_cons he (pa_cons hf pa_nil hs2) hs).run pos pins s1 σ H1 (fun vs H2 => ∃ v u, vs = [v, u] ∧ (∃ d y F1 G1, kGet2 tab G1 d y ≠ none ∧ RelD X.K F1 H2 d v ∧ RelD X.K F1 H2 y u ∧ ∀ z w, kGet2 tab G1 d y = some z → RelD X.K F1 H2 z w → Q w H2)) I1
    ⟨env, F, G, E, _, hG, hS, hx, ht, fun d F1 G1 v1 H1 p1 s1 g1 r1 => ⟨env, F1, G1, E, _, g1, hS.step s1, hx.step s1, p1, fun y F2 G2 v2 H2 ⟨z, e, p2⟩ s2 g2 r2 => ⟨v1, v2, rfl, d, y, F2, G2, by rw [e]; simp, RelD.step s2 d r1, r2, fun z' u e' ru => by rw [e] at e'; cases e'; exact hq z F2 G2 u H2 p2 (s1.trans s2) g2 ru⟩⟩⟩
  rw [hs, hs2] at hA ⊢
  refine Calls.callWith_builtin (by rfl) (Calls.evalArgs_plain ?_)
  refine thn hA ?_
  rintro us s2 ⟨vs, H2, I2, r2, v, u, rfl, d, y, F1, G1, hne, rd, ry, q⟩
  cases r2 with
  | cons ru rt =>
    cases rt with
    | cons ru2 rt2 =>
      cases rt2
      cases d with
      | str t =>
        have ev : v = V.str (S t) := rd
        subst ev
        obtain ⟨tk, rfl⟩ := ru
        have mo2 := PySem.W.mapOf_K (prog := X.prog) (w := X.w) I2.kIn kd.at_ kd.lit
        refine call_meetsIn PySem.F.slot_dict_get mo2.typeIs PySem.F.entry_dict_get (PySem.F.args_dict_get_3 _ _ _) (meets_dict_get_default (strKind X.prog X.w) (He.ga X.K (S x)) (PySem.strKind_is X.prog X.w (S t) tk) kd.low _) ⟨_, mo2, ?_⟩
        rcases k.val t with ⟨h1, h2⟩ | ⟨w, v', d', h1, h2, rv, rd'⟩
        · rw [PySem.W.find_K kd.at_ h1]
          exact ⟨u, H2, I2.tok _, ru2, q y _ (by simp [kGet2, h2]) ry⟩
        · rw [PySem.W.find_K kd.at_ h1]
          exact ⟨v', H2, I2.tok _, rv, q d' _ (by simp [kGet2, h2]) (rd' F1 H2)⟩
      | _ => exact absurd rfl hne
end
end DL

namespace DL
open PySem PySem.Spec PyProof.Rows L2
/-! ### twins of locks and keys -/
theorem ev_lock {t : DTE} {e : Ev D} (h : EvE t e) : EvE (dLockE t) e := fun env r he E G Q q => .inl (h env r he E G Q q)
theorem xv_lock {t : DTS} {e : EvX} (h : EvS t e) : EvS (sLock t) e := fun env r he E DE G q => .inl (h env r he E DE G q)
def eIterK (ea : Ev D) : Ev (List D) := fun env => bindE (ea env) fun d => match d with
  | .dct kvs => some (.ok (kvs.map (·.1)))
  | _ => none
theorem ev_iterk {ta : DTE} {ea : Ev D} (ha : EvE ta ea) : EvI (dIterK ta) (eIterK ea) := fun env r h E G Q q => by
  rcases bind_ok h with ⟨d, e1, e2⟩ | ⟨x, e1, rfl⟩
  · refine ha env _ e1 E G _ ?_
    show (∃ kvs, d = .dct kvs ∧ _) ∨ _
    cases d with
    | dct kvs =>
      cases e2
      exact .inl ⟨kvs, rfl, q _ fun _ => trivial⟩
    | _ => cases e2
  · exact ha env _ e1 E G _ q
end DL

namespace DL
open PySem PySem.Spec PyProof.Rows L2
variable {T : LT}
/-! ### a, b, c = x, y, z -/
section
variable {X : Cx} {W : WX} {pos : Pos}
theorem qs_par3 {i j l : Nat} {x y z : Str} {a b c : Expr} {ta : DTA} {px py pz pt : Pos} {kt k2 pt2} (hc : X.calm = true) (hN : X.N.Nodup) (hi : X.N[i]? = some x) (hj : X.N[j]? = some y) (hl : X.N[l]? = some z) (hij : i ≠ j) (hil : i ≠ l) (hjl : j ≠ l)
    (hx : X.env.scope.names.lookup x = some .local) (hy : X.env.scope.names.lookup y = some .local) (hz : X.env.scope.names.lookup z = some .local) (ha : QA X T W [a, b, c] ta)
    (hw : swappedStores [.Tuple [.Name x px, .Name y py, .Name z pz] kt pt] (.Tuple [a, b, c] k2 pt2) X.env = pure (some [x, y, z]))
    (hs : swapsWithSole [.Tuple [.Name x px, .Name y py, .Name z pz] kt pt] (.Tuple [a, b, c] k2 pt2) pos.line X.env = pure false := by rfl) :
    QS X T W (.Assign [.Tuple [.Name x px, .Name y py, .Name z pz] kt pt] (.Tuple [a, b, c] k2 pt2) pos) (sPar [i, j, l] ta) :=
  PS.imp (ps_par3 hc hN hi hj hl hij hil hjl hx hy hz ha hw hs) fun D σ H ⟨env, F, G, E, DE, hg, hs, hx, ht, hn, hr⟩ => ⟨env, F, G, E, _, hg, hs, hx, ht, fun ds F1 G1 vs H1 ⟨hl, p⟩ s1 g1 r1 => by
    obtain ⟨d1, d2, d3, rfl⟩ : ∃ d1 d2 d3, ds = [d1, d2, d3] := by
      match ds, hl with
      | [d1, d2, d3], _ => exact ⟨d1, d2, d3, rfl⟩
    obtain ⟨v, t, rfl, rv, r2⟩ := r1
    obtain ⟨u, w, rfl, ru, rw⟩ := RelDs.two r2
    exact ⟨v, u, w, rfl, hn _ F1 G1 _ H1 p s1 g1 ((((hs.step s1).set rv).set ru).set rw)⟩⟩
end
/-! ### a slice of a list that will be written -/
def dSliceB (t : DTE) (l h : DTO) : DTE := fun E env G Q => t E env G fun x G1 => l E env G1 fun lo G2 => h E env G2 fun hi G3 => ∃ xs, asL G3 x = some xs ∧ ∀ p, G3 p = none → Q (.ref p) (gset G3 p (some (.lst (cutD xs lo hi))))
section
variable {X : Cx} {W : WX} {pos p2 : Pos} {a : Expr} {lo hi : Option Expr} {ta : DTE} {tl th : DTO}
theorem sl_sliceB : SlR X (fun x lo hi H Q => ∃ F G dx xs, RelG X.K T F G H ∧ RelD X.K F H dx x ∧ asL G dx = some xs ∧ ∀ p H', G p = none → Step F G H F (gset G p (some (.lst (cutD xs lo hi)))) H' → RelG X.K T F (gset G p (some (.lst (cutD xs lo hi)))) H' → Q (.ref p) H') := by
  intro pins s σ H x v vl vu lo hi sl Q I rx hs pl pu ⟨F, G, dx, xs, hg, r1, e, q⟩
  obtain ⟨a, vs, e1, t1, k1⟩ := asL_ok hg r1 e
  refine sl_list pins s σ H x v vl vu lo hi sl Q I rx hs pl pu ⟨a, vs, e1, .inl t1, fun p hp => ?_⟩
  exact q p _ (hg.free hp) (Step.set hg (.inl hp)) (hg.set (.inl hp) ⟨_, rfl, RelDs.step (Step.set (o := none) hg (.inl hp)) _ (cut_rel lo hi k1)⟩)
theorem q_sliceB (ha : QE X T W a ta) (hl : QO X T W lo tl) (hh : QO X T W hi th) : QE X T W (.Subscript a (.Slice lo hi none p2) pos) (dSliceB ta tl th) :=
  PE.imp (pe_slice sl_sliceB ha hl hh) fun σ H Q ⟨env, F, G, E, P, hg, hs, hx, ht, hq⟩ =>
    ⟨env, F, G, E, _, hg, hs, hx, ht, fun x F1 G1 v1 H1 h1 s1 g1 r1 => ⟨env, F1, G1, E, _, g1, hs.step s1, hx.step s1, h1, fun l F2 G2 H2 h2 s2 g2 => ⟨env, F2, G2, E, _, g2, hs.step (s1.trans s2), hx.step (s1.trans s2), h2, fun h F3 G3 H3 ⟨xs, e, p⟩ s3 g3 =>
      ⟨F3, G3, x, xs, g3, RelD.step (s2.trans s3) x r1, e, fun p' H' hp s4 g4 => hq _ _ _ _ H' (p p' hp) (s1.trans (s2.trans (s3.trans s4))) g4 rfl⟩⟩⟩⟩
end
end DL

/-! sets of ints and texts that are made of a row and sorted; sorted of a row, a dict, a set -/
namespace DZ
open PySem PySem.Spec PyProof.Rows L2 SrtO
def kOf (v : Value) : Key := match v with
  | .int k _ => .inl k
  | .str x _ => .inr x
  | _ => .inl 0
theorem kOf_is {k : Key} {v : Value} (h : keyIs k v = true) : kOf v = k := by
  rcases keyIs_shape h with ⟨i, t, rfl, rfl⟩ | ⟨x, t, rfl, rfl⟩ <;> rfl
theorem sc_is {k : Key} {v : Value} (h : keyIs k v = true) : v.scannable = true := by
  rcases keyIs_shape h with ⟨i, t, rfl, rfl⟩ | ⟨x, t, rfl, rfl⟩ <;> rfl
def Good (w : World) (e : Int × Value) : Prop := keyIs (kOf e.2) e.2 = true ∧ e.1 = keyH w (kOf e.2)
def kE (e : Int × Value) : Key := kOf e.2
/-- the set at a: its members are those of S, at most n -/
def SetM (w : World) (h : Heap) (a : Addr) (S : List Key) (n : Nat) : Prop :=
  ∃ o es ep t, h.get? a = some o ∧ o.ExactSet ∧ o.data = .set es ep t ∧ (∀ e ∈ es.toList, Good w e) ∧ (es.toList.map kE).Nodup ∧ (∀ k, k ∈ S ↔ k ∈ es.toList.map kE) ∧
    es.size ≤ n ∧ n < scanBound ∧ t.fits es.size = true ∧ Ris t.place.toList ∧ (w.params.followText "set-order" = true ∨ t.led = true)
section
variable {P : Program} {w : World} {h h' : Heap} {a : Addr} {S : List Key} {n : Nat}
theorem SetM.at (R : SetM w h a S n) (k : ∀ o, h.get? a = some o → h'.get? a = some o) : SetM w h' a S n := by
  obtain ⟨o, es, ep, t, ho, r⟩ := R
  exact ⟨o, es, ep, t, k o ho, r⟩
theorem elems {l : List (Int × Value)} (g : ∀ e ∈ l, Good w e) : ElemsOf (mixKind P w) l := fun e he => ⟨⟨kE e, (g e he).1, (g e he).2⟩, sc_is (g e he).1⟩
theorem mem_is {l : List (Int × Value)} (g : ∀ e ∈ l, Good w e) (k : Key) : k ∈ l.map kE ↔ ∃ e ∈ l, keyIs k e.2 = true := by
  constructor
  · intro m
    obtain ⟨e, he, q⟩ := List.mem_map.mp m
    exact ⟨e, he, q ▸ (g e he).1⟩
  · rintro ⟨e, he, q⟩
    exact List.mem_map.mpr ⟨e, he, kOf_is q⟩
end
section
variable {P : Program} {w : World} {A : Around} {E : Value → Shared → Prop} {s : Shared} {a : Addr} {S : List Key} {n : Nat}
theorem tailM {g : Bool → Sem Unit} (hg : ∀ (b : Bool) (s₁ : Shared) (Q' : Unit → Shared → Prop), Q' () s₁ → wpAny (model P w) A (g b) Q' E s₁)
    {o : Obj} {es : Array (Int × Value)} {ep : Nat} {t : SetTable} (ho : s.heap.get? a = some o) (hex : o.ExactSet) (hd : o.data = .set es ep t)
    {z : Array (Int × Value)} {u : SetTable} (zg : ∀ e ∈ z.toList, Good w e) (zn : (z.toList.map kE).Nodup) (zm : ∀ k, k ∈ S ↔ k ∈ z.toList.map kE)
    (zs : z.size ≤ n) (hn : n < scanBound) (uf : u.fits z.size = true) (ur : Ris u.place.toList) (ul : w.params.followText "set-order" = true ∨ u.led = true) {dm : Bool} {R : Option Bool → Shared → Prop}
    (hR : ∀ h', Heap.SameBut a s.heap h' → SetM w h' a S n → R (some true) { s with heap := h' }) :
    wpAny (model P w) A (do
        storeSet a z u
        if (!dm && u.tooFull) = true then do
            g (relayAll u z (SetTable.grown z.size)).2.2
            storeSet a (relayAll u z (SetTable.grown z.size)).1 (relayAll u z (SetTable.grown z.size)).2.1
            pure (some true)
          else pure (some true)) R E s := by
  have zb : z.size < scanBound := Nat.lt_of_le_of_lt zs hn
  refine wpAny_bind (wpAny_storeSet_of ho hd ?_ (fits_of_scanBound zb))
  have o1 := store_at (es' := z) (t' := u) ho hd
  have b1 := Heap.SameBut.update s.heap a (Obj.putSet z u)
  by_cases c : (!dm && u.tooFull) = true
  · rw [if_pos c]
    have q1 := relayAll_perm u z (SetTable.grown z.size)
    have q2 := relayAll_fits u z (SetTable.grown z.size)
    have q3 := relayAll_ris u z (SetTable.grown z.size)
    have q4 := relayAll_led u z (SetTable.grown z.size)
    revert q1 q2 q3 q4
    generalize relayAll u z (SetTable.grown z.size) = Z
    obtain ⟨y, v, gv⟩ := Z
    dsimp only
    intro q1 q2 q3 q4
    have ys : y.size = z.size := by rw [← Array.length_toList, q1.length_eq, Array.length_toList]
    refine wpAny_bind (hg _ _ _ (wpAny_bind (wpAny_storeSet_of o1 rfl ?_ (fits_of_scanBound (by rw [ys]; exact zb)))))
    refine wpAny_pure (hR _ (b1.trans (Heap.SameBut.update _ a _)) ⟨_, y, _, v, store_at (es' := y) (t' := v) o1 rfl, hex, rfl, fun e he => zg e (q1.mem_iff.mp he), (q1.map kE).nodup_iff.mpr zn,
      fun k => (zm k).trans (q1.map kE).mem_iff.symm, by rw [ys]; exact zs, hn, q2, q3, ul.imp id fun e => by rw [q4]; exact e⟩)
  · rw [if_neg c]
    exact wpAny_pure (hR _ b1 ⟨_, z, _, u, o1, hex, rfl, zg, zn, zm, zs, hn, uf, ur, ul⟩)
theorem addM {k : Key} {v : Value} {Q : Bool → Shared → Prop} (hk : keyIs k v = true) (R : SetM w s.heap a S n) (room : n + 1 < scanBound)
    (hQ : ∀ b h', Heap.SameBut a s.heap h' → SetM w h' a (S ++ [k]) (n + 1) → Q b { s with heap := h' }) :
    wpAny (model P w) A (setAddHashed a v ((mixKind P w).hash k)) Q E s := by
  obtain ⟨o, es, ep, t, ho, hex, hd, g, nd, hm, hs, hn, hf, hr, hl⟩ := R
  have hb : es.size < scanBound := Nat.lt_of_le_of_lt hs hn
  have hsc := sc_is hk
  have hel : ElemsOf (mixKind P w) es.toList := elems g
  have hkey : (mixKind P w).is k v = true := hk
  unfold setAddHashed setAddHashedIn
  refine wpAny_holding (wpAny_bind (wpAny_setState_of ho hd hf ?_))
  dsimp only
  rw [byScan_of hsc hb hel]
  simp only [↓reduceIte]
  unfold setAddByScan
  refine wpAny_bind (wpAny_bind (wpAny_rule (wpAny_bind (wpAny_setScan_of hkey ho hd hf hel ?_))))
  cases fi : List.findIdx? (fun e => (mixKind P w).is k e.2) es.toList with
  | some j =>
    dsimp only
    obtain ⟨hj, pj, _⟩ := List.findIdx?_eq_some_iff_getElem.mp fi
    have mk : k ∈ es.toList.map kE := (mem_is g k).mpr ⟨es.toList[j], List.getElem_mem hj, pj⟩
    refine wpAny_pure (wpAny_pure (hQ _ s.heap (Heap.SameBut.refl a s.heap) ⟨o, es, ep, t, ho, hex, hd, g, nd, fun i => ?_, Nat.le_succ_of_le hs, room, hf, hr, hl⟩))
    rw [List.mem_append, List.mem_singleton, hm i]
    exact ⟨fun z => z.elim id fun e => e ▸ mk, .inl⟩
  | none =>
    dsimp only
    have nk : k ∉ es.toList.map kE := fun m => by
      obtain ⟨e, he, q⟩ := (mem_is g k).mp m
      have c := List.findIdx?_eq_none_iff.mp fi e he
      rw [show (mixKind P w).is k e.2 = true from q] at c
      cases c
    have rl : ∀ (b : Bool) {s₁ : Shared} {Q' : Unit → Shared → Prop}, Q' () s₁ → wpAny (model P w) A (match b with | true => rule "set.scan.the-table-gave-way" | false => pure ()) Q' E s₁ :=
      fun b s₁ Q' q => by cases b <;> first | exact wpAny_pure q | exact wpAny_rule q
    have p1 := layNew_perm t es ((mixKind P w).hash k) v
    have p2 := layNew_fits t es ((mixKind P w).hash k) v
    have p3 := layNew_ris t es ((mixKind P w).hash k) v hr
    have p4 := layNew_led t es ((mixKind P w).hash k) v
    revert p1 p2 p3 p4
    generalize layNew t es ((mixKind P w).hash k) v = Z
    obtain ⟨z, u, dm, gv⟩ := Z
    dsimp only
    intro p1 p2 p3 p4
    rw [Array.toList_push] at p1
    have pc : z.toList.Perm (((mixKind P w).hash k, v) :: es.toList) := p1.trans (List.perm_append_singleton _ _)
    have pk : (z.toList.map kE).Perm (k :: es.toList.map kE) := by
      have e := pc.map kE
      rw [List.map_cons, show kE ((mixKind P w).hash k, v) = k from kOf_is hk] at e
      exact e
    have zg : ∀ e ∈ z.toList, Good w e := fun e he => by
      rcases List.mem_cons.mp (pc.mem_iff.mp he) with e1 | e1
      · rw [e1]
        exact ⟨by rw [kOf_is hk]; exact hk, by rw [kOf_is hk] <;> rfl⟩
      · exact g e e1
    have zn : (z.toList.map kE).Nodup := pk.nodup_iff.mpr (List.nodup_cons.mpr ⟨nk, nd⟩)
    have zm : ∀ i, i ∈ S ++ [k] ↔ i ∈ z.toList.map kE := fun i => by
      rw [List.mem_append, List.mem_singleton, hm i, pk.mem_iff, List.mem_cons]
      exact Or.comm
    have zs : z.size ≤ n + 1 := by
      rw [← Array.length_toList, pc.length_eq, List.length_cons, Array.length_toList]
      exact Nat.succ_le_succ hs
    have ul : w.params.followText "set-order" = true ∨ u.led = true := hl.imp id fun e => by rw [p4]; exact e
    refine wpAny_bind (rl _ ?_)
    split
    · refine wpAny_bind ?_
      rw [hashByValue_scannable 8 hsc]
      refine wpAny_pure (tailM ?_ ho hex hd zg zn zm zs room ?_ ?_ ?_ ?_)
      · intro b s₁ Q' q
        cases b <;> first | exact wpAny_pure q | exact wpAny_rule q
      · first | (split <;> first | exact p2 | exact SetTable.fits_plain_off p2) | exact p2
      · first | (split <;> exact p3) | exact p3
      · first | (split <;> exact ul) | exact ul
      · intro h' sb r
        dsimp only
        exact wpAny_pure (hQ _ h' sb r)
    · refine wpAny_bind (wpAny_pure ?_)
      simp only [↓reduceIte]
      refine tailM ?_ ho hex hd zg zn zm zs room p2 p3 ul ?_
      · intro b s₁ Q' q
        cases b <;> first | exact wpAny_pure q | exact wpAny_rule q
      · intro h' sb r
        dsimp only
        exact wpAny_pure (hQ _ h' sb r)
/-- the row's keys, one by one, into the set -/
theorem updM {I : Addr} {fp wr : List Addr} {G : Array GenState → Array GenState → Prop} {n : Nat} {Pv : Nat → Value → Prop} {St : Nat → Shared → Prop} {R : Result → Shared → Prop}
    (W : WalksS P w A.in1 I fp wr G n Pv St) (T : Addr) (hT : T ∉ fp) (ks : List Key) (hn : n = ks.length) (hb : ks.length + 1 < scanBound) (hv : ∀ i v, Pv i v → ∃ k, ks[i]? = some k ∧ keyIs k v = true) :
    ∀ (j i : Nat) (s : Shared), n - i = j → i ≤ n → St i s → SetM w s.heap T (ks.take i) i →
      (∀ s', Moved (T :: wr) G s s' → SetM w s'.heap T ks n → R (.ok (.ret .none)) s') →
      codeAny (model P w) A (.builtin "set.update.loop" ⟨[.ref T, .ref I], []⟩) R s := by
  have nw : T ∉ wr := fun m => hT (W.sub _ m)
  have sub : ∀ b ∈ wr, b ∈ T :: wr := fun b m => List.mem_cons_of_mem _ m
  intro j
  induction j with
  | zero =>
    intro i s hj hi st M hR
    obtain rfl : i = n := by omega
    refine codeAny_builtin F.entry_set_update_loop ?_
    rw [Around.under_plainId F.plain_set_update_loop _]
    show wpAny _ A.in1 (pyNext (.ref I) >>= _) _ _ s
    refine wpAny_bind (W.done s _ _ st fun s' mv => ?_)
    rw [List.take_of_length_le (by omega)] at M
    exact wpAny_pure (hR s' (mv.mono sub) (M.at fun o e => mv.heap T o nw e))
  | succ j ih =>
    intro i s hj hi st M hR
    have lt : i < n := by omega
    refine codeAny_builtin F.entry_set_update_loop ?_
    rw [Around.under_plainId F.plain_set_update_loop _]
    show wpAny _ A.in1 (pyNext (.ref I) >>= _) _ _ s
    refine wpAny_bind (W.item i s _ _ lt st fun v s' hP st' mv => ?_)
    obtain ⟨k, hk, is⟩ := hv i v hP
    have M1 : SetM w s'.heap T (ks.take i) i := M.at fun o e => mv.heap T o nw e
    show wpAny _ A.in1 (holding [v] (setAdd T v) >>= _) _ _ s'
    refine wpAny_bind (wpAny_holding ?_)
    unfold setAdd
    refine wpAny_holding (wpAny_bind ((mixKind P w).pyHash (k := k) is ?_))
    refine addM (s := { s' with toks := s'.toks + 1 }) is M1 (by omega) fun b h' sb M2 => ?_
    have e1 : ks.take i ++ [k] = ks.take (i + 1) := by
      rw [List.take_add_one, hk]
      rfl
    rw [e1] at M2
    refine wpAny_pure ⟨plainId_quiet F.plain_set_update_loop _, ih (i + 1) _ (by omega) lt (W.frame _ s' _ _ st' (Nat.le_succ _) fun b m o e => ?_) M2 fun s2 mv2 M3 => ?_⟩
    · rw [sb.2 b (fun z : b = T => hT (z ▸ m))]
      exact e
    · refine hR s2 (Moved.trans W.gtrans ((mv.mono sub).then_heap (Nat.le_succ _) fun b o m e => ?_) mv2) M3
      rw [sb.2 b (fun z : b = T => m (by rw [z]; exact List.mem_cons_self))]
      exact e
theorem freshM {h : Heap} {a : Addr} (ho : h.get? a = some { cls := .type "set", dict := none, data := .set #[] 0 (.fresh 0 0 (!w.params.followText "set-order")) }) : SetM w h a [] 0 :=
  ⟨_, #[], 0, _, ho, ⟨rfl, rfl, rfl⟩, rfl, fun e m => by simp at m, by simp, fun k => by simp, Nat.le_refl _, by decide, rfl, List.Pairwise.nil, by
    show _ ∨ (!w.params.followText "set-order") = true
    cases w.params.followText "set-order"
    · exact .inr rfl
    · exact .inl rfl⟩
end
end DZ

namespace DZ
open PySem PySem.Spec PyProof.Rows L2 SrtO
section
variable {P : Program} {w : World} {A : Around} {E : Value → Shared → Prop} {s : Shared}
/-- the new set's object -/
def nilSet (w : World) : Obj := { cls := .type "set", dict := none, data := .set #[] 0 (.fresh 0 0 (!w.params.followText "set-order")) }
theorem call_set_list {l : Addr} {xs : Array Value} (ks : List Key) {Q : Value → Shared → Prop} (hh : A.handled = none) (hl : s.heap.IsList l xs) (len : xs.size = ks.length) (hk : ∀ (i : Nat) (v : Value), xs[i]? = some v → ∃ k, ks[i]? = some k ∧ keyIs k v = true) (hb : ks.length + 1 < scanBound)
    (h : ∀ (h' : Heap) (tk : Nat), SetM w h' s.heap.objs.size ks ks.length → (∀ b o, s.heap.get? b = some o → h'.get? b = some o) → Q (.ref s.heap.objs.size) { s with heap := h', toks := tk }) :
    wpAny (model P w) A (call (.type "set") [.ref l]) Q E s := by
  obtain ⟨c, tl, hmro⟩ := F.called_set.mro
  have hmade := F.called_set.made
  have hsub := F.called_set.sub
  refine wpAny_call (codeAny_of_tree ?_)
  show wpAny _ _ (callAny (.type "set") _) _ _ _
  refine wpAny_pure ⟨Code.quiet_builtin _ (by decide +kernel), codeAny_builtin F.entry_type_call ?_⟩
  rw [Around.under_plain (weight_type_call_type "set" [.ref l] []) rfl]
  have h1 := F.called_set.notType
  have h2 := F.called_set.canCreate
  have hct := F.typeCall_set_1 (.ref l)
  repeat (any_goals (first | assumption | wp_step))
  refine codeAny_mono (code_set_led1 (.ref l) (E := E) (Q₁ := fun x s₁ => x = .ref s.heap.objs.size ∧ s₁ = { s with heap := s.heap.push (nilSet w) }) ⟨rfl, rfl⟩) fun r s₁ hr => ?_
  cases r with
  | error e => exact hr
  | ok fl =>
    cases fl with
    | ret x =>
      obtain ⟨rfl, rfl⟩ := hr
      have hS : (s.heap.push (nilSet w)).get? s.heap.objs.size = some (nilSet w) := Heap.get?_push_size _ rfl
      have hT : Shared.TypeIs { s with heap := s.heap.push (nilSet w) } (.ref s.heap.objs.size) "set" := ⟨_, hS, rfl⟩
      have hli := F.called_set.init.lookup
      have hbi := F.called_set.init.bind (.ref s.heap.objs.size)
      repeat (any_goals (first | assumption | wp_step))
      refine codeAny_mono (codeAny_call_builtin (R := wants (fun r s₂ => r = .none ∧ ∃ h' tk, s₂ = { s with heap := h', toks := tk } ∧ SetM w h' s.heap.objs.size ks ks.length ∧
          (∀ b o, s.heap.get? b = some o → h'.get? b = some o)) E) F.called_set.init.plain F.entry_set_init (check_set_init_1 hT ?_)) fun r₂ s₂ hr₂ => ?_
      · obtain ⟨ol, hol, hcl, nl, hdl⟩ := hl
        obtain ⟨ocls, odict, odata, oslots⟩ := ol
        simp only at hcl hdl
        subst hcl; subst hdl
        have hol' : (s.heap.push (nilSet w)).get? l = some { cls := .type "list", dict := odict, data := .seq xs nl, slots := oslots } := Heap.get?_push_of_some _ hol
        have hsls := F.sub_list_set
        have hslf := F.sub_list_frozenset
        have hne : (Value.type "list" == Value.type "dict") = false := by decide
        have hl1 : (s.heap.push (nilSet w)).IsList l xs := ⟨_, hol', rfl, nl, rfl⟩
        unfold Builtin.«set.__init__» noKeywords Builtin.Frozenset.updateFrom
        generalize hPI : pyIter = PI
        wp_walk
        subst hPI
        refine wpAny_pyIter_list hl1 (wpAny_bind (wpAny_runValue ?_))
        have lS : l < s.heap.objs.size := Heap.lt_size hol
        have hh3 : A.in1.in1.in1.handled = none := by simp [hh]
        have lI : l ≠ (s.heap.push (nilSet w)).objs.size := by
          rw [Heap.size_push]
          exact Nat.ne_of_lt (Nat.lt_succ_of_lt lS)
        have nf : s.heap.objs.size ∉ [(s.heap.push (nilSet w)).objs.size, l] := by
          rw [Heap.size_push]
          simp only [List.mem_cons, List.mem_singleton, List.not_mem_nil, or_false, not_or]
          exact ⟨Nat.ne_of_lt (Nat.lt_succ_self _), Nat.ne_of_gt lS⟩
        refine updM ((Walks.list hh3 _ l lI xs).toS) s.heap.objs.size nf ks len hb hk (xs.size - 0) 0 _ (by omega) (Nat.zero_le _)
          ⟨⟨_, Heap.get?_push_size _ rfl, rfl, rfl⟩, hl1.push _⟩ (freshM (Heap.get?_push_of_some _ hS)) fun s' mv M => ?_
        obtain ⟨h', g2, d', tk', os'⟩ := s'
        have eg : g2 = s.gens := mv.gens
        have ed : d' = s.drawn := mv.drawn
        have eo : os' = s.os := mv.os
        subst eg; subst ed; subst eo
        refine wpAny_pure ?_
        show wpAny _ _ (ret Value.none) _ _ _
        rw [len] at M
        refine wpAny_pure ⟨rfl, h', tk', rfl, M, fun b o e => ?_⟩
        have b0 : b < s.heap.objs.size := Heap.lt_size e
        refine mv.heap b o ?_ (Heap.get?_push_of_some _ (Heap.get?_push_of_some _ e))
        simp only [List.mem_cons, List.mem_singleton, List.not_mem_nil, or_false, not_or]
        refine ⟨Nat.ne_of_lt b0, ?_⟩
        rw [Heap.size_push]
        exact Nat.ne_of_lt (Nat.lt_succ_of_lt b0)
      · cases r₂ with
        | error e => exact hr₂
        | ok fl₂ =>
          cases fl₂ with
          | ret r =>
            obtain ⟨rfl, h', tk, rfl, M, hk'⟩ := hr₂
            repeat (any_goals (first | assumption | wp_step))
            exact h _ _ M hk'
          | _ => exact hr₂.elim
    | _ => exact hr.elim
end
end DZ

namespace DZ
open PySem PySem.Spec PyProof.Rows L2 SrtO
section
variable {P : Program} {w : World} {A : Around} {E : Value → Shared → Prop} {s : Shared}
theorem call_set_tuple {l : Addr} {xs : Array Value} (ks : List Key) {Q : Value → Shared → Prop} (hh : A.handled = none) (hl : s.heap.IsTuple l xs) (len : xs.size = ks.length) (hk : ∀ (i : Nat) (v : Value), xs[i]? = some v → ∃ k, ks[i]? = some k ∧ keyIs k v = true) (hb : ks.length + 1 < scanBound)
    (h : ∀ (h' : Heap) (tk : Nat), SetM w h' s.heap.objs.size ks ks.length → (∀ b o, s.heap.get? b = some o → h'.get? b = some o) → Q (.ref s.heap.objs.size) { s with heap := h', toks := tk }) :
    wpAny (model P w) A (call (.type "set") [.ref l]) Q E s := by
  obtain ⟨c, tl, hmro⟩ := F.called_set.mro
  have hmade := F.called_set.made
  have hsub := F.called_set.sub
  refine wpAny_call (codeAny_of_tree ?_)
  show wpAny _ _ (callAny (.type "set") _) _ _ _
  refine wpAny_pure ⟨Code.quiet_builtin _ (by decide +kernel), codeAny_builtin F.entry_type_call ?_⟩
  rw [Around.under_plain (weight_type_call_type "set" [.ref l] []) rfl]
  have h1 := F.called_set.notType
  have h2 := F.called_set.canCreate
  have hct := F.typeCall_set_1 (.ref l)
  repeat (any_goals (first | assumption | wp_step))
  refine codeAny_mono (code_set_led1 (.ref l) (E := E) (Q₁ := fun x s₁ => x = .ref s.heap.objs.size ∧ s₁ = { s with heap := s.heap.push (nilSet w) }) ⟨rfl, rfl⟩) fun r s₁ hr => ?_
  cases r with
  | error e => exact hr
  | ok fl =>
    cases fl with
    | ret x =>
      obtain ⟨rfl, rfl⟩ := hr
      have hS : (s.heap.push (nilSet w)).get? s.heap.objs.size = some (nilSet w) := Heap.get?_push_size _ rfl
      have hT : Shared.TypeIs { s with heap := s.heap.push (nilSet w) } (.ref s.heap.objs.size) "set" := ⟨_, hS, rfl⟩
      have hli := F.called_set.init.lookup
      have hbi := F.called_set.init.bind (.ref s.heap.objs.size)
      repeat (any_goals (first | assumption | wp_step))
      refine codeAny_mono (codeAny_call_builtin (R := wants (fun r s₂ => r = .none ∧ ∃ h' tk, s₂ = { s with heap := h', toks := tk } ∧ SetM w h' s.heap.objs.size ks ks.length ∧
          (∀ b o, s.heap.get? b = some o → h'.get? b = some o)) E) F.called_set.init.plain F.entry_set_init (check_set_init_1 hT ?_)) fun r₂ s₂ hr₂ => ?_
      · obtain ⟨ol, hol, hcl, nl, hdl⟩ := hl
        obtain ⟨ocls, odict, odata, oslots⟩ := ol
        simp only at hcl hdl
        subst hcl; subst hdl
        have hol' : (s.heap.push (nilSet w)).get? l = some { cls := .type "tuple", dict := odict, data := .seq xs nl, slots := oslots } := Heap.get?_push_of_some _ hol
        have hsls := F.sub_tuple_set
        have hslf := F.sub_tuple_frozenset
        have hne : (Value.type "tuple" == Value.type "dict") = false := by decide
        have hl1 : (s.heap.push (nilSet w)).IsTuple l xs := ⟨_, hol', rfl, nl, rfl⟩
        unfold Builtin.«set.__init__» noKeywords Builtin.Frozenset.updateFrom
        generalize hPI : pyIter = PI
        wp_walk
        subst hPI
        refine wpAny_pyIter_tuple hl1 (wpAny_bind (wpAny_runValue ?_))
        have lS : l < s.heap.objs.size := Heap.lt_size hol
        have hh3 : A.in1.in1.in1.handled = none := by simp [hh]
        have lI : l ≠ (s.heap.push (nilSet w)).objs.size := by
          rw [Heap.size_push]
          exact Nat.ne_of_lt (Nat.lt_succ_of_lt lS)
        have nf : s.heap.objs.size ∉ [(s.heap.push (nilSet w)).objs.size, l] := by
          rw [Heap.size_push]
          simp only [List.mem_cons, List.mem_singleton, List.not_mem_nil, or_false, not_or]
          exact ⟨Nat.ne_of_lt (Nat.lt_succ_self _), Nat.ne_of_gt lS⟩
        refine updM ((Walks.tuple hh3 _ l lI xs).toS) s.heap.objs.size nf ks len hb hk (xs.size - 0) 0 _ (by omega) (Nat.zero_le _)
          ⟨⟨_, Heap.get?_push_size _ rfl, rfl, rfl⟩, hl1.push _⟩ (freshM (Heap.get?_push_of_some _ hS)) fun s' mv M => ?_
        obtain ⟨h', g2, d', tk', os'⟩ := s'
        have eg : g2 = s.gens := mv.gens
        have ed : d' = s.drawn := mv.drawn
        have eo : os' = s.os := mv.os
        subst eg; subst ed; subst eo
        refine wpAny_pure ?_
        show wpAny _ _ (ret Value.none) _ _ _
        rw [len] at M
        refine wpAny_pure ⟨rfl, h', tk', rfl, M, fun b o e => ?_⟩
        have b0 : b < s.heap.objs.size := Heap.lt_size e
        refine mv.heap b o ?_ (Heap.get?_push_of_some _ (Heap.get?_push_of_some _ e))
        simp only [List.mem_cons, List.mem_singleton, List.not_mem_nil, or_false, not_or]
        refine ⟨Nat.ne_of_lt b0, ?_⟩
        rw [Heap.size_push]
        exact Nat.ne_of_lt (Nat.lt_succ_of_lt b0)
      · cases r₂ with
        | error e => exact hr₂
        | ok fl₂ =>
          cases fl₂ with
          | ret r =>
            obtain ⟨rfl, h', tk, rfl, M, hk'⟩ := hr₂
            repeat (any_goals (first | assumption | wp_step))
            exact h _ _ M hk'
          | _ => exact hr₂.elim
    | _ => exact hr.elim
end
end DZ

namespace DZ
open PySem PySem.Spec PyProof.Rows L2 SrtO
/-! ### the order of keys and of rows of keys -/
def ltK : Key → Key → Bool
  | .inl i, .inl j => decide (i < j)
  | .inr x, .inr y => decide (x.cps.toList < y.cps.toList)
  | .inl _, .inr _ => true
  | .inr _, .inl _ => false
theorem ltK_irr (x : Key) : ltK x x = false := by
  cases x with
  | inl i => simp [ltK]
  | inr x => simp [ltK, List.lt_irrefl]
theorem str_ext {x y : Str} (h : x.cps.toList = y.cps.toList) : x = y := by
  cases x; cases y
  simp at h
  simp [h]
theorem ltK_tri {x y : Key} (h1 : ltK x y = false) (h2 : ltK y x = false) : x = y := by
  cases x with
  | inl i =>
    cases y with
    | inl j =>
      simp [ltK] at h1 h2
      rw [show i = j from by omega]
    | inr y => simp [ltK] at h1
  | inr x =>
    cases y with
    | inl j => simp [ltK] at h2
    | inr y =>
      simp only [ltK, decide_eq_false_iff_not] at h1 h2
      rw [str_ext (List.le_antisymm (List.not_lt.mp h2) (List.not_lt.mp h1))]
theorem ltK_tr {x y z : Key} (h1 : ltK x y = true) (h2 : ltK y z = true) : ltK x z = true := by
  cases x with
  | inl i =>
    cases y with
    | inl j =>
      cases z with
      | inl k =>
        simp [ltK] at h1 h2 ⊢
        omega
      | inr z => rfl
    | inr y =>
      cases z with
      | inl k => simp [ltK] at h2
      | inr z => rfl
  | inr x =>
    cases y with
    | inl j => simp [ltK] at h1
    | inr y =>
      cases z with
      | inl k => simp [ltK] at h2
      | inr z =>
        simp only [ltK, decide_eq_true_eq] at *
        exact List.lt_trans h1 h2
/-- rows, the first unlike place telling -/
def ltR : List Key → List Key → Bool
  | _, [] => false
  | [], _ :: _ => true
  | x :: xs, y :: ys => if x = y then ltR xs ys else ltK x y
theorem ltR_irr : ∀ xs : List Key, ltR xs xs = false
  | [] => rfl
  | x :: xs => by rw [ltR, if_pos rfl, ltR_irr xs]
theorem ltR_tri : ∀ {xs ys : List Key}, ltR xs ys = false → ltR ys xs = false → xs = ys
  | [], [], _, _ => rfl
  | [], _ :: _, h, _ => by simp [ltR] at h
  | _ :: _, [], _, h => by simp [ltR] at h
  | x :: xs, y :: ys, h1, h2 => by
    unfold ltR at h1 h2
    by_cases e : x = y
    · subst e
      rw [if_pos rfl] at h1 h2
      rw [ltR_tri h1 h2]
    · rw [if_neg e] at h1
      rw [if_neg (fun z => e z.symm)] at h2
      exact absurd (ltK_tri h1 h2) e
theorem ltR_tr : ∀ {xs ys zs : List Key}, ltR xs ys = true → ltR ys zs = true → ltR xs zs = true
  | _, [], _, h, _ => by simp [ltR] at h
  | _, _ :: _, [], _, h => by simp [ltR] at h
  | [], y :: ys, z :: zs, _, _ => rfl
  | x :: xs, y :: ys, z :: zs, h1, h2 => by
    unfold ltR at h1 h2 ⊢
    by_cases e : x = y
    · subst e
      rw [if_pos rfl] at h1
      by_cases f : x = z
      · subst f
        rw [if_pos rfl] at h2 ⊢
        exact ltR_tr h1 h2
      · rw [if_neg f] at h2 ⊢
        exact h2
    · rw [if_neg e] at h1
      by_cases f : y = z
      · subst f
        rw [if_neg e]
        exact h1
      · rw [if_neg f] at h2
        have t := ltK_tr h1 h2
        rw [if_neg (fun q => by subst q; rw [ltK_irr] at t; cases t)]
        exact t
theorem swoR {α : Type} (k : α → List Key) : Swo fun u v => ltR (k u) (k v) := by
  refine ⟨fun x y h => ?_, fun x y z h1 h2 => ?_⟩
  · cases e : ltR (k y) (k x) with
    | false => rfl
    | true =>
      have t := ltR_tr h e
      rw [ltR_irr] at t
      cases t
  · cases e : ltR (k z) (k x) with
    | false => rfl
    | true =>
      cases f : ltR (k x) (k y) with
      | true =>
        have t := ltR_tr e f
        rw [h2] at t
        cases t
      | false =>
        rw [ltR_tri f h1, h2] at e
        cases e
/-! ### sorted, behind the gathering -/
section
variable {P : Program} {w : World} {A : Around} {E : Value → Shared → Prop} {s : Shared}
def Rdy (P : Program) (w : World) (A : Around) (Q : Value → Shared → Prop) (vs : List Value) (s1 : Shared) : Prop :=
  vs.length ≤ sizeLine ∧ ∃ ltv, Swo ltv ∧ (2 ≤ vs.length → ∀ (h₁ : Heap) (a : Addr), h₁.get? a = some (seqObj "list" vs.toArray 0) → (∀ b o, s1.heap.get? b = some o → b ≠ a ∧ h₁.get? b = some o) → SortableO P w A.in1.in1 { s1 with heap := h₁ } a vs ltv) ∧
    ∀ (h' : Heap) (p : Addr) (c : Nat) (out : List Value), (∀ b o, s1.heap.get? b = some o → h'.get? b = some o) → s1.heap.objs.size ≤ p → h'.get? p = some (seqObj "list" out.toArray c) → Srtd ltv out → Stb ltv out vs → Q (.ref p) { s1 with heap := h' }
theorem sortedV {v : Value} {Q : Value → Shared → Prop} (hc : wpAny (model P w) A.in1 (collect v) (Rdy P w A Q) E s) : wpAny (model P w) A (call (.builtin "sorted") [v]) Q E s := by
  refine Calls.call_function_entry kind_sorted plain_sorted entry_sorted (args_sorted1 _) ?_
  unfold Builtin.«sorted»
  refine wpAny_bind (m := checkCount "sorted" 1 1 _) (wpAny_pure ?_)
  refine wpAny_bind (wpAny_mono hc (fun vs s1 q => ?_) fun _ _ e => e)
  obtain ⟨hz, ltv, O, hS, fin⟩ := q
  refine wpAny_bind (wpAny_newList ?_ hz)
  have hoL : (s1.heap.push (seqObj "list" vs.toArray 0)).get? s1.heap.objs.size = some (seqObj "list" vs.toArray 0) := Heap.get?_push_size _ rfl
  have keep : ∀ b o, s1.heap.get? b = some o → b ≠ s1.heap.objs.size ∧ (s1.heap.push (seqObj "list" vs.toArray 0)).get? b = some o := fun b o e => ⟨Nat.ne_of_lt (Heap.lt_size e), Heap.get?_push_of_some _ e⟩
  refine wpAny_bind (wpAny_holding (wpAny_call_entry slot_list_sort ⟨_, hoL, rfl⟩ entry_list_sort (list_sort_ord O hoL hz (fun h2 => hS h2 _ _ hoL keep) fun out hs hb => ⟨_, rfl, ?_⟩) (args_list_sort _)))
  obtain ⟨c, hc⟩ := sortedHeap_at (vs := vs) (out := out.toArray) hoL
  refine wpAny_pure ⟨_, rfl, fin _ s1.heap.objs.size c out (fun b u e => ?_) (Nat.le_refl _) hc hs hb⟩
  have lt := Heap.lt_size e
  show (sortedHeap (s1.heap.push (seqObj "list" vs.toArray 0)) s1.heap.objs.size vs out.toArray).get? b = some u
  rw [sortedHeap_old (Nat.ne_of_lt lt) (by rw [size_push']; exact Nat.lt_succ_of_lt lt)]
  exact Heap.get?_push_of_some _ e
/-! ### what can be sorted -/
/-- all ints, or all texts -/
def Hom (vs : List Value) : Prop := (∀ v ∈ vs, ∃ i t, v = Value.int i t) ∨ (∀ v ∈ vs, ∃ x t, v = Value.str x t)
theorem ints_list : ∀ {vs : List Value}, (∀ v ∈ vs, ∃ i t, v = Value.int i t) → ∃ ns, IntsAre vs ns
  | [], _ => ⟨[], .nil⟩
  | v :: vs, h => by
    obtain ⟨i, t, rfl⟩ := h v List.mem_cons_self
    obtain ⟨ns, r⟩ := ints_list fun u m => h u (List.mem_cons_of_mem _ m)
    exact ⟨_, .cons i t r⟩
theorem strs_list : ∀ {vs : List Value}, (∀ v ∈ vs, ∃ x t, v = Value.str x t) → ∃ ss, StrsAre vs ss
  | [], _ => ⟨[], .nil⟩
  | v :: vs, h => by
    obtain ⟨x, t, rfl⟩ := h v List.mem_cons_self
    obtain ⟨ss, r⟩ := strs_list fun u m => h u (List.mem_cons_of_mem _ m)
    exact ⟨_, .cons x t r⟩
theorem sortable_keys {a : Addr} {vs : List Value} (hm : Hom vs) (h2 : 2 ≤ vs.length) : SortableO P w A s a vs fun u v => ltR [kOf u] [kOf v] := by
  intro h' _
  have e1 : ∀ x y : Key, ltR [x] [y] = ltK x y := fun x y => by
    show (if x = y then false else ltK x y) = ltK x y
    by_cases e : x = y
    · subst e
      rw [if_pos rfl, ltK_irr]
    · rw [if_neg e]
  refine ⟨oneType', fun Q E hq => ?_, fun p q hp hq => ?_⟩
  · match vs, hm, h2 with
    | v1 :: v2 :: rest, hm, _ =>
      rcases hm with hm | hm
      · obtain ⟨ns, hI⟩ := ints_list hm
        rw [keyKind_ints hI]
        exact wpAny_pure hq
      · obtain ⟨ss, hI⟩ := strs_list hm
        rw [keyKind_strs hI]
        exact wpAny_pure hq
    | [], _, h => exact absurd h (by decide)
    | [v], _, h => exact absurd h (by simp)
  · show wpAny (model P w) A (keyLt' oneType' p.1 q.1) (fun r s' => s' = _ ∧ r = ltR [kOf p.1] [kOf q.1]) (fun _ _ => False) _
    rw [e1]
    rcases hm with hm | hm
    · obtain ⟨i, t, ei⟩ := hm _ hp
      obtain ⟨j, u, ej⟩ := hm _ hq
      rw [ei, ej, keyLt'_oneType]
      exact oneLt_int ⟨rfl, rfl⟩
    · obtain ⟨i, t, ei⟩ := hm _ hp
      obtain ⟨j, u, ej⟩ := hm _ hq
      rw [ei, ej, keyLt'_oneType]
      exact oneLt_str ⟨rfl, rfl⟩
/-! ### rows of keys -/
def KsAre : List Key → List Value → Prop
  | [], vs => vs = []
  | k :: ks, vs => ∃ v r, vs = v :: r ∧ keyIs k v = true ∧ KsAre ks r
/-- the tuple of keys at v -/
def Flat (h : Heap) (v : Value) (ks : List Key) : Prop := ∃ a o xs n, v = .ref a ∧ h.get? a = some o ∧ o.cls = .type "tuple" ∧ o.data = .seq xs n ∧ KsAre ks xs.toList
theorem KsAre.len : ∀ {ks : List Key} {vs : List Value}, KsAre ks vs → ks.length = vs.length
  | [], vs, h => by
    subst h
    rfl
  | k :: ks, vs, ⟨v, r, e, _, q⟩ => by
    subst e
    rw [List.length_cons, List.length_cons, q.len]
def sortK : Key → Bool
  | .inl _ => true
  | .inr _ => false
theorem one_lt {k k' : Key} {v v' : Value} {b : Bool} {Q : Bool → Shared → Prop} (h : keyIs k v = true) (h' : keyIs k' v' = true) (hs : sortK k = sortK k') (q : Q (ltK k k') s) : wpAny (model P w) A (oneLt' b v v') Q E s := by
  rcases keyIs_shape h with ⟨i, t, rfl, rfl⟩ | ⟨x, t, rfl, rfl⟩
  · rcases keyIs_shape h' with ⟨j, u, rfl, rfl⟩ | ⟨y, u, rfl, rfl⟩
    · cases b with
      | true => exact oneLt_int q
      | false => exact PySem.W.kat_one _ _ (PyProof.Rows.lt_int q)
    · cases hs
  · rcases keyIs_shape h' with ⟨j, u, rfl, rfl⟩ | ⟨y, u, rfl, rfl⟩
    · cases hs
    · cases b with
      | true => exact oneLt_str q
      | false => exact PySem.W.kat_one _ _ (PyProof.Rows.lt_str q)
theorem lex_keys {b : Bool} : ∀ {ks ks' : List Key} {vs vs' : List Value} {i : Nat} {Q : Bool → Shared → Prop}, KsAre ks vs → KsAre ks' vs' → ks.map sortK = ks'.map sortK → Q (ltR ks ks') s →
    PySem.W.KatLex P w A b (decide (ks.length + i < ks'.length + i)) Q (vs.zip vs') i s
  | [], [], vs, vs', i, Q, h, h', _, q => by
    obtain rfl : vs = [] := h
    refine PySem.W.kat_nil ?_
    rw [show decide (([] : List Key).length + i < ([] : List Key).length + i) = false from decide_eq_false (Nat.lt_irrefl _)]
    exact q
  | [], _ :: _, _, _, _, _, _, _, e, _ => by cases e
  | _ :: _, [], _, _, _, _, _, _, e, _ => by cases e
  | k :: ks, k' :: ks', vs, vs', i, Q, ⟨v, r, e, hk, hr⟩, ⟨v', r', e', hk', hr'⟩, hs, q => by
    subst e e'
    rw [List.map_cons, List.map_cons, List.cons.injEq] at hs
    refine PySem.W.kat_cons ((mixKind P w).eqBool (a := k) (b := k') hk hk' ?_)
    have ef : decide ((k :: ks).length + i < (k' :: ks').length + i) = decide (ks.length + (i + 1) < ks'.length + (i + 1)) := by
      rw [List.length_cons, List.length_cons]
      exact decide_eq_decide.mpr (by omega)
    unfold ltR at q
    by_cases c : k = k'
    · rw [if_pos c] at q
      rw [decide_eq_true c, ef]
      exact PySem.W.kat_yes (lex_keys hr hr' hs.2 q)
    · rw [if_neg c] at q
      rw [decide_eq_false c]
      exact PySem.W.kat_no (one_lt hk hk' hs.1 q)
theorem tups_of {h : Heap} {kf : Value → List Key} {sh : List Bool} : ∀ {vs : List Value}, (∀ v ∈ vs, Flat h v (kf v) ∧ (kf v).map sortK = sh) → sh ≠ [] → ∃ fs : List Value, PySem.W.KatTups h vs fs ∧ fs.length = vs.length ∧
    ((∀ f ∈ fs, ∃ x t, f = Value.int x t) ∨ ∀ f ∈ fs, ∃ x t, f = Value.str x t)
  | [], _, _ => ⟨[], .nil, rfl, .inl fun f m => by cases m⟩
  | v :: vs, hv, hne => by
    obtain ⟨fs, t, l, c⟩ := tups_of (fun u m => hv u (List.mem_cons_of_mem _ m)) hne
    obtain ⟨⟨a, o, xs, n, ev, ho, hc, hd, ka⟩, es⟩ := hv v List.mem_cons_self
    cases ek : kf v with
    | nil =>
      rw [ek] at es
      exact absurd es.symm hne
    | cons k ks =>
      rw [ek] at ka es
      obtain ⟨f, r, ex, hk, _⟩ := ka
      have x0 : xs[0]? = some f := by
        rw [← Array.getElem?_toList, ex]
        rfl
      subst ev
      refine ⟨f :: fs, .cons ho hc hd x0 t, by rw [List.length_cons, List.length_cons, l], ?_⟩
      -- the kind of the first is told by sh
      match sh, es, hv with
      | b :: sh', es, hv =>
        have eb : sortK k = b := (List.cons.inj es).1
        have allk : ∀ u ∈ vs, ∃ k' r', kf u = k' :: r' ∧ sortK k' = b := fun u m => by
          have z := (hv u (List.mem_cons_of_mem _ m)).2
          cases e2 : kf u with
          | nil =>
            rw [e2] at z
            cases z
          | cons k' r' =>
            rw [e2] at z
            exact ⟨k', r', rfl, (List.cons.inj z).1⟩
        have fst : ∀ (us gs : List Value), (∀ u ∈ us, Flat h u (kf u) ∧ ∃ k' r', kf u = k' :: r' ∧ sortK k' = b) → PySem.W.KatTups h us gs → ∀ g ∈ gs, (b = true → ∃ x t, g = Value.int x t) ∧ (b = false → ∃ x t, g = Value.str x t) := by
          intro us
          induction us with
          | nil =>
            intro gs _ T g m
            cases gs with
            | nil => cases m
            | cons g' gs => exact T.elim
          | cons u us ih =>
            intro gs hu T g m
            cases gs with
            | nil => exact T.elim
            | cons g' gs =>
              obtain ⟨⟨a1, o1, ys, n1, e1, ho1, hc1, hd1, y0⟩, T'⟩ := T
              rcases List.mem_cons.mp m with m | m
              · obtain ⟨⟨a2, o2, zs, n2, e2, ho2, hc2, hd2, ka2⟩, k', r', ek', sk⟩ := hu u List.mem_cons_self
                rw [ek'] at ka2
                obtain ⟨f2, r2, ez, hk2, _⟩ := ka2
                have ea : a1 = a2 := by
                  have z := e1.symm.trans e2
                  injection z
                subst ea
                rw [ho1] at ho2
                obtain rfl := Option.some.inj ho2
                rw [hd1] at hd2
                injection hd2 with q1 q2
                subst q1
                have z0 : ys[0]? = some f2 := by
                  rw [← Array.getElem?_toList, ez]
                  rfl
                rw [y0] at z0
                obtain rfl := Option.some.inj z0
                subst m
                rcases keyIs_shape hk2 with ⟨i, t, e3, e4⟩ | ⟨x, t, e3, e4⟩
                · subst e3
                  exact ⟨fun _ => ⟨i, t, e4⟩, fun z => by rw [← sk] at z; cases z⟩
                · subst e3
                  exact ⟨fun z => (by rw [← sk] at z; cases z), fun _ => ⟨x, t, e4⟩⟩
              · exact ih gs (fun u m => hu u (List.mem_cons_of_mem _ m)) T' g m
        have all := fst (.ref a :: vs) (f :: fs) (fun u m => ⟨(hv u m).1, by
          rcases List.mem_cons.mp m with m | m
          · exact ⟨k, ks, m ▸ ek, eb⟩
          · exact allk u m⟩) (.cons ho hc hd x0 t)
        cases b with
        | true => exact .inl fun g m => (all g m).1 rfl
        | false => exact .inr fun g m => (all g m).2 rfl
theorem sortable_rows {a : Addr} {vs : List Value} {kf : Value → List Key} {sh : List Bool} (hne : sh ≠ []) (hv : ∀ v ∈ vs, Flat s.heap v (kf v) ∧ (kf v).map sortK = sh) (h2 : 2 ≤ vs.length)
    (ha : ∀ o, s.heap.get? a = some o → o.cls ≠ .type "tuple") : SortableO P w A s a vs fun u v => ltR (kf u) (kf v) := by
  intro h' keep
  have hv' : ∀ v ∈ vs, Flat h' v (kf v) ∧ (kf v).map sortK = sh := fun v m => by
    obtain ⟨⟨b, o, xs, n, e, ho, hc, r1, r2⟩, q⟩ := hv v m
    exact ⟨⟨b, o, xs, n, e, keep b o (fun z => by subst z; exact ha o ho hc) ho, hc, r1, r2⟩, q⟩
  obtain ⟨fs, t, l, c⟩ := tups_of hv' hne
  refine ⟨tuples' true, fun Q E hq => ?_, fun p q hp hq => ?_⟩
  · have hl : 0 < fs.length := by omega
    rcases c with c | c
    · refine PySem.W.kat_kind (T := .type "int") t hl (fun f m => ?_) (by rfl) ?_
      · obtain ⟨x, u, rfl⟩ := c f m
        exact PySem.W.Looks.now
      · rw [show (Value.type "int" != Value.type "tuple") = true from by decide]
        exact hq
    · refine PySem.W.kat_kind (T := .type "str") t hl (fun f m => ?_) (by rfl) ?_
      · obtain ⟨x, u, rfl⟩ := c f m
        exact PySem.W.Looks.now
      · rw [show (Value.type "str" != Value.type "tuple") = true from by decide]
        exact hq
  · obtain ⟨⟨a1, o1, xs1, n1, e1, ho1, hc1, hd1, k1⟩, s1⟩ := hv' _ hp
    obtain ⟨⟨a2, o2, xs2, n2, e2, ho2, hc2, hd2, k2⟩, s2⟩ := hv' _ hq
    show wpAny (model P w) A (keyLt' (tuples' true) p.1 q.1) (fun r s' => s' = _ ∧ r = ltR (kf p.1) (kf q.1)) (fun _ _ => False) _
    rw [e1] at k1 s1
    rw [e2] at k2 s2
    rw [e1, e2]
    refine PySem.W.kat_lt ho1 hd1 ho2 hd2 ?_
    have z := lex_keys (P := P) (w := w) (A := A) (s := { s with heap := h' }) (b := true) (i := 0) (Q := fun r s' => s' = { s with heap := h' } ∧ r = ltR (kf (.ref a1)) (kf (.ref a2))) k1 k2 (s1.trans s2.symm) ⟨rfl, rfl⟩
    rw [k1.len, k2.len, Array.length_toList, Array.length_toList] at z
    exact z
end
end DZ

namespace DL
open PySem PySem.Spec PyProof.Rows L2 SrtO DZ
variable {T : LT}
/-! ### the order of deep values -/
def ltA : D → D → Bool
  | .int i, .int j => decide (i < j)
  | .str s, .str t => strLt s t
  | _, _ => false
def eqA : D → D → Bool
  | .int i, .int j => decide (i = j)
  | .str s, .str t => decide (s = t)
  | _, _ => false
def ltT : List D → List D → Bool
  | _, [] => false
  | [], _ :: _ => true
  | x :: xs, y :: ys => if eqA x y = true then ltT xs ys else ltA x y
def ltD : D → D → Bool
  | .tup xs, .tup ys => ltT xs ys
  | x, y => ltA x y
def insD (x : D) : List D → List D
  | [] => [x]
  | y :: ys => if ltD y x = true then y :: insD x ys else x :: y :: ys
def sortD : List D → List D
  | [] => []
  | x :: xs => insD x (sortD xs)
/-- the kind of an atom -/
def atK : D → Option Bool
  | .int _ => some true
  | .str _ => some false
  | _ => none
def shK : List D → Option (List Bool)
  | [] => some []
  | x :: xs => match atK x, shK xs with
    | some b, some l => some (b :: l)
    | _, _ => none
/-- what can be sorted: all ints, all texts, all rows of one shape -/
def shD : D → Option (List Bool)
  | .tup [] => none
  | .tup (x :: xs) => (shK (x :: xs)).map (false :: ·)
  | .int _ => some [true, true]
  | .str _ => some [true, false]
  | _ => none
def homD : List D → Bool
  | [] => true
  | x :: xs => match shD x with
    | some l => xs.all fun y => decide (shD y = some l)
    | none => false
def keyA : D → Key
  | .int i => .inl i
  | .str s => .inr (S s)
  | _ => .inl 0
def rowD : D → List Key
  | .tup xs => xs.map keyA
  | x => [keyA x]
theorem atK_some {x : D} {b : Bool} (h : atK x = some b) : (∃ i, x = .int i ∧ b = true) ∨ (∃ s, x = .str s ∧ b = false) := by
  cases x with
  | int i => exact .inl ⟨i, rfl, (Option.some.inj h).symm⟩
  | str s => exact .inr ⟨s, rfl, (Option.some.inj h).symm⟩
  | _ => cases h
theorem ltA_key {x y : D} {b : Bool} (hx : atK x = some b) (hy : atK y = some b) : ltA x y = ltK (keyA x) (keyA y) ∧ (eqA x y = true ↔ keyA x = keyA y) ∧ (keyA x = keyA y → x = y) := by
  rcases atK_some hx with ⟨i, rfl, rfl⟩ | ⟨s, rfl, rfl⟩
  · rcases atK_some hy with ⟨j, rfl, _⟩ | ⟨t, rfl, c⟩
    · refine ⟨rfl, ?_, fun e => ?_⟩
      · show decide (i = j) = true ↔ (Sum.inl i : Key) = Sum.inl j
        rw [decide_eq_true_eq, Sum.inl.injEq]
      · rw [Sum.inl.inj (show (Sum.inl i : Key) = Sum.inl j from e)]
    · cases c
  · rcases atK_some hy with ⟨j, rfl, c⟩ | ⟨t, rfl, _⟩
    · cases c
    · refine ⟨?_, ?_, fun e => ?_⟩
      · show strLt s t = decide ((S s).cps.toList < (S t).cps.toList)
        rw [S_cps, S_cps] <;> rfl
      · show decide (s = t) = true ↔ (Sum.inr (S s) : Key) = Sum.inr (S t)
        rw [decide_eq_true_eq, Sum.inr.injEq]
        exact ⟨fun e => by rw [e], S_inj⟩
      · rw [S_inj (Sum.inr.inj (show (Sum.inr (S s) : Key) = Sum.inr (S t) from e))]
theorem shK_cons {x : D} {xs : List D} {l : List Bool} (h : shK (x :: xs) = some l) : ∃ b m, l = b :: m ∧ atK x = some b ∧ shK xs = some m := by
  unfold shK at h
  cases e1 : atK x with
  | none =>
    rw [e1] at h
    cases h
  | some b =>
    cases e2 : shK xs with
    | none =>
      rw [e1, e2] at h
      cases h
    | some m =>
      rw [e1, e2] at h
      exact ⟨b, m, (Option.some.inj h).symm, rfl, rfl⟩
theorem ltT_key : ∀ {xs ys : List D} {l : List Bool}, shK xs = some l → shK ys = some l → ltT xs ys = ltR (xs.map keyA) (ys.map keyA) ∧ (xs.map keyA = ys.map keyA → xs = ys)
  | [], [], _, _, _ => ⟨rfl, fun _ => rfl⟩
  | [], y :: ys, l, hx, hy => by
    obtain ⟨b, m, rfl, _, _⟩ := shK_cons hy
    cases hx
  | x :: xs, [], l, hx, hy => by
    obtain ⟨b, m, rfl, _, _⟩ := shK_cons hx
    cases hy
  | x :: xs, y :: ys, l, hx, hy => by
    obtain ⟨b, m, rfl, ax, sx⟩ := shK_cons hx
    obtain ⟨b', m', e, ay, sy⟩ := shK_cons hy
    cases e
    obtain ⟨h1, h2, h3⟩ := ltA_key ax ay
    obtain ⟨k1, k2⟩ := ltT_key sx sy
    refine ⟨?_, fun e => ?_⟩
    · rw [List.map_cons, List.map_cons]
      unfold ltT ltR
      by_cases c : keyA x = keyA y
      · rw [if_pos (h2.mpr c), if_pos c, k1]
      · rw [if_neg (fun z => c (h2.mp z)), if_neg c, h1]
    · rw [List.map_cons, List.map_cons, List.cons.injEq] at e
      rw [h3 e.1, k2 e.2]
theorem shD_cases {x : D} {l : List Bool} (h : shD x = some l) : (∃ y ys m, x = .tup (y :: ys) ∧ shK (y :: ys) = some m ∧ l = false :: m) ∨ (∃ b, atK x = some b ∧ l = [true, b]) := by
  cases x with
  | tup xs =>
    cases xs with
    | nil => cases h
    | cons y ys =>
      obtain ⟨m, e, rfl⟩ := Option.map_eq_some_iff.mp (show (shK (y :: ys)).map (false :: ·) = some l from h)
      exact .inl ⟨y, ys, m, rfl, e, rfl⟩
  | int i => exact .inr ⟨true, rfl, (Option.some.inj h).symm⟩
  | str s => exact .inr ⟨false, rfl, (Option.some.inj h).symm⟩
  | _ => cases h
theorem ltD_atoms {x y : D} {b c : Bool} (hx : atK x = some b) (hy : atK y = some c) : ltD x y = ltA x y ∧ rowD x = [keyA x] ∧ rowD y = [keyA y] := by
  rcases atK_some hx with ⟨i, rfl, rfl⟩ | ⟨s, rfl, rfl⟩ <;> rcases atK_some hy with ⟨j, rfl, rfl⟩ | ⟨t, rfl, rfl⟩ <;> exact ⟨rfl, rfl, rfl⟩
theorem ltR_one (x y : Key) : ltR [x] [y] = ltK x y := by
  show (if x = y then false else ltK x y) = ltK x y
  by_cases e : x = y
  · subst e
    rw [if_pos rfl, ltK_irr]
  · rw [if_neg e]
theorem ltD_row {x y : D} {l : List Bool} (hx : shD x = some l) (hy : shD y = some l) : ltD x y = ltR (rowD x) (rowD y) ∧ (rowD x = rowD y → x = y) := by
  rcases shD_cases hx with ⟨a, as, m, rfl, sa, rfl⟩ | ⟨b, ax, rfl⟩
  · rcases shD_cases hy with ⟨c, cs, n, rfl, sc, e⟩ | ⟨b, ax, e⟩
    · cases e
      obtain ⟨h1, h2⟩ := ltT_key sa sc
      exact ⟨h1, fun e => by rw [h2 e]⟩
    · cases e
  · rcases shD_cases hy with ⟨c, cs, n, rfl, sc, e⟩ | ⟨b', ay, e⟩
    · cases e
    · cases e
      obtain ⟨h1, h2, h3⟩ := ltA_key ax ay
      obtain ⟨k1, k2, k3⟩ := ltD_atoms ax ay
      rw [k1, k2, k3, ltR_one]
      exact ⟨h1, fun e => h3 (List.cons.inj e).1⟩
theorem homD_sh {xs : List D} (h : homD xs = true) : ∃ l, ∀ x ∈ xs, shD x = some l := by
  cases xs with
  | nil => exact ⟨[], fun x m => by cases m⟩
  | cons x xs =>
    cases e : shD x with
    | none =>
      simp only [homD, e] at h
      cases h
    | some l =>
      simp only [homD, e] at h
      refine ⟨l, fun y m => ?_⟩
      rcases List.mem_cons.mp m with m | m
      · rw [m, e]
      · exact of_decide_eq_true (List.all_eq_true.mp h y m)
/-! ### the sorted row -/
theorem insD_perm (x : D) : ∀ ys, (insD x ys).Perm (x :: ys)
  | [] => .refl _
  | y :: ys => by
    unfold insD
    split
    · exact ((insD_perm x ys).cons y).trans (List.Perm.swap x y ys)
    · exact .refl _
theorem sortD_perm : ∀ xs, (sortD xs).Perm xs
  | [] => .refl _
  | x :: xs => (insD_perm x _).trans ((sortD_perm xs).cons x)
def Rise (xs : List D) : Prop := xs.Pairwise fun x y => ltR (rowD y) (rowD x) = false
theorem insD_rise {l : List Bool} {x : D} (hx : shD x = some l) : ∀ {ys : List D}, (∀ y ∈ ys, shD y = some l) → Rise ys → Rise (insD x ys)
  | [], _, _ => List.pairwise_singleton _ _
  | y :: ys, hy, r => by
    obtain ⟨r1, r2⟩ := List.pairwise_cons.mp r
    have e := (ltD_row (hy y List.mem_cons_self) hx).1
    unfold insD
    by_cases c : ltD y x = true
    · rw [if_pos c]
      refine List.pairwise_cons.mpr ⟨fun z m => ?_, insD_rise hx (fun z m => hy z (List.mem_cons_of_mem _ m)) r2⟩
      rcases List.mem_cons.mp ((insD_perm x ys).mem_iff.mp m) with m | m
      · rw [m]
        exact (swoR rowD).asym y x (e ▸ c)
      · exact r1 z m
    · rw [if_neg c]
      have c' : ltR (rowD y) (rowD x) = false := by
        rw [← e]
        exact Bool.eq_false_iff.mpr c
      refine List.pairwise_cons.mpr ⟨fun z m => ?_, r⟩
      rcases List.mem_cons.mp m with m | m
      · rw [m]
        exact c'
      · exact (swoR rowD).tr x y z c' (r1 z m)
theorem sortD_rise {l : List Bool} : ∀ {xs : List D}, (∀ x ∈ xs, shD x = some l) → Rise (sortD xs)
  | [], _ => List.Pairwise.nil
  | x :: xs, h => insD_rise (h x List.mem_cons_self) (fun y m => h y (List.mem_cons_of_mem _ ((sortD_perm xs).mem_iff.mp m))) (sortD_rise fun y m => h y (List.mem_cons_of_mem _ m))
/-- a rising row is told by its members -/
theorem rise_eq {l : List Bool} : ∀ {xs ys : List D}, xs.Perm ys → (∀ x ∈ xs, shD x = some l) → Rise xs → Rise ys → xs = ys
  | [], ys, p, _, _, _ => (List.nil_perm.mp p).symm
  | x :: xs, [], p, _, _, _ => absurd p (fun z => by cases List.perm_nil.mp z)
  | x :: xs, y :: ys, p, h, rx, ry => by
    obtain ⟨x1, x2⟩ := List.pairwise_cons.mp rx
    obtain ⟨y1, y2⟩ := List.pairwise_cons.mp ry
    have mx : x ∈ y :: ys := p.mem_iff.mp List.mem_cons_self
    have my : y ∈ x :: xs := p.mem_iff.mpr List.mem_cons_self
    have e : x = y := by
      rcases List.mem_cons.mp mx with m | m
      · exact m
      rcases List.mem_cons.mp my with m' | m'
      · exact m'.symm
      exact (ltD_row (h x List.mem_cons_self) (h y my)).2 (ltR_tri (y1 x m) (x1 y m'))
    subst e
    rw [rise_eq ((List.perm_cons x).mp p) (fun z m => h z (List.mem_cons_of_mem _ m)) x2 y2]
/-! ### a permuted row of values -/
theorem perm_pull {α β : Type} {f : α → β} : ∀ {l m : List β}, l.Perm m → ∀ ps : List α, ps.map f = m → ∃ qs : List α, qs.Perm ps ∧ qs.map f = l := by
  intro l m p
  induction p with
  | nil => exact fun ps e => ⟨ps, .refl _, e⟩
  | cons x _ ih =>
    intro ps e
    match ps, e with
    | a :: as, e =>
      rw [List.map_cons, List.cons.injEq] at e
      obtain ⟨qs, q1, q2⟩ := ih as e.2
      exact ⟨a :: qs, q1.cons a, by rw [List.map_cons, q2, e.1]⟩
  | swap x y l =>
    intro ps e
    match ps, e with
    | a :: b :: as, e =>
      rw [List.map_cons, List.map_cons, List.cons.injEq, List.cons.injEq] at e
      exact ⟨b :: a :: as, List.Perm.swap a b as, by rw [List.map_cons, List.map_cons, e.1, e.2.1, e.2.2]⟩
  | trans _ _ ih1 ih2 =>
    intro ps e
    obtain ⟨qs, q1, q2⟩ := ih2 ps e
    obtain ⟨rs, r1, r2⟩ := ih1 qs q2
    exact ⟨rs, r1.trans q1, r2⟩
/-- the three rows as one -/
theorem triples {K : PySem.W.Frag} {F : FS} {H : Hp} : ∀ {ds : List D} {vs : List V} {us : List Value}, RelDs K F H ds vs → Vals vs us →
    ∃ ps : List (D × V × Value), ps.map (·.1) = ds ∧ ps.map (·.2.1) = vs ∧ ps.map (·.2.2) = us ∧ ∀ p ∈ ps, RelD K F H p.1 p.2.1 ∧ RelV p.2.1 p.2.2
  | [], _, _, r, h => by
    obtain rfl := r
    cases h
    exact ⟨[], rfl, rfl, rfl, fun p m => by cases m⟩
  | d :: ds, _, _, ⟨v, vs, rfl, r, rs⟩, h => by
    cases h with
    | cons h hs =>
      obtain ⟨ps, e1, e2, e3, q⟩ := triples rs hs
      refine ⟨(d, v, _) :: ps, by rw [List.map_cons, e1], by rw [List.map_cons, e2], by rw [List.map_cons, e3], fun p m => ?_⟩
      rcases List.mem_cons.mp m with m | m
      · rw [m]
        exact ⟨r, h⟩
      · exact q p m
theorem untriple {K : PySem.W.Frag} {F : FS} {H : Hp} : ∀ {ps : List (D × V × Value)}, (∀ p ∈ ps, RelD K F H p.1 p.2.1 ∧ RelV p.2.1 p.2.2) → RelDs K F H (ps.map (·.1)) (ps.map (·.2.1)) ∧ Vals (ps.map (·.2.1)) (ps.map (·.2.2))
  | [], _ => ⟨rfl, .nil⟩
  | p :: ps, h => by
    obtain ⟨r, k⟩ := untriple fun q m => h q (List.mem_cons_of_mem _ m)
    exact ⟨⟨_, _, rfl, (h p List.mem_cons_self).1, r⟩, .cons (h p List.mem_cons_self).2 k⟩
/-! ### the values' rows in the heap -/
theorem key_val {K : PySem.W.Frag} {F : FS} {H : Hp} {d : D} {b : Bool} {v : V} {u : Value} (h : atK d = some b) (r : RelD K F H d v) (q : RelV v u) : keyIs (keyA d) u = true := by
  rcases atK_some h with ⟨i, rfl, _⟩ | ⟨s, rfl, _⟩
  · rw [show v = _ from r] at q
    obtain ⟨t, rfl⟩ := q
    exact keyIs_int i t
  · rw [show v = _ from r] at q
    obtain ⟨t, rfl⟩ := q
    exact keyIs_str _ t
theorem keys_vals {K : PySem.W.Frag} {F : FS} {H : Hp} : ∀ {ds : List D} {l : List Bool} {vs : List V} {us : List Value}, shK ds = some l → RelDs K F H ds vs → Vals vs us → KsAre (ds.map keyA) us ∧ (ds.map keyA).map sortK = l
  | [], _, _, _, h, r, q => by
    obtain rfl := r
    cases q
    cases h
    exact ⟨rfl, rfl⟩
  | d :: ds, l, _, _, h, ⟨v, vs, rfl, r, rs⟩, q => by
    cases q with
    | cons q qs =>
      obtain ⟨b, m, rfl, a, s⟩ := shK_cons h
      obtain ⟨k1, k2⟩ := keys_vals s rs qs
      refine ⟨⟨_, _, rfl, key_val a r q, k1⟩, ?_⟩
      rw [List.map_cons, List.map_cons, k2]
      rcases atK_some a with ⟨i, rfl, rfl⟩ | ⟨t, rfl, rfl⟩ <;> rfl
theorem Flat.inj {h : Heap} {u : Value} {ks ks' : List Key} (x : Flat h u ks) (y : Flat h u ks') : ks = ks' := by
  obtain ⟨a, o, xs, n, e, ho, _, hd, k⟩ := x
  obtain ⟨a', o', xs', n', e', ho', _, hd', k'⟩ := y
  rw [e] at e'
  cases e'
  rw [ho] at ho'
  cases ho'
  rw [hd] at hd'
  injection hd' with q1 q2
  subst q1
  have all : ∀ {ks ks' : List Key} {vs : List Value}, KsAre ks vs → KsAre ks' vs → ks = ks' := by
    intro ks
    induction ks with
    | nil =>
      intro ks' vs k k'
      obtain rfl : vs = [] := k
      cases ks' with
      | nil => rfl
      | cons _ _ =>
        obtain ⟨_, _, e, _⟩ := k'
        cases e
    | cons c ks ih =>
      intro ks' vs ⟨v, r, e, hc, hr⟩ k'
      subst e
      cases ks' with
      | nil => cases k'
      | cons c' ks' =>
        obtain ⟨_, _, e, hc', hr'⟩ := k'
        cases e
        rw [ih hr hr', ← kOf_is hc, ← kOf_is hc']
  exact all k k'
open Classical in
noncomputable def kfH (h : Heap) (u : Value) : List Key := if e : ∃ ks, Flat h u ks then Classical.choose e else [kOf u]
theorem kfH_flat {h : Heap} {u : Value} {ks : List Key} (f : Flat h u ks) : kfH h u = ks := by
  have e : ∃ ks, Flat h u ks := ⟨ks, f⟩
  unfold kfH
  rw [dif_pos e]
  exact Flat.inj (Classical.choose_spec e) f
theorem kfH_key {h : Heap} {u : Value} {k : Key} (f : keyIs k u = true) : kfH h u = [k] := by
  have e : ¬ ∃ ks, Flat h u ks := by
    rintro ⟨ks, a, o, xs, n, e, _⟩
    rw [e] at f
    rcases keyIs_shape f with ⟨i, t, _, c⟩ | ⟨x, t, _, c⟩ <;> cases c
  unfold kfH
  rw [dif_neg e, kOf_is f]
theorem sortable_congr {P : Program} {w : World} {A : Around} {s : Shared} {a : Addr} {vs : List Value} {l1 l2 : Value → Value → Bool} (h : SortableO P w A s a vs l1) (e : ∀ u ∈ vs, ∀ v ∈ vs, l1 u v = l2 u v) : SortableO P w A s a vs l2 := by
  intro h' keep
  obtain ⟨κ, k1, k2⟩ := h h' keep
  refine ⟨κ, k1, fun p q hp hq => ?_⟩
  have z := k2 p q hp hq
  have e1 : lt2 l1 p q = lt2 l2 p q := e p.1 hp q.1 hq
  rw [e1] at z
  exact z
section
variable {X : Cx}
/-- a frozen tuple's object in the heap -/
theorem tup_flat {pins : List (Addr × Obj)} {σ : L2.St} {H : Hp} {s : Shared} {F : FS} {ds : List D} {m : List Bool} {v : V} {u : Value} (I : Inv X pins σ H s) (h : shK ds = some m) (r : RelD X.K F H (.tup ds) v) (q : RelV v u) : Flat s.heap u (ds.map keyA) ∧ (ds.map keyA).map sortK = m := by
  obtain ⟨a, vs, rfl, t, k⟩ := r
  obtain ⟨its, rv, ⟨o, ho, hc, n, hd⟩, _⟩ := I.tuple t.sq
  obtain ⟨k1, k2⟩ := keys_vals h k rv
  obtain rfl : u = Value.ref a := q
  exact ⟨⟨a, o, its.toArray, n, rfl, ho, hc, hd, k1⟩, k2⟩
/-- a row of deep values, gathered as us: it can be sorted, and its sorted row is that of sortD -/
theorem rdy_of {pins : List (Addr × Obj)} {σ : L2.St} {H : Hp} {s s1 : Shared} {F : FS} {G : DG} {ds : List D} {vs : List V} {us : List Value} {Q : VK} (hg : RelG X.K T F G H) (I : Inv X pins σ H s1)
    (r : RelDs X.K F H ds vs) (rv : Vals vs us) (hz : vs.length ≤ sizeLine) (hom : homD ds = true) (q : ∀ F' v H', Step F G H F' G H' → RelG X.K T F' G H' → RelD X.K F' H' (.lst (sortD ds)) v → Q v H') :
    Rdy X.prog X.w X.A (EP X pins σ Q) us s1 := by
  obtain ⟨l, hl⟩ := homD_sh hom
  obtain ⟨ps, p1, p2, p3, pr⟩ := triples r rv
  have len : us.length = vs.length := rv.length.symm
  -- what each value's row is
  have rows : ∀ p ∈ ps, kfH s1.heap p.2.2 = rowD p.1 := fun p m => by
    obtain ⟨rd, rq⟩ := pr p m
    have hs : shD p.1 = some l := hl p.1 (p1 ▸ List.mem_map.mpr ⟨p, m, rfl⟩)
    obtain ⟨d, v, u⟩ := p
    dsimp only at *
    rcases shD_cases hs with ⟨a, as, n, rfl, sa, _⟩ | ⟨b, ax, _⟩
    · exact kfH_flat (tup_flat I sa rd rq).1
    · rw [kfH_key (key_val ax rd rq), (ltD_atoms ax ax).2.1]
  refine ⟨by rw [len]; exact hz, fun u v => ltR (kfH s1.heap u) (kfH s1.heap v), swoR _, fun h2 h₁ a ha keep => ?_, fun h' p c out k hp hc hs hb => ?_⟩
  · -- the kinds
    match ds, hl, r, p1 with
    | [], _, r, _ =>
      obtain rfl := r
      rw [len] at h2
      exact absurd h2 (by decide)
    | d :: ds', hl, r, p1 =>
      have hd := hl d List.mem_cons_self
      have un : ∀ u ∈ us, ∃ p ∈ ps, p.2.2 = u := fun u m => by
        rw [← p3] at m
        obtain ⟨p, m, e⟩ := List.mem_map.mp m
        exact ⟨p, m, e⟩
      rcases shD_cases hd with ⟨y, ys, m, rfl, sy, rfl⟩ | ⟨b, ax, rfl⟩
      · refine sortable_rows (s := { s1 with heap := h₁ }) (kf := kfH s1.heap) (sh := m) (fun e => ?_) (fun u mu => ?_) h2 fun o e c => ?_
        · obtain ⟨b, n, e', _, _⟩ := shK_cons sy
          rw [e] at e'
          cases e'
        · obtain ⟨p, mp, rfl⟩ := un u mu
          obtain ⟨rd, rq⟩ := pr p mp
          have hs : shD p.1 = some (false :: m) := hl p.1 (by rw [← p1]; exact List.mem_map.mpr ⟨p, mp, rfl⟩)
          rw [rows p mp]
          rcases shD_cases hs with ⟨z, zs, n, ez, sz, e⟩ | ⟨b, _, e⟩
          · cases e
            rw [ez] at rd ⊢
            obtain ⟨⟨b, o, xs, k, e1, ho, hc, hd', ka⟩, f2⟩ := tup_flat I sz rd rq
            exact ⟨⟨b, o, xs, k, e1, (keep b o ho).2, hc, hd', ka⟩, f2⟩
          · cases e
        · have e' : some o = some (seqObj "list" us.toArray 0) := e.symm.trans ha
          cases e'
          exact absurd (Value.type.inj c) (by decide)
      · have at' : ∀ u ∈ us, ∃ p ∈ ps, p.2.2 = u ∧ atK p.1 = some b := fun u mu => by
          obtain ⟨p, mp, e⟩ := un u mu
          have hs : shD p.1 = some [true, b] := hl p.1 (by rw [← p1]; exact List.mem_map.mpr ⟨p, mp, rfl⟩)
          rcases shD_cases hs with ⟨z, zs, n, ez, sz, e⟩ | ⟨b', ab, e2⟩
          · cases e
          · cases e2
            exact ⟨p, mp, e, ab⟩
        refine sortable_congr (sortable_keys ?_ h2) fun u mu v mv => ?_
        · cases b with
          | true =>
            refine .inl fun u mu => ?_
            obtain ⟨p, mp, rfl, ap⟩ := at' u mu
            obtain ⟨rd, rq⟩ := pr p mp
            rcases atK_some ap with ⟨i, e, _⟩ | ⟨_, _, c⟩
            · rw [e] at rd
              rw [show p.2.1 = _ from rd] at rq
              obtain ⟨t, e⟩ := rq
              exact ⟨i, t, e⟩
            · cases c
          | false =>
            refine .inr fun u mu => ?_
            obtain ⟨p, mp, rfl, ap⟩ := at' u mu
            obtain ⟨rd, rq⟩ := pr p mp
            rcases atK_some ap with ⟨_, _, c⟩ | ⟨x, e, _⟩
            · cases c
            · rw [e] at rd
              rw [show p.2.1 = _ from rd] at rq
              obtain ⟨t, e⟩ := rq
              exact ⟨_, t, e⟩
        · obtain ⟨p, mp, rfl, ap⟩ := at' u mu
          obtain ⟨p', mp', rfl, ap'⟩ := at' v mv
          have k1 := key_val ap (pr p mp).1 (pr p mp).2
          have k2 := key_val ap' (pr p' mp').1 (pr p' mp').2
          show ltR [kOf p.2.2] [kOf p'.2.2] = ltR (kfH s1.heap p.2.2) (kfH s1.heap p'.2.2)
          rw [kfH_key k1, kfH_key k2, kOf_is k1, kOf_is k2]
  · -- the sorted row
    have pm : out.Perm (ps.map (·.2.2)) := by
      rw [p3]
      exact hb.perm
    obtain ⟨qs, q1, q2⟩ := perm_pull pm ps rfl
    have qr : ∀ p ∈ qs, RelD X.K F H p.1 p.2.1 ∧ RelV p.2.1 p.2.2 := fun p m => pr p (q1.mem_iff.mp m)
    have qrow : ∀ p ∈ qs, kfH s1.heap p.2.2 = rowD p.1 := fun p m => rows p (q1.mem_iff.mp m)
    have sh : ∀ x ∈ qs.map (·.1), shD x = some l := fun x m => by
      obtain ⟨p, mp, e⟩ := List.mem_map.mp m
      exact e ▸ hl p.1 (p1 ▸ List.mem_map.mpr ⟨p, q1.mem_iff.mp mp, rfl⟩)
    have rise : Rise (qs.map (·.1)) := by
      refine List.pairwise_map.mpr ?_
      rw [← q2] at hs
      refine (List.pairwise_map.mp hs).imp_of_mem fun {x y} mx my e => ?_
      have e : ltR (kfH s1.heap y.2.2) (kfH s1.heap x.2.2) = false := e
      rw [qrow x mx, qrow y my] at e
      exact e
    have eq : qs.map (·.1) = sortD ds := by
      refine rise_eq (l := l) ?_ sh rise (sortD_rise hl)
      have z := q1.map (·.1)
      rw [p1] at z
      exact z.trans (sortD_perm ds).symm
    obtain ⟨u1, u2⟩ := untriple qr
    rw [q2] at u2
    rw [eq] at u1
    have nf : H p = none := I.hok.fresh hp
    have l2 : (qs.map (·.2.1)).length ≤ sizeLine := by
      rw [List.length_map, q1.length_eq, ← List.length_map (f := fun p : D × V × Value => p.2.1), p2]
      exact hz
    refine ⟨.ref p, upd H p (.lst (qs.map (·.2.1))), I.laid (t' := s1.toks) k hp ⟨l2, out, c, u2, hc⟩, rfl, q _ _ _ (Step.new nf) (hg.new nf) (relD_newLst hg nf u1)⟩
end
end DL

namespace DZ
open PySem PySem.Spec PyProof.Rows L2 SrtO
section
variable {P : Program} {w : World} {A : Around} {E : Value → Shared → Prop} {s : Shared} {a : Addr}
theorem sub_dict_dict : isSubtype (.type "dict") (.type "dict") = pure true := by
  rw [isSubtype_type]
  kernel_rfl
/-- a dict's keys, gathered -/
theorem collect_dict {kvs : List (Key × Value)} {ep : Nat} {Q : List Value → Shared → Prop} (hh : A.handled = none) (hsys : (a == sysModules) = false) (dat : s.heap.DictAt (mixKind P w) a kvs ep) (hz : kvs.length ≤ sizeLine)
    (hQ : ∀ (h' : Heap) (tk : Nat) (out : List Value), (∀ b o, s.heap.get? b = some o → h'.get? b = some o) → out.length = kvs.length → (∀ (i : Nat) (k : Key) (x : Value), kvs[i]? = some (k, x) → ∃ v, out[i]? = some v ∧ keyIs k v = true) → Q out { s with heap := h', toks := tk }) :
    wpAny (model P w) A (collect (.ref a)) Q E s := by
  obtain ⟨o, es, ho, hex, hdat, hko, hpr, hnd⟩ := id dat
  have lt : a < s.heap.objs.size := Heap.lt_size ho
  have na : s.heap.objs.size ≠ a := Nat.ne_of_gt lt
  unfold collect
  refine wpAny_bind (wpAny_runValue (codeAny_builtin F.entry_proto_collect ?_))
  rw [Around.under_plainId F.plain_proto_collect _]
  show wpAny _ A.in1 (newList [] >>= fun l => again (.builtin "list.__iadd__" ⟨[l, .ref a], []⟩)) _ _ s
  refine wpAny_bind (wpAny_newObj_type (wpAny_pure ⟨plainId_quiet F.plain_list_iadd _, codeAny_builtin F.entry_list_iadd ?_⟩))
  rw [Around.under_plainId F.plain_list_iadd _]
  have hS : (s.heap.push { cls := .type "list", data := .seq ([] : List Value).toArray }).get? s.heap.objs.size = some { cls := .type "list", data := .seq ([] : List Value).toArray } := Heap.get?_push_size _ rfl
  have d1 : (s.heap.push { cls := .type "list", data := .seq ([] : List Value).toArray }).DictAt (mixKind P w) a kvs ep := dat.keep fun b u e => Heap.get?_push_of_some _ e
  have z1 : (s.heap.push { cls := .type "list", data := .seq ([] : List Value).toArray }).objs.size = s.heap.objs.size + 1 := size_push' _ _
  show wpAny _ A.in1 (Builtin.List.listExtendWith (.ref s.heap.objs.size) (.ref a) (.ref s.heap.objs.size)) _ _ _
  unfold Builtin.List.listExtendWith
  refine wpAny_bind (wpAny_typeOf (T := "dict") ⟨o, Heap.get?_push_of_some _ ho, hex.1⟩ ?_)
  have h1 : Builtin.List.listSameRef (.ref s.heap.objs.size) (.ref a) = false := by simp [Builtin.List.listSameRef, na]
  have h2 : (Value.type "dict" == Value.type "list") = false := by decide
  have h3 : (Value.type "dict" == Value.type "tuple") = false := by decide
  simp only [h1, h2, h3, Bool.or_false, Bool.false_eq_true, if_false]
  refine wpAny_bind (wpAny_pyIter_dict (s := { s with heap := s.heap.push { cls := .type "list", data := .seq ([] : List Value).toArray } }) (knd := mixKind P w) hsys d1 ?_)
  dsimp only
  rw [z1]
  generalize hI : ({ cls := Value.type "dict_keyiterator", data := Data.fields #[.ref a, .int 0 0, .int kvs.length 0, .int ep 0] } : Obj) = it
  have it0 : ((s.heap.push { cls := .type "list", data := .seq ([] : List Value).toArray }).push it).get? (s.heap.objs.size + 1) = some it := by
    rw [← z1]
    exact Heap.get?_push_size _ (by rw [← hI]; rfl)
  have k2 : ∀ b u, (s.heap.push { cls := .type "list", data := .seq ([] : List Value).toArray }).get? b = some u → ((s.heap.push { cls := .type "list", data := .seq ([] : List Value).toArray }).push it).get? b = some u := fun b u e => Heap.get?_push_of_some _ e
  generalize h2e : (s.heap.push { cls := .type "list", data := .seq ([] : List Value).toArray }).push it = h2 at k2 it0 ⊢
  have o2 : h2.get? a = some o := k2 _ _ (Heap.get?_push_of_some _ ho)
  have T2 : Shared.TypeIs { s with heap := h2 } (.ref a) "dict" := ⟨o, o2, hex.1⟩
  refine wpAny_bind (wpAny_holding ?_)
  unfold Builtin.List.listLengthHint
  refine wpAny_bind (wpAny_specialOf T2 F.slot_dict_len.lookup ?_)
  (generalize hid : ("dict.__len__" : String) = id0; (fail_if_success (clear hid id0)); wp_delta; rw [show splitId id0 = some ("dict", "__len__") from by subst hid; decide +kernel]; subst hid)
  refine wpAny_bind (wpAny_isInstance (b := true) T2 sub_dict_dict ?_)
  show wpAny _ A.in1 (typeOf (.ref a) >>= _) _ _ _
  refine wpAny_bind (wpAny_typeOf T2 (wpAny_pure ?_))
  show wpAny _ A.in1 (rule "list.extend.makes-room" >>= fun _ => Builtin.List.listTouch (.ref s.heap.objs.size) >>= fun _ =>
    again (.builtin "list.extend.loop" ⟨[.ref s.heap.objs.size, .ref (s.heap.objs.size + 1), .ref s.heap.objs.size], []⟩)) _ _ _
  refine wpAny_bind (wpAny_rule ?_)
  have S2 := k2 _ _ hS
  refine wpAny_bind ?_
  show wpAny _ A.in1 (updateSeq s.heap.objs.size (·.push .none) >>= fun _ => updateSeq s.heap.objs.size (·.pop)) _ _ _
  refine wpAny_bind (wpAny_updateSeq S2 rfl ?_)
  have S3 := Heap.get?_update_self (Obj.mapSeq (·.push Value.none)) S2 rfl
  refine wpAny_updateSeq S3 rfl ?_
  have S4 := Heap.get?_update_self (Obj.mapSeq (·.pop)) S3 rfl
  have oth : ∀ b u, b ≠ s.heap.objs.size → h2.get? b = some u → ((h2.update s.heap.objs.size (Obj.mapSeq (·.push Value.none))).update s.heap.objs.size (Obj.mapSeq (·.pop))).get? b = some u :=
    fun b u hb e => (Heap.get?_update_other _ _ (Ne.symm hb)).trans ((Heap.get?_update_other _ _ (Ne.symm hb)).trans e)
  have nI : a ≠ s.heap.objs.size + 1 := Nat.ne_of_lt (Nat.lt_succ_of_lt lt)
  have W := Walks.dictKeys (knd := mixKind P w) (A := A.in1) hh (s.heap.objs.size + 1) a nI kvs ep
  have nf : s.heap.objs.size ∉ [s.heap.objs.size + 1, a] := by
    simp only [List.mem_cons, List.mem_singleton, List.not_mem_nil, or_false, not_or]
    exact ⟨Nat.ne_of_lt (Nat.lt_succ_self _), na⟩
  have st : (fun i (h : Heap) => h.IsKeyIter (s.heap.objs.size + 1) a i kvs.length ep ∧ h.DictAt (mixKind P w) a kvs ep) 0 ((h2.update s.heap.objs.size (Obj.mapSeq (·.push Value.none))).update s.heap.objs.size (Obj.mapSeq (·.pop))) := by
    refine ⟨⟨it, oth _ _ (Nat.ne_of_gt (Nat.lt_succ_self _)) it0, by rw [← hI], by rw [← hI] <;> rfl⟩, ?_⟩
    exact dat.at' fun u e => oth _ _ (Ne.symm na) (k2 _ _ (Heap.get?_push_of_some _ e))
  refine wpAny_pure ⟨plainId_quiet F.plain_extend_loop _, codeAny_extend_loopS W.toS hz _ nf _ kvs.length 0 _ _ _ rfl (Nat.zero_le _) st S4 (ItemsOf.nil _) fun s' acc' c' hm hS' hacc => ?_⟩
  show wpAny _ A (load s.heap.objs.size >>= _) _ _ s'
  refine wpAny_bind (wpAny_load hS' (wpAny_pure ?_))
  show Q acc'.toList s'
  obtain ⟨h', g', dr', tk', os'⟩ := s'
  have eg : g' = s.gens := hm.gens
  have ed : dr' = s.drawn := hm.drawn
  have eo : os' = s.os := hm.os
  subst eg; subst ed; subst eo
  refine hQ h' tk' acc'.toList (fun b u e => ?_) ?_ fun i k x e => ?_
  · have lb : b < s.heap.objs.size := Heap.lt_size e
    refine hm.heap b u (fun z => ?_) (oth b u (Nat.ne_of_lt lb) (k2 _ _ (Heap.get?_push_of_some _ e)))
    rcases List.mem_cons.mp z with z | z
    · exact absurd lb (by rw [z]; exact Nat.lt_irrefl _)
    · exact absurd lb (by rw [List.mem_singleton.mp z]; exact Nat.not_lt_of_le (Nat.le_succ _))
  · rw [Array.length_toList]
    exact hacc.1
  · have li : i < acc'.size := by
      rw [hacc.1]
      exact (List.getElem?_eq_some_iff.mp e).1
    obtain ⟨k', x', e', is⟩ := hacc.2 i acc'[i] (Array.getElem?_eq_getElem li)
    rw [e] at e'
    cases e'
    exact ⟨acc'[i], by rw [Array.getElem?_toList, Array.getElem?_eq_getElem li], is⟩
end
end DZ
namespace DL
open PySem PySem.Spec PyProof.Rows L2 SrtO DZ
variable {T : LT}
/-- what is gathered of a list, a tuple, a dict -/
def itD (G : DG) (x : D) : Option (List D) := match asQ G x with
  | some xs => some xs
  | none => match asD G x with
    | some kvs => some (kvs.map (·.1))
    | none => none
def pySorted (G : DG) : List D → Option D
  | [x] => match itD G x with
    | some xs => if homD xs = true then some (.lst (sortD xs)) else none
    | none => none
  | _ => none
theorem relKs_keys {K : PySem.W.Frag} {F : FS} {H : Hp} : ∀ {kvs : List (D × D)} {ws : List (Key × V)}, RelKs K F H kvs ws → RelDs K F H (kvs.map (·.1)) (ws.map fun w => kV w.1)
  | [], _, h => by
    obtain rfl := h
    rfl
  | (k, x) :: kvs, _, ⟨key, v, ws, rfl, hk, _, h⟩ => by
    refine ⟨_, _, rfl, ?_, relKs_keys h⟩
    cases k with
    | int i =>
      cases hk
      rfl
    | str s =>
      cases hk
      rfl
    | _ => cases hk
theorem vals_keys : ∀ {ks : List Key} {us : List Value}, us.length = ks.length → (∀ (i : Nat) (k : Key), ks[i]? = some k → ∃ u, us[i]? = some u ∧ keyIs k u = true) → Vals (ks.map kV) us
  | [], us, l, _ => by
    rw [List.eq_nil_of_length_eq_zero l]
    exact .nil
  | k :: ks, [], l, _ => by cases l
  | k :: ks, u :: us, l, h => by
    refine .cons ?_ (vals_keys (by rw [List.length_cons, List.length_cons] at l; omega) fun i k' e => h (i + 1) k' e)
    obtain ⟨u', e, is⟩ := h 0 k rfl
    cases e
    rcases keyIs_shape is with ⟨i, t, rfl, rfl⟩ | ⟨x, t, rfl, rfl⟩
    · exact ⟨t, rfl⟩
    · exact ⟨t, rfl⟩
section
variable {X : Cx}
theorem call_pySorted (hc : X.calm = true) : CallR X (.builtin "sorted") (rDB X.K T pySorted) := by
  rintro pins s σ H xs us Q I rs ⟨F, G, ds, z, hg, r, e, q⟩
  unfold pySorted at e
  split at e
  · rename_i x
    obtain ⟨v, rfl, rv⟩ := r.one
    cases ei : itD G x with
    | none =>
      rw [ei] at e
      cases e
    | some ys =>
      rw [ei] at e
      dsimp only at e
      by_cases hom : homD ys = true
      · rw [if_pos hom] at e
        cases e
        have hd : X.A.in1.handled = none := by simp [I.ok.hd hc]
        unfold itD at ei
        cases e1 : asQ G x with
        | some zs =>
          rw [e1] at ei
          cases ei
          obtain ⟨a, vs, rfl, h, k⟩ := asQ_ok hg rv e1
          obtain rfl : us = [Value.ref a] := Vals.ref1 rs
          refine sortedV ?_
          rcases h with h | h
          · obtain ⟨its, r', pl, hz⟩ := I.list h
            obtain ⟨o, ho, hcl, n, hdt⟩ := pl.isList
            refine wpAny_collect_seq a (.inl rfl) ho hcl hdt (fun h' kp => ?_) (by rw [List.size_toArray, ← r'.length]; exact hz)
            exact rdy_of (s := s) hg (I.kept (t' := s.toks) kp) k r' hz hom fun F' v H' s2 g2 r2 => q F' v H' s2 g2 r2
          · obtain ⟨its, r', ⟨o, ho, hcl, n, hdt⟩, hz⟩ := I.tuple h
            refine wpAny_collect_seq a (.inr rfl) ho hcl hdt (fun h' kp => ?_) (by rw [List.size_toArray, ← r'.length]; exact hz)
            exact rdy_of (s := s) hg (I.kept (t' := s.toks) kp) k r' hz hom fun F' v H' s2 g2 r2 => q F' v H' s2 g2 r2
        | none =>
          rw [e1] at ei
          dsimp only at ei
          cases e2 : asD G x with
          | none =>
            rw [e2] at ei
            cases ei
          | some kvs =>
            rw [e2] at ei
            cases ei
            obtain ⟨a, ws, rfl, h, k⟩ := asD_ok hg rv e2
            obtain rfl : us = [Value.ref a] := Vals.ref1 rs
            refine sortedV ?_
            obtain ⟨hz, hsys, ps, rel, dof⟩ := dk_rd I.hok h
            obtain ⟨ep, dat⟩ := dof.dictAt
            have ek : ws.map (·.1) = ps.map (·.1) := KV.keys rel
            have el : ps.length = ws.length := by
              have z := congrArg List.length ek
              rw [List.length_map, List.length_map] at z
              exact z.symm
            refine collect_dict hd hsys dat (by rw [el]; exact hz) fun h' tk out kp ol ov => ?_
            have vals : Vals (ws.map fun w => kV w.1) out := by
              have z := vals_keys (ks := ws.map (·.1)) (us := out) (by rw [ol, el, List.length_map]) fun i k' e => by
                rw [ek, List.getElem?_map] at e
                obtain ⟨p, e3, e4⟩ := Option.map_eq_some_iff.mp e
                obtain ⟨kk, vv⟩ := p
                cases e4
                exact ov i kk vv e3
              rw [List.map_map] at z
              exact z
            exact rdy_of (s := s) hg (I.kept (t' := tk) kp) (relKs_keys k) vals (by rw [List.length_map]; exact hz) hom fun F' v H' s2 g2 r2 => q F' v H' s2 g2 r2
      · rw [if_neg hom] at e
        cases e
  · cases e
end
end DL

namespace DL
open PySem PySem.Spec PyProof.Rows L2 SrtO DZ
variable {T : LT}
def nubD : List D → List D
  | [] => []
  | x :: xs => if xs.any (eqA x) = true then nubD xs else x :: nubD xs
/-- all ints, or all texts -/
def atomsD (xs : List D) : Bool := (xs.all fun x => decide (atK x = some true)) || (xs.all fun x => decide (atK x = some false))
def pySortedSet (G : DG) : List D → Option D
  | [x] => match asQ G x with
    | some xs => if atomsD xs = true ∧ xs.length ≤ 1000 then some (.lst (sortD (nubD xs))) else none
    | none => none
  | _ => none
theorem atomsD_of {xs : List D} (h : atomsD xs = true) : ∃ b, ∀ x ∈ xs, atK x = some b := by
  unfold atomsD at h
  rw [Bool.or_eq_true] at h
  rcases h with h | h
  · exact ⟨true, fun x m => of_decide_eq_true (List.all_eq_true.mp h x m)⟩
  · exact ⟨false, fun x m => of_decide_eq_true (List.all_eq_true.mp h x m)⟩
theorem shD_at {x : D} {b : Bool} (h : atK x = some b) : shD x = some [true, b] := by
  rcases atK_some h with ⟨i, rfl, rfl⟩ | ⟨s, rfl, rfl⟩ <;> rfl
theorem homD_of {l : List Bool} : ∀ {xs : List D}, (∀ x ∈ xs, shD x = some l) → homD xs = true
  | [], _ => rfl
  | x :: xs, h => by
    simp only [homD, h x List.mem_cons_self]
    exact List.all_eq_true.mpr fun y m => decide_eq_true (h y (List.mem_cons_of_mem _ m))
section nub
variable {b : Bool}
theorem eqA_iff {x y : D} (hx : atK x = some b) (hy : atK y = some b) : eqA x y = true ↔ x = y := by
  obtain ⟨_, h2, h3⟩ := ltA_key hx hy
  exact ⟨fun e => h3 (h2.mp e), fun e => h2.mpr (by rw [e])⟩
theorem nubD_mem : ∀ {xs : List D}, (∀ x ∈ xs, atK x = some b) → ∀ y, y ∈ nubD xs ↔ y ∈ xs
  | [], _, y => Iff.rfl
  | x :: xs, h, y => by
    have hx := h x List.mem_cons_self
    have ih := nubD_mem (xs := xs) (fun z m => h z (List.mem_cons_of_mem _ m)) y
    unfold nubD
    by_cases c : xs.any (eqA x) = true
    · rw [if_pos c, ih, List.mem_cons]
      obtain ⟨z, mz, ez⟩ := List.any_eq_true.mp c
      have e := (eqA_iff hx (h z (List.mem_cons_of_mem _ mz))).mp ez
      exact ⟨.inr, fun q => q.elim (fun q => by rw [q, e]; exact mz) id⟩
    · rw [if_neg c, List.mem_cons, List.mem_cons, ih]
theorem nubD_nodup : ∀ {xs : List D}, (∀ x ∈ xs, atK x = some b) → (nubD xs).Nodup
  | [], _ => List.nodup_nil
  | x :: xs, h => by
    have h' : ∀ z ∈ xs, atK z = some b := fun z m => h z (List.mem_cons_of_mem _ m)
    unfold nubD
    by_cases c : xs.any (eqA x) = true
    · rw [if_pos c]
      exact nubD_nodup h'
    · rw [if_neg c]
      refine List.nodup_cons.mpr ⟨fun m => c ?_, nubD_nodup h'⟩
      have m' := (nubD_mem h' x).mp m
      exact List.any_eq_true.mpr ⟨x, m', (eqA_iff (h x List.mem_cons_self) (h' x m')).mpr rfl⟩
end nub
theorem perm_of {α : Type} : ∀ {l m : List α}, l.Nodup → m.Nodup → (∀ x, x ∈ l ↔ x ∈ m) → l.Perm m
  | [], m, _, _, h => by
    cases m with
    | nil => exact .refl _
    | cons y m => exact absurd ((h y).mpr List.mem_cons_self) (by simp)
  | x :: l, m, nl, nm, h => by
    obtain ⟨n1, n2⟩ := List.nodup_cons.mp nl
    obtain ⟨a, c, e⟩ := List.append_of_mem ((h x).mp List.mem_cons_self)
    subst e
    have p : (a ++ x :: c).Perm (x :: (a ++ c)) := List.perm_middle
    have nm' := p.nodup_iff.mp nm
    obtain ⟨m1, m2⟩ := List.nodup_cons.mp nm'
    refine ((perm_of n2 m2 fun y => ?_).cons x).trans p.symm
    have hy := h y
    rw [p.mem_iff, List.mem_cons, List.mem_cons] at hy
    refine ⟨fun q => ?_, fun q => ?_⟩
    · rcases hy.mp (.inr q) with e | e
      · exact absurd (e ▸ q) n1
      · exact e
    · rcases hy.mpr (.inr q) with e | e
      · exact absurd (e ▸ q) m1
      · exact e
section
variable {X : Cx}
/-- the set at p, of these keys -/
def SetO (w : World) (p : Addr) (ks : List Key) : HO := .ext fun h => SetM w h p ks ks.length
def rSetOf (X : Cx) : List V → Hp → VK → Prop := fun xs H Q => ∃ (a : Addr) (ks : List Key), xs = [V.ref a] ∧ (SqL X.K H a (ks.map kV) ∨ SqT X.K H a (ks.map kV)) ∧ ks.length ≤ 1000 ∧ ∀ p, H p = none → Q (.ref p) (upd H p (SetO X.w p ks))
theorem keys_at : ∀ {ks : List Key} {us : List Value}, Vals (ks.map kV) us → ∀ (i : Nat) (v : Value), us[i]? = some v → ∃ k, ks[i]? = some k ∧ keyIs k v = true
  | [], _, r, i, v, e => by
    cases r
    simp at e
  | k :: ks, _, r, i, v, e => by
    cases r with
    | cons r rs =>
      cases i with
      | zero =>
        cases e
        refine ⟨k, rfl, ?_⟩
        cases k with
        | inl j =>
          obtain ⟨t, rfl⟩ := r
          exact keyIs_int j t
        | inr x =>
          obtain ⟨t, rfl⟩ := r
          exact keyIs_str x t
      | succ i => exact keys_at rs i v e
theorem call_setOf (hc : X.calm = true) : CallR X (.type "set") (rSetOf X) := by
  rintro pins s σ H xs us Q I rs ⟨a, ks, rfl, h, hl, q⟩
  obtain rfl : us = [Value.ref a] := Vals.ref1 rs
  have hb : ks.length + 1 < scanBound := by
    unfold scanBound
    omega
  have fin : ∀ (h' : Heap) (tk : Nat), SetM X.w h' s.heap.objs.size ks ks.length → (∀ b o, s.heap.get? b = some o → h'.get? b = some o) → EP X pins σ Q (.ref s.heap.objs.size) { s with heap := h', toks := tk } := fun h' tk M kp => by
    have ⟨o, _, _, _, ho, _⟩ := M
    exact ⟨.ref _, upd H s.heap.objs.size (SetO X.w s.heap.objs.size ks), I.laid (t' := tk) kp (Nat.le_refl _) ⟨M, ⟨o, ho⟩, fun h1 h2 p k => SetM.at p k⟩, rfl, q _ (I.hok.fresh (Nat.le_refl _))⟩
  rcases h with h | h
  · obtain ⟨its, r', pl, hz⟩ := I.list h
    exact call_set_list ks (I.ok.hd hc) pl.isList (by rw [List.size_toArray, ← r'.length, List.length_map]) (fun i v e => keys_at r' i v (by rw [List.getElem?_toArray] at e; exact e)) hb fin
  · obtain ⟨its, r', pl, hz⟩ := I.tuple h
    exact call_set_tuple ks (I.ok.hd hc) pl (by rw [List.size_toArray, ← r'.length, List.length_map]) (fun i v e => keys_at r' i v (by rw [List.getElem?_toArray] at e; exact e)) hb fin
/-- sorted of such a set -/
def rSortS (X : Cx) (T : LT) : List V → Hp → VK → Prop := fun xs H Q => ∃ (p : Addr) (ds : List D) (b : Bool) (F : FS) (G : DG), xs = [V.ref p] ∧ H p = some (SetO X.w p (ds.map keyA)) ∧ RelG X.K T F G H ∧ (∀ d ∈ ds, atK d = some b) ∧ ds.length ≤ 1000 ∧
  ∀ F' v H', Step F G H F' G H' → RelG X.K T F' G H' → RelD X.K F' H' (.lst (sortD (nubD ds))) v → Q v H'
theorem keyA_inj {x y : D} {b : Bool} (hx : atK x = some b) (hy : atK y = some b) (e : keyA x = keyA y) : x = y := (ltA_key hx hy).2.2 e
theorem choose_ds {ds : List D} : ∀ {us : List Value}, (∀ u ∈ us, keyIs (kOf u) u = true ∧ kOf u ∈ ds.map keyA) → ∃ es : List D, (∀ e ∈ es, e ∈ ds) ∧ es.map keyA = us.map kOf
  | [], _ => ⟨[], fun e m => (by cases m), rfl⟩
  | u :: us, h => by
    obtain ⟨es, h1, h2⟩ := choose_ds fun v m => h v (List.mem_cons_of_mem _ m)
    obtain ⟨d, md, ed⟩ := List.mem_map.mp (h u List.mem_cons_self).2
    refine ⟨d :: es, fun e m => ?_, by rw [List.map_cons, List.map_cons, h2, ed]⟩
    rcases List.mem_cons.mp m with m | m
    · rw [m]
      exact md
    · exact h1 e m
theorem rel_atoms {K : PySem.W.Frag} {F : FS} {H : Hp} {b : Bool} : ∀ {es : List D}, (∀ e ∈ es, atK e = some b) → RelDs K F H es (es.map fun e => kV (keyA e))
  | [], _ => rfl
  | e :: es, h => by
    refine ⟨_, _, rfl, ?_, rel_atoms fun x m => h x (List.mem_cons_of_mem _ m)⟩
    rcases atK_some (h e List.mem_cons_self) with ⟨i, rfl, _⟩ | ⟨s, rfl, _⟩ <;> rfl
theorem call_sortS (hc : X.calm = true) : CallR X (.builtin "sorted") (rSortS X T) := by
  rintro pins s σ H xs us Q I rs ⟨p, ds, b, F, G, rfl, hp, hg, hb, hl, q⟩
  obtain rfl : us = [Value.ref p] := Vals.ref1 rs
  have hd : X.A.in1.handled = none := by simp [I.ok.hd hc]
  obtain ⟨M, _, _⟩ := I.hok p _ hp
  obtain ⟨o, es, ep, t, ho, hex, hdt, g, nd, hm, hs, hn, hf, hr, hl2⟩ := M
  have hsz : es.size < scanBound := Nat.lt_of_le_of_lt hs hn
  refine sortedV (collect_set hd ⟨o, ho, hex.1, hdt⟩ hf hsz hr hl2 fun s' out kp _ hgn hos pm => ?_)
  have I1 : Inv X pins σ H s' := I.call' (ch := []) hos (Un.kept kp) (I.hok.kept kp) (by rw [hgn]; exact I.bare) (fun _ z => nomatch z)
  have ok : ∀ u ∈ out, keyIs (kOf u) u = true ∧ kOf u ∈ ds.map keyA := fun u m => by
    obtain ⟨e, me, rfl⟩ := List.mem_map.mp (pm.mem_iff.mp m)
    exact ⟨(g e me).1, (hm _).mpr (List.mem_map.mpr ⟨e, me, rfl⟩)⟩
  obtain ⟨cs, c1, c2⟩ := choose_ds ok
  have ca : ∀ c ∈ cs, atK c = some b := fun c m => hb c (c1 c m)
  have pk : (out.map kOf).Perm (es.toList.map kE) := by
    have z := pm.map kOf
    rw [List.map_map] at z
    exact z
  have cn : cs.Nodup := by
    have z := pk.nodup_iff.mpr nd
    rw [← c2] at z
    exact (List.pairwise_map.mp z).imp fun n e => n (by rw [e])
  have cp : cs.Perm (nubD ds) := perm_of cn (nubD_nodup hb) fun x => by
    rw [nubD_mem hb x]
    refine ⟨c1 x, fun m => ?_⟩
    have z : keyA x ∈ cs.map keyA := by
      rw [c2, pk.mem_iff, ← hm]
      exact List.mem_map.mpr ⟨x, m, rfl⟩
    obtain ⟨y, my, ey⟩ := List.mem_map.mp z
    rw [← keyA_inj (ca y my) (hb x m) ey]
    exact my
  have csh : ∀ c ∈ cs, shD c = some [true, b] := fun c m => shD_at (ca c m)
  have nsh : ∀ c ∈ nubD ds, shD c = some [true, b] := fun c m => csh c (cp.mem_iff.mpr m)
  have eq : sortD cs = sortD (nubD ds) := rise_eq (((sortD_perm cs).trans cp).trans (sortD_perm _).symm) (fun x m => csh x ((sortD_perm cs).mem_iff.mp m)) (sortD_rise csh) (sortD_rise nsh)
  have vals : Vals (cs.map fun e => kV (keyA e)) out := by
    have z := vals_keys (ks := out.map kOf) (us := out) (by rw [List.length_map]) fun i k e => by
      rw [List.getElem?_map] at e
      obtain ⟨u, e1, e2⟩ := Option.map_eq_some_iff.mp e
      rw [← e2]
      exact ⟨u, e1, (ok u (List.mem_of_getElem? e1)).1⟩
    rw [← c2, List.map_map] at z
    exact z
  refine rdy_of (s := s) hg I1 (rel_atoms ca) vals ?_ (homD_of csh) fun F' v H' s2 g2 r2 => q F' v H' s2 g2 (by rw [← eq]; exact r2)
  have e1 : (cs.map fun e => kV (keyA e)).length = out.length := by
    have z := congrArg List.length c2
    rw [List.length_map, List.length_map] at z
    rw [List.length_map]
    exact z
  rw [e1, pm.length_eq, List.length_map, Array.length_toList]
  exact fits_of_scanBound hsz
theorem relDs_atoms {K : PySem.W.Frag} {F : FS} {H : Hp} {b : Bool} : ∀ {ds : List D} {vs : List V}, (∀ d ∈ ds, atK d = some b) → RelDs K F H ds vs → vs = (ds.map keyA).map kV
  | [], _, _, h => h
  | d :: ds, _, a, ⟨v, vs, rfl, r, rs⟩ => by
    rw [relDs_atoms (fun x m => a x (List.mem_cons_of_mem _ m)) rs, List.map_cons, List.map_cons]
    rcases atK_some (a d List.mem_cons_self) with ⟨i, rfl, _⟩ | ⟨s, rfl, _⟩ <;> rw [show v = _ from r] <;> rfl
/-- sorted(set(e)) -/
theorem q_sortedSet {W : WX} {e : Expr} {te : DTE} {p p2 pos pos2 : Pos} (hc : X.calm = true) (hg : Gl X "sorted") (hm : X.mg "sorted" = none) (hg2 : Gl X "set") (hm2 : X.mg "set" = none) (he : QE X T W e te)
    (hs1 : starEach [e] X.env = [(false, eval e X.env)] := by rfl) (hs2 : starEach [.Call (.Name "set" p2) [e] [] pos2] X.env = [(false, eval (.Call (.Name "set" p2) [e] [] pos2) X.env)] := by rfl) :
    QE X T W (.Call (.Name "sorted" p) [.Call (.Name "set" p2) [e] [] pos2] [] pos) (dB pySortedSet (dCons te dNil)) :=
  PE.imp (pe_callB (call_sortS (T := T) hc) hg hm PyProof.Rows.boot_sorted (pa_cons (pe_callTy (call_setOf hc) hg2 hm2 PyProof.Rows.boot_set (pa_cons he pa_nil hs1) (he := hs1)) pa_nil hs2) (he := hs2)) fun σ H Q ⟨env, F, G, E, P, hg, hs, hx, ht, hq⟩ =>
    ⟨env, F, G, E, _, hg, hs, hx, ht, fun x F1 G1 v1 H1 h1 s1 g1 r1 => by
      obtain ⟨z, ez, pz⟩ := h1
      simp only [pySortedSet] at ez
      cases e1 : asQ G1 x with
      | none =>
        rw [e1] at ez
        cases ez
      | some ds =>
        rw [e1] at ez
        dsimp only at ez
        by_cases c : atomsD ds = true ∧ ds.length ≤ 1000
        · rw [if_pos c] at ez
          cases ez
          obtain ⟨b, hb⟩ := atomsD_of c.1
          obtain ⟨a, vs, rfl, h, k⟩ := asQ_ok g1 r1 e1
          have ev := relDs_atoms hb k
          subst ev
          refine ⟨a, ds.map keyA, rfl, h, by rw [List.length_map]; exact c.2, fun p hp => ?_⟩
          have s2 : Step F1 G1 H1 F1 G1 (upd H1 p (SetO X.w p (ds.map keyA))) := Step.priv hp
          exact ⟨p, ds, b, F1, G1, rfl, upd_same, g1.priv hp, hb, c.2, fun F' v H' s3 g3 r3 => hq _ F' G1 v H' pz (s1.trans (s2.trans s3)) g3 r3⟩
        · rw [if_neg c] at ez
          cases ez⟩
end
end DL

namespace DL
open PySem PySem.Spec PyProof.Rows L2
theorem m_sorted : MonoB pySorted := fun G xs z h => by
  match xs, h with
  | [], h => exact h
  | [x], h => cases x <;> first | exact h | cases h
  | _ :: _ :: _, h => cases h
theorem m_sortedSet : MonoB pySortedSet := fun G xs z h => by
  match xs, h with
  | [], h => exact h
  | [x], h => cases x <;> first | exact h | cases h
  | _ :: _ :: _, h => cases h
end DL

/-! programs.py, rights.py, texts.py: what their twins tell, in plain Lean -/
namespace PL
open DL PySem
def lst_FORMS : List (String × String) := [("set", "rn"), ("copy", "rr"), ("add", "rr"), ("take", "rr"), ("less", "rr"), ("go", "g"), ("zero", "rg"), ("read", "rr"), ("write", "rr"), ("ask", "rw"), ("tell", "rw"), ("look", "rrw"), ("mark", "rrw"), ("end", "")]
def tab_FORMS : List (String × D) := tabS lst_FORMS
def e_is_whole : List D → Option (Except DX D) := fnE ["thing", "low", "high"] 3 (xRet (eAndV (eUn (pyIsi "int") (eVar 0)) (eAndV (eNotV (eUn (pyIsi "bool") (eVar 0))) (eChain pyLe pyLe (eVar 1) (eVar 0) (eVar 2)))))
def e_is_number : List D → Option (Except DX D) := fnE ["thing"] 1 (xRet (eCall e_is_whole (eCons (eVar 0) (eCons (eUn pyNeg (eC (.int 999))) (eCons (eC (.int 999)) (eC []))))))
def e_is_word : List D → Option (Except DX D) := fnE ["thing", "sign"] 1 (xRet (eAndV (eUn (pyIsi "str") (eVar 0)) (eAndV (eChain pyLe pyLe (eC (.int 1)) (eB pyLen (eCons (eVar 0) (eC []))) (eC (.int 8))) (eB pyAll (eCons (eLc (eIter (eVar 0)) (.n 1) (eC true) (eOp pyIn (eVar 1) (eC (.str "abcdefghijklmnopqrstuvwxyz"))) [1]) (eC []))))))
def e_is_part : List D → Option (Except DX D) := fnE ["sort", "thing"] 2 (xSeq (xIf (eTest (eOp pyEq (eVar 0) (eC (.str "r")))) (xRet (eCall e_is_whole (eCons (eVar 1) (eCons (eC (.int 0)) (eCons (eC (.int 3)) (eC [])))))) (xNext)) (xSeq (xIf (eTest (eOp pyEq (eVar 0) (eC (.str "n")))) (xRet (eCall e_is_number (eCons (eVar 1) (eC [])))) (xNext)) (xRet (eIf (eTest (eOp pyEq (eVar 0) (eC (.str "g")))) (eCall e_is_whole (eCons (eVar 1) (eCons (eC (.int 0)) (eCons (eC (.int 99)) (eC []))))) (eCall e_is_word (eCons (eVar 1) (eC [])))))))
def e_is_instruction : List D → Option (Except DX D) := fnE ["thing", "sorts", "sort", "part"] 1 (xSeq (xIf (eOr (eNot (eTest (eUn (pyIsi "tuple") (eVar 0)))) (eOr (eTest (eOp pyEq (eVar 0) (eTup (eC [])))) (eOr (eNot (eTest (eUn (pyIsi "str") (eOp pyItem (eVar 0) (eC (.int 0)))))) (eTest (eUn (kNotIn tab_FORMS) (eOp pyItem (eVar 0) (eC (.int 0)))))))) (xRet (eC (.bl false))) (xNext)) (xSeq (xSet 1 (eUn (kItem tab_FORMS) (eOp pyItem (eVar 0) (eC (.int 0))))) (xRet (eAndV (eOp pyEq (eB pyLen (eCons (eVar 0) (eC []))) (eOp pyAdd (eB pyLen (eCons (eVar 1) (eC []))) (eC (.int 1)))) (eB pyAll (eCons (eLc (eZip (eCons (eVar 1) (eCons (eSlice (eVar 0) (ePart (eC (.int 1))) (eC none)) (eC [])))) (.t [2, 3]) (eC true) (eCall e_is_part (eCons (eVar 2) (eCons (eVar 3) (eC [])))) [2, 3]) (eC [])))))))
def e_is_program : List D → Option (Except DX D) := fnE ["thing", "one"] 1 (xRet (eAndV (eUn (pyIsi "tuple") (eVar 0)) (eAndV (eChain pyLe pyLe (eC (.int 1)) (eB pyLen (eCons (eVar 0) (eC []))) (eC (.int 40))) (eB pyAll (eCons (eLc (eIter (eVar 0)) (.n 1) (eC true) (eCall e_is_instruction (eCons (eVar 1) (eC []))) [1]) (eC []))))))
def e_need_program : List D → Option (Except DX D) := fnE ["thing"] 1 (xIf (eNot (eTest (eCall e_is_program (eCons (eVar 0) (eC []))))) (xRaise "BadProgram") (xNext))
def e_is_row : List D → Option (Except DX D) := fnE ["thing", "one", "other"] 1 (xSeq (xIf (eOr (eNot (eTest (eUn (pyIsi "tuple") (eVar 0)))) (eOr (eTest (eOp pyGt (eB pyLen (eCons (eVar 0) (eC []))) (eC (.int 6)))) (eNot (eTest (eB pyAll (eCons (eLc (eIter (eVar 0)) (.n 1) (eC true) (eCall e_is_word (eCons (eVar 1) (eC []))) [1]) (eC []))))))) (xRet (eC (.bl false))) (xNext)) (xRet (eB pyAll (eCons (eLc (eZip (eCons (eVar 0) (eCons (eSlice (eVar 0) (ePart (eC (.int 1))) (eC none)) (eC [])))) (.t [1, 2]) (eC true) (eOp pyLt (eVar 1) (eVar 2)) [1, 2]) (eC [])))))
def e_is_rights : List D → Option (Except DX D) := fnE ["thing", "row"] 1 (xSeq (xIf (eOr (eNot (eTest (eUn (pyIsi "tuple") (eVar 0)))) (eOr (eTest (eOp pyNe (eB pyLen (eCons (eVar 0) (eC []))) (eC (.int 5)))) (eNot (eTest (eCall e_is_whole (eCons (eOp pyItem (eVar 0) (eC (.int 0))) (eCons (eC (.int 0)) (eCons (eC (.int 60)) (eC []))))))))) (xRet (eC (.bl false))) (xNext)) (xRet (eB pyAll (eCons (eLc (eIter (eSlice (eVar 0) (ePart (eC (.int 1))) (eC none))) (.n 1) (eC true) (eCall e_is_row (eCons (eVar 1) (eC []))) [1]) (eC [])))))
def e_need_rights : List D → Option (Except DX D) := fnE ["thing"] 1 (xIf (eNot (eTest (eCall e_is_rights (eCons (eVar 0) (eC []))))) (xRaise "BadRights") (xNext))
def e_program_text : List D → Option (Except DX D) := fnE ["program", "part", "one"] 1 (xSeq (xDrop (eCall e_need_program (eCons (eVar 0) (eC [])))) (xRet (eMt "str" mJoin (eC (.str "\n")) (eCons (eLc (eIter (eVar 0)) (.n 2) (eC true) (eMt "str" mJoin (eC (.str " ")) (eCons (eLc (eIter (eVar 2)) (.n 1) (eC true) (eB pyStr (eCons (eVar 1) (eC []))) [1]) (eC []))) [2]) (eC [])))))
def e_number_in : List D → Option (Except DX D) := fnE ["text", "bare", "sign"] 1 (xSeq (xSet 1 (eIf (eTest (eOp pyEq (eSlice (eVar 0) (eC none) (ePart (eC (.int 1)))) (eC (.str "-")))) (eSlice (eVar 0) (ePart (eC (.int 1))) (eC none)) (eVar 0))) (xSeq (xIf (eOr (eNot (eTest (eChain pyLe pyLe (eC (.int 1)) (eB pyLen (eCons (eVar 1) (eC []))) (eC (.int 3))))) (eOr (eNot (eTest (eB pyAll (eCons (eLc (eIter (eVar 1)) (.n 2) (eC true) (eOp pyIn (eVar 2) (eC (.str "0123456789"))) [2]) (eC []))))) (eTest (eOp pyNe (eB pyStr (eCons (eB pyIntS (eCons (eVar 0) (eC []))) (eC []))) (eVar 0))))) (xRet (eC .non)) (xNext)) (xRet (eB pyIntS (eCons (eVar 0) (eC []))))))
def e_row_in : List D → Option (Except DX D) := fnE ["line", "words", "sorts", "sort", "word"] 1 (xSeq (xSet 1 (eMt "str" mSplit (eVar 0) (eCons (eC (.str " ")) (eC [])))) (xSeq (xSet 2 (eUn (kGet tab_FORMS) (eOp pyItem (eVar 1) (eC (.int 0))))) (xSeq (xIf (eOr (eTest (eOp pyIs (eVar 2) (eC .non))) (eTest (eOp pyNe (eB pyLen (eCons (eVar 1) (eC []))) (eOp pyAdd (eB pyLen (eCons (eVar 2) (eC []))) (eC (.int 1)))))) (xRet (eC .non)) (xNext)) (xRet (eOp pyAdd (eTup (eCons (eOp pyItem (eVar 1) (eC (.int 0))) (eC []))) (eB pyTup (eCons (eLc (eZip (eCons (eVar 2) (eCons (eSlice (eVar 1) (ePart (eC (.int 1))) (eC none)) (eC [])))) (.t [3, 4]) (eC true) (eIf (eTest (eOp pyEq (eVar 3) (eC (.str "w")))) (eVar 4) (eCall e_number_in (eCons (eVar 4) (eC [])))) [3, 4]) (eC []))))))))
def e_read_program : List D → Option (Except DX D) := fnE ["text", "found", "line"] 1 (xSeq (xIf (eNot (eTest (eUn (pyIsi "str") (eVar 0)))) (xRaise "BadText") (xNext)) (xSeq (xSet 1 (eB pyTup (eCons (eLc (eIter (eMt "str" mSplit (eVar 0) (eCons (eC (.str "\n")) (eC [])))) (.n 2) (eC true) (eCall e_row_in (eCons (eVar 2) (eC []))) [2]) (eC [])))) (xSeq (xIf (eNot (eTest (eCall e_is_program (eCons (eVar 1) (eC []))))) (xRaise "BadText") (xNext)) (xRet (eVar 1)))))
def e_rights_text : List D → Option (Except DX D) := fnE ["rights", "words", "sign", "row", "word"] 1 (xSeq (xDrop (eCall e_need_rights (eCons (eVar 0) (eC [])))) (xSeq (xSet 1 (eLst (eCons (eB pyStr (eCons (eOp pyItem (eVar 0) (eC (.int 0))) (eC []))) (eC [])))) (xSeq (xFor (eZip (eCons (eC (.str "?!<>")) (eCons (eSlice (eVar 0) (ePart (eC (.int 1))) (eC none)) (eC [])))) (.t [2, 3]) (xSet 1 (eOp pyAdd (eVar 1) (eLc (eIter (eVar 3)) (.n 4) (eC true) (eOp pyAdd (eVar 2) (eVar 4)) [4])))) (xRet (eMt "str" mJoin (eC (.str " ")) (eCons (eVar 1) (eC [])))))))
def e_read_rights : List D → Option (Except DX D) := fnE ["text", "first", "words", "rows", "word", "sign", "found"] 1 (xSeq (xIf (eNot (eTest (eUn (pyIsi "str") (eVar 0)))) (xRaise "BadText") (xNext)) (xSeq (xStar 1 2 (eMt "str" mSplit (eVar 0) (eCons (eC (.str " ")) (eC [])))) (xSeq (xSet 3 (eLc (eIter (eC (.str "?!<>"))) (.n 5) (eC true) (eB pyTup (eCons (eLc (eIter (eVar 2)) (.n 4) (eTest (eOp pyEq (eSlice (eVar 4) (eC none) (ePart (eC (.int 1)))) (eVar 5))) (eSlice (eVar 4) (ePart (eC (.int 1))) (eC none)) [4]) (eC []))) [5])) (xSeq (xSet 6 (eOp pyAdd (eTup (eCons (eCall e_number_in (eCons (eVar 1) (eC []))) (eC []))) (eB pyTup (eCons (eVar 3) (eC []))))) (xSeq (xIf (eOr (eNot (eTest (eCall e_is_rights (eCons (eVar 6) (eC []))))) (eTest (eOp pyNe (eCall e_rights_text (eCons (eVar 6) (eC []))) (eVar 0)))) (xRaise "BadText") (xNext)) (xRet (eVar 6)))))))
/-! ### helpers -/
section
variable {α β : Type} {env : DSt} {x : D} {z : α} {ex : DX} {e : Ev D} {et eu : Ev Bool} {er : Ev (List D)} {xs : List D}
theorem b_ok {f : α → Option (Except DX β)} : bindE (some (.ok z)) f = f z := rfl
theorem b_er {f : α → Option (Except DX β)} : bindE (some (.error ex)) f = some (.error ex) := rfl
theorem okE_some : okE (some z) = some (.ok z) := rfl
theorem r_c : (eC z : Ev α) env = some (.ok z) := rfl
theorem r_var {i : Nat} (h : env[i]? = some (some x)) : eVar i env = some (.ok x) := by unfold eVar; rw [h]
theorem r_op {f : DG → D → D → Option D} {ea eb : Ev D} {x y z : D} (ha : ea env = some (.ok x)) (hb : eb env = some (.ok y)) (h : f G0 x y = some z) : eOp f ea eb env = some (.ok z) := by unfold eOp; rw [ha, b_ok, hb, b_ok, h]; rfl
theorem r_un {f : DG → D → Option D} {ea : Ev D} {x z : D} (ha : ea env = some (.ok x)) (h : f G0 x = some z) : eUn f ea env = some (.ok z) := by unfold eUn; rw [ha, b_ok, h]; rfl
theorem r_b {f : DG → List D → Option D} {z : D} (ha : er env = some (.ok xs)) (h : f G0 xs = some z) : eB f er env = some (.ok z) := by unfold eB; rw [ha, b_ok, h]; rfl
theorem r_nil : (eC [] : Ev (List D)) env = some (.ok []) := rfl
theorem r_cons {ea : Ev D} (ha : ea env = some (.ok x)) (hr : er env = some (.ok xs)) : eCons ea er env = some (.ok (x :: xs)) := by unfold eCons; rw [ha, b_ok, hr]; rfl
theorem r_call {ef : List D → Option (Except DX D)} {r : Option (Except DX D)} (ha : er env = some (.ok xs)) (h : ef xs = r) : eCall ef er env = r := by unfold eCall; rw [ha]; exact h
theorem r_test {b : Bool} (h : e env = some (.ok (.bl b))) : eTest e env = some (.ok b) := by unfold eTest; rw [h]; rfl
theorem r_not {b : Bool} (h : et env = some (.ok b)) : eNot et env = some (.ok (!b)) := by unfold eNot; rw [h]; rfl
theorem r_notV {b : Bool} (h : e env = some (.ok (.bl b))) : eNotV e env = some (.ok (.bl (!b))) := by unfold eNotV; rw [h]; rfl
theorem r_and {b c : Bool} (h : et env = some (.ok b)) (h2 : b = true → eu env = some (.ok c)) : eAnd et eu env = some (.ok (b && c)) := by
  unfold eAnd; rw [h, b_ok]
  cases b with
  | true => rw [if_pos rfl, h2 rfl]; rfl
  | false => rfl
theorem r_or {b c : Bool} (h : et env = some (.ok b)) (h2 : b = false → eu env = some (.ok c)) : eOr et eu env = some (.ok (b || c)) := by
  unfold eOr; rw [h, b_ok]
  cases b with
  | false => rw [if_neg Bool.false_ne_true, h2 rfl]; rfl
  | true => rfl
theorem r_andV {f : Ev D} {b c : Bool} (h : e env = some (.ok (.bl b))) (h2 : b = true → f env = some (.ok (.bl c))) : eAndV e f env = some (.ok (.bl (b && c))) := by
  unfold eAndV; rw [h, b_ok]
  cases b with
  | true => show f env = _; rw [h2 rfl]; rfl
  | false => rfl
theorem r_orV {f : Ev D} {b c : Bool} (h : e env = some (.ok (.bl b))) (h2 : b = false → f env = some (.ok (.bl c))) : eOrV e f env = some (.ok (.bl (b || c))) := by
  unfold eOrV; rw [h, b_ok]
  cases b with
  | false => show f env = _; rw [h2 rfl]; rfl
  | true => rfl
theorem r_chain {f g : DG → D → D → Option D} {ea eb ec : Ev D} {x y w : D} {b c : Bool} (ha : ea env = some (.ok x)) (hb : eb env = some (.ok y)) (hf : f G0 x y = some (.bl b)) (hc : ec env = some (.ok w)) (hg : g G0 y w = some (.bl c)) : eChain f g ea eb ec env = some (.ok (.bl (b && c))) := by
  unfold eChain; rw [ha, b_ok, hb, b_ok, hf]
  cases b with
  | true => simp only [okE_some, b_ok, blE, blOf, if_pos, hc, hg, Bool.true_and]
  | false => rfl
theorem r_if {b : Bool} {ea eb : Ev D} {r : Option (Except DX D)} (h : et env = some (.ok b)) (h1 : b = true → ea env = r) (h2 : b = false → eb env = r) : eIf et ea eb env = r := by
  unfold eIf; rw [h, b_ok]
  cases b with
  | true => exact h1 rfl
  | false => exact h2 rfl
theorem r_tup (h : er env = some (.ok xs)) (hl : xs.length ≤ 16000000) : eTup er env = some (.ok (.tup xs)) := by unfold eTup; rw [h, b_ok, if_pos hl]
theorem r_lst (h : er env = some (.ok xs)) (hl : xs.length ≤ 16000000) : eLst er env = some (.ok (.lst xs)) := by unfold eLst; rw [h, b_ok, if_pos hl]
theorem r_iter {d : D} (h : e env = some (.ok d)) (hi : iterD G0 d = some xs) : eIter e env = some (.ok xs) := by unfold eIter; rw [h, b_ok, hi]; rfl
theorem r_slice {l h : Ev (Option Int)} {d z : D} {lo hi : Option Int} (hd : e env = some (.ok d)) (hl : l env = some (.ok lo)) (hh : h env = some (.ok hi)) (hs : pySlice G0 d lo hi = some z) : eSlice e l h env = some (.ok z) := by unfold eSlice; rw [hd, b_ok, hl, b_ok, hh, b_ok, hs]; rfl
theorem r_part {i : Int} (h : e env = some (.ok (.int i))) : ePart e env = some (.ok (some i)) := by unfold ePart; rw [h]; rfl
/-! statements -/
variable {s t : EvX} {r : Option SR}
theorem r_seq {env' : DSt} (h : s env = some (.nx env')) (h2 : t env' = r) : xSeq s t env = r := by unfold xSeq; rw [h]; exact h2
theorem r_seqR {d : D} (h : s env = some (.rt d)) : xSeq s t env = some (.rt d) := by unfold xSeq; rw [h]
theorem r_seqX {ex : DX} {env' : DSt} (h : s env = some (.ex ex env')) : xSeq s t env = some (.ex ex env') := by unfold xSeq; rw [h]
theorem r_ret (h : e env = some (.ok x)) : xRet e env = some (.rt x) := by unfold xRet; rw [h]; rfl
theorem r_set {i : Nat} (h : e env = some (.ok x)) : xSet i e env = some (.nx (env.set i (some x))) := by unfold xSet; rw [h]; rfl
theorem r_drop (h : e env = some (.ok x)) : xDrop e env = some (.nx env) := by unfold xDrop; rw [h]; rfl
theorem r_dropX {y : DX} (h : e env = some (.error y)) : xDrop e env = some (.ex y env) := by unfold xDrop; rw [h]; rfl
theorem r_xif {b : Bool} (h : et env = some (.ok b)) (h1 : b = true → s env = r) (h2 : b = false → t env = r) : xIf et s t env = r := by
  unfold xIf; rw [h]
  cases b with
  | true => exact h1 rfl
  | false => exact h2 rfl
theorem r_xifT {b : Bool} (h : et env = some (.ok b)) (hb : b = true) (h1 : s env = r) : xIf et s t env = r := r_xif h (fun _ => h1) fun z => nomatch hb.symm.trans z
theorem r_xifF {b : Bool} (h : et env = some (.ok b)) (hb : b = false) (h1 : t env = r) : xIf et s t env = r := r_xif h (fun z => nomatch hb.symm.trans z) fun _ => h1
theorem r_fn {N : List Str} {n : Nat} {ds : List D} {d : D} (h : s (dstart N ds) = some (.rt d)) (hl : ds.length = n) : fnE N n s ds = some (.ok d) := by unfold fnE; rw [if_pos hl, h]
theorem r_fnN {N : List Str} {n : Nat} {ds : List D} {env' : DSt} (h : s (dstart N ds) = some (.nx env')) (hl : ds.length = n) : fnE N n s ds = some (.ok .non) := by unfold fnE; rw [if_pos hl, h]
theorem r_fnX {N : List Str} {n : Nat} {ds : List D} {y : DX} {env' : DSt} (h : s (dstart N ds) = some (.ex y env')) (hl : ds.length = n) : fnE N n s ds = some (.error y) := by unfold fnE; rw [if_pos hl, h]
end
theorem ok_bl {o : Option (Except DX D)} {a b : Bool} (h : o = some (.ok (.bl a))) (e : a = b) : o = some (.ok (.bl b)) := e ▸ h
theorem ok_d {o : Option (Except DX D)} {a b : D} (h : o = some (.ok a)) (e : a = b) : o = some (.ok b) := e ▸ h
theorem lcL_map {tg : Tg} {ee : Ev D} {env : DSt} {g : D → D} : ∀ {ds : List D}, (∀ d ∈ ds, ∃ env', eTg tg d env = some env' ∧ ee env' = some (.ok (g d))) → eLcL tg (eC true) ee env ds = some (ds.map g)
  | [], _ => rfl
  | d :: ds, h => by
    obtain ⟨env', h1, h2⟩ := h d List.mem_cons_self
    have ih := lcL_map (ds := ds) fun x hx => h x (List.mem_cons_of_mem _ hx)
    unfold eLcL
    rw [h1]
    simp only [eC, h2, ih, List.map_cons]
theorem lc_map {ei : Ev (List D)} {tg : Tg} {ee : Ev D} {env : DSt} {vs : List Nat} {g : D → D} {ds : List D} (hi : ei env = some (.ok ds)) (hl : ds.length ≤ 16000000) (h : ∀ d ∈ ds, ∃ env', eTg tg d (wipeD env vs) = some env' ∧ ee env' = some (.ok (g d))) : eLc ei tg (eC true) ee vs env = some (.ok (.lst (ds.map g))) := by
  unfold eLc
  rw [hi]
  simp only [bindE, if_pos hl, lcL_map h, Option.map_some, okE]
theorem allB_map {α : Type} (f : α → Bool) : ∀ xs : List α, allB (xs.map fun x => D.bl (f x)) = some (xs.map f)
  | [] => rfl
  | x :: xs => by
    simp only [List.map_cons, allB, allB_map f xs, Option.map_some]
theorem pyAll_map {α : Type} (f : α → Bool) (xs : List α) : pyAll G0 [.lst (xs.map fun x => D.bl (f x))] = some (.bl (xs.all f)) := by
  simp only [pyAll, asL, Option.bind_some, allB_map, Option.map_some]
  simp [List.all_map, Function.comp_def]
/-! ### programs.py -/
def inR (lo hi : Int) : D → Bool
  | .int i => decide (lo ≤ i) && decide (i ≤ hi)
  | _ => false
theorem is_whole_eq {d : D} (h : (tyD G0 d).isSome = true) (lo hi : Int) : e_is_whole [d, .int lo, .int hi] = some (.ok (.bl (inR lo hi d))) := by
  cases d with
  | int i => exact ok_bl (r_fn (r_ret (r_andV (r_un (r_var rfl) rfl) fun _ => r_andV (r_notV (r_un (r_var rfl) rfl)) fun _ => r_chain (r_var rfl) (r_var rfl) rfl (r_var rfl) rfl)) rfl) rfl
  | ref a => cases h
  | scr ns => cases h
  | _ => kernel_rfl
theorem is_number_eq {d : D} (h : (tyD G0 d).isSome = true) : e_is_number [d] = some (.ok (.bl (inR (-999) 999 d))) :=
  r_fn (r_ret (r_call (r_cons (r_var rfl) (r_cons (r_un r_c rfl) (r_cons r_c r_nil))) (is_whole_eq h _ _))) rfl
def small : List Char := "abcdefghijklmnopqrstuvwxyz".toList
def wordS (s : String) : Bool := (decide (1 ≤ s.length) && decide (s.length ≤ 8)) && s.toList.all fun c => small.contains c
def isWord : D → Bool
  | .str s => wordS s
  | _ => false
theorem signOf_one (c : Char) : signOf (String.singleton c) = some c := by simp [signOf]
theorem in_signs (c : Char) (t : String) : pyIn G0 (.str (String.singleton c)) (.str t) = some (.bl (t.toList.contains c)) := by
  simp only [pyIn, pyInB, signOf_one, Option.map_some]
theorem is_word_eq {d : D} (h : (tyD G0 d).isSome = true) (hl : ∀ s, d = .str s → s.length ≤ 16000000) : e_is_word [d] = some (.ok (.bl (isWord d))) := by
  cases d with
  | str s =>
    have hs := hl s rfl
    have h3 : (1 : Int) ≤ s.length ↔ 1 ≤ s.length := by omega
    have h4 : (s.length : Int) ≤ 8 ↔ s.length ≤ 8 := by omega
    have hlen : pyLen G0 [.str s] = some (.int s.length) := if_pos hs
    refine ok_bl (r_fn (r_ret (r_andV (r_un (r_var rfl) rfl) fun _ => r_andV (r_chain r_c (r_b (r_cons (r_var rfl) r_nil) hlen) rfl r_c rfl) fun hb => r_b (r_cons (lc_map (g := fun d => match d with | .str x => .bl (small.contains ((signOf x).getD 'a')) | _ => .non) (r_iter (r_var rfl) rfl) ?_ fun d hd => ?_) r_nil) (z := .bl (s.toList.all fun c => small.contains c)) ?_)) rfl) ?_
    · have e : (signsD s).length = s.length := by simp [signsD, String.length]
      rw [e]; exact hs
    · simp only [signsD, List.mem_map] at hd
      obtain ⟨c, _, rfl⟩ := hd
      refine ⟨_, rfl, r_op (r_var rfl) r_c ?_⟩
      rw [in_signs]
      show _ = some (D.bl (small.contains ((signOf (String.singleton c)).getD 'a')))
      rw [signOf_one]; rfl
    · rw [show (signsD s).map (fun d => match d with | .str x => D.bl (small.contains ((signOf x).getD 'a')) | _ => .non) = s.toList.map fun c => D.bl (small.contains c) from by
        simp only [signsD, List.map_map]
        apply List.map_congr_left
        intro c _
        simp [signOf_one]]
      exact pyAll_map _ _
    · show (true && ((decide _ && decide _) && _)) = wordS s
      rw [decide_eq_decide.mpr h3, decide_eq_decide.mpr h4]
      rfl
  | ref a => cases h
  | scr ns => cases h
  | _ => kernel_rfl
/-- data without tracked objects -/
def okD : Nat → D → Bool
  | _, .non => true
  | _, .bl _ => true
  | _, .int _ => true
  | _, .str s => decide (s.length ≤ 16000000)
  | n + 1, .tup xs => xs.all (okD n)
  | n + 1, .lst xs => xs.all (okD n)
  | _, _ => false
theorem okD_ty {n : Nat} {d : D} (h : okD n d = true) : (tyD G0 d).isSome = true := by
  cases d with
  | ref a => cases n <;> cases h
  | scr ns => cases n <;> cases h
  | _ => rfl
theorem okD_str {n : Nat} {s : String} (h : okD n (.str s) = true) : s.length ≤ 16000000 := by
  cases n <;> exact of_decide_eq_true h
theorem okD_len {n : Nat} {d : D} (h : okD n d = true) : ∀ s, d = .str s → s.length ≤ 16000000 := fun s e => by rw [e] at h; exact okD_str h
theorem okD_tup {n : Nat} {xs : List D} (h : okD (n + 1) (.tup xs) = true) : ∀ x ∈ xs, okD n x = true := List.all_eq_true.mp h
theorem okD_lst {n : Nat} {xs : List D} (h : okD (n + 1) (.lst xs) = true) : ∀ x ∈ xs, okD n x = true := List.all_eq_true.mp h
theorem mapO_some {f : D → Option PyData} : ∀ {xs : List D}, (∀ x ∈ xs, ∃ y, f x = some y) → ∃ ys, mapO f xs = some ys ∧ ys.length = xs.length
  | [], _ => ⟨[], rfl, rfl⟩
  | x :: xs, h => by
    obtain ⟨y, hy⟩ := h x List.mem_cons_self
    obtain ⟨ys, hys, hl⟩ := mapO_some fun z hz => h z (List.mem_cons_of_mem _ hz)
    refine ⟨y :: ys, ?_, by simp [hl]⟩
    unfold mapO
    rw [hy, hys]
theorem okD_py : ∀ (n : Nat) (d : D), okD n d = true → ∃ y, toPy G0 n d = some y
  | _, .non, _ => ⟨_, by unfold toPy; rfl⟩
  | _, .bl _, _ => ⟨_, by unfold toPy; rfl⟩
  | _, .int _, _ => ⟨_, by unfold toPy; rfl⟩
  | _, .str _, _ => ⟨_, by unfold toPy; rfl⟩
  | 0, .tup _, h => by cases h
  | 0, .lst _, h => by cases h
  | n + 1, .tup xs, h => by
    obtain ⟨ys, e, _⟩ := mapO_some fun x hx => okD_py n x (okD_tup h x hx)
    exact ⟨_, by unfold toPy; rw [e]; rfl⟩
  | n + 1, .lst xs, h => by
    obtain ⟨ys, e, _⟩ := mapO_some fun x hx => okD_py n x (okD_lst h x hx)
    exact ⟨_, by unfold toPy; rw [e]; rfl⟩
  | 0, .dct _, h => by cases h
  | _ + 1, .dct _, h => by cases h
  | 0, .ref _, h => by cases h
  | _ + 1, .ref _, h => by cases h
  | 0, .scr _, h => by cases h
  | _ + 1, .scr _, h => by cases h
theorem eq_nil {xs : List D} (h : okD 40 (.tup xs) = true) : pyEq G0 (.tup xs) (.tup []) = some (.bl xs.isEmpty) := by
  obtain ⟨ys, e, hl⟩ := mapO_some fun x hx => okD_py 39 x (okD_tup h x hx)
  have e1 : toPy G0 40 (.tup xs) = some (.tuple ys) := by unfold toPy; rw [e]; rfl
  have e2 : toPy G0 40 (.tup []) = some (.tuple []) := rfl
  unfold pyEq pyEqB
  simp only [e1, e2, Option.map_some]
  cases xs with
  | nil => cases ys with
    | nil => rfl
    | cons y ys => simp at hl
  | cons x xs => cases ys with
    | nil => simp at hl
    | cons y ys => simp [PyData.eqv, PyData.eqvAll]
theorem eq_str (s t : String) : pyEq G0 (.str s) (.str t) = some (.bl (decide (s = t))) := rfl
theorem one_eq (c d : Char) : decide (String.singleton c = String.singleton d) = decide (c = d) := by
  apply decide_eq_decide.mpr
  constructor
  · intro h
    have := congrArg String.toList h
    simpa using this
  · rintro rfl; rfl
def isPart (c : Char) (d : D) : Bool := if c = 'r' then inR 0 3 d else if c = 'n' then inR (-999) 999 d else if c = 'g' then inR 0 99 d else isWord d
theorem is_part_eq {n : Nat} {d : D} (h : okD n d = true) (c : Char) : e_is_part [.str (String.singleton c), d] = some (.ok (.bl (isPart c d))) := by
  have ty := okD_ty h
  unfold isPart
  by_cases h1 : c = 'r'
  · rw [if_pos h1, h1]
    exact r_fn (r_seqR (r_xif (r_test (r_op (r_var rfl) r_c (eq_str _ _))) (fun _ => r_ret (r_call (r_cons (r_var rfl) (r_cons r_c (r_cons r_c r_nil))) (is_whole_eq ty _ _))) fun z => absurd z (by decide))) rfl
  · rw [if_neg h1]
    have d1 : decide (String.singleton c = "r") = false := (one_eq c 'r').trans (decide_eq_false h1)
    by_cases h2 : c = 'n'
    · rw [if_pos h2, h2]
      exact r_fn (r_seq (r_xif (r_test (r_op (r_var rfl) r_c (eq_str _ _))) (fun z => absurd z (by decide)) fun _ => rfl) (r_seqR (r_xif (r_test (r_op (r_var rfl) r_c (eq_str _ _))) (fun _ => r_ret (r_call (r_cons (r_var rfl) r_nil) (is_number_eq ty))) fun z => absurd z (by decide)))) rfl
    · rw [if_neg h2]
      have d2 : decide (String.singleton c = "n") = false := (one_eq c 'n').trans (decide_eq_false h2)
      refine r_fn (r_seq (r_xif (r_test (r_op (r_var rfl) r_c (eq_str _ _))) (fun z => absurd z (by rw [d1]; exact Bool.false_ne_true)) fun _ => rfl) (r_seq (r_xif (r_test (r_op (r_var rfl) r_c (eq_str _ _))) (fun z => absurd z (by rw [d2]; exact Bool.false_ne_true)) fun _ => rfl) (r_ret (r_if (r_test (r_op (r_var rfl) r_c (eq_str _ _))) (fun z => ?_) fun z => ?_)))) rfl
      · rw [show decide (String.singleton c = "g") = decide (c = 'g') from one_eq c 'g'] at z
        rw [if_pos (of_decide_eq_true z)]
        exact r_call (r_cons (r_var rfl) (r_cons r_c (r_cons r_c r_nil))) (is_whole_eq ty _ _)
      · rw [show decide (String.singleton c = "g") = decide (c = 'g') from one_eq c 'g'] at z
        rw [if_neg (of_decide_eq_false z)]
        exact r_call (r_cons (r_var rfl) r_nil) (is_word_eq ty (okD_len h))
def partsOk (so : String) (ps : List D) : Bool := decide (ps.length = so.length) && (so.toList.zip ps).all fun p => isPart p.1 p.2
def isInstr : D → Bool
  | .tup (.str w :: ps) => match lst_FORMS.lookup w with
    | some so => partsOk so ps
    | none => false
  | _ => false
theorem tab_look : ∀ (l : List (String × String)) (w : String), (tabS l).lookup w = (l.lookup w).map .str
  | [], w => rfl
  | (k, v) :: l, w => by
    have ih := tab_look l w
    simp only [tabS, List.map_cons, List.lookup_cons] at ih ⊢
    cases w == k with
    | true => rfl
    | false => exact ih
theorem zip_signs : ∀ (cs : List Char) (ps : List D), zipD (cs.map fun c => .str (String.singleton c)) ps = (cs.zip ps).map fun p => .tup [.str (String.singleton p.1), p.2]
  | [], ps => by simp [zipD]
  | c :: cs, [] => by simp [zipD]
  | c :: cs, p :: ps => by simp [zipD, zip_signs cs ps]
theorem r_zip {env : DSt} {er : Ev (List D)} {a b : D} {as bs : List D} (h : er env = some (.ok [a, b])) (ha : iterD G0 a = some as) (hb : iterD G0 b = some bs) : eZip er env = some (.ok (zipD as bs)) := by
  unfold eZip; rw [h, b_ok]; simp only [ha, hb]
theorem forms_len {w so : String} (h : lst_FORMS.lookup w = some so) : so.length ≤ 3 := by
  have : ∀ p ∈ lst_FORMS, p.2.length ≤ 3 := by decide
  have hm : (w, so) ∈ lst_FORMS := by
    clear this
    generalize lst_FORMS = l at h
    induction l with
    | nil => cases h
    | cons p l ih =>
      obtain ⟨k, v⟩ := p
      rw [List.lookup_cons] at h
      by_cases e : w = k
      · rw [e] at h ⊢
        simp at h
        rw [h]
        exact List.mem_cons_self
      · rw [show (w == k) = false by simpa using e] at h
        exact List.mem_cons_of_mem _ (ih h)
  exact this _ hm
theorem item0 (x : D) (xs : List D) : pyItem G0 (.tup (x :: xs)) (.int 0) = some x := by simp [pyItem, asQ, L2.atI, L2.ixN]
theorem cut1 (x : D) (xs : List D) : pySlice G0 (.tup (x :: xs)) (some 1) none = some (.tup xs) := by
  show some (D.tup _) = _
  simp [cutD, HT.sIx]
theorem is_instruction_eq {d : D} (h : okD 40 d = true) : e_is_instruction [d] = some (.ok (.bl (isInstr d))) := by
  cases d with
  | tup xs =>
    cases xs with
    | nil => kernel_rfl
    | cons x ps =>
      have hx := okD_tup h x List.mem_cons_self
      have hps : ∀ p ∈ ps, okD 39 p = true := fun p hp => okD_tup h p (List.mem_cons_of_mem _ hp)
      cases x with
      | str w =>
        have t1 : tab_FORMS.lookup w = (lst_FORMS.lookup w).map .str := tab_look _ _
        cases hw : lst_FORMS.lookup w with
        | none =>
          rw [hw] at t1
          have k : kNotIn tab_FORMS G0 (.str w) = some (.bl true) := by simp only [kNotIn, t1]; rfl
          refine ok_bl (r_fn (r_seqR (r_xifT (r_or (r_not (r_test (r_un (r_var rfl) rfl))) fun _ => r_or (r_test (r_op (r_var rfl) (r_tup r_nil (by decide)) (eq_nil h))) fun _ => r_or (r_not (r_test (r_un (r_op (r_var rfl) r_c (item0 _ _)) rfl))) fun _ => r_test (r_un (r_op (r_var rfl) r_c (item0 _ _)) k)) rfl (r_ret r_c))) rfl) ?_
          simp only [isInstr, hw]
        | some so =>
          rw [hw] at t1
          have hso := forms_len hw
          have k : kNotIn tab_FORMS G0 (.str w) = some (.bl false) := by simp only [kNotIn, t1]; rfl
          have k2 : kItem tab_FORMS G0 (.str w) = some (.str so) := by simp only [kItem, t1]; rfl
          have k3 : DL.pyLen G0 [.str so] = some (.int so.length) := if_pos (by omega)
          have k4 : DL.pyLen G0 [.tup (.str w :: ps)] = some (.int (ps.length + 1 : Nat)) := rfl
          have k5 : pyEq G0 (.int (ps.length + 1 : Nat)) (.int (so.length + 1)) = some (.bl (decide (ps.length = so.length))) := by
            show some (D.bl (decide _)) = _
            rw [decide_eq_decide.mpr (show ((ps.length + 1 : Nat) : Int) = so.length + 1 ↔ ps.length = so.length by omega)]
          refine ok_bl (r_fn (r_seq (r_xifF (r_or (r_not (r_test (r_un (r_var rfl) rfl))) fun _ => r_or (r_test (r_op (r_var rfl) (r_tup r_nil (by decide)) (eq_nil h))) fun _ => r_or (r_not (r_test (r_un (r_op (r_var rfl) r_c (item0 _ _)) rfl))) fun _ => r_test (r_un (r_op (r_var rfl) r_c (item0 _ _)) k)) rfl rfl)
            (r_seq (r_set (r_un (r_op (r_var rfl) r_c (item0 _ _)) k2)) (r_ret (r_andV (r_op (r_b (r_cons (r_var rfl) r_nil) k4) (r_op (r_b (r_cons (r_var rfl) r_nil) k3) r_c rfl) k5) fun _ => r_b (z := .bl ((so.toList.zip ps).all fun p => isPart p.1 p.2)) (r_cons (lc_map (g := fun d => match d with | .tup [.str x, d] => .bl (isPart ((signOf x).getD 'a') d) | _ => .non) (r_zip (r_cons (r_var rfl) (r_cons (r_slice (r_var rfl) (r_part r_c) r_c (cut1 _ _)) r_nil)) rfl rfl) ?_ fun d hd => ?_) r_nil) ?_)))) rfl) ?_
          · have e : (signsD so).length = so.length := by simp [signsD, String.length]
            rw [zipD_len, e]
            omega
          · rw [show signsD so = so.toList.map (fun c => D.str (String.singleton c)) from rfl, zip_signs, List.mem_map] at hd
            obtain ⟨⟨c, p⟩, hp, rfl⟩ := hd
            refine ⟨_, rfl, r_call (r_cons (r_var rfl) (r_cons (r_var rfl) r_nil)) ?_⟩
            show e_is_part _ = some (Except.ok (D.bl (isPart ((signOf (String.singleton c)).getD 'a') p)))
            rw [signOf_one]
            exact is_part_eq (hps p (List.of_mem_zip hp).2) c
          · rw [show signsD so = so.toList.map (fun c => D.str (String.singleton c)) from rfl, zip_signs, List.map_map, ← pyAll_map]
            congr 3
            apply List.map_congr_left
            rintro ⟨c, p⟩ _
            show D.bl (isPart ((signOf (String.singleton c)).getD 'a') p) = _
            rw [signOf_one]
            rfl
          · simp only [isInstr, hw]
            rfl
      | ref a => cases hx
      | scr a => cases hx
      | _ =>
        exact ok_bl (r_fn (r_seqR (r_xifT (r_or (r_not (r_test (r_un (r_var rfl) rfl))) fun _ => r_or (r_test (r_op (r_var rfl) (r_tup r_nil (by decide)) (eq_nil h))) fun _ => r_or (c := false) (r_not (r_test (r_un (r_op (r_var rfl) r_c (item0 _ _)) rfl))) fun z => nomatch (show true = false from z)) rfl (r_ret r_c))) rfl) rfl
  | ref a => cases h
  | scr a => cases h
  | _ => kernel_rfl
def isProg : D → Bool
  | .tup xs => (decide (1 ≤ xs.length) && decide (xs.length ≤ 40)) && xs.all isInstr
  | _ => false
theorem is_program_eq {d : D} (h : okD 41 d = true) : e_is_program [d] = some (.ok (.bl (isProg d))) := by
  cases d with
  | tup xs =>
    have k : DL.pyLen G0 [.tup xs] = some (.int xs.length) := rfl
    have h3 : (1 : Int) ≤ xs.length ↔ 1 ≤ xs.length := by omega
    have h4 : (xs.length : Int) ≤ 40 ↔ xs.length ≤ 40 := by omega
    refine ok_bl (r_fn (r_ret (r_andV (r_un (r_var rfl) rfl) fun _ => r_andV (r_chain r_c (r_b (r_cons (r_var rfl) r_nil) k) rfl r_c rfl) fun hb => r_b (r_cons (lc_map (g := fun d => .bl (isInstr d)) (r_iter (r_var rfl) rfl) ?_ fun d hd => ⟨_, rfl, r_call (r_cons (r_var rfl) r_nil) (is_instruction_eq (okD_tup h d hd))⟩) r_nil) (pyAll_map isInstr xs))) rfl) ?_
    · rw [Bool.and_eq_true, decide_eq_true_eq, decide_eq_true_eq] at hb
      omega
    · show (true && ((decide _ && decide _) && _)) = _
      rw [decide_eq_decide.mpr h3, decide_eq_decide.mpr h4]
      rfl
  | ref a => cases h
  | scr a => cases h
  | _ => kernel_rfl
theorem need_program_eq {d : D} (h : okD 41 d = true) : e_need_program [d] = some (if isProg d = true then .ok .non else .error ("BadProgram", none)) := by
  by_cases hp : isProg d = true
  · rw [if_pos hp]
    exact r_fnN (r_xifF (r_not (r_test (r_call (r_cons (r_var rfl) r_nil) (is_program_eq h)))) (by rw [hp]; rfl) rfl) rfl
  · rw [if_neg hp]
    exact r_fnX (r_xifT (r_not (r_test (r_call (r_cons (r_var rfl) r_nil) (is_program_eq h)))) (by rw [Bool.eq_false_iff.mpr hp]; rfl) rfl) rfl
end PL

namespace PL
open DL PySem
/-! ### rights.py -/
def ltD : D → D → Bool
  | .str a, .str b => strLt a b
  | _, _ => false
def ascD (xs : List D) : Bool := (xs.zip xs.tail).all fun p => ltD p.1 p.2
def isRow : D → Bool
  | .tup xs => decide (xs.length ≤ 6) && xs.all isWord && ascD xs
  | _ => false
theorem zip_eq : ∀ xs ys : List D, zipD xs ys = (xs.zip ys).map fun p => .tup [p.1, p.2]
  | [], ys => by simp [zipD]
  | c :: cs, [] => by simp [zipD]
  | c :: cs, p :: ps => by simp [zipD, zip_eq cs ps]
theorem cutT (xs : List D) : pySlice G0 (.tup xs) (some 1) none = some (.tup xs.tail) := by
  cases xs with
  | nil => rfl
  | cons x xs => exact cut1 x xs
theorem isWord_str {d : D} (h : isWord d = true) : ∃ s, d = .str s := by cases d <;> first | exact ⟨_, rfl⟩ | cases h
theorem is_row_eq {n : Nat} {d : D} (h : okD (n + 1) d = true) : e_is_row [d] = some (.ok (.bl (isRow d))) := by
  cases d with
  | tup xs =>
    have k : DL.pyLen G0 [.tup xs] = some (.int xs.length) := rfl
    have kg : DL.pyGt G0 (.int xs.length) (.int 6) = some (.bl (decide (6 < xs.length))) := by
      show some (D.bl (decide _)) = _
      rw [decide_eq_decide.mpr (show (6 : Int) < xs.length ↔ 6 < xs.length by omega)]
    by_cases hl : 6 < xs.length
    · refine ok_bl (r_fn (r_seqR (r_xifT (r_or (r_not (r_test (r_un (r_var rfl) rfl))) fun _ => r_or (c := false) (r_test (r_op (r_b (r_cons (r_var rfl) r_nil) k) r_c kg)) fun z => absurd hl (of_decide_eq_false z)) (by simp [hl]) (r_ret r_c))) rfl) ?_
      simp only [isRow, show decide (xs.length ≤ 6) = false by simp; omega]
      rfl
    · have hw : eLc (eIter (eVar 0)) (.n 1) (eC true) (eCall e_is_word (eCons (eVar 1) (eC []))) [1] (dstart ["thing", "one", "other"] [.tup xs]) = _ := lc_map (g := fun d => .bl (isWord d)) (r_iter (r_var rfl) rfl) (by omega) fun d hd => ⟨_, rfl, r_call (r_cons (r_var rfl) r_nil) (is_word_eq (okD_ty (okD_tup h d hd)) (okD_len (okD_tup h d hd)))⟩
      cases ha : xs.all isWord with
      | false =>
        refine ok_bl (r_fn (r_seqR (r_xifT (r_or (r_not (r_test (r_un (r_var rfl) rfl))) fun _ => r_or (r_test (r_op (r_b (r_cons (r_var rfl) r_nil) k) r_c kg)) fun z => r_not (r_test (r_b (r_cons hw r_nil) (pyAll_map isWord xs)))) (by rw [ha]; simp) (r_ret r_c))) rfl) ?_
        simp only [isRow, ha, Bool.and_false, Bool.false_and]
      | true =>
        have hz : eLc (eZip (eCons (eVar 0) (eCons (eSlice (eVar 0) (ePart (eC (.int 1))) (eC none)) (eC [])))) (.t [1, 2]) (eC true) (eOp pyLt (eVar 1) (eVar 2)) [1, 2] (dstart ["thing", "one", "other"] [.tup xs]) = _ :=
          lc_map (g := fun d => match d with | .tup [a, b] => .bl (ltD a b) | _ => .non) (r_zip (r_cons (r_var rfl) (r_cons (r_slice (r_var rfl) (r_part r_c) r_c (cutT _)) r_nil)) rfl rfl) (by rw [zipD_len]; omega) fun d hd => by
            rw [zip_eq, List.mem_map] at hd
            obtain ⟨⟨a, b⟩, hp, rfl⟩ := hd
            obtain ⟨s, rfl⟩ := isWord_str (List.all_eq_true.mp ha a (List.of_mem_zip hp).1)
            obtain ⟨t, rfl⟩ := isWord_str (List.all_eq_true.mp ha b (List.mem_of_mem_tail (List.of_mem_zip hp).2))
            exact ⟨_, rfl, r_op (r_var rfl) (r_var rfl) rfl⟩
        have hz2 : pyAll G0 [.lst ((zipD xs xs.tail).map fun d => match d with | .tup [a, b] => .bl (ltD a b) | _ => .non)] = some (.bl (ascD xs)) := by
          rw [zip_eq, List.map_map]
          exact pyAll_map (fun p : D × D => ltD p.1 p.2) _
        refine ok_bl (r_fn (r_seq (r_xifF (r_or (r_not (r_test (r_un (r_var rfl) rfl))) fun _ => r_or (r_test (r_op (r_b (r_cons (r_var rfl) r_nil) k) r_c kg)) fun z => r_not (r_test (r_b (r_cons hw r_nil) (pyAll_map isWord xs)))) (by rw [ha, decide_eq_false hl]; rfl) rfl) (r_ret (r_b (r_cons hz r_nil) hz2))) rfl) ?_
        simp only [isRow, ha, decide_eq_true (show xs.length ≤ 6 by omega), Bool.true_and]
  | ref a => cases h
  | scr a => cases h
  | _ => kernel_rfl
def isRights : D → Bool
  | .tup (r :: rows) => decide (rows.length = 4) && inR 0 60 r && rows.all isRow
  | _ => false
theorem is_rights_eq {n : Nat} {d : D} (h : okD (n + 2) d = true) : e_is_rights [d] = some (.ok (.bl (isRights d))) := by
  cases d with
  | tup xs =>
    cases xs with
    | nil => kernel_rfl
    | cons r rows =>
      have k : DL.pyLen G0 [.tup (r :: rows)] = some (.int (rows.length + 1 : Nat)) := rfl
      have kn : pyNe G0 (.int (rows.length + 1 : Nat)) (.int 5) = some (.bl (!decide (rows.length = 4))) := by
        show some (D.bl (!decide _)) = _
        rw [decide_eq_decide.mpr (show ((rows.length + 1 : Nat) : Int) = 5 ↔ rows.length = 4 by omega)]
      by_cases hl : rows.length = 4
      · have hr := is_whole_eq (okD_ty (okD_tup h r List.mem_cons_self)) 0 60
        cases hi : inR 0 60 r with
        | false =>
          rw [hi] at hr
          refine ok_bl (r_fn (r_seqR (r_xifT (r_or (r_not (r_test (r_un (r_var rfl) rfl))) fun _ => r_or (r_test (r_op (r_b (r_cons (r_var rfl) r_nil) k) r_c kn)) fun z => r_not (r_test (r_call (r_cons (r_op (r_var rfl) r_c (item0 _ _)) (r_cons r_c (r_cons r_c r_nil))) hr))) (by simp) (r_ret r_c))) rfl) ?_
          simp only [isRights, hi, Bool.and_false, Bool.false_and]
        | true =>
          rw [hi] at hr
          refine ok_bl (r_fn (r_seq (r_xifF (r_or (r_not (r_test (r_un (r_var rfl) rfl))) fun _ => r_or (r_test (r_op (r_b (r_cons (r_var rfl) r_nil) k) r_c kn)) fun z => r_not (r_test (r_call (r_cons (r_op (r_var rfl) r_c (item0 _ _)) (r_cons r_c (r_cons r_c r_nil))) hr))) (by rw [decide_eq_true hl]; rfl) rfl)
            (r_ret (r_b (r_cons (lc_map (g := fun d => .bl (isRow d)) (r_iter (r_slice (r_var rfl) (r_part r_c) r_c (cut1 _ _)) rfl) (by omega) fun d hd => ⟨_, rfl, r_call (r_cons (r_var rfl) r_nil) (is_row_eq (okD_tup h d (List.mem_cons_of_mem _ hd)))⟩) r_nil) (pyAll_map isRow rows)))) rfl) ?_
          simp only [isRights, hi, decide_eq_true hl, Bool.true_and]
      · refine ok_bl (r_fn (r_seqR (r_xifT (r_or (r_not (r_test (r_un (r_var rfl) rfl))) fun _ => r_or (c := false) (r_test (r_op (r_b (r_cons (r_var rfl) r_nil) k) r_c kn)) fun z => by rw [decide_eq_false hl] at z; cases z) (by rw [decide_eq_false hl]; rfl) (r_ret r_c))) rfl) ?_
        simp only [isRights, decide_eq_false hl, Bool.false_and]
  | ref a => cases h
  | scr a => cases h
  | _ => kernel_rfl
theorem need_rights_eq {n : Nat} {d : D} (h : okD (n + 2) d = true) : e_need_rights [d] = some (if isRights d = true then .ok .non else .error ("BadRights", none)) := by
  by_cases hp : isRights d = true
  · rw [if_pos hp]
    exact r_fnN (r_xifF (r_not (r_test (r_call (r_cons (r_var rfl) r_nil) (is_rights_eq h)))) (by rw [hp]; rfl) rfl) rfl
  · rw [if_neg hp]
    exact r_fnX (r_xifT (r_not (r_test (r_call (r_cons (r_var rfl) r_nil) (is_rights_eq h)))) (by rw [Bool.eq_false_iff.mpr hp]; rfl) rfl) rfl
end PL

namespace PL
open DL PySem
/-! ### texts.py: numbers -/
def digits : List Char := "0123456789".toList
def bareC (cs : List Char) : List Char := if cs.take 1 = ['-'] then cs.drop 1 else cs
def digL (cs : List Char) : Bool := (decide (1 ≤ cs.length) && decide (cs.length ≤ 3)) && cs.all fun c => digits.contains c
def valC (cs : List Char) : Nat := (cs.map Char.toNat).foldl (fun acc c => acc * 10 + (c - 48)) 0
def valS (cs : List Char) : Int := if cs.take 1 = ['-'] then -(valC (cs.drop 1) : Int) else valC cs
def numIn (s : String) : D := if digL (bareC s.toList) = true ∧ toString (valS s.toList) = s then .int (valS s.toList) else .non
theorem cutC_hd (l : List Char) : cutC l none (some 1) = l.take 1 := by
  cases l with
  | nil => rfl
  | cons c l => simp [cutC, HT.sIx]
theorem cutC_tl (l : List Char) : cutC l (some 1) none = l.drop 1 := by
  cases l with
  | nil => rfl
  | cons c l => simp [cutC, HT.sIx]
theorem ofList_eq (l : List Char) (s : String) : decide (String.ofList l = s) = decide (l = s.toList) := by
  apply decide_eq_decide.mpr
  constructor
  · rintro rfl; simp
  · rintro rfl; simp
theorem bare_len (cs : List Char) : (bareC cs).length ≤ cs.length := by
  unfold bareC
  split <;> simp
theorem digit_nat {c : Char} (h : digits.contains c = true) : 48 ≤ c.toNat ∧ c.toNat ≤ 57 := by
  have : ∀ c ∈ digits, 48 ≤ c.toNat ∧ c.toNat ≤ 57 := by decide
  exact this c (by simpa using h)
theorem allDig {cs : List Char} (h : cs.all (fun c => digits.contains c) = true) : NumText.AllDigits (cs.map Char.toNat) := fun n hn => by
  obtain ⟨c, hc, rfl⟩ := List.mem_map.mp hn
  exact digit_nat (List.all_eq_true.mp h c hc)
theorem int_text {s : String} (h : digL (bareC s.toList) = true) : intText? (S s) = some (valS s.toList) := by
  unfold digL at h
  rw [Bool.and_eq_true, Bool.and_eq_true, decide_eq_true_eq, decide_eq_true_eq] at h
  obtain ⟨⟨h1, h2⟩, h3⟩ := h
  have hcps : (S s).cps.toList = s.toList.map Char.toNat := S_cps s
  have hlen : (S s).length = s.toList.length := by
    show (S s).cps.size = _
    rw [← Array.length_toList, hcps, List.length_map]
  unfold valS
  unfold bareC at h1 h2 h3
  by_cases hm : s.toList.take 1 = ['-']
  · rw [if_pos hm] at h1 h2 h3 ⊢
    have hs : s.toList = '-' :: s.toList.drop 1 := by
      rw [← List.take_append_drop 1 s.toList, hm]; simp
    have hc : (S s).cps.toList = 45 :: (s.toList.drop 1).map Char.toNat := by rw [hcps]; exact congrArg (List.map Char.toNat) hs
    refine intText_neg hc (allDig h3) ?_ ?_
    · intro e
      rw [List.map_eq_nil_iff] at e
      rw [e] at h1
      simp at h1
    · rw [hlen, hs]
      simp at h2 ⊢
      omega
  · rw [if_neg hm] at h1 h2 h3 ⊢
    have := intText_digits (x := S s) (by rw [hcps]; exact allDig h3) (by
      rw [hcps]; intro e
      rw [List.map_eq_nil_iff] at e
      rw [e] at h1
      simp at h1) (by rw [hlen]; omega)
    rw [this, hcps]
    rfl
theorem val_small {cs : List Char} (h : digL cs = true) : valC cs ≤ 999 := by
  unfold digL at h
  rw [Bool.and_eq_true, Bool.and_eq_true, decide_eq_true_eq, decide_eq_true_eq] at h
  obtain ⟨⟨h1, h2⟩, h3⟩ := h
  have hd : ∀ c ∈ cs, 48 ≤ c.toNat ∧ c.toNat ≤ 57 := fun c hc => digit_nat (List.all_eq_true.mp h3 c hc)
  unfold valC
  match cs, h2, hd with
  | [], _, _ => simp
  | [a], _, hd =>
    have := hd a (by simp)
    simp; omega
  | [a, b], _, hd =>
    have := hd a (by simp); have := hd b (by simp)
    simp; omega
  | [a, b, c], _, hd =>
    have := hd a (by simp); have := hd b (by simp); have := hd c (by simp)
    simp; omega
theorem valS_small {cs : List Char} (h : digL (bareC cs) = true) : -999 ≤ valS cs ∧ valS cs ≤ 999 := by
  unfold valS
  unfold bareC at h
  split at h <;> rename_i hm
  · rw [if_pos hm]
    have := val_small h
    omega
  · rw [if_neg hm]
    have := val_small h
    omega
theorem lc_signs {i : Nat} {env : DSt} {s t : String} {vs : List Nat} {ei : Ev (List D)} (hi : ei env = some (.ok (signsD s))) (hl : s.length ≤ 16000000) (hv : ∀ x, ((wipeD env vs).set i (some x))[i]? = some (some x)) :
    eLc ei (.n i) (eC true) (eOp pyIn (eVar i) (eC (.str t))) vs env = some (.ok (.lst (s.toList.map fun c => .bl (t.toList.contains c)))) := by
  have e : (signsD s).map (fun d => match d with | .str x => D.bl (t.toList.contains ((signOf x).getD 'a')) | _ => .non) = s.toList.map fun c => D.bl (t.toList.contains c) := by
    simp only [signsD, List.map_map]
    apply List.map_congr_left
    intro c _
    simp [signOf_one]
  rw [← e]
  refine lc_map hi ?_ fun d hd => ?_
  · have e : (signsD s).length = s.length := by simp [signsD, String.length]
    rw [e]; exact hl
  · simp only [signsD, List.mem_map] at hd
    obtain ⟨c, _, rfl⟩ := hd
    refine ⟨_, rfl, r_op (r_var (hv _)) r_c ?_⟩
    rw [in_signs]
    show _ = some (D.bl (t.toList.contains ((signOf (String.singleton c)).getD 'a')))
    rw [signOf_one]; rfl
theorem str_small {i : Int} (h : -999 ≤ i ∧ i ≤ 999) : pyStr G0 [.int i] = some (.str (toString i)) := by
  have : i.natAbs < 2 ^ 1000 := Nat.lt_of_le_of_lt (show i.natAbs ≤ 999 by omega) (Nat.lt_of_lt_of_le (by decide : 999 < 2 ^ 10) (Nat.pow_le_pow_right (by decide) (by decide)))
  exact if_pos this
theorem number_in_eq {s : String} (hl : s.length ≤ 16000000) : e_number_in [.str s] = some (.ok (numIn s)) := by
  have c1 : pySlice G0 (.str s) none (some 1) = some (.str (String.ofList (s.toList.take 1))) := by
    show (if s.length ≤ 16000000 then _ else none) = _
    rw [if_pos hl, cutC_hd]
  have c2 : pySlice G0 (.str s) (some 1) none = some (.str (String.ofList (s.toList.drop 1))) := by
    show (if s.length ≤ 16000000 then _ else none) = _
    rw [if_pos hl, cutC_tl]
  have hb : (String.ofList (bareC s.toList)).length ≤ 16000000 := by
    have := bare_len s.toList
    simp [String.length] at hl ⊢
    omega
  have e1 : ∀ x y : Option D, xSet 1 (eIf (eTest (eOp pyEq (eSlice (eVar 0) (eC none) (ePart (eC (.int 1)))) (eC (.str "-")))) (eSlice (eVar 0) (ePart (eC (.int 1))) (eC none)) (eVar 0)) [some (.str s), x, y] = some (.nx [some (.str s), some (.str (String.ofList (bareC s.toList))), y]) := fun x y => by
    refine r_set (x := .str (String.ofList (bareC s.toList))) (r_if (r_test (r_op (r_slice (r_var rfl) r_c (r_part r_c) c1) r_c (eq_str _ _))) (fun z => ?_) fun z => ?_)
    · rw [ofList_eq] at z
      unfold bareC
      rw [if_pos (show s.toList.take 1 = ['-'] from of_decide_eq_true z)]
      exact r_slice (r_var rfl) (r_part r_c) r_c c2
    · rw [ofList_eq] at z
      unfold bareC
      rw [if_neg (show ¬ s.toList.take 1 = ['-'] from of_decide_eq_false z), String.ofList_toList]
      exact r_var rfl
  have k : DL.pyLen G0 [.str (String.ofList (bareC s.toList))] = some (.int (bareC s.toList).length) := by
    show (if _ then _ else none) = _
    rw [if_pos hb]
    simp [String.length]
  have h3 : (1 : Int) ≤ (bareC s.toList).length ↔ 1 ≤ (bareC s.toList).length := by omega
  have h4 : ((bareC s.toList).length : Int) ≤ 3 ↔ (bareC s.toList).length ≤ 3 := by omega
  unfold numIn
  by_cases hd : digL (bareC s.toList) = true
  · have hv := int_text hd
    have hsm := valS_small hd
    have hd' := hd
    unfold digL at hd'
    rw [Bool.and_eq_true] at hd'
    have hs6 : s.length ≤ 640 := by
      have h0 := hd'.1
      rw [Bool.and_eq_true, decide_eq_true_eq, decide_eq_true_eq] at h0
      have : s.toList.length ≤ (bareC s.toList).length + 1 := by
        unfold bareC
        split
        · simp; omega
        · omega
      simp [String.length]
      omega
    have hi : pyIntS G0 [.str s] = some (.int (valS s.toList)) := by
      show (if s.length ≤ 640 then _ else none) = _
      rw [if_pos hs6, hv]; rfl
    have hne : pyNe G0 (.str (toString (valS s.toList))) (.str s) = some (.bl (!decide (toString (valS s.toList) = s))) := rfl
    by_cases hq : toString (valS s.toList) = s
    · rw [if_pos ⟨hd, hq⟩]
      refine r_fn (r_seq (e1 _ _) (r_seq (r_xifF (r_or (r_not (r_test (r_chain r_c (r_b (r_cons (r_var rfl) r_nil) k) rfl r_c rfl))) fun _ => r_or (r_not (r_test (r_b (r_cons (lc_signs (r_iter (r_var rfl) rfl) hb (fun _ => rfl)) r_nil) (pyAll_map _ _)))) fun _ => r_test (r_op (r_b (r_cons (r_b (r_cons (r_var rfl) r_nil) hi) r_nil) (str_small hsm)) (r_var rfl) hne)) ?_ rfl) (r_ret (r_b (r_cons (r_var rfl) r_nil) hi)))) rfl
      rw [decide_eq_decide.mpr h3, decide_eq_decide.mpr h4, decide_eq_true hq, hd'.1, String.toList_ofList]
      rw [show (bareC s.toList).all (fun c => "0123456789".toList.contains c) = true from hd'.2]
      rfl
    · rw [if_neg fun z => hq z.2]
      refine r_fn (r_seq (e1 _ _) (r_seqR (r_xifT (r_or (r_not (r_test (r_chain r_c (r_b (r_cons (r_var rfl) r_nil) k) rfl r_c rfl))) fun _ => r_or (r_not (r_test (r_b (r_cons (lc_signs (r_iter (r_var rfl) rfl) hb (fun _ => rfl)) r_nil) (pyAll_map _ _)))) fun _ => r_test (r_op (r_b (r_cons (r_b (r_cons (r_var rfl) r_nil) hi) r_nil) (str_small hsm)) (r_var rfl) hne)) ?_ (r_ret r_c)))) rfl
      rw [decide_eq_false hq]
      simp
  · rw [if_neg fun z => hd z.1]
    by_cases h5 : (decide (1 ≤ (bareC s.toList).length) && decide ((bareC s.toList).length ≤ 3)) = true
    · have h6 : ((bareC s.toList).all fun c => "0123456789".toList.contains c) = false := by
        unfold digL at hd
        rw [h5] at hd
        exact Bool.eq_false_iff.mpr hd
      refine r_fn (r_seq (e1 _ _) (r_seqR (r_xifT (r_or (r_not (r_test (r_chain r_c (r_b (r_cons (r_var rfl) r_nil) k) rfl r_c rfl))) fun _ => r_or (c := false) (r_not (r_test (r_b (r_cons (lc_signs (r_iter (r_var rfl) rfl) hb (fun _ => rfl)) r_nil) (pyAll_map _ _)))) fun z => ?_) ?_ (r_ret r_c)))) rfl
      · rw [String.toList_ofList, h6] at z; cases z
      · rw [String.toList_ofList, h6]; simp
    · refine r_fn (r_seq (e1 _ _) (r_seqR (r_xifT (r_or (c := false) (r_not (r_test (r_chain r_c (r_b (r_cons (r_var rfl) r_nil) k) rfl r_c rfl))) fun z => ?_) ?_ (r_ret r_c)))) rfl
      · rw [decide_eq_decide.mpr h3, decide_eq_decide.mpr h4, Bool.eq_false_iff.mpr h5] at z; cases z
      · rw [decide_eq_decide.mpr h3, decide_eq_decide.mpr h4, Bool.eq_false_iff.mpr h5]; rfl
end PL

namespace PL
open DL PySem
/-! ### split and join -/
theorem splC_ne (c : Char) : ∀ (l acc : List Char), ∃ x xs, splC c acc l = x :: xs
  | [], acc => ⟨acc, [], rfl⟩
  | d :: r, acc => by
    unfold splC
    split
    · exact ⟨_, _, rfl⟩
    · exact splC_ne c r _
theorem join_spl (c : Char) : ∀ (l acc : List Char), joinC [c] (splC c acc l) = acc ++ l
  | [], acc => by simp [splC, joinC]
  | d :: r, acc => by
    unfold splC
    by_cases h : d = c
    · rw [if_pos h]
      have ih := join_spl c r []
      obtain ⟨x, xs, e⟩ := splC_ne c r []
      rw [e] at ih ⊢
      show acc ++ [c] ++ joinC [c] (x :: xs) = _
      rw [ih, h]; simp
    · rw [if_neg h, join_spl c r (acc ++ [d])]; simp
theorem joinS_split (c : Char) (s : String) : joinS (String.singleton c) (splitS s c) = s := by
  unfold joinS splitS
  rw [List.map_map, show (String.toList ∘ String.ofList) = id from funext fun l => by simp, List.map_id]
  rw [show (String.singleton c).toList = [c] by simp, join_spl]
  simp
theorem spl_hit' (c : Char) (r : List Char) : ∀ (x acc : List Char), c ∉ x → splC c acc (x ++ c :: r) = (acc ++ x) :: splC c [] r
  | [], acc, _ => by
    rw [List.nil_append, List.append_nil]
    exact if_pos rfl
  | d :: x, acc, h => by
    have hd : d ≠ c := fun e => h (by simp [e])
    rw [show splC c acc (d :: x ++ c :: r) = splC c (acc ++ [d]) (x ++ c :: r) from if_neg hd, spl_hit' c r x (acc ++ [d]) (fun z => h (by simp [z]))]
    simp
theorem spl_end (c : Char) : ∀ (x acc : List Char), c ∉ x → splC c acc x = [acc ++ x]
  | [], acc, _ => by simp [splC]
  | d :: x, acc, h => by
    have hd : d ≠ c := fun e => h (by simp [e])
    unfold splC
    rw [if_neg hd, spl_end c x (acc ++ [d]) (fun z => h (by simp [z]))]
    simp
theorem spl_join (c : Char) : ∀ xs : List (List Char), xs ≠ [] → (∀ x ∈ xs, c ∉ x) → splC c [] (joinC [c] xs) = xs
  | [], h, _ => absurd rfl h
  | [x], _, h => by
    show splC c [] x = _
    rw [spl_end c x [] (h x (by simp))]; simp
  | x :: y :: r, _, h => by
    show splC c [] (x ++ [c] ++ joinC [c] (y :: r)) = _
    rw [List.append_assoc]
    show splC c [] (x ++ c :: joinC [c] (y :: r)) = _
    rw [spl_hit' c _ x [] (h x (by simp)), spl_join c (y :: r) (by simp) fun z hz => h z (List.mem_cons_of_mem _ hz)]
    simp
theorem splitS_join (c : Char) (xs : List String) (h0 : xs ≠ []) (h : ∀ x ∈ xs, c ∉ x.toList) : splitS (joinS (String.singleton c) xs) c = xs := by
  unfold joinS splitS
  rw [String.toList_ofList, show (String.singleton c).toList = [c] by simp, spl_join c _ (by simpa using h0)]
  · rw [List.map_map, show (String.ofList ∘ String.toList) = id from funext fun l => by simp, List.map_id]
  · intro x hx
    obtain ⟨s, hs, rfl⟩ := List.mem_map.mp hx
    exact h s hs
theorem splC_lens (c : Char) : ∀ (l acc : List Char), (∀ x ∈ splC c acc l, x.length ≤ acc.length + l.length) ∧ (splC c acc l).length ≤ l.length + 1
  | [], acc => by simp [splC]
  | d :: r, acc => by
    unfold splC
    split
    · have ih := splC_lens c r []
      refine ⟨fun x hx => ?_, ?_⟩
      · rcases List.mem_cons.mp hx with e | hx
        · rw [e]; omega
        · have := ih.1 x hx
          simp at this ⊢; omega
      · have := ih.2
        simp at this ⊢; omega
    · have ih := splC_lens c r (acc ++ [d])
      refine ⟨fun x hx => ?_, ?_⟩
      · have := ih.1 x hx
        simp at this ⊢; omega
      · have := ih.2
        simp at this ⊢; omega
theorem splitS_mem {c : Char} {s x : String} (h : x ∈ splitS s c) : x.length ≤ s.length := by
  unfold splitS at h
  obtain ⟨l, hl, rfl⟩ := List.mem_map.mp h
  have := (splC_lens c s.toList []).1 l hl
  simp [String.length] at this ⊢
  exact this
theorem splitS_len (c : Char) (s : String) : (splitS s c).length ≤ s.length + 1 := by
  unfold splitS
  have := (splC_lens c s.toList []).2
  simp [String.length] at this ⊢
  exact this
theorem splitS_ne (c : Char) (s : String) : ∃ x xs, splitS s c = x :: xs := by
  obtain ⟨x, xs, e⟩ := splC_ne c s.toList []
  unfold splitS
  rw [e]
  exact ⟨_, _, rfl⟩
theorem join_len (sep : List Char) : ∀ xs : List (List Char), (joinC sep xs).length ≤ (xs.map List.length).sum + xs.length * sep.length
  | [] => by simp [joinC]
  | [x] => by simp [joinC]
  | x :: y :: r => by
    have := join_len sep (y :: r)
    simp only [joinC, List.length_append, List.map_cons, List.sum_cons, List.length_cons, Nat.add_mul] at this ⊢
    omega
theorem joinS_len (sep : String) (xs : List String) : (joinS sep xs).length ≤ (xs.map String.length).sum + xs.length * sep.length := by
  have := join_len sep.toList (xs.map String.toList)
  unfold joinS
  rw [List.map_map, List.length_map, show (List.length ∘ String.toList) = String.length from funext fun s => by simp [String.length]] at this
  simp [String.length] at this ⊢
  exact this
theorem join_mem (sep : List Char) (c : Char) : ∀ xs : List (List Char), c ∈ joinC sep xs → c ∈ sep ∨ ∃ x ∈ xs, c ∈ x
  | [], h => by simp [joinC] at h
  | [x], h => .inr ⟨x, by simp, h⟩
  | x :: y :: r, h => by
    rw [show joinC sep (x :: y :: r) = x ++ sep ++ joinC sep (y :: r) from rfl, List.mem_append, List.mem_append] at h
    rcases h with (h | h) | h
    · exact .inr ⟨x, by simp, h⟩
    · exact .inl h
    · rcases join_mem sep c (y :: r) h with h | ⟨z, hz, h⟩
      · exact .inl h
      · exact .inr ⟨z, List.mem_cons_of_mem _ hz, h⟩
theorem joinS_mem {sep : String} {xs : List String} {c : Char} (h : c ∈ (joinS sep xs).toList) : c ∈ sep.toList ∨ ∃ x ∈ xs, c ∈ x.toList := by
  unfold joinS at h
  rw [String.toList_ofList] at h
  rcases join_mem _ _ _ h with h | ⟨x, hx, h⟩
  · exact .inl h
  · obtain ⟨s, hs, rfl⟩ := List.mem_map.mp hx
    exact .inr ⟨s, hs, h⟩
/-! ### numbers' texts -/
def digK : Nat → Bool
  | 0 => true
  | n + 1 => digL (Nat.repr n).toList && digK n
theorem digK_ok : digK 1000 = true := by decide +kernel
theorem digK_mem : ∀ {n m : Nat}, digK n = true → m < n → digL (Nat.repr m).toList = true
  | n + 1, m, h, hm => by
    unfold digK at h
    rw [Bool.and_eq_true] at h
    rcases Nat.lt_or_eq_of_le (Nat.le_of_lt_succ hm) with q | q
    · exact digK_mem h.2 q
    · rw [q]; exact h.1
theorem digL_hd {cs : List Char} (h : digL cs = true) : ¬ cs.take 1 = ['-'] := fun e => by
  unfold digL at h
  rw [Bool.and_eq_true] at h
  cases cs with
  | nil => cases e
  | cons a r =>
    have ha : a = '-' := (List.cons.inj e).1
    have := List.all_eq_true.mp h.2 a List.mem_cons_self
    rw [ha] at this
    revert this; decide
theorem toStr_pos {i : Int} (h : 0 ≤ i) : toString i = Nat.repr i.toNat := by
  obtain ⟨n, rfl⟩ := Int.eq_ofNat_of_zero_le h
  rfl
theorem toStr_neg {i : Int} (h : i < 0) : (toString i).toList = '-' :: (Nat.repr (-i).toNat).toList := by
  obtain ⟨n, rfl⟩ := Int.eq_negSucc_of_lt_zero h
  show ("-" ++ Nat.repr (n + 1)).toList = _
  rw [String.toList_append]
  rfl
theorem digR {n : Nat} (h : n ≤ 999) : digL (Nat.repr n).toList = true := digK_mem digK_ok (by omega)
theorem valR {n : Nat} (h : n ≤ 999) : valC (Nat.repr n).toList = n := by
  have hd := digR h
  have e : bareC (toString (n : Int)).toList = (Nat.repr n).toList := if_neg (digL_hd hd)
  have h1 := int_text (s := toString (n : Int)) (by rw [e]; exact hd)
  have h2 := PySem.W.KIN.num_reads (n := (n : Int)) (by omega) (by omega)
  rw [show PySem.Str.ofString (toString (n : Int)) = S (toString (n : Int)) from rfl, h1] at h2
  have h3 := Option.some.inj h2
  unfold valS at h3
  rw [show toString (n : Int) = Nat.repr n from rfl, if_neg (digL_hd hd)] at h3
  exact Int.ofNat.inj h3
theorem numIn_str {i : Int} (h : -999 ≤ i ∧ i ≤ 999) : numIn (toString i) = .int i := by
  have : digL (bareC (toString i).toList) = true ∧ valS (toString i).toList = i := by
    by_cases h0 : 0 ≤ i
    · have hd := digR (n := i.toNat) (by omega)
      have e : bareC (toString i).toList = (Nat.repr i.toNat).toList := by
        rw [toStr_pos h0]; exact if_neg (digL_hd hd)
      refine ⟨by rw [e]; exact hd, ?_⟩
      rw [toStr_pos h0]
      unfold valS
      rw [if_neg (digL_hd hd), valR (by omega)]
      omega
    · have hd := digR (n := (-i).toNat) (by omega)
      have ht := toStr_neg (i := i) (by omega)
      rw [ht]
      refine ⟨?_, ?_⟩
      · unfold bareC
        rw [if_pos (by simp)]
        exact hd
      · unfold valS
        rw [if_pos (by simp)]
        show -((valC (Nat.repr (-i).toNat).toList : Nat) : Int) = i
        rw [valR (by omega)]
        omega
  unfold numIn
  rw [this.2, if_pos ⟨this.1, rfl⟩]
theorem digL_len {cs : List Char} (h : digL cs = true) : cs.length ≤ 3 ∧ ∀ c ∈ cs, c ≠ ' ' ∧ c ≠ '\n' := by
  unfold digL at h
  rw [Bool.and_eq_true, Bool.and_eq_true, decide_eq_true_eq, decide_eq_true_eq] at h
  refine ⟨h.1.2, fun c hc => ?_⟩
  have := digit_nat (List.all_eq_true.mp h.2 c hc)
  constructor
  · rintro rfl; revert this; decide
  · rintro rfl; revert this; decide
theorem numStr {i : Int} (h : -999 ≤ i ∧ i ≤ 999) : (toString i).length ≤ 4 ∧ ∀ c ∈ (toString i).toList, c ≠ ' ' ∧ c ≠ '\n' := by
  rw [show (toString i).length = (toString i).toList.length by simp [String.length]]
  by_cases h0 : 0 ≤ i
  · rw [toStr_pos h0]
    have := digL_len (digR (n := i.toNat) (by omega))
    exact ⟨by omega, this.2⟩
  · rw [toStr_neg (by omega)]
    have := digL_len (digR (n := (-i).toNat) (by omega))
    refine ⟨by simp only [List.length_cons]; omega, fun c hc => ?_⟩
    rcases List.mem_cons.mp hc with rfl | hc
    · decide
    · exact this.2 c hc
theorem numIn_int {s : String} {i : Int} (h : numIn s = .int i) : toString i = s := by
  unfold numIn at h
  split at h
  · rename_i h2
    cases h
    exact h2.2
  · cases h
theorem numIn_cases (s : String) : numIn s = .non ∨ ∃ i, numIn s = .int i := by
  unfold numIn
  split
  · exact .inr ⟨_, rfl⟩
  · exact .inl rfl
end PL

namespace PL
open DL PySem
theorem slen (s : String) : s.toList.length = s.length := by simp [String.length]
theorem inR_int {lo hi : Int} {d : D} (h : inR lo hi d = true) : ∃ i, d = .int i ∧ lo ≤ i ∧ i ≤ hi := by
  cases d with
  | int i =>
    unfold inR at h
    rw [Bool.and_eq_true, decide_eq_true_eq, decide_eq_true_eq] at h
    exact ⟨i, rfl, h.1, h.2⟩
  | _ => cases h
theorem small_sign {c : Char} (h : small.contains c = true) : c ≠ ' ' ∧ c ≠ '\n' := by
  have : ∀ c ∈ small, c ≠ ' ' ∧ c ≠ '\n' := by decide
  exact this c (by simpa using h)
theorem word_txt {s : String} (h : wordS s = true) : s.length ≤ 8 ∧ 1 ≤ s.length ∧ ∀ c ∈ s.toList, small.contains c = true := by
  unfold wordS at h
  rw [Bool.and_eq_true, Bool.and_eq_true, decide_eq_true_eq, decide_eq_true_eq] at h
  exact ⟨h.1.2, h.1.1, List.all_eq_true.mp h.2⟩
def strP : D → String
  | .int i => toString i
  | .str s => s
  | _ => ""
def lineOf (ps : List D) : String := joinS " " (ps.map strP)
def lineD : D → String
  | .tup ps => lineOf ps
  | _ => ""
def progText (xs : List D) : String := joinS "\n" (xs.map lineD)
structure TxtOk (d : D) : Prop where
  str : pyStr G0 [d] = some (.str (strP d))
  len : (strP d).length ≤ 8
  sg : ∀ c ∈ (strP d).toList, c ≠ ' ' ∧ c ≠ '\n'
theorem int_txt {i : Int} (h : -999 ≤ i ∧ i ≤ 999) : TxtOk (.int i) := ⟨str_small h, Nat.le_trans (numStr h).1 (by decide), (numStr h).2⟩
theorem wrd_txt {s : String} (h : wordS s = true) : TxtOk (.str s) := ⟨rfl, (word_txt h).1, fun c hc => small_sign ((word_txt h).2.2 c hc)⟩
theorem isWord_eq {d : D} (h : isWord d = true) : ∃ s, d = .str s ∧ wordS s = true := by
  cases d with
  | str s => exact ⟨s, rfl, h⟩
  | _ => cases h
theorem part_cases {c : Char} {d : D} (h : isPart c d = true) : (∃ i, d = .int i ∧ -999 ≤ i ∧ i ≤ 999 ∧ (c = 'r' ∨ c = 'n' ∨ c = 'g')) ∨ (∃ s, d = .str s ∧ wordS s = true ∧ c ≠ 'r' ∧ c ≠ 'n' ∧ c ≠ 'g') := by
  unfold isPart at h
  by_cases h1 : c = 'r'
  · rw [if_pos h1] at h
    obtain ⟨i, e, a, b⟩ := inR_int h
    exact .inl ⟨i, e, by omega, by omega, .inl h1⟩
  rw [if_neg h1] at h
  by_cases h2 : c = 'n'
  · rw [if_pos h2] at h
    obtain ⟨i, e, a, b⟩ := inR_int h
    exact .inl ⟨i, e, by omega, by omega, .inr (.inl h2)⟩
  rw [if_neg h2] at h
  by_cases h3 : c = 'g'
  · rw [if_pos h3] at h
    obtain ⟨i, e, a, b⟩ := inR_int h
    exact .inl ⟨i, e, by omega, by omega, .inr (.inr h3)⟩
  rw [if_neg h3] at h
  obtain ⟨s, e, hw⟩ := isWord_eq h
  exact .inr ⟨s, e, hw, h1, h2, h3⟩
theorem part_txt {c : Char} {d : D} (h : isPart c d = true) : TxtOk d := by
  rcases part_cases h with ⟨i, rfl, a, b, _⟩ | ⟨s, rfl, hw, _⟩
  · exact int_txt ⟨a, b⟩
  · exact wrd_txt hw
theorem zip_snd {α β : Type} : ∀ (cs : List α) (ps : List β), ps.length ≤ cs.length → ∀ p ∈ ps, ∃ c, (c, p) ∈ cs.zip ps
  | _, [], _, p, hp => by cases hp
  | [], q :: ps, h, _, _ => by simp at h
  | c :: cs, q :: ps, h, p, hp => by
    rcases List.mem_cons.mp hp with rfl | hp
    · exact ⟨c, by simp⟩
    · obtain ⟨c', hc⟩ := zip_snd cs ps (by simp at h; omega) p hp
      exact ⟨c', by simp [hc]⟩
theorem forms_all : ∀ p ∈ lst_FORMS, p.2.length ≤ 3 ∧ wordS p.1 = true ∧ p.2.toList.all (fun c => ['r', 'n', 'g', 'w'].contains c) = true := by decide
theorem forms_at {w so : String} (h : lst_FORMS.lookup w = some so) : so.length ≤ 3 ∧ wordS w = true ∧ ∀ c ∈ so.toList, c = 'r' ∨ c = 'n' ∨ c = 'g' ∨ c = 'w' := by
  obtain ⟨a, b, c⟩ := forms_all _ (lookup_mem' h)
  refine ⟨a, b, fun x hx => ?_⟩
  have := List.all_eq_true.mp c x hx
  simpa using this
theorem instr_cases {d : D} (h : isInstr d = true) : ∃ w ps so, d = .tup (.str w :: ps) ∧ lst_FORMS.lookup w = some so ∧ ps.length = so.length ∧ ∀ p ∈ so.toList.zip ps, isPart p.1 p.2 = true := by
  unfold isInstr at h
  split at h
  · rename_i w ps
    split at h
    · rename_i so e
      unfold partsOk at h
      rw [Bool.and_eq_true, decide_eq_true_eq] at h
      exact ⟨w, ps, so, rfl, e, h.1, List.all_eq_true.mp h.2⟩
    · cases h
  · cases h
theorem instr_txt {d : D} (h : isInstr d = true) : ∃ ps, d = .tup ps ∧ ps.length ≤ 4 ∧ ps ≠ [] ∧ ∀ p ∈ ps, TxtOk p := by
  obtain ⟨w, ps, so, rfl, e, hl, hp⟩ := instr_cases h
  obtain ⟨a, b, _⟩ := forms_at e
  refine ⟨_, rfl, by simp; omega, by simp, fun p hp' => ?_⟩
  rcases List.mem_cons.mp hp' with rfl | hp'
  · exact wrd_txt b
  · obtain ⟨c, hc⟩ := zip_snd so.toList ps (by rw [slen]; omega) p hp'
    exact part_txt (hp _ hc)
theorem sum_le {α : Type} (f : α → Nat) (b : Nat) : ∀ xs : List α, (∀ x ∈ xs, f x ≤ b) → (xs.map f).sum ≤ xs.length * b
  | [], _ => by simp
  | x :: xs, h => by
    have := sum_le f b xs fun y hy => h y (List.mem_cons_of_mem _ hy)
    have := h x List.mem_cons_self
    simp only [List.map_cons, List.sum_cons, List.length_cons, Nat.add_mul]
    omega
theorem line_len {ps : List D} (h4 : ps.length ≤ 4) (h : ∀ p ∈ ps, TxtOk p) : ((ps.map strP).map String.length).sum + (ps.map strP).length * 1 ≤ 36 := by
  rw [List.map_map, List.length_map]
  have := sum_le (String.length ∘ strP) 8 ps fun p hp => (h p hp).len
  omega
theorem allS_map : ∀ xs : List String, allS (xs.map .str) = some xs
  | [] => rfl
  | x :: xs => by simp only [List.map_cons, allS, allS_map xs, Option.map_some]
theorem join_eq {a : String} {zs : List String} (h : (zs.map String.length).sum + zs.length * a.length ≤ 16000000) : mJoin G0 (.str a) [.lst (zs.map .str)] = some (.str (joinS a zs), G0) := by
  simp only [mJoin, asQ, asL, allS_map, if_pos h]
theorem r_mt {ty : String} {f : DMF} {ea : Ev D} {er : Ev (List D)} {env : DSt} {x z : D} {xs : List D} {G' : DG} (ha : ea env = some (.ok x)) (ht : tyM G0 x = some ty) (hr : er env = some (.ok xs)) (h : f G0 x xs = some (z, G')) : eMt ty f ea er env = some (.ok z) := by
  unfold eMt; rw [ha, b_ok, if_pos ht, hr, b_ok, h]; rfl
theorem isProg_cases {d : D} (h : isProg d = true) : ∃ xs, d = .tup xs ∧ 1 ≤ xs.length ∧ xs.length ≤ 40 ∧ ∀ x ∈ xs, isInstr x = true := by
  cases d with
  | tup xs =>
    unfold isProg at h
    rw [Bool.and_eq_true, Bool.and_eq_true, decide_eq_true_eq, decide_eq_true_eq] at h
    exact ⟨xs, rfl, h.1.1, h.1.2, List.all_eq_true.mp h.2⟩
  | _ => cases h
theorem txt_okD {d : D} (h : TxtOk d) (n : Nat) : okD n d = true := by
  have := h.str
  cases d with
  | int i => cases n <;> rfl
  | str s =>
    have hl : s.length ≤ 16000000 := Nat.le_trans h.len (by decide)
    cases n <;> exact decide_eq_true hl
  | _ => cases this
theorem instr_okD {d : D} (h : isInstr d = true) (n : Nat) : okD (n + 1) d = true := by
  obtain ⟨ps, rfl, _, _, hp⟩ := instr_txt h
  exact List.all_eq_true.mpr fun p hp' => txt_okD (hp p hp') n
theorem prog_okD {d : D} (h : isProg d = true) (n : Nat) : okD (n + 2) d = true := by
  obtain ⟨xs, rfl, _, _, hx⟩ := isProg_cases h
  exact List.all_eq_true.mpr fun x hx' => instr_okD (hx x hx') n
theorem need_program_ok {d : D} (h : isProg d = true) : e_need_program [d] = some (.ok .non) := by
  rw [need_program_eq (prog_okD h 39), if_pos h]
theorem lineD_len {d : D} (h : isInstr d = true) : (lineD d).length ≤ 36 := by
  obtain ⟨ps, rfl, h4, _, hp⟩ := instr_txt h
  have := joinS_len " " (ps.map strP)
  have h2 := line_len h4 hp
  rw [show (" " : String).length = 1 from rfl] at this
  exact Nat.le_trans this h2
theorem text_len {xs : List D} (h : isProg (.tup xs) = true) : ((xs.map lineD).map String.length).sum + (xs.map lineD).length * 1 ≤ 1600 := by
  obtain ⟨ys, e, _, h40, hx⟩ := isProg_cases h
  cases e
  rw [List.map_map, List.length_map]
  have := sum_le (String.length ∘ lineD) 36 xs fun p hp => lineD_len (hx p hp)
  omega
theorem progText_len {xs : List D} (h : isProg (.tup xs) = true) : (progText xs).length ≤ 1600 := by
  have := joinS_len "\n" (xs.map lineD)
  rw [show ("\n" : String).length = 1 from rfl] at this
  exact Nat.le_trans this (text_len h)
theorem program_text_eq {xs : List D} (h : isProg (.tup xs) = true) : e_program_text [.tup xs] = some (.ok (.str (progText xs))) := by
  obtain ⟨ys, e, _, h40, hx⟩ := isProg_cases h
  cases e
  refine r_fn (r_seq (r_drop (r_call (r_cons (r_var rfl) r_nil) (need_program_ok h))) (r_ret (r_mt r_c rfl (r_cons (lc_map (g := fun d => .str (lineD d)) (r_iter (r_var rfl) rfl) (by omega) fun d hd => ⟨_, rfl, ?_⟩) r_nil) (G' := G0) ?_))) rfl
  · obtain ⟨ps, rfl, h4, _, hp⟩ := instr_txt (hx d hd)
    refine r_mt r_c rfl (r_cons (lc_map (g := fun p => .str (strP p)) (r_iter (r_var rfl) rfl) (by omega) fun p hp' => ⟨_, rfl, r_b (r_cons (r_var rfl) r_nil) (hp p hp').str⟩) r_nil) (G' := G0) ?_
    have := join_eq (a := " ") (zs := ps.map strP) (Nat.le_trans (line_len h4 hp) (by decide))
    rw [List.map_map] at this
    exact this
  · have := join_eq (a := "\n") (zs := xs.map lineD) (Nat.le_trans (text_len h) (by decide))
    rw [List.map_map] at this
    exact this
/-! ### read_program -/
def partIn (p : Char × String) : D := if p.1 = 'w' then .str p.2 else numIn p.2
def rowIn (line : String) : D := match splitS line ' ' with
  | [] => .non
  | w :: ws => match lst_FORMS.lookup w with
    | none => .non
    | some so => if ws.length = so.length then .tup (.str w :: (so.toList.zip ws).map partIn) else .non
theorem split_eq {s b : String} {c : Char} (hb : signOf b = some c) (hc : c.toNat < 256) (hl : s.length ≤ 1000000) : mSplit G0 (.str s) [.str b] = some (.lst ((splitS s c).map .str), G0) := by
  simp only [mSplit, hb]
  rw [if_pos ⟨hc, by omega⟩]
theorem item0L (x : D) (xs : List D) : pyItem G0 (.lst (x :: xs)) (.int 0) = some x := by simp [pyItem, asQ, asL, L2.atI, L2.ixN]
theorem cut1L (x : D) (xs : List D) : pySlice G0 (.lst (x :: xs)) (some 1) none = some (.lst xs) := by
  show some (D.lst _) = _
  simp [cutD, HT.sIx]
theorem zip_strs (so : String) (ws : List String) : zipD (signsD so) (ws.map .str) = (so.toList.zip ws).map fun p => .tup [.str (String.singleton p.1), .str p.2] := by
  rw [show signsD so = so.toList.map (fun c => D.str (String.singleton c)) from rfl, zip_signs, List.zip_map_right, List.map_map]
  rfl
theorem row_in_eq {line : String} (hl : line.length ≤ 1000000) : e_row_in [.str line] = some (.ok (rowIn line)) := by
  obtain ⟨w, ws, e⟩ := splitS_ne ' ' line
  have hs : mSplit G0 (.str line) [.str " "] = some (.lst (.str w :: ws.map .str), G0) := by
    rw [split_eq (c := ' ') rfl (by decide) hl, e]; rfl
  have hwl : ∀ x ∈ w :: ws, x.length ≤ 16000000 := fun x hx => by
    rw [← e] at hx
    exact Nat.le_trans (splitS_mem hx) (by omega)
  have er0 : rowIn line = match lst_FORMS.lookup w with
    | none => .non
    | some so => if ws.length = so.length then .tup (.str w :: (so.toList.zip ws).map partIn) else .non := by unfold rowIn; rw [e]
  have t1 : tab_FORMS.lookup w = (lst_FORMS.lookup w).map .str := tab_look _ _
  cases hw : lst_FORMS.lookup w with
  | none =>
    rw [hw] at t1
    have k : kGet tab_FORMS G0 (.str w) = some .non := by simp only [kGet, t1]; rfl
    rw [er0, hw]
    exact r_fn (r_seq (r_set (r_mt (r_var rfl) rfl (r_cons r_c r_nil) hs)) (r_seq (r_set (r_un (r_op (r_var rfl) r_c (item0L _ _)) k)) (r_seqR (r_xifT (r_or (c := false) (r_test (r_op (r_var rfl) r_c rfl)) fun z => nomatch (show true = false from z)) rfl (r_ret r_c))))) rfl
  | some so =>
    rw [hw] at t1
    have hso := (forms_at hw).1
    have k : kGet tab_FORMS G0 (.str w) = some (.str so) := by simp only [kGet, t1]; rfl
    have k3 : DL.pyLen G0 [.str so] = some (.int so.length) := if_pos (by omega)
    have k4 : DL.pyLen G0 [.lst (.str w :: ws.map .str)] = some (.int (ws.length + 1 : Nat)) := by
      show some (D.int ((_ : Nat) : Int)) = _
      simp
    have k5 : pyNe G0 (.int (ws.length + 1 : Nat)) (.int (so.length + 1)) = some (.bl (!decide (ws.length = so.length))) := by
      show some (D.bl (!decide _)) = _
      rw [decide_eq_decide.mpr (show ((ws.length + 1 : Nat) : Int) = so.length + 1 ↔ ws.length = so.length by omega)]
    have cond : ∀ a b : Option D, eOr (eTest (eOp pyIs (eVar 2) (eC .non))) (eTest (eOp pyNe (eB pyLen (eCons (eVar 1) (eC []))) (eOp pyAdd (eB pyLen (eCons (eVar 2) (eC []))) (eC (.int 1))))) [some (.str line), some (.lst (.str w :: ws.map .str)), some (.str so), a, b] = some (.ok (false || !decide (ws.length = so.length))) := fun a b =>
      r_or (r_test (r_op (r_var rfl) r_c rfl)) fun _ => r_test (r_op (r_b (r_cons (r_var rfl) r_nil) k4) (r_op (r_b (r_cons (r_var rfl) r_nil) k3) r_c rfl) k5)
    by_cases hle : ws.length = so.length
    · have er : rowIn line = .tup (.str w :: (so.toList.zip ws).map partIn) := by rw [er0, hw]; exact if_pos hle
      rw [er]
      refine r_fn (r_seq (r_set (r_mt (r_var rfl) rfl (r_cons r_c r_nil) hs)) (r_seq (r_set (r_un (r_op (r_var rfl) r_c (item0L _ _)) k)) (r_seq (r_xifF (cond _ _) (by rw [decide_eq_true hle]; rfl) rfl) (r_ret (r_op (r_tup (r_cons (r_op (r_var rfl) r_c (item0L _ _)) r_nil) (by simp)) (r_b (r_cons (lc_map (g := fun d => match d with | .tup [.str x, .str y] => partIn ((signOf x).getD 'a', y) | _ => .non) (r_zip (r_cons (r_var rfl) (r_cons (r_slice (r_var rfl) (r_part r_c) r_c (cut1L _ _)) r_nil)) rfl rfl) ?_ fun d hd => ?_) r_nil) (z := .tup ((so.toList.zip ws).map partIn)) ?_) ?_))))) rfl
      · rw [zipD_len]
        have : (signsD so).length = so.length := by simp [signsD, String.length]
        omega
      · rw [zip_strs, List.mem_map] at hd
        obtain ⟨⟨c, y⟩, hp, rfl⟩ := hd
        refine ⟨_, rfl, ?_⟩
        have hy : y.length ≤ 1000000 := Nat.le_trans (splitS_mem (c := ' ') (s := line) (by rw [e]; exact List.mem_cons_of_mem _ (List.of_mem_zip hp).2)) hl
        show _ = some (Except.ok (partIn ((signOf (String.singleton c)).getD 'a', y)))
        rw [signOf_one]
        refine r_if (r_test (r_op (r_var rfl) r_c (eq_str _ _))) (fun z => ?_) fun z => ?_
        · rw [show decide (String.singleton c = "w") = decide (c = 'w') from one_eq c 'w'] at z
          have hc : c = 'w' := of_decide_eq_true z
          rw [show partIn ((some c).getD 'a', y) = .str y from if_pos hc]
          exact r_var rfl
        · rw [show decide (String.singleton c = "w") = decide (c = 'w') from one_eq c 'w'] at z
          have hc : ¬ c = 'w' := of_decide_eq_false z
          rw [show partIn ((some c).getD 'a', y) = numIn y from if_neg hc]
          exact r_call (r_cons (r_var rfl) r_nil) (number_in_eq (show y.length ≤ 16000000 by omega))
      · show some (D.tup _) = _
        rw [zip_strs, List.map_map]
        congr 2
        apply List.map_congr_left
        rintro ⟨c, p⟩ _
        show partIn ((signOf (String.singleton c)).getD 'a', p) = _
        rw [signOf_one]
        rfl
      · show (if _ then _ else none) = _
        rw [if_pos (by simp; omega)]
        rfl
    · have er : rowIn line = .non := by rw [er0, hw]; exact if_neg hle
      rw [er]
      exact r_fn (r_seq (r_set (r_mt (r_var rfl) rfl (r_cons r_c r_nil) hs)) (r_seq (r_set (r_un (r_op (r_var rfl) r_c (item0L _ _)) k)) (r_seqR (r_xifT (cond _ _) (by rw [decide_eq_false hle]; rfl) (r_ret r_c))))) rfl
theorem rowIn_okD {line : String} (hl : line.length ≤ 1000000) (n : Nat) : okD (n + 1) (rowIn line) = true := by
  unfold rowIn
  split
  · rfl
  · rename_i w ws e
    split
    · rfl
    · rename_i so hs
      split
      · have hx : ∀ x ∈ w :: ws, x.length ≤ 16000000 := fun x hx => Nat.le_trans (splitS_mem (c := ' ') (s := line) (by rw [e]; exact hx)) (by omega)
        refine List.all_eq_true.mpr fun p hp => ?_
        rcases List.mem_cons.mp hp with rfl | hp
        · have := hx w (by simp)
          cases n <;> exact decide_eq_true this
        · obtain ⟨⟨c, y⟩, hm, rfl⟩ := List.mem_map.mp hp
          unfold partIn
          split
          · have := hx y (List.mem_cons_of_mem _ (List.of_mem_zip hm).2)
            cases n <;> exact decide_eq_true this
          · rcases numIn_cases y with q | ⟨i, q⟩ <;> rw [q] <;> cases n <;> rfl
      · rfl
def readP (s : String) : List D := (splitS s '\n').map rowIn
theorem read_program_eq {s : String} (hl : s.length ≤ 1000000) : e_read_program [.str s] = some (if isProg (.tup (readP s)) = true then .ok (.tup (readP s)) else .error ("BadText", none)) := by
  have hs : mSplit G0 (.str s) [.str "\n"] = some (.lst ((splitS s '\n').map .str), G0) := split_eq (c := '\n') rfl (by decide) hl
  have hn := splitS_len '\n' s
  have hok : okD 41 (.tup (readP s)) = true := List.all_eq_true.mpr fun x hx => by
    obtain ⟨l, hm, rfl⟩ := List.mem_map.mp hx
    exact rowIn_okD (Nat.le_trans (splitS_mem hm) hl) 39
  have e1 : ∀ a b : Option D, xSet 1 (eB pyTup (eCons (eLc (eIter (eMt "str" mSplit (eVar 0) (eCons (eC (.str "\n")) (eC [])))) (.n 2) (eC true) (eCall e_row_in (eCons (eVar 2) (eC []))) [2]) (eC []))) [some (.str s), a, b] = some (.nx [some (.str s), some (.tup (readP s)), b]) := fun a b => by
    refine r_set (x := .tup (readP s)) (r_b (r_cons (lc_map (g := fun d => match d with | .str x => rowIn x | _ => .non) (r_iter (r_mt (r_var rfl) rfl (r_cons r_c r_nil) hs) rfl) (by simp; omega) fun d hd => ?_) r_nil) ?_)
    · obtain ⟨l, hm, rfl⟩ := List.mem_map.mp hd
      exact ⟨_, rfl, r_call (r_cons (r_var rfl) r_nil) (row_in_eq (Nat.le_trans (splitS_mem hm) hl))⟩
    · show some (D.tup _) = _
      rw [List.map_map]
      rfl
  by_cases hp : isProg (.tup (readP s)) = true
  · rw [if_pos hp]
    exact r_fn (r_seq (r_xifF (r_not (r_test (r_un (r_var rfl) rfl))) rfl rfl) (r_seq (e1 _ _) (r_seq (r_xifF (r_not (r_test (r_call (r_cons (r_var rfl) r_nil) (is_program_eq hok)))) (by rw [hp]; rfl) rfl) (r_ret (r_var rfl))))) rfl
  · rw [if_neg hp]
    exact r_fnX (r_seq (r_xifF (r_not (r_test (r_un (r_var rfl) rfl))) rfl rfl) (r_seq (e1 _ _) (r_seqX (r_xifT (r_not (r_test (r_call (r_cons (r_var rfl) r_nil) (is_program_eq hok)))) (by rw [Bool.eq_false_iff.mpr hp]; rfl) rfl)))) rfl
theorem row_text {line : String} (h : isInstr (rowIn line) = true) : lineD (rowIn line) = line := by
  unfold rowIn at h ⊢
  split at h
  · cases h
  · rename_i w ws e
    split at h
    · cases h
    · rename_i so hs
      split at h
      · rename_i hle
        rw [if_pos hle]
        show joinS " " (strP (.str w) :: ((so.toList.zip ws).map partIn).map strP) = line
        have : ((so.toList.zip ws).map partIn).map strP = ws := by
          obtain ⟨w', ps, so', e1, e2, e3, e4⟩ := instr_cases h
          cases e1
          rw [hs] at e2
          cases e2
          rw [List.map_map]
          have : (so.toList.zip ws).map (strP ∘ partIn) = (so.toList.zip ws).map Prod.snd := by
            apply List.map_congr_left
            rintro ⟨c, y⟩ hm
            have hp : isPart c (partIn (c, y)) = true := by
              apply e4 (c, partIn (c, y))
              obtain ⟨i, hi, e⟩ := List.mem_iff_getElem.mp hm
              rw [List.mem_iff_getElem]
              refine ⟨i, by simp at hi ⊢; omega, ?_⟩
              simp at e ⊢
              exact ⟨e.1, by rw [e.1, e.2]⟩
            show strP (partIn (c, y)) = y
            rcases part_cases hp with ⟨i, e, _, _, hc⟩ | ⟨s, e, hw, hc⟩
            · have hcw : ¬ c = 'w' := by rcases hc with rfl | rfl | rfl <;> decide
              rw [show partIn (c, y) = numIn y from if_neg hcw] at e ⊢
              rw [e]
              exact numIn_int e
            · by_cases hcw : c = 'w'
              · rw [show partIn (c, y) = .str y from if_pos hcw]; rfl
              · rw [show partIn (c, y) = numIn y from if_neg hcw] at e
                rcases numIn_cases y with q | ⟨i, q⟩ <;> rw [q] at e <;> cases e
          rw [this, List.map_snd_zip (by rw [slen]; omega)]
        rw [this]
        have j := joinS_split ' ' line
        rw [e] at j
        exact j
      · cases h
theorem read_text {s : String} (h : isProg (.tup (readP s)) = true) : progText (readP s) = s := by
  obtain ⟨ys, e, _, _, hx⟩ := isProg_cases h
  cases e
  unfold progText readP
  rw [List.map_map]
  have : (splitS s '\n').map (lineD ∘ rowIn) = splitS s '\n' := by
    rw [List.map_congr_left (g := id)]
    · simp
    · intro l hl
      exact row_text (hx _ (List.mem_map_of_mem hl))
  rw [this]
  exact joinS_split '\n' s
theorem row_back {d : D} (h : isInstr d = true) : rowIn (lineD d) = d := by
  obtain ⟨ps', e', _, _, htx⟩ := instr_txt h
  obtain ⟨w, ps, so, rfl, hs, hl, hp⟩ := instr_cases h
  cases e'
  obtain ⟨_, _, hch⟩ := forms_at hs
  have sp : splitS (lineOf (.str w :: ps)) ' ' = w :: ps.map strP := by
    refine splitS_join ' ' ((D.str w :: ps).map strP) (by simp) fun x hx hc => ?_
    obtain ⟨p, hp', rfl⟩ := List.mem_map.mp hx
    exact ((htx p hp').sg ' ' hc).1 rfl
  show rowIn (lineOf (.str w :: ps)) = _
  unfold rowIn
  rw [sp]
  simp only [hs, List.length_map, if_pos hl]
  congr 2
  rw [List.zip_map_right, List.map_map]
  have : (so.toList.zip ps).map (partIn ∘ Prod.map id strP) = (so.toList.zip ps).map Prod.snd := by
    apply List.map_congr_left
    rintro ⟨c, p⟩ hm
    show partIn (c, strP p) = p
    rcases part_cases (hp _ hm) with ⟨i, e, a, b, hc⟩ | ⟨s, e, hw, h1, h2, h3⟩
    · have e : p = .int i := e
      have hcw : ¬ c = 'w' := by
        have hc : c = 'r' ∨ c = 'n' ∨ c = 'g' := hc
        rcases hc with rfl | rfl | rfl <;> decide
      rw [e, show partIn (c, strP (.int i)) = numIn (toString i) from if_neg hcw]
      exact numIn_str ⟨a, b⟩
    · have e : p = .str s := e
      have h1 : c ≠ 'r' := h1
      have h2 : c ≠ 'n' := h2
      have h3 : c ≠ 'g' := h3
      have hcw : c = 'w' := by
        rcases hch c (List.of_mem_zip hm).1 with q | q | q | q
        · exact absurd q h1
        · exact absurd q h2
        · exact absurd q h3
        · exact q
      rw [e]
      exact if_pos hcw
  rw [this, List.map_snd_zip (by rw [slen]; omega)]
theorem read_back {xs : List D} (h : isProg (.tup xs) = true) : readP (progText xs) = xs := by
  obtain ⟨ys, e, h1, _, hx⟩ := isProg_cases h
  cases e
  unfold readP progText
  rw [show ("\n" : String) = String.singleton '\n' from rfl, splitS_join '\n' (xs.map lineD)]
  · rw [List.map_map, List.map_congr_left (g := id)]
    · simp
    · intro d hd
      exact row_back (hx d hd)
  · intro z
    have : xs = [] := by simpa using z
    rw [this] at h1
    simp at h1
  · intro l hl hc
    obtain ⟨d, hd, rfl⟩ := List.mem_map.mp hl
    obtain ⟨ps, rfl, _, _, hp⟩ := instr_txt (hx d hd)
    rcases joinS_mem (sep := " ") (xs := ps.map strP) hc with q | ⟨x, hx', q⟩
    · revert q; decide
    · obtain ⟨p, hp', rfl⟩ := List.mem_map.mp hx'
      exact ((hp p hp').sg '\n' q).2 rfl
end PL

namespace PL
open DL PySem
/-! ### rights' texts -/
def sgn (c : Char) (a : List D) : List String := a.map fun d => String.singleton c ++ strP d
def rWords (i : Int) (a b c d : List D) : List String := ((([toString i] ++ sgn '?' a) ++ sgn '!' b) ++ sgn '<' c) ++ sgn '>' d
def rTxt : D → String
  | .tup [.int i, .tup a, .tup b, .tup c, .tup d] => joinS " " (rWords i a b c d)
  | _ => ""
theorem isRow_cases {d : D} (h : isRow d = true) : ∃ xs, d = .tup xs ∧ xs.length ≤ 6 ∧ (∀ x ∈ xs, isWord x = true) ∧ ascD xs = true := by
  cases d with
  | tup xs =>
    unfold isRow at h
    rw [Bool.and_eq_true, Bool.and_eq_true, decide_eq_true_eq] at h
    exact ⟨xs, rfl, h.1.1, List.all_eq_true.mp h.1.2, h.2⟩
  | _ => cases h
theorem isRights_cases {d : D} (h : isRights d = true) : ∃ i a b c e, d = .tup [.int i, .tup a, .tup b, .tup c, .tup e] ∧ 0 ≤ i ∧ i ≤ 60 ∧ isRow (.tup a) = true ∧ isRow (.tup b) = true ∧ isRow (.tup c) = true ∧ isRow (.tup e) = true := by
  unfold isRights at h
  split at h
  · rename_i r rows
    rw [Bool.and_eq_true, Bool.and_eq_true, decide_eq_true_eq] at h
    obtain ⟨i, rfl, h0, h60⟩ := inR_int h.1.2
    have hr := List.all_eq_true.mp h.2
    have hl := h.1.1
    match rows, hl, hr with
    | [a, b, c, e], _, hr =>
      obtain ⟨xa, rfl, _⟩ := isRow_cases (hr a (by simp))
      obtain ⟨xb, rfl, _⟩ := isRow_cases (hr b (by simp))
      obtain ⟨xc, rfl, _⟩ := isRow_cases (hr c (by simp))
      obtain ⟨xe, rfl, _⟩ := isRow_cases (hr e (by simp))
      exact ⟨i, xa, xb, xc, xe, rfl, h0, h60, hr _ (by simp), hr _ (by simp), hr _ (by simp), hr _ (by simp)⟩
  · cases h
theorem row_okD {d : D} (h : isRow d = true) (n : Nat) : okD (n + 1) d = true := by
  obtain ⟨xs, rfl, _, hw, _⟩ := isRow_cases h
  refine List.all_eq_true.mpr fun x hx => ?_
  obtain ⟨s, rfl, hs⟩ := isWord_eq (hw x hx)
  exact txt_okD (wrd_txt hs) n
theorem rights_okD {d : D} (h : isRights d = true) (n : Nat) : okD (n + 2) d = true := by
  obtain ⟨i, a, b, c, e, rfl, _, _, ha, hb, hc, he⟩ := isRights_cases h
  refine List.all_eq_true.mpr fun x hx => ?_
  simp only [List.mem_cons, List.not_mem_nil, or_false] at hx
  rcases hx with rfl | rfl | rfl | rfl | rfl
  · rfl
  · exact row_okD ha n
  · exact row_okD hb n
  · exact row_okD hc n
  · exact row_okD he n
theorem need_rights_ok {d : D} (h : isRights d = true) : e_need_rights [d] = some (.ok .non) := by
  rw [need_rights_eq (rights_okD h 0), if_pos h]
theorem sgn_len {c : Char} {a : List D} (h : isRow (.tup a) = true) : (sgn c a).length ≤ 6 ∧ ∀ x ∈ sgn c a, x.length ≤ 9 := by
  obtain ⟨xs, e, h6, hw, _⟩ := isRow_cases h
  cases e
  refine ⟨by simp [sgn]; exact h6, fun x hx => ?_⟩
  obtain ⟨d, hd, rfl⟩ := List.mem_map.mp hx
  obtain ⟨s, rfl, hs⟩ := isWord_eq (hw d hd)
  have := (word_txt hs).1
  simp [strP, String.length_append]
  omega
theorem rw_len {i : Int} {a b c d : List D} (hi : 0 ≤ i ∧ i ≤ 60) (ha : isRow (.tup a) = true) (hb : isRow (.tup b) = true) (hc : isRow (.tup c) = true) (hd : isRow (.tup d) = true) : ((rWords i a b c d).map String.length).sum + (rWords i a b c d).length * 1 ≤ 250 := by
  have l1 : (rWords i a b c d).length ≤ 25 := by
    have := (sgn_len (c := '?') ha).1
    have := (sgn_len (c := '!') hb).1
    have := (sgn_len (c := '<') hc).1
    have := (sgn_len (c := '>') hd).1
    simp only [rWords, List.length_append, List.length_singleton]
    omega
  have := sum_le String.length 9 (rWords i a b c d) fun x hx => by
    simp only [rWords, List.mem_append, List.mem_singleton] at hx
    rcases hx with (((rfl | hx) | hx) | hx) | hx
    · have := (numStr (i := i) (by omega)).1
      omega
    · exact (sgn_len ha).2 x hx
    · exact (sgn_len hb).2 x hx
    · exact (sgn_len hc).2 x hx
    · exact (sgn_len hd).2 x hx
  omega
theorem rTxt_len {d : D} (h : isRights d = true) : (rTxt d).length ≤ 250 := by
  obtain ⟨i, a, b, c, e, rfl, h0, h60, ha, hb, hc, he⟩ := isRights_cases h
  have := joinS_len " " (rWords i a b c e)
  rw [show (" " : String).length = 1 from rfl] at this
  exact Nat.le_trans this (rw_len ⟨h0, h60⟩ ha hb hc he)
/-- a row's words with their sign behind those there are -/
theorem row_step {env : DSt} {w s r x : Nat} {c : Char} {ws : List String} {a : List D} (ha : isRow (.tup a) = true) (hn : ws.length ≤ 100) (hw : env[w]? = some (some (.lst (ws.map .str)))) (hr : env[r]? = some (some (.tup a)))
    (hs : ∀ v, ((wipeD env [x]).set x (some v))[s]? = some (some (.str (String.singleton c)))) (hx : ∀ v, ((wipeD env [x]).set x (some v))[x]? = some (some v)) :
    xSet w (eOp pyAdd (eVar w) (eLc (eIter (eVar r)) (.n x) (eC true) (eOp pyAdd (eVar s) (eVar x)) [x])) env = some (.nx (env.set w (some (.lst ((ws ++ sgn c a).map .str))))) := by
  obtain ⟨xs, e, h6, hwd, _⟩ := isRow_cases ha
  cases e
  refine r_set (r_op (r_var hw) (lc_map (g := fun d => .str (String.singleton c ++ strP d)) (r_iter (r_var hr) rfl) (by omega) fun d hd => ⟨_, rfl, ?_⟩) ?_)
  · obtain ⟨t, rfl, ht⟩ := isWord_eq (hwd d hd)
    refine r_op (r_var (hs _)) (r_var (hx _)) ?_
    show (if _ then _ else none) = _
    have := (word_txt ht).1
    rw [if_pos (by rw [show (String.singleton c).length = 1 by simp]; omega)]
    rfl
  · show (if _ then _ else none) = _
    rw [if_pos (by simp; omega)]
    simp [sgn, Function.comp_def]
theorem r_loop {tg : Tg} {e : EvX} {d : D} {ds : List D} {env env1 env2 : DSt} {r : Option SR} (h1 : eTg tg d env = some env1) (h2 : e env1 = some (.nx env2)) (h3 : xLoop tg e ds env2 = r) : xLoop tg e (d :: ds) env = r := by
  show (match eTg tg d env with | some env1 => _ | none => none) = _
  rw [h1]
  simp only [h2]
  exact h3
theorem zip4 (a b c d : D) : zipD (signsD "?!<>") [a, b, c, d] = [.tup [.str (String.singleton '?'), a], .tup [.str (String.singleton '!'), b], .tup [.str (String.singleton '<'), c], .tup [.str (String.singleton '>'), d]] := by
  rw [show signsD "?!<>" = [.str (String.singleton '?'), .str (String.singleton '!'), .str (String.singleton '<'), .str (String.singleton '>')] by kernel_rfl]
  rfl
theorem rights_text_eq {d : D} (h : isRights d = true) : e_rights_text [d] = some (.ok (.str (rTxt d))) := by
  have hn := need_rights_ok h
  obtain ⟨i, a, b, c, e, rfl, h0, h60, ha, hb, hc, he⟩ := isRights_cases h
  have l1 := (sgn_len (c := '?') ha).1
  have l2 := (sgn_len (c := '!') hb).1
  have l3 := (sgn_len (c := '<') hc).1
  have l4 := (sgn_len (c := '>') he).1
  refine r_fn (r_seq (r_drop (r_call (r_cons (r_var rfl) r_nil) hn)) (r_seq (r_set (r_lst (r_cons (r_b (r_cons (r_op (r_var rfl) r_c (item0 _ _)) r_nil) (str_small (by omega))) r_nil) (by simp))) (r_seq (env' := [some (.tup [.int i, .tup a, .tup b, .tup c, .tup e]), some (.lst ((rWords i a b c e).map .str)), some (.str (String.singleton '>')), some (.tup e), none]) ?_ (r_ret (r_mt (G' := G0) r_c rfl (r_cons (r_var rfl) r_nil) ?_))))) rfl
  · unfold xFor
    rw [r_zip (r_cons r_c (r_cons (r_slice (r_var rfl) (r_part r_c) r_c (cut1 _ _)) r_nil)) rfl rfl, zip4]
    show xLoop _ _ _ _ = _
    have s1 := row_step (env := [some (.tup [.int i, .tup a, .tup b, .tup c, .tup e]), some (.lst [.str (toString i)]), some (.str (String.singleton '?')), some (.tup a), none]) (w := 1) (s := 2) (r := 3) (x := 4) (ws := [toString i]) ha (by simp) rfl rfl (fun _ => rfl) (fun _ => rfl)
    have s2 := row_step (env := [some (.tup [.int i, .tup a, .tup b, .tup c, .tup e]), some (.lst (([toString i] ++ sgn '?' a).map .str)), some (.str (String.singleton '!')), some (.tup b), none]) (w := 1) (s := 2) (r := 3) (x := 4) hb (by simp; omega) rfl rfl (fun _ => rfl) (fun _ => rfl)
    have s3 := row_step (env := [some (.tup [.int i, .tup a, .tup b, .tup c, .tup e]), some (.lst ((([toString i] ++ sgn '?' a) ++ sgn '!' b).map .str)), some (.str (String.singleton '<')), some (.tup c), none]) (w := 1) (s := 2) (r := 3) (x := 4) hc (by simp; omega) rfl rfl (fun _ => rfl) (fun _ => rfl)
    have s4 := row_step (env := [some (.tup [.int i, .tup a, .tup b, .tup c, .tup e]), some (.lst (((([toString i] ++ sgn '?' a) ++ sgn '!' b) ++ sgn '<' c).map .str)), some (.str (String.singleton '>')), some (.tup e), none]) (w := 1) (s := 2) (r := 3) (x := 4) he (by simp; omega) rfl rfl (fun _ => rfl) (fun _ => rfl)
    refine r_loop rfl s1 (r_loop rfl s2 (r_loop rfl s3 (r_loop rfl s4 ?_)))
    rfl
  · exact join_eq (a := " ") (zs := rWords i a b c e) (Nat.le_trans (rw_len ⟨h0, h60⟩ ha hb hc he) (by decide))
/-! ### read_rights -/
def pick (c : Char) (ws : List String) : List D := (ws.filter fun w => decide (w.toList.take 1 = [c])).map fun w => .str (String.ofList (w.toList.drop 1))
def readR (s : String) : D := match splitS s ' ' with
  | [] => .non
  | w :: ws => .tup [numIn w, .tup (pick '?' ws), .tup (pick '!' ws), .tup (pick '<' ws), .tup (pick '>' ws)]
theorem lcL_filt {tg : Tg} {et : Ev Bool} {ee : Ev D} {env : DSt} {p : D → Bool} {g : D → D} : ∀ {ds : List D}, (∀ d ∈ ds, ∃ env', eTg tg d env = some env' ∧ et env' = some (.ok (p d)) ∧ ee env' = some (.ok (g d))) → eLcL tg et ee env ds = some ((ds.filter p).map g)
  | [], _ => rfl
  | d :: ds, h => by
    obtain ⟨env', h1, h2, h3⟩ := h d List.mem_cons_self
    have ih := lcL_filt (ds := ds) fun x hx => h x (List.mem_cons_of_mem _ hx)
    unfold eLcL
    rw [h1]
    simp only [h2, ih]
    cases hp : p d with
    | true => simp only [h3, List.filter_cons, hp, if_true, List.map_cons]
    | false => simp only [List.filter_cons, hp, if_neg Bool.false_ne_true]
theorem lc_filt {ei : Ev (List D)} {tg : Tg} {et : Ev Bool} {ee : Ev D} {env : DSt} {vs : List Nat} {p : D → Bool} {g : D → D} {ds : List D} (hi : ei env = some (.ok ds)) (hl : ds.length ≤ 16000000) (h : ∀ d ∈ ds, ∃ env', eTg tg d (wipeD env vs) = some env' ∧ et env' = some (.ok (p d)) ∧ ee env' = some (.ok (g d))) : eLc ei tg et ee vs env = some (.ok (.lst ((ds.filter p).map g))) := by
  unfold eLc
  rw [hi]
  simp only [bindE, if_pos hl, lcL_filt h, Option.map_some, okE]
theorem slice_hd {w : String} (h : w.length ≤ 16000000) : pySlice G0 (.str w) none (some 1) = some (.str (String.ofList (w.toList.take 1))) := by
  show (if w.length ≤ 16000000 then _ else none) = _
  rw [if_pos h, cutC_hd]
theorem slice_tl {w : String} (h : w.length ≤ 16000000) : pySlice G0 (.str w) (some 1) none = some (.str (String.ofList (w.toList.drop 1))) := by
  show (if w.length ≤ 16000000 then _ else none) = _
  rw [if_pos h, cutC_tl]
theorem pick_eq {env : DSt} {ws : List String} {c : Char} (hl : ws.length ≤ 2000000) (hw : ∀ w ∈ ws, w.length ≤ 16000000) (h2 : env[2]? = some (some (.lst (ws.map .str))))
    (hs : ∀ v, ((wipeD env [4]).set 4 (some v))[5]? = some (some (.str (String.singleton c)))) (hx : ∀ v, ((wipeD env [4]).set 4 (some v))[4]? = some (some v)) :
    eB pyTup (eCons (eLc (eIter (eVar 2)) (.n 4) (eTest (eOp pyEq (eSlice (eVar 4) (eC none) (ePart (eC (.int 1)))) (eVar 5))) (eSlice (eVar 4) (ePart (eC (.int 1))) (eC none)) [4]) (eC [])) env = some (.ok (.tup (pick c ws))) := by
  refine r_b (r_cons (lc_filt (p := fun d => match d with | .str w => decide (w.toList.take 1 = [c]) | _ => false) (g := fun d => match d with | .str w => .str (String.ofList (w.toList.drop 1)) | _ => .non) (r_iter (r_var h2) rfl) (by simp; omega) fun d hd => ?_) r_nil) ?_
  · obtain ⟨w, hm, rfl⟩ := List.mem_map.mp hd
    have hwl := hw w hm
    refine ⟨_, rfl, r_test (r_op (r_slice (r_var (hx _)) r_c (r_part r_c) (slice_hd hwl)) (r_var (hs _)) ?_), r_slice (r_var (hx _)) (r_part r_c) r_c (slice_tl hwl)⟩
    rw [eq_str, ofList_eq]
    show _ = some (D.bl (decide (w.toList.take 1 = [c])))
    rw [show (String.singleton c).toList = [c] by simp]
  · show some (D.tup _) = _
    congr 2
    unfold pick
    rw [List.filter_map, List.map_map]
    rfl
theorem pick_ok {c : Char} {ws : List String} (hw : ∀ w ∈ ws, w.length ≤ 16000000) (n : Nat) : okD (n + 1) (.tup (pick c ws)) = true := by
  refine List.all_eq_true.mpr fun x hx => ?_
  obtain ⟨w, hm, rfl⟩ := List.mem_map.mp hx
  have h := hw w (List.mem_filter.mp hm).1
  have h2 : (String.ofList (w.toList.drop 1)).length ≤ 16000000 := by
    rw [← slen] at h ⊢
    rw [String.toList_ofList, List.length_drop]
    omega
  cases n <;> exact decide_eq_true h2
theorem readR_okD {s : String} (hl : s.length ≤ 1000000) : okD 2 (readR s) = true := by
  obtain ⟨w, ws, e⟩ := splitS_ne ' ' s
  have hw : ∀ x ∈ ws, x.length ≤ 16000000 := fun x hx => Nat.le_trans (splitS_mem (c := ' ') (s := s) (by rw [e]; exact List.mem_cons_of_mem _ hx)) (by omega)
  unfold readR
  rw [e]
  refine List.all_eq_true.mpr fun x hx => ?_
  simp only [List.mem_cons, List.not_mem_nil, or_false] at hx
  rcases hx with rfl | rfl | rfl | rfl | rfl
  · rcases numIn_cases w with q | ⟨i, q⟩ <;> rw [q] <;> rfl
  · exact pick_ok hw 0
  · exact pick_ok hw 0
  · exact pick_ok hw 0
  · exact pick_ok hw 0
theorem signs4 : signsD "?!<>" = [.str (String.singleton '?'), .str (String.singleton '!'), .str (String.singleton '<'), .str (String.singleton '>')] := by kernel_rfl
theorem r_star {i j : Nat} {ee : Ev D} {env : DSt} {x : D} {xs : List D} (h : ee env = some (.ok (.lst (x :: xs)))) : xStar i j ee env = some (.nx ((env.set i (some x)).set j (some (.lst xs)))) := by
  unfold xStar; rw [h]; rfl
theorem read_rights_eq {s : String} (hl : s.length ≤ 1000000) : e_read_rights [.str s] = some (if isRights (readR s) = true ∧ rTxt (readR s) = s then .ok (readR s) else .error ("BadText", none)) := by
  obtain ⟨w, ws, e⟩ := splitS_ne ' ' s
  have hok := readR_okD hl
  have hs : mSplit G0 (.str s) [.str " "] = some (.lst (.str w :: ws.map .str), G0) := by
    rw [split_eq (c := ' ') rfl (by decide) hl, e]; rfl
  have hwl : ∀ x ∈ w :: ws, x.length ≤ 16000000 := fun x hx => by
    rw [← e] at hx
    exact Nat.le_trans (splitS_mem hx) (by omega)
  have hwn : ws.length ≤ 2000000 := by
    have := splitS_len ' ' s
    rw [e] at this
    simp at this
    omega
  have er : readR s = .tup [numIn w, .tup (pick '?' ws), .tup (pick '!' ws), .tup (pick '<' ws), .tup (pick '>' ws)] := by unfold readR; rw [e]
  have e0 : ∀ a b c d f g : Option D, xStar 1 2 (eMt "str" mSplit (eVar 0) (eCons (eC (.str " ")) (eC []))) [some (.str s), a, b, c, d, f, g] = some (.nx [some (.str s), some (.str w), some (.lst (ws.map .str)), c, d, f, g]) := fun a b c d f g => r_star (r_mt (r_var rfl) rfl (r_cons r_c r_nil) hs)
  have e3 : ∀ c d f g : Option D, xSet 3 (eLc (eIter (eC (.str "?!<>"))) (.n 5) (eC true) (eB pyTup (eCons (eLc (eIter (eVar 2)) (.n 4) (eTest (eOp pyEq (eSlice (eVar 4) (eC none) (ePart (eC (.int 1)))) (eVar 5))) (eSlice (eVar 4) (ePart (eC (.int 1))) (eC none)) [4]) (eC []))) [5]) [some (.str s), some (.str w), some (.lst (ws.map .str)), c, d, f, g] =
      some (.nx [some (.str s), some (.str w), some (.lst (ws.map .str)), some (.lst [.tup (pick '?' ws), .tup (pick '!' ws), .tup (pick '<' ws), .tup (pick '>' ws)]), d, f, g]) := fun c d f g => by
    refine r_set (x := .lst [.tup (pick '?' ws), .tup (pick '!' ws), .tup (pick '<' ws), .tup (pick '>' ws)]) (ok_d (lc_map (g := fun d => match d with | .str x => .tup (pick ((signOf x).getD 'a') ws) | _ => .non) (r_iter r_c rfl) (by decide +kernel) fun d hd => ?_) ?_)
    · rw [signs4] at hd
      simp only [List.mem_cons, List.not_mem_nil, or_false] at hd
      rcases hd with rfl | rfl | rfl | rfl <;> exact ⟨_, rfl, pick_eq hwn (fun x hx => hwl x (List.mem_cons_of_mem _ hx)) rfl (fun _ => rfl) (fun _ => rfl)⟩
    · rw [signs4]
      rfl
  have e6 : ∀ d f g : Option D, xSet 6 (eOp pyAdd (eTup (eCons (eCall e_number_in (eCons (eVar 1) (eC []))) (eC []))) (eB pyTup (eCons (eVar 3) (eC [])))) [some (.str s), some (.str w), some (.lst (ws.map .str)), some (.lst [.tup (pick '?' ws), .tup (pick '!' ws), .tup (pick '<' ws), .tup (pick '>' ws)]), d, f, g] =
      some (.nx [some (.str s), some (.str w), some (.lst (ws.map .str)), some (.lst [.tup (pick '?' ws), .tup (pick '!' ws), .tup (pick '<' ws), .tup (pick '>' ws)]), d, f, some (readR s)]) := fun d f g => by
    rw [er]
    exact r_set (r_op (r_tup (r_cons (r_call (r_cons (r_var rfl) r_nil) (number_in_eq (hwl w (by simp)))) r_nil) (by simp)) (r_b (r_cons (r_var rfl) r_nil) rfl) rfl)
  cases hi : isRights (readR s) with
  | false =>
    rw [if_neg (fun z => Bool.false_ne_true z.1)]
    exact r_fnX (r_seq (r_xifF (r_not (r_test (r_un (r_var rfl) rfl))) rfl rfl) (r_seq (e0 _ _ _ _ _ _) (r_seq (e3 _ _ _ _) (r_seq (e6 _ _ _) (r_seqX (r_xifT (r_or (c := false) (r_not (r_test (r_call (r_cons (r_var rfl) r_nil) (is_rights_eq hok)))) fun z => by rw [hi] at z; cases z) (by rw [hi]; rfl) rfl)))))) rfl
  | true =>
    have cond : ∀ a b c d f, eOr (eNot (eTest (eCall e_is_rights (eCons (eVar 6) (eC []))))) (eTest (eOp pyNe (eCall e_rights_text (eCons (eVar 6) (eC []))) (eVar 0))) [some (.str s), a, b, c, d, f, some (readR s)] = some (.ok (!true || !decide (rTxt (readR s) = s))) := fun a b c d f =>
      r_or (r_not (r_test (ok_bl (r_call (r_cons (r_var rfl) r_nil) (is_rights_eq hok)) hi))) fun _ => r_test (r_op (r_call (r_cons (r_var rfl) r_nil) (rights_text_eq hi)) (r_var rfl) rfl)
    by_cases ht : rTxt (readR s) = s
    · rw [if_pos ⟨rfl, ht⟩]
      exact r_fn (r_seq (r_xifF (r_not (r_test (r_un (r_var rfl) rfl))) rfl rfl) (r_seq (e0 _ _ _ _ _ _) (r_seq (e3 _ _ _ _) (r_seq (e6 _ _ _) (r_seq (r_xifF (cond _ _ _ _ _) (by rw [decide_eq_true ht]; rfl) rfl) (r_ret (r_var rfl))))))) rfl
    · rw [if_neg (fun z => ht z.2)]
      exact r_fnX (r_seq (r_xifF (r_not (r_test (r_un (r_var rfl) rfl))) rfl rfl) (r_seq (e0 _ _ _ _ _ _) (r_seq (e3 _ _ _ _) (r_seq (e6 _ _ _) (r_seqX (r_xifT (cond _ _ _ _ _) (by rw [decide_eq_false ht]; rfl) rfl)))))) rfl
theorem sgn_hd {c c' : Char} {a : List D} : (sgn c a).filter (fun w => decide (w.toList.take 1 = [c'])) = if c = c' then sgn c a else [] := by
  unfold sgn
  by_cases h : c = c'
  · rw [if_pos h, List.filter_eq_self]
    intro x hx
    obtain ⟨d, _, rfl⟩ := List.mem_map.mp hx
    simp [h]
  · rw [if_neg h, List.filter_eq_nil_iff]
    intro x hx
    obtain ⟨d, _, rfl⟩ := List.mem_map.mp hx
    simp [h]
theorem sgn_tl {c : Char} {a : List D} (h : isRow (.tup a) = true) : ((sgn c a).map fun w => D.str (String.ofList (w.toList.drop 1))) = a := by
  obtain ⟨xs, e, _, hw, _⟩ := isRow_cases h
  cases e
  unfold sgn
  rw [List.map_map, List.map_congr_left (g := id)]
  · simp
  · intro d hd
    obtain ⟨s, rfl, _⟩ := isWord_eq (hw d hd)
    simp [strP]
theorem readR_back {d : D} (h : isRights d = true) : readR (rTxt d) = d := by
  obtain ⟨i, a, b, c, e, rfl, h0, h60, ha, hb, hc, he⟩ := isRights_cases h
  have sg : ∀ {c : Char} {a : List D}, isRow (.tup a) = true → c ≠ ' ' → ∀ x ∈ sgn c a, ' ' ∉ x.toList := fun {c a} h hc x hx hm => by
    obtain ⟨xs, e, _, hw, _⟩ := isRow_cases h
    cases e
    obtain ⟨d, hd, rfl⟩ := List.mem_map.mp hx
    obtain ⟨s, rfl, hs⟩ := isWord_eq (hw d hd)
    rw [String.toList_append, List.mem_append] at hm
    rcases hm with hm | hm
    · simp at hm
      exact hc hm.symm
    · exact (small_sign ((word_txt hs).2.2 _ hm)).1 rfl
  have sp : splitS (rTxt (.tup [.int i, .tup a, .tup b, .tup c, .tup e])) ' ' = toString i :: (((sgn '?' a ++ sgn '!' b) ++ sgn '<' c) ++ sgn '>' e) := by
    show splitS (joinS (String.singleton ' ') (rWords i a b c e)) ' ' = _
    rw [splitS_join ' ' _ (by simp [rWords])]
    · simp [rWords]
    · intro x hx
      simp only [rWords, List.mem_append, List.mem_singleton] at hx
      rcases hx with (((rfl | hx) | hx) | hx) | hx
      · exact fun hm => ((numStr (i := i) (by omega)).2 _ hm).1 rfl
      · exact sg ha (by decide) x hx
      · exact sg hb (by decide) x hx
      · exact sg hc (by decide) x hx
      · exact sg he (by decide) x hx
  unfold readR
  rw [sp]
  simp only [pick, List.filter_append, sgn_hd, numIn_str (i := i) (by omega)]
  have ta := @sgn_tl '?' a ha
  have tb := @sgn_tl '!' b hb
  have tc := @sgn_tl '<' c hc
  have te := @sgn_tl '>' e he
  simp only [List.drop_one] at ta tb tc te
  simp [ta, tb, tc, te]
end PL

namespace PL
open DL PySem
theorem mapO_lay {f : D → Option PyData} : ∀ {xs : List D}, (∀ x ∈ xs, ∃ y, f x = some y ∧ y.canLay0 = true) → ∃ ys, mapO f xs = some ys ∧ PyData.canLayAll0 ys = true
  | [], _ => ⟨[], rfl, by simp [PyData.canLayAll0]⟩
  | x :: xs, h => by
    obtain ⟨y, hy, ly⟩ := h x List.mem_cons_self
    obtain ⟨ys, hys, ll⟩ := mapO_lay fun z hz => h z (List.mem_cons_of_mem _ hz)
    refine ⟨y :: ys, ?_, by simp [PyData.canLayAll0, ly, ll]⟩
    unfold mapO
    rw [hy, hys]
theorem okD_lay : ∀ (n : Nat) (d : D), okD n d = true → ∃ y, toPy G0 n d = some y ∧ y.canLay0 = true
  | _, .non, _ => ⟨_, by unfold toPy; rfl, by simp [PyData.canLay0]⟩
  | _, .bl _, _ => ⟨_, by unfold toPy; rfl, by simp [PyData.canLay0]⟩
  | _, .int _, _ => ⟨_, by unfold toPy; rfl, by simp [PyData.canLay0]⟩
  | _, .str _, _ => ⟨_, by unfold toPy; rfl, by simp [PyData.canLay0, strOk_S]⟩
  | 0, .tup _, h => by cases h
  | 0, .lst _, h => by cases h
  | n + 1, .tup xs, h => by
    obtain ⟨ys, e, l⟩ := mapO_lay fun x hx => okD_lay n x (okD_tup h x hx)
    exact ⟨_, by unfold toPy; rw [e]; rfl, by simpa [PyData.canLay0] using l⟩
  | n + 1, .lst xs, h => by
    obtain ⟨ys, e, l⟩ := mapO_lay fun x hx => okD_lay n x (okD_lst h x hx)
    exact ⟨_, by unfold toPy; rw [e]; rfl, by simpa [PyData.canLay0] using l⟩
  | 0, .dct _, h => by cases h
  | _ + 1, .dct _, h => by cases h
  | 0, .ref _, h => by cases h
  | _ + 1, .ref _, h => by cases h
  | 0, .scr _, h => by cases h
  | _ + 1, .scr _, h => by cases h
theorem eqB_refl {d : D} (h : okD 40 d = true) : pyEqB G0 d d = some true := by
  obtain ⟨y, e, l⟩ := okD_lay 40 d h
  have r := PySem.SeqAt.eqv_refl y l
  cases d with
  | int i => simp [pyEqB]
  | str s => simp [pyEqB]
  | _ => simp only [pyEqB, e, r]
theorem eqB_some {d e : D} (h : okD 40 d = true) (h' : okD 40 e = true) : ∃ b, pyEqB G0 d e = some b := by
  obtain ⟨y, e1, _⟩ := okD_lay 40 d h
  obtain ⟨z, e2, _⟩ := okD_lay 40 e h'
  unfold pyEqB
  split
  · exact ⟨_, rfl⟩
  · exact ⟨_, rfl⟩
  · rw [e1, e2]; exact ⟨_, rfl⟩
theorem ne_refl {G : DG} {d : D} (h : okD 40 d = true) : pyNe G d d = some (.bl false) := by
  refine m_ne _ _ _ _ ?_
  unfold pyNe
  rw [eqB_refl h]
  rfl
theorem ne_some {G : DG} {d e : D} (h : okD 40 d = true) (h' : okD 40 e = true) : ∃ b, pyNe G d e = some (.bl b) := by
  obtain ⟨b, e⟩ := eqB_some h h'
  exact ⟨!b, m_ne _ _ _ _ (by unfold pyNe; rw [e]; rfl)⟩
end PL

namespace PL
open DL PySem
/-! ### equality of lists, told or tracked -/
theorem toPy_ref {G : DG} {q : Addr} {xs : List D} (h : G q = some (.lst xs)) (n : Nat) : toPy G (n + 1) (.ref q) = toPy G (n + 1) (.lst xs) := by
  show (match lstO (G q) with | some xs => (mapO (toPy G n) xs).map PyData.list | none => none) = (mapO (toPy G n) xs).map PyData.list
  rw [h]
  rfl
theorem ne_ref {G : DG} {q : Addr} {xs ys : List D} (h : G q = some (.lst xs)) : pyNe G (.ref q) (.lst ys) = pyNe G (.lst xs) (.lst ys) := by
  have e : toPy G 40 (.ref q) = toPy G 40 (.lst xs) := toPy_ref h 39
  simp only [pyNe, pyEqB, e]
theorem eq_ref {G : DG} {q : Addr} {xs ys : List D} (h : G q = some (.lst xs)) : pyEq G (.ref q) (.lst ys) = pyEq G (.lst xs) (.lst ys) := by
  have e : toPy G 40 (.ref q) = toPy G 40 (.lst xs) := toPy_ref h 39
  simp only [pyEq, pyEqB, e]
theorem eq_nilL {xs : List D} (h : okD 40 (.lst xs) = true) : pyEq G0 (.lst xs) (.lst []) = some (.bl xs.isEmpty) := by
  obtain ⟨ys, e, hl⟩ := mapO_some fun x hx => okD_py 39 x (okD_lst h x hx)
  have e1 : toPy G0 40 (.lst xs) = some (.list ys) := by unfold toPy; rw [e]; rfl
  have e2 : toPy G0 40 (.lst []) = some (.list []) := rfl
  unfold pyEq pyEqB
  simp only [e1, e2, Option.map_some]
  cases xs with
  | nil => cases ys with
    | nil => rfl
    | cons y ys => simp at hl
  | cons x xs => cases ys with
    | nil => simp at hl
    | cons y ys => simp [PyData.eqv, PyData.eqvAll]
theorem ne_nilL {xs : List D} (h : okD 40 (.lst xs) = true) : pyNe G0 (.lst xs) (.lst []) = some (.bl (!xs.isEmpty)) := by
  have := eq_nilL h
  unfold pyEq at this
  unfold pyNe
  cases e : pyEqB G0 (.lst xs) (.lst []) with
  | none => rw [e] at this; cases this
  | some b =>
    rw [e] at this
    cases this
    rfl
/-- flat things -/
def flatP : D → Bool
  | .non => true
  | .bl _ => true
  | .int _ => true
  | .str s => decide (s.length ≤ 1000)
  | _ => false
theorem flat_okD {d : D} (h : flatP d = true) (n : Nat) : okD n d = true := by
  cases d with
  | str s =>
    have : s.length ≤ 16000000 := Nat.le_trans (of_decide_eq_true h) (by decide)
    cases n <;> exact decide_eq_true this
  | non => cases n <;> rfl
  | bl b => cases n <;> rfl
  | int b => cases n <;> rfl
  | _ => cases h
theorem txt_flat {d : D} (h : TxtOk d) : flatP d = true := by
  have := h.str
  cases d with
  | int i => rfl
  | str s => exact decide_eq_true (Nat.le_trans h.len (by decide))
  | _ => cases this
theorem small_iff (c : Char) : small.contains c = (decide (97 ≤ c.toNat) && decide (c.toNat ≤ 122)) := by
  cases h : small.contains c with
  | true =>
    have : ∀ c ∈ small, (decide (97 ≤ c.toNat) && decide (c.toNat ≤ 122)) = true := by decide
    exact (this c (by simpa using h)).symm
  | false =>
    symm
    rw [Bool.eq_false_iff]
    intro z
    rw [Bool.and_eq_true, decide_eq_true_eq, decide_eq_true_eq] at z
    have k : ∀ n : Nat, n < 26 → small.contains (Char.ofNat (97 + n)) = true := by decide
    have e : c = Char.ofNat (97 + (c.toNat - 97)) := by
      rw [show 97 + (c.toNat - 97) = c.toNat by omega, Char.ofNat_toNat]
    rw [e, k _ (by omega)] at h
    cases h
theorem strLt_one (c d : Char) : strLt (String.singleton c) (String.singleton d) = decide (c.toNat < d.toNat) := by
  unfold strLt
  simp [List.cons_lt_cons_iff]
theorem ifT {b : Bool} {A B : Prop} (h : b = true) (a : A) : if b = true then A else B := by rw [if_pos h]; exact a
theorem ifF {b : Bool} {A B : Prop} (h : b = false) (a : B) : if b = true then A else B := by rw [h, if_neg Bool.false_ne_true]; exact a
theorem r_loopR {tg : Tg} {e : EvX} {d v : D} {ds : List D} {env env1 : DSt} (h1 : eTg tg d env = some env1) (h2 : e env1 = some (.rt v)) : xLoop tg e (d :: ds) env = some (.rt v) := by
  unfold xLoop
  rw [h1]
  simp only [h2]
end PL

namespace PL
open DL PySem
/-! ### a machine in the heap -/
/-- where a world's things stand: the world, its feeds (with the lists), pages, what was said -/
structure WA where
  w : Addr
  f : Addr
  g : Addr
  h : Addr
  fl : List (String × Addr)
def WA.all (A : WA) : List Addr := [A.w, A.f, A.g, A.h] ++ A.fl.map (·.2)
abbrev keyL (fl : List (String × Addr)) : List (D × D) := fl.map fun x => (.str x.1, .ref x.2)
structure WorldAt (G : DG) (A : WA) (fd : List (String × List D)) (pg : List (D × D)) (said : List D) : Prop where
  w : G A.w = some (.ins "World" [("feeds", .ref A.f), ("pages", .ref A.g), ("said", .ref A.h)])
  f : G A.f = some (.dct (keyL A.fl))
  g : G A.g = some (.dct pg)
  h : G A.h = some (.lst said)
  nm : A.fl.map (·.1) = fd.map (·.1)
  ls : ∀ x ∈ A.fl.zip fd, G x.1.2 = some (.lst x.2.2)
  nd : A.all.Nodup
structure CoreS where
  prog : D
  rights : D
  spot : Int
  row : D
  own : D
  count : D
  mood : String
def CoreS.fs (s : CoreS) : List (String × D) := [("program", s.prog), ("rights", s.rights), ("spot", .int s.spot), ("row", s.row), ("own", s.own), ("count", s.count), ("mood", .str s.mood)]
structure MA where
  p : Addr
  c : Addr
  wa : WA
def MA.all (A : MA) : List Addr := A.p :: A.c :: A.wa.all
structure MachAt (G : DG) (A : MA) (cs : CoreS) (fd : List (String × List D)) (pg : List (D × D)) (said : List D) : Prop where
  p : G A.p = some (.ins "Machine" [("core", .ref A.c), ("world", .ref A.wa.w)])
  c : G A.c = some (.ins "Core" cs.fs)
  w : WorldAt G A.wa fd pg said
/-- what stands stays -/
def Ext (G G' : DG) : Prop := ∀ b, G b ≠ none → G' b = G b
theorem Ext.refl (G : DG) : Ext G G := fun _ _ => rfl
theorem Ext.trans {G G1 G2 : DG} (a : Ext G G1) (b : Ext G1 G2) : Ext G G2 := fun x h => by
  have e := a x h
  rw [← e]
  exact b x (by rw [e]; exact h)
theorem Ext.new {G : DG} {p : Addr} {o : Option DO} (h : G p = none) : Ext G (gset G p o) := fun b hb => gset_ne fun e => hb (e ▸ h)
theorem Ext.get {G G' : DG} {a : Addr} {o : DO} (e : Ext G G') (h : G a = some o) : G' a = some o := by rw [e a (by rw [h]; simp), h]
theorem WorldAt.ext {G G' : DG} {A : WA} {fd : List (String × List D)} {pg : List (D × D)} {said : List D} (e : Ext G G') (h : WorldAt G A fd pg said) : WorldAt G' A fd pg said :=
  ⟨e.get h.w, e.get h.f, e.get h.g, e.get h.h, h.nm, fun x hx => e.get (h.ls x hx), h.nd⟩
theorem MachAt.ext {G G' : DG} {A : MA} {cs : CoreS} {fd : List (String × List D)} {pg : List (D × D)} {said : List D} (e : Ext G G') (h : MachAt G A cs fd pg said) : MachAt G' A cs fd pg said :=
  ⟨e.get h.p, e.get h.c, h.w.ext e⟩
/-! the first machine -/
def core0 (prog rights own : D) : CoreS := ⟨prog, rights, 0, .tup [.int 0, .int 0, .int 0, .int 0], own, .tup [.int 0, .int 0, .int 0, .int 0, .int 0], "going"⟩
def zeros (n : Nat) : D := .tup (List.replicate n (.int 0))
theorem mul_zero (G : DG) {i : Int} (h0 : 0 ≤ i) (h1 : i ≤ 60) : pyMul G (.tup [.int 0]) (.int i) = some (zeros i.toNat) := by
  show (if _ then some (D.tup _) else none) = _
  rw [if_pos ⟨by omega, by omega, by simp, by simp⟩]
  unfold zeros
  congr 2
  generalize i.toNat = n
  induction n with
  | zero => rfl
  | succ n ih => rw [List.replicate_succ, List.flatten_cons, ih]; rfl
theorem dget_key {k : String} {v : D} : ∀ {kvs : List (D × D)} , (D.str k, v) ∈ kvs → (kvs.map (·.1)).Pairwise (fun a b => dkEq a b = false) → dget kvs (.str k) = some v
  | [], h, _ => by cases h
  | (a, b) :: r, h, nd => by
    rw [List.map_cons, List.pairwise_cons] at nd
    rcases List.mem_cons.mp h with e | h
    · cases e
      simp [dget, dkEq]
    · have hk : dkEq a (.str k) = false := nd.1 _ (List.mem_map_of_mem h)
      have ih := dget_key h nd.2
      unfold dget at ih ⊢
      rw [List.find?_cons]
      simp only [hk]
      exact ih
theorem gset_gset {G : DG} {a : Addr} {o o' : Option DO} : gset (gset G a o) a o' = gset G a o' := by
  funext b
  unfold gset
  split <;> rfl
theorem dput_new {fl : List (String × Addr)} {k : String} {p : Addr} (h : k ∉ fl.map (·.1)) : dput (keyL fl) (.str k) (.ref p) = keyL (fl ++ [(k, p)]) := by
  unfold dput
  rw [if_neg]
  · simp
  · intro z
    obtain ⟨y, hy, e⟩ := List.any_eq_true.mp z
    obtain ⟨x, hx, rfl⟩ := List.mem_map.mp hy
    have : x.1 = k := by simpa [dkEq] using e
    exact h (List.mem_map.mpr ⟨x, hx, this⟩)
theorem fldS_i {cs : List String} {f c : String} {i : Nat} {tv : DTE} {E : DXK} {DE : DEnds} {env : DSt} {G : DG} {a : Addr} (ha : env[i]? = some (some (.ref a))) (hc : c ∈ cs)
    (hv : tv E env G fun y G1 => ∃ fs, G1 a = some (.ins c fs) ∧ fs.length < 1000 ∧ DE.nx env (gset G1 a (some (.ins c (putD f y fs))))) (mono : ∀ (Q Q' : DK), (∀ d G, Q d G → Q' d G) → tv E env G Q → tv E env G Q') : sFldS cs f (dVar i) tv E DE env G :=
  mono _ _ (fun y G1 ⟨fs, h1, h2, h3⟩ => ⟨.ref a, ha, a, c, fs, rfl, h1, hc, h2, h3⟩) hv
theorem meth_v {m : String} {ms : List (String × DSp)} {i : Nat} {ta : DTA} {E : DXK} {env : DSt} {G : DG} {Q : DK} {a : Addr} {c : String} {fs : List (String × D)} {sp : DSp} (h0 : env[i]? = some (some (.ref a))) (hG : G a = some (.ins c fs)) (hl : fs.lookup m = none) (hs : ms.lookup c = some sp) (k : ta E env G fun xs G2 => sp (.ref a :: xs) G2 Q fun x G' => E x env G') : dMeth m ms (dVar i) ta E env G Q := ⟨_, h0, a, c, fs, sp, rfl, hG, hl, hs, k⟩
theorem meth_v0 {m : String} {ms : List (String × DSp)} {i : Nat} {E : DXK} {env : DSt} {G : DG} {Q : DK} {a : Addr} {c : String} {fs : List (String × D)} {sp : DSp} (h0 : env[i]? = some (some (.ref a))) (hG : G a = some (.ins c fs)) (hl : fs.lookup m = none) (hs : ms.lookup c = some sp) (k : sp [.ref a] G Q fun x G' => E x env G') : dMeth m ms (dVar i) dNil E env G Q := ⟨_, h0, a, c, fs, sp, rfl, hG, hl, hs, k⟩
theorem meth_v1 {m : String} {ms : List (String × DSp)} {i j : Nat} {d : D} {E : DXK} {env : DSt} {G : DG} {Q : DK} {a : Addr} {c : String} {fs : List (String × D)} {sp : DSp} (h0 : env[i]? = some (some (.ref a))) (hG : G a = some (.ins c fs)) (hl : fs.lookup m = none) (hs : ms.lookup c = some sp) (h1 : env[j]? = some (some d)) (k : sp [.ref a, d] G Q fun x G' => E x env G') : dMeth m ms (dVar i) (dCons (dVar j) dNil) E env G Q := ⟨_, h0, a, c, fs, sp, rfl, hG, hl, hs, _, h1, k⟩
theorem meth_c1 {m : String} {ms : List (String × DSp)} {i : Nat} {d : D} {E : DXK} {env : DSt} {G : DG} {Q : DK} {a : Addr} {c : String} {fs : List (String × D)} {sp : DSp} (h0 : env[i]? = some (some (.ref a))) (hG : G a = some (.ins c fs)) (hl : fs.lookup m = none) (hs : ms.lookup c = some sp) (k : sp [.ref a, d] G Q fun x G' => E x env G') : dMeth m ms (dVar i) (dCons (dC d) dNil) E env G Q := ⟨_, h0, a, c, fs, sp, rfl, hG, hl, hs, k⟩
theorem meth_vc {m : String} {ms : List (String × DSp)} {i j : Nat} {d d' : D} {E : DXK} {env : DSt} {G : DG} {Q : DK} {a : Addr} {c : String} {fs : List (String × D)} {sp : DSp} (h0 : env[i]? = some (some (.ref a))) (hG : G a = some (.ins c fs)) (hl : fs.lookup m = none) (hs : ms.lookup c = some sp) (h1 : env[j]? = some (some d)) (k : sp [.ref a, d, d'] G Q fun x G' => E x env G') : dMeth m ms (dVar i) (dCons (dVar j) (dCons (dC d') dNil)) E env G Q := ⟨_, h0, a, c, fs, sp, rfl, hG, hl, hs, _, h1, k⟩
theorem meth_cv {m : String} {ms : List (String × DSp)} {i j : Nat} {d d' : D} {E : DXK} {env : DSt} {G : DG} {Q : DK} {a : Addr} {c : String} {fs : List (String × D)} {sp : DSp} (h0 : env[i]? = some (some (.ref a))) (hG : G a = some (.ins c fs)) (hl : fs.lookup m = none) (hs : ms.lookup c = some sp) (h1 : env[j]? = some (some d)) (k : sp [.ref a, d', d] G Q fun x G' => E x env G') : dMeth m ms (dVar i) (dCons (dC d') (dCons (dVar j) dNil)) E env G Q := ⟨_, h0, a, c, fs, sp, rfl, hG, hl, hs, _, h1, k⟩
def feedsD (fd : List (String × List D)) : List (D × D) := fd.map fun x => (.str x.1, .lst x.2)
theorem feeds_pw {fd : List (String × List D)} (h : (fd.map (·.1)).Nodup) : ((feedsD fd).map (·.1)).Pairwise (fun a b => dkEq a b = false) := by
  unfold feedsD
  rw [List.map_map]
  rw [List.Nodup, List.pairwise_map] at h
  rw [List.pairwise_map]
  exact h.imp fun {a b} n => by
    show decide (a.1 = b.1) = false
    exact decide_eq_false n
end PL

namespace PL
open DL PySem L2
/-! ### parts of the tracked heap, apart from each other -/
abbrev Asr := DG → Prop
def Apart (h k : DG) : Prop := ∀ b, h b = none ∨ k b = none
def pt (a : Addr) (o : DO) : Asr := fun G => G a = some o
def Stars : List Asr → Asr
  | [] => fun _ => True
  | P :: l => fun G => ∃ h k, Apart h k ∧ Ext h G ∧ Ext k G ∧ P h ∧ Stars l k
def gun (h k : DG) : DG := fun b => match h b with
  | some o => some o
  | none => k b
theorem gun_l {h k : DG} {b : Addr} (e : h b ≠ none) : gun h k b = h b := by
  unfold gun
  cases q : h b with
  | none => exact absurd q e
  | some o => rfl
theorem gun_r {h k : DG} {b : Addr} (e : h b = none) : gun h k b = k b := by unfold gun; rw [e]
theorem Stars.up {l : List Asr} {G G' : DG} (hs : Stars l G) (e : Ext G G') : Stars l G' := by
  cases l with
  | nil => trivial
  | cons P l =>
    obtain ⟨h, k, a, b, c, d, f⟩ := hs
    exact ⟨h, k, a, b.trans e, c.trans e, d, f⟩
theorem Stars.swap {P Q : Asr} {l : List Asr} {G : DG} (hs : Stars (P :: Q :: l) G) : Stars (Q :: P :: l) G := by
  obtain ⟨h, k, a, b, c, d, h2, k2, a2, b2, c2, d2, f⟩ := hs
  have e2 : ∀ x, h2 x ≠ none → h x = none := fun x hx => by
    rcases a x with z | z
    · exact z
    · exact absurd (by rw [← b2 x hx]; exact z) hx
  have e3 : ∀ x, k2 x ≠ none → h x = none := fun x hx => by
    rcases a x with z | z
    · exact z
    · exact absurd (by rw [← c2 x hx]; exact z) hx
  refine ⟨h2, gun h k2, fun x => ?_, b2.trans c, fun x hx => ?_, d2, h, k2, fun x => ?_, fun x hx => gun_l hx, fun x hx => gun_r (e3 x hx), d, f⟩
  · by_cases q : h2 x = none
    · exact .inl q
    · refine .inr ?_
      rw [gun_r (e2 x q)]
      exact (a2 x).resolve_left q
  · by_cases q : h x = none
    · rw [gun_r q] at hx ⊢
      exact (c2.trans c) x hx
    · rw [gun_l q]
      exact b x q
  · by_cases q : k2 x = none
    · exact .inr q
    · exact .inl (e3 x q)
theorem Stars.tail {P : Asr} {l : List Asr} {G : DG} (hs : Stars (P :: l) G) : Stars l G := by
  obtain ⟨h, k, a, b, c, d, f⟩ := hs
  exact f.up c
theorem Stars.cons {P : Asr} {l l' : List Asr} {G : DG} (f : ∀ G, Stars l G → Stars l' G) (hs : Stars (P :: l) G) : Stars (P :: l') G := by
  obtain ⟨h, k, a, b, c, d, e⟩ := hs
  exact ⟨h, k, a, b, c, d, f k e⟩
theorem Stars.head {P P' : Asr} {l : List Asr} {G : DG} (f : ∀ G, P G → P' G) (hs : Stars (P :: l) G) : Stars (P' :: l) G := by
  obtain ⟨h, k, a, b, c, d, e⟩ := hs
  exact ⟨h, k, a, b, c, f h d, e⟩
theorem Stars.perm {l l' : List Asr} (p : l.Perm l') : ∀ {G : DG}, Stars l G → Stars l' G := by
  induction p with
  | nil => exact fun h => h
  | cons x _ ih => exact fun h => Stars.cons (fun _ => ih) h
  | swap x y l => exact fun h => h.swap
  | trans _ _ a b => exact fun h => b (a h)
/-- the i-th in front -/
theorem perm_front {α : Type} : ∀ {l : List α} {i : Nat} {x : α}, l[i]? = some x → l.Perm (x :: l.eraseIdx i)
  | [], i, x, e => by simp at e
  | y :: l, 0, x, e => by
    simp only [List.getElem?_cons_zero, Option.some.injEq] at e
    subst e
    exact List.Perm.refl _
  | y :: l, i + 1, x, e => by
    simp only [List.getElem?_cons_succ] at e
    exact ((perm_front e).cons y).trans (List.Perm.swap x y _)
theorem Stars.front {l : List Asr} {G : DG} (hs : Stars l G) (i : Nat) {P : Asr} (e : l[i]? = some P) : Stars (P :: l.eraseIdx i) G := hs.perm (perm_front e)
theorem Stars.get {l : List Asr} {G : DG} (hs : Stars l G) (i : Nat) {a : Addr} {o : DO} (e : l[i]? = some (pt a o)) : G a = some o := by
  obtain ⟨h, k, _, b, _, d, _⟩ := hs.front i e
  have d : h a = some o := d
  rw [b a (by rw [d]; simp), d]
theorem Stars.set {a : Addr} {o o' : DO} : ∀ {l : List Asr} {G : DG}, Stars l G → ∀ (i : Nat), l[i]? = some (pt a o) → Stars (l.set i (pt a o')) (gset G a (some o'))
  | [], G, hs, i, e => by simp at e
  | P :: l, G, hs, 0, e => by
    simp only [List.getElem?_cons_zero, Option.some.injEq] at e
    subst e
    obtain ⟨h, k, ap, b, c, d, f⟩ := hs
    have d : h a = some o := d
    have hk : k a = none := (ap a).resolve_left (by rw [d]; simp)
    refine ⟨gset h a (some o'), k, fun x => ?_, fun x hx => ?_, fun x hx => ?_, gset_same, f⟩
    · by_cases q : x = a
      · rw [q]; exact .inr hk
      · rw [gset_ne q]; exact ap x
    · by_cases q : x = a
      · rw [q, gset_same, gset_same]
      · rw [gset_ne q] at hx ⊢
        rw [gset_ne q]
        exact b x hx
    · rw [gset_ne fun (q : x = a) => hx (q ▸ hk)]
      exact c x hx
  | P :: l, G, hs, i + 1, e => by
    simp only [List.getElem?_cons_succ] at e
    obtain ⟨h, k, ap, b, c, d, f⟩ := hs
    have ka : k a = some o := f.get i e
    have ha : h a = none := (ap a).resolve_right (by rw [ka]; simp)
    refine ⟨h, gset k a (some o'), fun x => ?_, fun x hx => ?_, fun x hx => ?_, d, Stars.set f i e⟩
    · by_cases q : x = a
      · rw [q]; exact .inl ha
      · rw [gset_ne q]; exact ap x
    · rw [gset_ne fun (q : x = a) => hx (q ▸ ha)]
      exact b x hx
    · by_cases q : x = a
      · rw [q, gset_same, gset_same]
      · rw [gset_ne q] at hx ⊢
        rw [gset_ne q]
        exact c x hx
theorem Stars.setG {l : List Asr} {G G' : DG} {a : Addr} {o o' : DO} (hs : Stars l G) (i : Nat) (hG : gset G a (some o') = G') (e : l[i]? = some (pt a o)) : Stars (l.set i (pt a o')) G' := hG ▸ hs.set i e
theorem Stars.new {l : List Asr} {G : DG} {p : Addr} {o : DO} (hs : Stars l G) (hp : G p = none) : Stars (pt p o :: l) (gset G p (some o)) := by
  refine ⟨gset (fun _ => none) p (some o), G, fun x => ?_, fun x hx => ?_, fun x hx => ?_, gset_same, hs⟩
  · by_cases q : x = p
    · rw [q]; exact .inr hp
    · rw [gset_ne q]; exact .inl rfl
  · by_cases q : x = p
    · rw [q, gset_same, gset_same]
    · rw [gset_ne q] at hx
      exact absurd rfl hx
  · rw [gset_ne fun (q : x = p) => hx (q ▸ hp)]
theorem Stars.newG {l : List Asr} {G G' : DG} {p : Addr} {o : DO} (hs : Stars l G) (hp : G p = none) (hG : gset G p (some o) = G') : Stars (pt p o :: l) G' := hG ▸ hs.new hp
theorem Stars.ne {a b : Addr} {o o' : DO} {l : List Asr} {G : DG} (hs : Stars l G) (i j : Nat) (hij : i ≠ j) (e : l[i]? = some (pt a o)) (e' : l[j]? = some (pt b o')) : a ≠ b := by
  intro z
  subst z
  have h := hs.set (o' := .lst []) i e
  have h1 := h.get j (a := a) (o := o') (by rw [List.getElem?_set_ne hij]; exact e')
  rw [gset_same] at h1
  have h2 := hs.set (o' := .dct []) i e
  have h3 := h2.get j (a := a) (o := o') (by rw [List.getElem?_set_ne hij]; exact e')
  rw [gset_same, ← h1] at h3
  cases h3
/-- parts of parts -/
theorem Stars.join {l : List Asr} : ∀ {ps : List Asr} {G : DG}, Stars (ps ++ l) G → Stars (Stars ps :: l) G
  | [], G, hs => ⟨fun _ => none, G, fun _ => .inl rfl, fun _ h => absurd rfl h, Ext.refl G, trivial, hs⟩
  | P :: ps, G, hs => by
    obtain ⟨h, k, ap, b, c, d, f⟩ := hs
    obtain ⟨h2, k2, ap2, b2, c2, d2, f2⟩ := Stars.join f
    have e2 : ∀ x, h2 x ≠ none → h x = none := fun x hx => by
      rcases ap x with z | z
      · exact z
      · exact absurd (by rw [← b2 x hx]; exact z) hx
    have e3 : ∀ x, k2 x ≠ none → h x = none := fun x hx => by
      rcases ap x with z | z
      · exact z
      · exact absurd (by rw [← c2 x hx]; exact z) hx
    refine ⟨gun h h2, k2, fun x => ?_, fun x hx => ?_, c2.trans c, ⟨h, h2, fun x => ?_, fun x hx => gun_l hx, fun x hx => gun_r (e2 x hx), d, d2⟩, f2⟩
    · by_cases q : k2 x = none
      · exact .inr q
      · refine .inl ?_
        rw [gun_r (e3 x q)]
        exact (ap2 x).resolve_right q
    · by_cases q : h x = none
      · rw [gun_r q] at hx ⊢
        exact (b2.trans c) x hx
      · rw [gun_l q]
        exact b x q
    · by_cases q : h2 x = none
      · exact .inr q
      · exact .inl (e2 x q)
theorem Stars.split {l : List Asr} : ∀ {ps : List Asr} {G : DG}, Stars (Stars ps :: l) G → Stars (ps ++ l) G
  | [], G, hs => hs.tail
  | P :: ps, G, hs => by
    obtain ⟨h, k, ap, b, c, ⟨h1, k1, ap1, b1, c1, d1, f1⟩, f⟩ := hs
    have e2 : ∀ x, h1 x ≠ none → k x = none := fun x hx => by
      rcases ap x with z | z
      · exact absurd (by rw [← b1 x hx]; exact z) hx
      · exact z
    have e3 : ∀ x, k1 x ≠ none → k x = none := fun x hx => by
      rcases ap x with z | z
      · exact absurd (by rw [← c1 x hx]; exact z) hx
      · exact z
    refine ⟨h1, gun k1 k, fun x => ?_, b1.trans b, fun x hx => ?_, d1, Stars.split ⟨k1, k, fun x => ?_, fun x hx => gun_l hx, fun x hx => gun_r ?_, f1, f⟩⟩
    · by_cases q : h1 x = none
      · exact .inl q
      · refine .inr ?_
        rw [gun_r ((ap1 x).resolve_left q)]
        exact e2 x q
    · by_cases q : k1 x = none
      · rw [gun_r q] at hx ⊢
        exact c x hx
      · rw [gun_l q]
        exact (c1.trans b) x q
    · by_cases q : k1 x = none
      · exact .inl q
      · exact .inr (e3 x q)
    · by_cases q : k1 x = none
      · exact q
      · exact absurd (e3 x q) hx
/-- some part -/
theorem Stars.ex {α : Type} {P : α → Asr} {l : List Asr} {G : DG} (hs : Stars ((fun h => ∃ x, P x h) :: l) G) : ∃ x, Stars (P x :: l) G := by
  obtain ⟨h, k, a, b, c, ⟨x, d⟩, e⟩ := hs
  exact ⟨x, h, k, a, b, c, d, e⟩
theorem Stars.app {l m : List Asr} {G : DG} (hs : Stars (l ++ m) G) : Stars m G := by
  induction l generalizing G with
  | nil => exact hs
  | cons P l ih => exact ih hs.tail
/-- all that is outside of a part stays -/
theorem Stars.frame {P P' : Asr} {l : List Asr} {G G' : DG} {S : Addr → Prop} (hs : Stars (P :: l) G) (hP : ∀ h, Ext h G → P h → ∀ b, S b → h b ≠ none) (hP' : ∀ h, Ext h G → P h → ∃ h', Ext h' G' ∧ P' h' ∧ ∀ b, h' b ≠ none → S b ∨ G b = none) (hr : ∀ b, ¬ S b → G b ≠ none → G' b = G b) : Stars (P' :: l) G' := by
  obtain ⟨h, k, a, b, c, d, e⟩ := hs
  obtain ⟨h', b', d', f'⟩ := hP' h b d
  have hk : ∀ x, k x ≠ none → ¬ S x := fun x hx s => hP h b d x s ((a x).resolve_right hx)
  refine ⟨h', k, fun x => ?_, b', fun x hx => ?_, d', e⟩
  · by_cases q : k x = none
    · exact .inr q
    · refine .inl (Classical.byContradiction fun z => ?_)
      rcases f' x z with s | s
      · exact hk x q s
      · rw [c x q] at s
        exact q s
  · rw [hr x (hk x hx) (by rw [c x hx]; exact hx), c x hx]
end PL

namespace PL
open DL PySem L2
/-! ### instructions -/
inductive Ins where
  | set (r : Nat) (n : Int) | copy (r s : Nat) | add (r s : Nat) | take (r s : Nat) | less (r s : Nat) | go (g : Nat) | zero (r g : Nat) | read (r s : Nat) | write (r s : Nat)
  | ask (r : Nat) (d : String) | tell (r : Nat) (d : String) | look (r s : Nat) (p : String) | mark (r s : Nat) (p : String) | fin
abbrev nD (n : Nat) : D := .int (n : Int)
def Ins.toD : Ins → D
  | .set r n => .tup [.str "set", nD r, .int n]
  | .copy r s => .tup [.str "copy", nD r, nD s]
  | .add r s => .tup [.str "add", nD r, nD s]
  | .take r s => .tup [.str "take", nD r, nD s]
  | .less r s => .tup [.str "less", nD r, nD s]
  | .go g => .tup [.str "go", nD g]
  | .zero r g => .tup [.str "zero", nD r, nD g]
  | .read r s => .tup [.str "read", nD r, nD s]
  | .write r s => .tup [.str "write", nD r, nD s]
  | .ask r d => .tup [.str "ask", nD r, .str d]
  | .tell r d => .tup [.str "tell", nD r, .str d]
  | .look r s p => .tup [.str "look", nD r, nD s, .str p]
  | .mark r s p => .tup [.str "mark", nD r, nD s, .str p]
  | .fin => .tup [.str "end"]
def Ins.Ok : Ins → Prop
  | .set r n => r < 4 ∧ -999 ≤ n ∧ n ≤ 999
  | .copy r s => r < 4 ∧ s < 4
  | .add r s => r < 4 ∧ s < 4
  | .take r s => r < 4 ∧ s < 4
  | .less r s => r < 4 ∧ s < 4
  | .go g => g ≤ 99
  | .zero r g => r < 4 ∧ g ≤ 99
  | .read r s => r < 4 ∧ s < 4
  | .write r s => r < 4 ∧ s < 4
  | .ask r d => r < 4 ∧ wordS d = true
  | .tell r d => r < 4 ∧ wordS d = true
  | .look r s p => r < 4 ∧ s < 4 ∧ wordS p = true
  | .mark r s p => r < 4 ∧ s < 4 ∧ wordS p = true
  | .fin => True
theorem part_r {d : D} (h : isPart 'r' d = true) : ∃ r : Nat, d = nD r ∧ r < 4 := by
  unfold isPart inR at h
  simp only [if_true] at h
  split at h
  · rename_i i
    simp only [Bool.and_eq_true, decide_eq_true_eq] at h
    exact ⟨i.toNat, by simp [nD]; omega, by omega⟩
  · cases h
theorem part_g {d : D} (h : isPart 'g' d = true) : ∃ r : Nat, d = nD r ∧ r ≤ 99 := by
  replace h : inR 0 99 d = true := h
  unfold inR at h
  split at h
  · rename_i i
    simp only [Bool.and_eq_true, decide_eq_true_eq] at h
    exact ⟨i.toNat, by simp [nD]; omega, by omega⟩
  · cases h
theorem part_n {d : D} (h : isPart 'n' d = true) : ∃ n : Int, d = .int n ∧ -999 ≤ n ∧ n ≤ 999 := by
  replace h : inR (-999) 999 d = true := h
  unfold inR at h
  split at h
  · rename_i i
    simp only [Bool.and_eq_true, decide_eq_true_eq] at h
    exact ⟨i, rfl, by omega⟩
  · cases h
theorem part_w {d : D} (h : isPart 'w' d = true) : ∃ s : String, d = .str s ∧ wordS s = true := by
  have h : isWord d = true := h
  unfold isWord at h
  split at h
  · exact ⟨_, rfl, h⟩
  · cases h
theorem ins_of {d : D} (h : isInstr d = true) : ∃ i : Ins, i.toD = d ∧ i.Ok := by
  obtain ⟨w, ps, so, rfl, hf, hl, hz⟩ := instr_cases h
  have two : ∀ {a b : Char}, ps.length = 2 → (∀ p ∈ [a, b].zip ps, isPart p.1 p.2 = true) → ∃ x y, ps = [x, y] ∧ isPart a x = true ∧ isPart b y = true := fun {a b} e z => by
    match ps, e with
    | [x, y], _ => exact ⟨x, y, rfl, z (a, x) (by simp), z (b, y) (by simp)⟩
  have one : ∀ {a : Char}, ps.length = 1 → (∀ p ∈ [a].zip ps, isPart p.1 p.2 = true) → ∃ x, ps = [x] ∧ isPart a x = true := fun {a} e z => by
    match ps, e with
    | [x], _ => exact ⟨x, rfl, z (a, x) (by simp)⟩
  have thr : ∀ {a b c : Char}, ps.length = 3 → (∀ p ∈ [a, b, c].zip ps, isPart p.1 p.2 = true) → ∃ x y u, ps = [x, y, u] ∧ isPart a x = true ∧ isPart b y = true ∧ isPart c u = true := fun {a b c} e z => by
    match ps, e with
    | [x, y, u], _ => exact ⟨x, y, u, rfl, z (a, x) (by simp), z (b, y) (by simp), z (c, u) (by simp)⟩
  have rr : so = "rr" → ∃ r s : Nat, ps = [nD r, nD s] ∧ r < 4 ∧ s < 4 := fun e => by
    subst e
    obtain ⟨x, y, e, hx, hy⟩ := two (a := 'r') (b := 'r') (hl.trans (by decide)) hz
    obtain ⟨r, rfl, h1⟩ := part_r hx
    obtain ⟨s, rfl, h2⟩ := part_r hy
    exact ⟨r, s, e, h1, h2⟩
  have rw : so = "rw" → ∃ (r : Nat) (s : String), ps = [nD r, .str s] ∧ r < 4 ∧ wordS s = true := fun e => by
    subst e
    obtain ⟨x, y, e, hx, hy⟩ := two (a := 'r') (b := 'w') (hl.trans (by decide)) hz
    obtain ⟨r, rfl, h1⟩ := part_r hx
    obtain ⟨s, rfl, h2⟩ := part_w hy
    exact ⟨r, s, e, h1, h2⟩
  have rrw : so = "rrw" → ∃ (r s : Nat) (p : String), ps = [nD r, nD s, .str p] ∧ r < 4 ∧ s < 4 ∧ wordS p = true := fun e => by
    subst e
    obtain ⟨x, y, u, e, hx, hy, hu⟩ := thr (a := 'r') (b := 'r') (c := 'w') (hl.trans (by decide)) hz
    obtain ⟨r, rfl, h1⟩ := part_r hx
    obtain ⟨s, rfl, h2⟩ := part_r hy
    obtain ⟨p, rfl, h3⟩ := part_w hu
    exact ⟨r, s, p, e, h1, h2, h3⟩
  unfold lst_FORMS at hf
  simp only [List.lookup] at hf
  repeat' split at hf
  all_goals (try cases hf)
  all_goals (rename_i q; rw [beq_iff_eq] at q; subst q)
  all_goals first
    | (obtain ⟨r, s, rfl, h1, h2⟩ := rr rfl; first | exact ⟨.copy r s, rfl, h1, h2⟩ | exact ⟨.add r s, rfl, h1, h2⟩ | exact ⟨.take r s, rfl, h1, h2⟩ | exact ⟨.less r s, rfl, h1, h2⟩ | exact ⟨.read r s, rfl, h1, h2⟩ | exact ⟨.write r s, rfl, h1, h2⟩)
    | (obtain ⟨r, s, rfl, h1, h2⟩ := rw rfl; first | exact ⟨.ask r s, rfl, h1, h2⟩ | exact ⟨.tell r s, rfl, h1, h2⟩)
    | (obtain ⟨r, s, p, rfl, h1, h2, h3⟩ := rrw rfl; first | exact ⟨.look r s p, rfl, h1, h2, h3⟩ | exact ⟨.mark r s p, rfl, h1, h2, h3⟩)
    | skip
  · obtain ⟨x, y, rfl, hx, hy⟩ := two (a := 'r') (b := 'n') (hl.trans (by decide)) hz
    obtain ⟨r, rfl, h1⟩ := part_r hx
    obtain ⟨s, rfl, h2⟩ := part_n hy
    exact ⟨.set r s, rfl, h1, h2⟩
  · obtain ⟨x, rfl, hx⟩ := one (a := 'g') (hl.trans (by decide)) hz
    obtain ⟨r, rfl, h1⟩ := part_g hx
    exact ⟨.go r, rfl, h1⟩
  · obtain ⟨x, y, rfl, hx, hy⟩ := two (a := 'r') (b := 'g') (hl.trans (by decide)) hz
    obtain ⟨r, rfl, h1⟩ := part_r hx
    obtain ⟨s, rfl, h2⟩ := part_g hy
    exact ⟨.zero r s, rfl, h1, h2⟩
  · have : ps = [] := List.length_eq_zero_iff.mp (hl.trans (by decide))
    subst this
    exact ⟨.fin, rfl, trivial⟩
theorem inss_of : ∀ {xs : List D}, (∀ x ∈ xs, isInstr x = true) → ∃ is : List Ins, is.map Ins.toD = xs ∧ ∀ i ∈ is, i.Ok
  | [], _ => ⟨[], rfl, fun i h => by cases h⟩
  | x :: xs, h => by
    obtain ⟨i, e, o⟩ := ins_of (h x (by simp))
    obtain ⟨is, e2, o2⟩ := inss_of (xs := xs) fun y hy => h y (by simp [hy])
    exact ⟨i :: is, by rw [List.map_cons, e, e2], fun j hj => by
      rcases List.mem_cons.mp hj with rfl | hj
      · exact o
      · exact o2 j hj⟩
/-! ### rows of numbers -/
abbrev tupI (l : List Int) : D := .tup (l.map D.int)
abbrev lstI (l : List Int) : List D := l.map D.int
abbrev tupS (l : List String) : D := .tup (l.map D.str)
theorem atI_map {l : List Int} {r : Int} (h0 : 0 ≤ r) (h1 : r < l.length) : atI (l.map D.int) r = some (.int (l.getD r.toNat 0)) := by
  unfold atI ixN
  simp only [List.length_map]
  rw [if_pos h0, if_pos h1]
  have : r.toNat < l.length := by omega
  simp [List.getD, this]
theorem item_tup {G : DG} {l : List Int} {r : Int} (h0 : 0 ≤ r) (h1 : r < l.length) : pyItem G (tupI l) (.int r) = some (.int (l.getD r.toNat 0)) := atI_map h0 h1
theorem item_tupN {G : DG} {l : List Int} {r : Nat} (h1 : r < l.length) : pyItem G (tupI l) (nD r) = some (.int (l.getD r 0)) := by
  have := @item_tup G l (r : Int) (by omega) (by omega)
  rwa [Int.toNat_natCast] at this
theorem item_ref {G : DG} {a : Addr} {l : List Int} {r : Int} (h : G a = some (.lst (lstI l))) (h0 : 0 ≤ r) (h1 : r < l.length) : pyItem G (.ref a) (.int r) = some (.int (l.getD r.toNat 0)) := by
  have e : asQ G (.ref a) = some (lstI l) := by show lstO (G a) = _; rw [h]; rfl
  unfold pyItem
  simp only [e]
  exact atI_map h0 h1
theorem item_refN {G : DG} {a : Addr} {l : List Int} {r : Nat} (h : G a = some (.lst (lstI l))) (h1 : r < l.length) : pyItem G (.ref a) (nD r) = some (.int (l.getD r 0)) := by
  have := @item_ref G a l (r : Int) h (by omega) (by omega)
  rwa [Int.toNat_natCast] at this
theorem set_cut {α : Type} (xs : List α) (r : Nat) (x : α) (h : r < xs.length) : xs.take r ++ [x] ++ xs.drop (r + 1) = xs.set r x := by
  rw [List.set_eq_take_append_cons_drop, if_pos h]
  simp
theorem cut_to {xs : List D} {r : Int} (h0 : 0 ≤ r) (h1 : r < xs.length) : cutD xs none (some r) = xs.take r.toNat := by
  unfold cutD HT.sIx
  simp only
  rw [if_neg (by omega), Nat.min_eq_left (by omega)]
  simp
theorem cut_from {xs : List D} {r : Int} (h0 : 0 ≤ r) (h1 : r < xs.length) : cutD xs (some (r + 1)) none = xs.drop (r.toNat + 1) := by
  unfold cutD HT.sIx
  simp only
  rw [if_neg (by omega), Nat.min_eq_left (by omega), show (r + 1).toNat = r.toNat + 1 by omega]
  rw [List.take_of_length_le (by simp)]
theorem map_set (l : List Int) (r : Nat) (x : Int) : (l.map D.int).set r (.int x) = (l.set r x).map D.int := by
  rw [List.map_set]
end PL

namespace PL
open DL PySem L2
/-! ### a machine, plain -/
structure CS where
  prog : List Ins
  room : Nat
  asks : List String
  tells : List String
  looks : List String
  marks : List String
  spot : Nat
  row : List Int
  own : List Int
  count : List Int
  mood : String
def CS.rights (c : CS) : D := .tup [nD c.room, tupS c.asks, tupS c.tells, tupS c.looks, tupS c.marks]
def CS.fs (c : CS) : List (String × D) := [("program", .tup (c.prog.map Ins.toD)), ("rights", c.rights), ("spot", nD c.spot), ("row", tupI c.row), ("own", tupI c.own), ("count", tupI c.count), ("mood", .str c.mood)]
def CS.ob (c : CS) : DO := .ins "Core" [("program", .tup (c.prog.map Ins.toD)), ("rights", c.rights), ("spot", nD c.spot), ("row", tupI c.row), ("own", tupI c.own), ("count", tupI c.count), ("mood", .str c.mood)]
structure CS.Ok (c : CS) : Prop where
  ins : ∀ i ∈ c.prog, i.Ok
  len : c.prog.length ≤ 40
  row : c.row.length = 4
  own : c.own.length = c.room
  cnt : c.count.length = 5
  room : c.room ≤ 60
  mood : c.mood.length ≤ 10
def CS.open_ (c : CS) : Bool := c.mood == "going" || c.mood == "waiting"
/-- feeds, pages, what was told; sz is beyond all that counts -/
structure WS where
  feeds : String → List Int
  pages : String → List Int
  said : List (String × Int)
  sz : Nat
def CS.at (c : CS) (r : Nat) : Int := c.row.getD r 0
def inCell (x : Int) (n : Nat) : Bool := decide (0 ≤ x) && decide (x < (n : Int))
def inNum (x : Int) : Bool := decide (-999 ≤ x) && decide (x ≤ 999)
def faultI (c : CS) : Ins → Option String
  | .ask _ d => if d ∈ c.asks then none else some "right"
  | .tell _ d => if d ∈ c.tells then none else some "right"
  | .look _ s p => if p ∈ c.looks then (if inCell (c.at s) 10 = true then none else some "cell") else some "right"
  | .mark r _ p => if p ∈ c.marks then (if inCell (c.at r) 10 = true then none else some "cell") else some "right"
  | .read _ s => if inCell (c.at s) c.own.length = true then none else some "cell"
  | .write r _ => if inCell (c.at r) c.own.length = true then none else some "cell"
  | .add r s => if inNum (c.at r + c.at s) = true then none else some "great"
  | .take r s => if inNum (c.at r - c.at s) = true then none else some "great"
  | _ => none
def faultM (c : CS) : Option String := match c.prog[c.spot]? with
  | none => some "place"
  | some i => faultI c i
def oD : Option String → D
  | none => .non
  | some s => .str s
def fset {α : Type} (f : String → α) (k : String) (v : α) : String → α := fun x => if x = k then v else f x
theorem fset_same {α : Type} {f : String → α} {k : String} {v : α} : fset f k v k = v := by unfold fset; rw [if_pos rfl]
theorem fset_ne {α : Type} {f : String → α} {k x : String} {v : α} (h : x ≠ k) : fset f k v x = f x := by unfold fset; rw [if_neg h]
/-- whether it waits: full tells how many a box takes, none of a world alone -/
def waits (full : Option Nat) (w : WS) : Ins → Bool
  | .ask _ d => (w.feeds d).isEmpty
  | .tell _ d => match full with
    | some n => decide (n ≤ (w.feeds d).length)
    | none => false
  | _ => false
def CS.put (c : CS) (r : Nat) (x : Int) : CS := { c with row := c.row.set r x }
def actI (full : Option Nat) (c : CS) (w : WS) : Ins → CS × WS
  | .set r n => ({ c with row := c.row.set r n, spot := c.spot + 1 }, w)
  | .copy r s => ({ c with row := c.row.set r (c.at s), spot := c.spot + 1 }, w)
  | .add r s => ({ c with row := c.row.set r (c.at r + c.at s), spot := c.spot + 1 }, w)
  | .take r s => ({ c with row := c.row.set r (c.at r - c.at s), spot := c.spot + 1 }, w)
  | .less r s => ({ c with row := c.row.set r (if c.at r < c.at s then 1 else 0), spot := c.spot + 1 }, w)
  | .go g => ({ c with spot := g }, w)
  | .zero r g => ({ c with spot := if c.at r = 0 then g else c.spot + 1 }, w)
  | .read r s => ({ c with row := c.row.set r (c.own.getD (c.at s).toNat 0), spot := c.spot + 1 }, w)
  | .write r s => ({ c with own := c.own.set (c.at r).toNat (c.at s), spot := c.spot + 1 }, w)
  | .ask r d => ({ c with row := c.row.set r ((w.feeds d).headD 0), spot := c.spot + 1 }, { w with feeds := fset w.feeds d (w.feeds d).tail })
  | .tell r d => ({ c with spot := c.spot + 1 }, match full with
    | none => { w with said := w.said ++ [(d, c.at r)] }
    | some _ => { w with feeds := fset w.feeds d (w.feeds d ++ [c.at r]) })
  | .look r s p => ({ c with row := c.row.set r ((w.pages p).getD (c.at s).toNat 0), spot := c.spot + 1 }, w)
  | .mark r s p => ({ c with spot := c.spot + 1 }, { w with pages := fset w.pages p ((w.pages p).set (c.at r).toNat (c.at s)) })
  | .fin => (c, w)
def meterAt : Ins → Nat
  | .read _ _ => 1
  | .look _ _ _ => 1
  | .write _ _ => 2
  | .mark _ _ _ => 2
  | .ask _ _ => 3
  | .tell _ _ => 4
  | _ => 0
def bump (l : List Int) (at_ : Nat) : List Int := let m := l.set 0 (l.getD 0 0 + 1); if at_ = 0 then m else m.set at_ (m.getD at_ 0 + 1)
def endMood : Ins → String
  | .fin => "ended"
  | _ => "going"
def stepM (full : Option Nat) (c : CS) (w : WS) : Bool × CS × WS := match c.prog[c.spot]? with
  | none => (false, { c with mood := "place" }, w)
  | some i => match faultI c i with
    | some f => (false, { c with mood := f }, w)
    | none => if waits full w i = true then (false, { c with mood := "waiting" }, w) else
      (true, { (actI full c w i).1 with mood := endMood i, count := bump c.count (meterAt i) }, { (actI full c w i).2 with sz := w.sz + 1 })
/-! ### where they stand -/
abbrev feedsA (fl : List (String × Addr)) (f : String → List Int) : List Asr := fl.map fun x => pt x.2 (.lst (lstI (f x.1)))
abbrev pageL (pl : List (String × List Int)) : List (D × D) := pl.map fun x => (.str x.1, tupI x.2)
def saidD (x : String × Int) : D := .tup [.str x.1, .int x.2]
def zero10 : List Int := [0, 0, 0, 0, 0, 0, 0, 0, 0, 0]
def pageOf (pl : List (String × List Int)) (p : String) : List Int := (pl.lookup p).getD zero10
structure WOk (fl : List (String × Addr)) (w : WS) : Prop where
  nd : (fl.map (·.1)).Nodup
  no : ∀ d, d ∉ fl.map (·.1) → w.feeds d = []
  fl : fl.length ≤ w.sz
  fd : ∀ d, (w.feeds d).length ≤ w.sz
  sd : w.said.length ≤ w.sz
  pg : ∀ p, (w.pages p).length = 10
/-- the world of a machine alone -/
def WorldA (a : Addr) (w : WS) : Asr := fun G => ∃ (f g h : Addr) (fl : List (String × Addr)) (pl : List (String × List Int)),
  Stars ([pt a (.ins "World" [("feeds", .ref f), ("pages", .ref g), ("said", .ref h)]), pt f (.dct (keyL fl)), pt g (.dct (pageL pl)), pt h (.lst (w.said.map saidD))] ++ feedsA fl w.feeds) G ∧ WOk fl w ∧ pl.length ≤ w.sz ∧ (pl.map (·.1)).Nodup ∧ ∀ p, pageOf pl p = w.pages p
end PL
namespace PL
open DL PySem L2
theorem fld_v {cs : List String} {f c : String} {i : Nat} {d : D} {fs : List (String × D)} {E : DXK} {env : DSt} {G : DG} {Q : DK} {a : Addr} (h0 : env[i]? = some (some (.ref a))) (hG : G a = some (.ins c fs)) (hc : c ∈ cs) (hf : fs.lookup f = some d) (k : Q d G) : dFld cs f (dVar i) E env G Q :=
  ⟨_, h0, a, c, fs, d, rfl, hG, hc, hf, k⟩
end PL
namespace PL
open DL PySem L2
theorem fld_e {cs : List String} {f c : String} {d : D} {fs : List (String × D)} {G : DG} {a : Addr} {P : D → Prop} (hG : G a = some (.ins c fs)) (hc : c ∈ cs) (hf : fs.lookup f = some d) (k : P d) : ∃ a' c' fs' d', D.ref a = .ref a' ∧ G a' = some (.ins c' fs') ∧ c' ∈ cs ∧ fs'.lookup f = some d' ∧ P d' :=
  ⟨a, c, fs, d, rfl, hG, hc, hf, k⟩
end PL
namespace PL
open DL PySem L2
theorem inB_S {G : DG} {d : String} {l : List String} : pyInB G (.str d) (tupS l) = some (decide (d ∈ l)) := by
  have e : ((l.map D.str).all flatD) = true := by
    rw [List.all_eq_true]
    intro x hx
    obtain ⟨y, _, rfl⟩ := List.mem_map.mp hx
    rfl
  show (if flatD (.str d) && (l.map D.str).all flatD then some ((l.map D.str).any fun z => eqF z (.str d)) else none) = _
  rw [e]
  show some _ = some _
  congr 1
  rw [List.any_map]
  by_cases h : d ∈ l
  · rw [decide_eq_true h, List.any_eq_true]
    exact ⟨d, h, by show (d == d) = true; simp⟩
  · rw [decide_eq_false h, List.any_eq_false]
    intro x hx
    show ¬ (x == d) = true
    rw [beq_iff_eq]
    intro z
    exact h (z ▸ hx)
theorem notin_S {G : DG} {d : String} {l : List String} : pyNotIn G (.str d) (tupS l) = some (.bl (!decide (d ∈ l))) := by
  unfold pyNotIn
  rw [inB_S]
  rfl
theorem in_S {G : DG} {d : String} {l : List String} : pyIn G (.str d) (tupS l) = some (.bl (decide (d ∈ l))) := by
  unfold pyIn
  rw [inB_S]
  rfl
theorem item_prog {G : DG} {l : List Ins} {n : Nat} {i : Ins} (h : l[n]? = some i) : pyItem G (.tup (l.map Ins.toD)) (nD n) = some i.toD := by
  obtain ⟨hn, rfl⟩ := List.getElem?_eq_some_iff.mp h
  show atI (l.map Ins.toD) (n : Int) = _
  unfold atI ixN
  simp only [List.length_map]
  rw [if_pos (by omega), if_pos (by omega)]
  simp [hn]
theorem is_num_eq {x : Int} : e_is_number [.int x] = some (.ok (.bl (inNum x))) := is_number_eq rfl
end PL
namespace PL
open DL PySem L2
theorem meth_e {m c : String} {ms : List (String × DSp)} {sp : DSp} {fs : List (String × D)} {G : DG} {a : Addr} {P : Addr → DSp → Prop} (hG : G a = some (.ins c fs)) (hl : fs.lookup m = none) (hs : ms.lookup c = some sp) (k : P a sp) : ∃ a' c' fs' sp', D.ref a = .ref a' ∧ G a' = some (.ins c' fs') ∧ fs'.lookup m = none ∧ ms.lookup c' = some sp' ∧ P a' sp' :=
  ⟨a, c, fs, sp, rfl, hG, hl, hs, k⟩
end PL

namespace PL
open DL PySem L2
theorem put1 {G : DG} {xs : List D} {r : Int} {y : D} (h0 : 0 ≤ r) (h1 : r < xs.length) (hl : xs.length ≤ 1000000) : pyAdd G (.tup (cutD xs none (some r))) (.tup [y]) = some (.tup (xs.take r.toNat ++ [y])) := by
  rw [cut_to h0 h1]
  show (if _ then _ else none) = _
  rw [if_pos (by rw [List.length_take]; simp; omega)]
theorem put2 {G : DG} {xs : List D} {r : Int} {y : D} (h0 : 0 ≤ r) (h1 : r < xs.length) (hl : xs.length ≤ 1000000) : pyAdd G (.tup (xs.take r.toNat ++ [y])) (.tup (cutD xs (some (r + 1)) none)) = some (.tup (xs.set r.toNat y)) := by
  rw [cut_from h0 h1]
  show (if _ then _ else none) = _
  rw [if_pos (by simp; omega), set_cut _ _ _ (by omega)]
theorem step_len {c : CS} {i : Ins} (r : Nat) (x : Int) : (c.row.set r x).length = c.row.length := by simp
end PL
namespace PL
open DL PySem L2
theorem Stars.pure {P : Asr} {φ : Prop} {l : List Asr} {G : DG} (hs : Stars ((fun h => P h ∧ φ) :: l) G) : Stars (P :: l) G ∧ φ := by
  obtain ⟨h, k, a, b, c, ⟨d, f⟩, e⟩ := hs
  exact ⟨⟨h, k, a, b, c, d, e⟩, f⟩
theorem Stars.mk {P P' : Asr} {l : List Asr} {G : DG} (hs : Stars (P' :: l) G) (f : ∀ h, P' h → P h) : Stars (P :: l) G := hs.head f
end PL
namespace PL
open DL PySem L2
theorem key_str {s : String} : (keyOf (.str s)).isSome = true := rfl
theorem dkEq_str {s t : String} : dkEq (.str s) (.str t) = decide (s = t) := rfl
theorem dget_map {α : Type} (f : α → D) (k : String) : ∀ l : List (String × α), dget (l.map fun x => (D.str x.1, f x.2)) (.str k) = (l.lookup k).map f
  | [] => rfl
  | (s, v) :: l => by
    have ih := dget_map f k l
    unfold dget at ih ⊢
    rw [List.map_cons, List.find?_cons, dkEq_str, List.lookup_cons]
    by_cases h : s = k
    · subst h
      simp
    · have h2 : (k == s) = false := by rw [beq_eq_false_iff_ne]; exact fun z => h z.symm
      rw [decide_eq_false h, h2]
      exact ih
def aput {α : Type} (l : List (String × α)) (k : String) (v : α) : List (String × α) := if k ∈ l.map (·.1) then l.map (fun x => if x.1 = k then (x.1, v) else x) else l ++ [(k, v)]
theorem dput_map {α : Type} (f : α → D) (k : String) (v : α) (l : List (String × α)) : dput (l.map fun x => (D.str x.1, f x.2)) (.str k) (f v) = (aput l k v).map fun x => (D.str x.1, f x.2) := by
  unfold dput aput
  have e : ((l.map fun x => (D.str x.1, f x.2)).any fun p => dkEq p.1 (.str k)) = decide (k ∈ l.map (·.1)) := by
    rw [List.any_map]
    by_cases h : k ∈ l.map (·.1)
    · rw [decide_eq_true h, List.any_eq_true]
      obtain ⟨x, hx, rfl⟩ := List.mem_map.mp h
      exact ⟨x, hx, by show decide (x.1 = x.1) = true; simp⟩
    · rw [decide_eq_false h, List.any_eq_false]
      intro x hx
      show ¬ decide (x.1 = k) = true
      simp only [decide_eq_true_eq]
      exact fun z => h (List.mem_map.mpr ⟨x, hx, z⟩)
  rw [e]
  by_cases h : k ∈ l.map (·.1)
  · rw [decide_eq_true h, if_pos rfl, if_pos h, List.map_map, List.map_map]
    refine List.map_congr_left fun x _ => ?_
    show (if decide (x.1 = k) = true then _ else _) = _
    by_cases q : x.1 = k
    · simp [q]
    · simp [q]
  · rw [decide_eq_false h, if_neg Bool.false_ne_true, if_neg h, List.map_append]
    rfl
theorem aput_keys {α : Type} {l : List (String × α)} {k : String} {v : α} : (aput l k v).map (·.1) = if k ∈ l.map (·.1) then l.map (·.1) else l.map (·.1) ++ [k] := by
  unfold aput
  split
  · rw [List.map_map]
    refine List.map_congr_left fun x _ => ?_
    show (if x.1 = k then (x.1, v) else x).1 = x.1
    split <;> rfl
  · simp
theorem aput_nodup {α : Type} {l : List (String × α)} {k : String} {v : α} (h : (l.map (·.1)).Nodup) : ((aput l k v).map (·.1)).Nodup := by
  rw [aput_keys]
  split
  · exact h
  · rename_i q
    rw [List.nodup_append]
    refine ⟨h, by simp, fun a ha b hb z => q ?_⟩
    rw [List.mem_singleton] at hb
    rw [← hb, ← z]
    exact ha
theorem aput_len {α : Type} {l : List (String × α)} {k : String} {v : α} : (aput l k v).length ≤ l.length + 1 := by
  unfold aput
  split <;> simp
theorem lookup_none {α : Type} {k : String} : ∀ {l : List (String × α)}, k ∉ l.map (·.1) → l.lookup k = none
  | [], _ => rfl
  | (s, v) :: l, h => by
    have h1 : k ≠ s := fun z => h (by simp [z])
    have h2 : (k == s) = false := by rw [beq_eq_false_iff_ne]; exact h1
    rw [List.lookup_cons, h2]
    exact lookup_none fun z => h (by rw [List.map_cons]; exact List.mem_cons_of_mem _ z)
theorem lookup_mem {α : Type} {k : String} {v : α} : ∀ {l : List (String × α)}, l.lookup k = some v → (k, v) ∈ l
  | [], h => by cases h
  | (s, u) :: l, h => by
    rw [List.lookup_cons] at h
    by_cases q : k = s
    · subst q
      simp at h
      simp [h]
    · have h2 : (k == s) = false := by rw [beq_eq_false_iff_ne]; exact q
      rw [h2] at h
      exact List.mem_cons_of_mem _ (lookup_mem h)
theorem lookup_some {α : Type} {k : String} : ∀ {l : List (String × α)}, k ∈ l.map (·.1) → ∃ v, l.lookup k = some v
  | [], h => by cases h
  | (s, u) :: l, h => by
    rw [List.lookup_cons]
    by_cases q : k = s
    · subst q
      exact ⟨u, by simp⟩
    · have h2 : (k == s) = false := by rw [beq_eq_false_iff_ne]; exact q
      rw [h2]
      refine lookup_some ?_
      rw [List.map_cons] at h
      exact (List.mem_cons.mp h).resolve_left q
theorem lookup_aput {α : Type} {l : List (String × α)} {k x : String} {v : α} : (aput l k v).lookup x = if x = k then some v else l.lookup x := by
  unfold aput
  split
  · rename_i h
    induction l with
    | nil => cases h
    | cons y l ih =>
      obtain ⟨s, u⟩ := y
      rw [List.map_cons]
      by_cases q : s = k
      · subst q
        simp only [if_true, List.lookup_cons]
        by_cases z : x = s
        · subst z; simp
        · have h2 : (x == s) = false := by rw [beq_eq_false_iff_ne]; exact z
          rw [h2, if_neg z]
          simp only
          clear ih h
          induction l with
          | nil => rfl
          | cons y l ih =>
            obtain ⟨t, u⟩ := y
            rw [List.map_cons]
            by_cases q : t = s
            · subst q
              simp only [if_true, List.lookup_cons, h2]
              exact ih
            · simp only [if_neg q, List.lookup_cons]
              split
              · rfl
              · exact ih
      · simp only [if_neg q, List.lookup_cons]
        have hk : k ∈ l.map (·.1) := by
          rw [List.map_cons] at h
          exact (List.mem_cons.mp h).resolve_left fun z => q z.symm
        by_cases z : x = s
        · subst z
          simp [q]
        · have h2 : (x == s) = false := by rw [beq_eq_false_iff_ne]; exact z
          rw [h2]
          exact ih hk
  · rename_i h
    rw [List.lookup_append]
    by_cases q : x = k
    · subst q
      rw [lookup_none h, if_pos rfl]
      simp
    · rw [if_neg q]
      have h2 : (x == k) = false := by rw [beq_eq_false_iff_ne]; exact q
      cases l.lookup x with
      | some v => rfl
      | none => simp [List.lookup, h2]
theorem pageOf_aput {pl : List (String × List Int)} {p x : String} {v : List Int} : pageOf (aput pl p v) x = fset (pageOf pl) p v x := by
  unfold pageOf fset
  rw [lookup_aput]
  split <;> rfl
/-! the world of a machine, open -/
theorem WorldA.op {a : Addr} {w : WS} {F : List Asr} {G : DG} (hs : Stars (WorldA a w :: F) G) : ∃ (f g h : Addr) (fl : List (String × Addr)) (pl : List (String × List Int)),
    Stars (pt a (.ins "World" [("feeds", .ref f), ("pages", .ref g), ("said", .ref h)]) :: pt f (.dct (keyL fl)) :: pt g (.dct (pageL pl)) :: pt h (.lst (w.said.map saidD)) :: (feedsA fl w.feeds ++ F)) G ∧ WOk fl w ∧ pl.length ≤ w.sz ∧ (pl.map (·.1)).Nodup ∧ ∀ p, pageOf pl p = w.pages p := by
  obtain ⟨f, hs⟩ := hs.ex
  obtain ⟨g, hs⟩ := hs.ex
  obtain ⟨h, hs⟩ := hs.ex
  obtain ⟨fl, hs⟩ := hs.ex
  obtain ⟨pl, hs⟩ := hs.ex
  obtain ⟨hs, r⟩ := hs.pure
  exact ⟨f, g, h, fl, pl, hs.split, r⟩
theorem WorldA.cl {a f g h : Addr} {w : WS} {fl : List (String × Addr)} {pl : List (String × List Int)} {F : List Asr} {G : DG} (hs : Stars (pt a (.ins "World" [("feeds", .ref f), ("pages", .ref g), ("said", .ref h)]) :: pt f (.dct (keyL fl)) :: pt g (.dct (pageL pl)) :: pt h (.lst (w.said.map saidD)) :: (feedsA fl w.feeds ++ F)) G)
    (wo : WOk fl w) (h1 : pl.length ≤ w.sz) (h2 : (pl.map (·.1)).Nodup) (h3 : ∀ p, pageOf pl p = w.pages p) : Stars (WorldA a w :: F) G := by
  have := Stars.join (ps := [pt a (.ins "World" [("feeds", .ref f), ("pages", .ref g), ("said", .ref h)]), pt f (.dct (keyL fl)), pt g (.dct (pageL pl)), pt h (.lst (w.said.map saidD))] ++ feedsA fl w.feeds) (l := F) (G := G) hs
  exact this.head fun h' z => ⟨f, g, h, fl, pl, z, wo, h1, h2, h3⟩
theorem feeds_at {fl : List (String × Addr)} {d : String} {a : Addr} (h : (d, a) ∈ fl) : ∃ j : Nat, fl[j]? = some (d, a) := List.mem_iff_getElem?.mp h
theorem nodup_get {l : List String} (nd : l.Nodup) : ∀ {i j : Nat} {x : String}, l[i]? = some x → l[j]? = some x → i = j := by
  induction l with
  | nil => intro i j x h; simp at h
  | cons y l ih =>
    rw [List.nodup_cons] at nd
    intro i j x hi hj
    match i, j with
    | 0, 0 => rfl
    | 0, j + 1 =>
      simp at hi hj
      subst hi
      exact absurd (List.mem_of_getElem? hj) nd.1
    | i + 1, 0 =>
      simp at hi hj
      subst hj
      exact absurd (List.mem_of_getElem? hi) nd.1
    | i + 1, j + 1 =>
      simp at hi hj
      rw [ih nd.2 hi hj]
theorem feeds_get {fl : List (String × Addr)} {j : Nat} {d : String} {a : Addr} {F : List Asr} {f : String → List Int} (h : fl[j]? = some (d, a)) : (feedsA fl f ++ F)[j]? = some (pt a (.lst (lstI (f d)))) := by
  obtain ⟨hj, e⟩ := List.getElem?_eq_some_iff.mp h
  rw [List.getElem?_append_left (by simpa using hj), List.getElem?_map, h]
  rfl
theorem feeds_set {fl : List (String × Addr)} {j : Nat} {d : String} {a : Addr} {F : List Asr} {f : String → List Int} {v : List Int} (h : fl[j]? = some (d, a)) (nd : (fl.map (·.1)).Nodup) : (feedsA fl f ++ F).set j (pt a (.lst (lstI v))) = feedsA fl (fset f d v) ++ F := by
  obtain ⟨hj, e⟩ := List.getElem?_eq_some_iff.mp h
  rw [List.set_append_left _ _ (by simpa using hj)]
  congr 1
  refine List.ext_getElem? fun i => ?_
  rw [List.getElem?_set]
  by_cases q : j = i
  · subst q
    rw [if_pos rfl, if_pos (by simpa using hj), List.getElem?_map, h]
    show _ = some (pt a (.lst (lstI (fset f d v d))))
    rw [fset_same]
  · rw [if_neg q, List.getElem?_map, List.getElem?_map]
    cases hi : fl[i]? with
    | none => rfl
    | some x =>
      have : x.1 ≠ d := fun z => q (nodup_get nd (i := j) (j := i) (x := d) (by rw [List.getElem?_map, h]; rfl) (by rw [List.getElem?_map, hi, ← z]; rfl))
      show some (pt x.2 (.lst (lstI (f x.1)))) = some (pt x.2 (.lst (lstI (fset f d v x.1))))
      rw [fset_ne this]
theorem asD_at {G : DG} {a : Addr} {xs : List (D × D)} (h : G a = some (.dct xs)) : asD G (.ref a) = some xs := by
  show dctO (G a) = _
  rw [h]
  rfl
theorem asL_at {G : DG} {a : Addr} {xs : List D} (h : G a = some (.lst xs)) : asL G (.ref a) = some xs := by
  show lstO (G a) = _
  rw [h]
  rfl
theorem asQ_at {G : DG} {a : Addr} {xs : List D} (h : G a = some (.lst xs)) : asQ G (.ref a) = some xs := asL_at h
/-- d.get(k, x) of a tracked dict -/
theorem dget2_e {G : DG} {a : Addr} {kvs : List (D × D)} {P : D → Prop} {k x : D} (h : G a = some (.dct kvs)) (hk : (keyOf k).isSome = true) (q : P ((dget kvs k).getD x)) : ∃ kvs', asD G (.ref a) = some kvs' ∧ (keyOf k).isSome = true ∧ P ((dget kvs' k).getD x) := ⟨kvs, asD_at h, hk, q⟩
theorem asD_is {G : DG} {a : Addr} {kvs : List (D × D)} (h : G a = some (.dct kvs)) : (asD G (.ref a)).isSome = true := by rw [asD_at h]; rfl
theorem tyM_at {G : DG} {a : Addr} {xs : List D} (h : G a = some (.lst xs)) : tyM G (.ref a) = some "list" := by
  show tyL (G a) = _
  rw [h]
  rfl
theorem mAppend_at {G : DG} {a : Addr} {xs : List D} {x : D} (h : G a = some (.lst xs)) (hl : xs.length < 16000000) : mAppend G (.ref a) [x] = some (.non, gset G a (some (.lst (xs ++ [x])))) := by
  simp only [mAppend, h, lstO, if_pos hl]
theorem mPop0_at {G : DG} {a : Addr} {x : D} {xs : List D} (h : G a = some (.lst (x :: xs))) : mPop0 G (.ref a) [.int 0] = some (x, gset G a (some (.lst xs))) := by
  simp only [mPop0, h, lstO]
theorem setAt_d {G : DG} {a : Addr} {kvs : List (D × D)} {k v : D} (h : G a = some (.dct kvs)) (hk : (keyOf k).isSome = true) (hl : kvs.length < 1000000) : setAt G (.ref a) k v = some (gset G a (some (.dct (dput kvs k v)))) := by
  simp only [setAt, h]
  cases q : keyOf k with
  | none => rw [q] at hk; cases hk
  | some z => simp only [if_pos hl]
theorem item_d {G : DG} {a : Addr} {kvs : List (D × D)} {k : String} {v : D} (h : G a = some (.dct kvs)) (e : dget kvs (.str k) = some v) : pyItem G (.ref a) (.str k) = some v := by
  unfold pyItem
  rw [asD_at h]
  exact e
theorem okD_ints (l : List Int) : okD 40 (.lst (lstI l)) = true := by
  show (l.map D.int).all (okD 39) = true
  rw [List.all_eq_true]
  intro x hx
  obtain ⟨y, _, rfl⟩ := List.mem_map.mp hx
  rfl
theorem WorldA.grow {a : Addr} {w : WS} {F : List Asr} {G : DG} (hs : Stars (WorldA a w :: F) G) : Stars (WorldA a { w with sz := w.sz + 1 } :: F) G := hs.head fun h z => by
  obtain ⟨f, g, h', fl, pl, z, wo, pn, pd, pp⟩ := z
  exact ⟨f, g, h', fl, pl, z, ⟨wo.nd, wo.no, Nat.le_succ_of_le wo.fl, fun d => Nat.le_succ_of_le (wo.fd d), Nat.le_succ_of_le wo.sd, wo.pg⟩, Nat.le_succ_of_le pn, pd, pp⟩
end PL
namespace PL
open DL PySem L2
theorem par_e {xs : List D} {is : List Nat} {P : Prop} (h : xs.length = is.length) (k : P) : xs.length = is.length ∧ P := ⟨h, k⟩
end PL
namespace PL
open DL PySem L2
theorem endMood_len (i : Ins) : (endMood i).length ≤ 10 := by
  cases i <;> first | exact (by decide : "going".length ≤ 10) | exact (by decide : "ended".length ≤ 10)
theorem open_any (c : CS) : ([D.str "going", D.str "waiting"].any fun z => eqF z (D.str c.mood)) = c.open_ := by
  show (("going" == c.mood) || (("waiting" == c.mood) || false)) = (c.mood == "going" || c.mood == "waiting")
  rw [Bool.or_false, Bool.beq_comm (a := "going"), Bool.beq_comm (a := "waiting")]
end PL

namespace PL
open DL PySem L2
/-! ### the law's own machine -/
structure OA where
  q : Addr
  r : Addr
  o : Addr
  s : Addr
  k : Addr
  f : Addr
  g : Addr
def fullD : Option Nat → D
  | none => .non
  | some n => nD n
def fullL : Option Nat → List (D × D)
  | none => []
  | some n => [(.str "full", nD n)]
def ownL (cs : CS) (a : OA) (full : Option Nat) : List (D × D) :=
  (.str "program", .tup (cs.prog.map Ins.toD)) :: (.str "rights", cs.rights) :: (.str "place", nD cs.spot) :: (.str "row", .ref a.r) :: (.str "own", .ref a.o) :: (.str "said", .ref a.s) :: (.str "count", .ref a.k) :: (.str "mood", .str cs.mood) :: (.str "feeds", .ref a.f) :: (.str "pages", .ref a.g) :: fullL full
abbrev ownA (cs : CS) (a : OA) (full : Option Nat) (sd : List (String × Int)) : List Asr := [pt a.q (.dct (ownL cs a full)), pt a.r (.lst (lstI cs.row)), pt a.o (.lst (lstI cs.own)), pt a.s (.lst (sd.map saidD)), pt a.k (.lst (lstI cs.count))]
def LawC (q f g : Addr) (cs : CS) (full : Option Nat) (sd : List (String × Int)) : Asr := fun G => ∃ r o s k, Stars (ownA cs ⟨q, r, o, s, k, f, g⟩ full sd) G
structure POk (gl : List (String × Addr)) (w : WS) : Prop where
  nd : (gl.map (·.1)).Nodup
  no : ∀ p, p ∉ gl.map (·.1) → w.pages p = zero10
  len : gl.length ≤ w.sz
def LawW (f g : Addr) (w : WS) : Asr := fun G => ∃ (fl gl : List (String × Addr)), Stars ([pt f (.dct (keyL fl)), pt g (.dct (keyL gl))] ++ (feedsA fl w.feeds ++ feedsA gl w.pages)) G ∧ WOk fl w ∧ POk gl w
theorem LawC.op {q f g : Addr} {cs : CS} {full : Option Nat} {sd : List (String × Int)} {F : List Asr} {G : DG} (hs : Stars (LawC q f g cs full sd :: F) G) : ∃ a : OA, q = a.q ∧ f = a.f ∧ g = a.g ∧ Stars (ownA cs a full sd ++ F) G := by
  obtain ⟨r, hs⟩ := hs.ex
  obtain ⟨o, hs⟩ := hs.ex
  obtain ⟨s, hs⟩ := hs.ex
  obtain ⟨k, hs⟩ := hs.ex
  exact ⟨⟨q, r, o, s, k, f, g⟩, rfl, rfl, rfl, hs.split⟩
theorem LawC.cl {a : OA} {cs : CS} {full : Option Nat} {sd : List (String × Int)} {F : List Asr} {G : DG} (hs : Stars (ownA cs a full sd ++ F) G) : Stars (LawC a.q a.f a.g cs full sd :: F) G :=
  (Stars.join hs).head fun h z => ⟨a.r, a.o, a.s, a.k, z⟩
theorem LawW.op {f g : Addr} {w : WS} {F : List Asr} {G : DG} (hs : Stars (LawW f g w :: F) G) : ∃ (fl gl : List (String × Addr)), Stars (pt f (.dct (keyL fl)) :: pt g (.dct (keyL gl)) :: (feedsA fl w.feeds ++ (feedsA gl w.pages ++ F))) G ∧ WOk fl w ∧ POk gl w := by
  obtain ⟨fl, hs⟩ := hs.ex
  obtain ⟨gl, hs⟩ := hs.ex
  obtain ⟨hs, r⟩ := hs.pure
  refine ⟨fl, gl, ?_, r⟩
  have := hs.split
  rw [List.append_assoc, List.append_assoc] at this
  exact this
theorem LawW.cl {f g : Addr} {w : WS} {fl gl : List (String × Addr)} {F : List Asr} {G : DG} (hs : Stars (pt f (.dct (keyL fl)) :: pt g (.dct (keyL gl)) :: (feedsA fl w.feeds ++ (feedsA gl w.pages ++ F))) G) (wo : WOk fl w) (po : POk gl w) : Stars (LawW f g w :: F) G := by
  have := Stars.join (ps := [pt f (.dct (keyL fl)), pt g (.dct (keyL gl))] ++ (feedsA fl w.feeds ++ feedsA gl w.pages)) (l := F) (G := G) (by rw [List.append_assoc, List.append_assoc]; exact hs)
  exact this.head fun h z => ⟨fl, gl, z, wo, po⟩
theorem WOk.grow {fl : List (String × Addr)} {w : WS} (wo : WOk fl w) : WOk fl { w with sz := w.sz + 1 } := ⟨wo.nd, wo.no, Nat.le_succ_of_le wo.fl, fun d => Nat.le_succ_of_le (wo.fd d), Nat.le_succ_of_le wo.sd, wo.pg⟩
theorem POk.grow {gl : List (String × Addr)} {w : WS} (po : POk gl w) : POk gl { w with sz := w.sz + 1 } := ⟨po.nd, po.no, Nat.le_succ_of_le po.len⟩
theorem LawW.grow {f g : Addr} {w : WS} {F : List Asr} {G : DG} (hs : Stars (LawW f g w :: F) G) : Stars (LawW f g { w with sz := w.sz + 1 } :: F) G := hs.head fun h z => by
  obtain ⟨fl, gl, z, wo, po⟩ := z
  exact ⟨fl, gl, z, wo.grow, po.grow⟩
section
variable {cs : CS} {a : OA} {full : Option Nat} {G : DG}
theorem own_program (h : G a.q = some (.dct (ownL cs a full))) : pyItem G (.ref a.q) (.str "program") = some (.tup (cs.prog.map Ins.toD)) := item_d h rfl
theorem own_rights (h : G a.q = some (.dct (ownL cs a full))) : pyItem G (.ref a.q) (.str "rights") = some cs.rights := item_d h rfl
theorem own_place (h : G a.q = some (.dct (ownL cs a full))) : pyItem G (.ref a.q) (.str "place") = some (nD cs.spot) := item_d h rfl
theorem own_row (h : G a.q = some (.dct (ownL cs a full))) : pyItem G (.ref a.q) (.str "row") = some (.ref a.r) := item_d h rfl
theorem own_own (h : G a.q = some (.dct (ownL cs a full))) : pyItem G (.ref a.q) (.str "own") = some (.ref a.o) := item_d h rfl
theorem own_said (h : G a.q = some (.dct (ownL cs a full))) : pyItem G (.ref a.q) (.str "said") = some (.ref a.s) := item_d h rfl
theorem own_count (h : G a.q = some (.dct (ownL cs a full))) : pyItem G (.ref a.q) (.str "count") = some (.ref a.k) := item_d h rfl
theorem own_mood (h : G a.q = some (.dct (ownL cs a full))) : pyItem G (.ref a.q) (.str "mood") = some (.str cs.mood) := item_d h rfl
theorem own_feeds (h : G a.q = some (.dct (ownL cs a full))) : pyItem G (.ref a.q) (.str "feeds") = some (.ref a.f) := item_d h rfl
theorem own_pages (h : G a.q = some (.dct (ownL cs a full))) : pyItem G (.ref a.q) (.str "pages") = some (.ref a.g) := item_d h rfl
theorem own_full {n : Nat} (h : G a.q = some (.dct (ownL cs a (some n)))) : pyItem G (.ref a.q) (.str "full") = some (nD n) := item_d h rfl
theorem put_mood {m : String} : dput (ownL cs a full) (.str "mood") (.str m) = ownL { cs with mood := m } a full := by cases full <;> rfl
theorem put_place {n : Nat} : dput (ownL cs a full) (.str "place") (nD n) = ownL { cs with spot := n } a full := by cases full <;> rfl
theorem own_len : (ownL cs a full).length < 1000000 := by cases full <;> (show _ < _; simp [ownL, fullL])
theorem get_full : (dget (ownL cs a full) (.str "full")).getD .non = fullD full := by cases full <;> rfl
end
theorem setAt_l {G : DG} {a : Addr} {l : List Int} {r : Int} {x : Int} (h : G a = some (.lst (lstI l))) (h0 : 0 ≤ r) (h1 : r < l.length) : setAt G (.ref a) (.int r) (.int x) = some (gset G a (some (.lst (lstI (l.set r.toNat x))))) := by
  simp only [setAt, h]
  have e : ixN (lstI l).length r = some r.toNat := by
    unfold ixN
    rw [if_pos h0, if_pos (by simpa using h1)]
  rw [e]
  show some (gset G a (some (.lst ((l.map D.int).set r.toNat (.int x))))) = _
  rw [map_set]
theorem setAt_lN {G : DG} {a : Addr} {l : List Int} {r : Nat} {x : Int} (h : G a = some (.lst (lstI l))) (h1 : r < l.length) : setAt G (.ref a) (nD r) (.int x) = some (gset G a (some (.lst (lstI (l.set r x))))) := by
  have := @setAt_l G a l (r : Int) x h (by omega) (by omega)
  rwa [Int.toNat_natCast] at this
theorem some_e {α : Type} {o : Option α} {P : Prop} (h : o.isSome = true) (k : P) : o.isSome = true ∧ P := ⟨h, k⟩
theorem WOk.pages {fl : List (String × Addr)} {w : WS} (wo : WOk fl w) {p : String} {v : List Int} (h : v.length = 10) : WOk fl { w with pages := fset w.pages p v, sz := w.sz + 1 } := ⟨wo.nd, wo.no, Nat.le_succ_of_le wo.fl, fun d => Nat.le_succ_of_le (wo.fd d), Nat.le_succ_of_le wo.sd, fun q => by
  show (fset w.pages p v q).length = 10
  unfold fset
  split
  · exact h
  · exact wo.pg q⟩
theorem app_get {α : Type} {l m : List α} {j : Nat} : (l ++ m)[l.length + j]? = m[j]? := by
  rw [List.getElem?_append_right (by omega)]
  congr 1
  omega
theorem app_set {α : Type} {l m : List α} {j : Nat} {x : α} : (l ++ m).set (l.length + j) x = l ++ m.set j x := by
  rw [List.set_append_right _ _ (by omega)]
  congr 2
  omega
theorem Stars.setApp {l m : List Asr} {G : DG} {a : Addr} {o o' : DO} (hs : Stars (l ++ m) G) (j : Nat) (e : m[j]? = some (pt a o)) : Stars (l ++ m.set j (pt a o')) (gset G a (some o')) := by
  have := hs.set (o' := o') (l.length + j) (by rw [app_get]; exact e)
  rwa [app_set] at this
theorem Stars.getApp {l m : List Asr} {G : DG} {a : Addr} {o : DO} (hs : Stars (l ++ m) G) (j : Nat) (e : m[j]? = some (pt a o)) : G a = some o := hs.app.get j e
theorem feedsA_snoc {gl : List (String × Addr)} {f : String → List Int} {p : String} {b : Addr} {F : List Asr} : feedsA gl f ++ (pt b (.lst (lstI (f p))) :: F) = feedsA (gl ++ [(p, b)]) f ++ F := by
  simp [feedsA]
theorem Stars.dropMid {l m n : List Asr} {G : DG} (hs : Stars (l ++ (m ++ n)) G) : Stars (l ++ n) G := by
  induction l generalizing G with
  | nil => exact Stars.app (l := m) (m := n) hs
  | cons P l ih => exact Stars.cons (fun _ h => ih h) hs
/-- pages.setdefault(p, [0] * 10) of the law -/
theorem lw_page {f g p2 : Addr} {p : String} {ws : WS} {F : List Asr} {G : DG} (hs : Stars (pt p2 (.lst (lstI zero10)) :: LawW f g ws :: F) G) (hb : ws.sz < 100000) {P : D → DG → Prop}
    (k : ∀ b G', Stars (LawW f g { ws with sz := ws.sz + 1 } :: F) G' → G' b = some (.lst (lstI (ws.pages p))) → (∀ v, v.length = 10 → Stars (LawW f g { ws with pages := fset ws.pages p v, sz := ws.sz + 1 } :: F) (gset G' b (some (.lst (lstI v))))) → P (.ref b) G') :
    ∃ a kvs, D.ref g = .ref a ∧ G a = some (.dct kvs) ∧ (keyOf (.str p)).isSome = true ∧ kvs.length < 1000000 ∧ (∀ v, dget kvs (.str p) = some v → P v G) ∧ (dget kvs (.str p) = none → P (.ref p2) (gset G a (some (.dct (dput kvs (.str p) (.ref p2)))))) := by
  obtain ⟨fl, gl, h1, wo, po⟩ := LawW.op hs.swap
  have hg := h1.get 1 rfl
  have hl : (keyL gl).length < 1000000 := by
    have := po.len
    simp
    omega
  have acc : ∀ (b : Addr) (j : Nat) (gl : List (String × Addr)) (G : DG), gl[j]? = some (p, b) → (gl.map (·.1)).Nodup → (∀ q, q ∉ gl.map (·.1) → ws.pages q = zero10) → gl.length ≤ ws.sz + 1 → Stars (pt f (.dct (keyL fl)) :: pt g (.dct (keyL gl)) :: (feedsA fl ws.feeds ++ (feedsA gl ws.pages ++ F))) G → P (.ref b) G := by
    intro b j gl G hj nd no len h2
    have hp : p ∈ gl.map (·.1) := List.mem_map.mpr ⟨(p, b), List.mem_of_getElem? hj, rfl⟩
    refine k b G (LawW.cl h2 wo.grow ⟨nd, no, len⟩) (h2.tail.tail.getApp j (feeds_get hj)) fun v hv => ?_
    have h3 := Stars.setApp (l := pt f (.dct (keyL fl)) :: pt g (.dct (keyL gl)) :: feedsA fl ws.feeds) (m := feedsA gl ws.pages ++ F) (o' := .lst (lstI v)) h2 j (feeds_get hj)
    rw [feeds_set hj nd] at h3
    refine LawW.cl h3 (wo.pages hv) ⟨nd, fun q hq => ?_, len⟩
    show fset ws.pages p v q = zero10
    rw [fset_ne fun (z : q = p) => hq (z ▸ hp)]
    exact no q hq
  refine ⟨g, keyL gl, rfl, hg, key_str, hl, fun v hv => ?_, fun hv => ?_⟩
  · rw [dget_map] at hv
    cases q : gl.lookup p with
    | none => rw [q] at hv; cases hv
    | some b =>
      rw [q] at hv
      cases hv
      obtain ⟨j, hj⟩ := feeds_at (lookup_mem q)
      have h4 : Stars ((pt f (.dct (keyL fl)) :: pt g (.dct (keyL gl)) :: (feedsA fl ws.feeds ++ feedsA gl ws.pages)) ++ ([pt p2 (.lst (lstI zero10))] ++ F)) G := by
        have e : (pt f (.dct (keyL fl)) :: pt g (.dct (keyL gl)) :: (feedsA fl ws.feeds ++ feedsA gl ws.pages)) ++ ([pt p2 (.lst (lstI zero10))] ++ F) = pt f (.dct (keyL fl)) :: pt g (.dct (keyL gl)) :: (feedsA fl ws.feeds ++ (feedsA gl ws.pages ++ pt p2 (.lst (lstI zero10)) :: F)) := by simp
        rw [e]
        exact h1
      have h5 := h4.dropMid
      refine acc b j gl G hj po.nd po.no (Nat.le_succ_of_le po.len) ?_
      have e : (pt f (.dct (keyL fl)) :: pt g (.dct (keyL gl)) :: (feedsA fl ws.feeds ++ feedsA gl ws.pages)) ++ F = pt f (.dct (keyL fl)) :: pt g (.dct (keyL gl)) :: (feedsA fl ws.feeds ++ (feedsA gl ws.pages ++ F)) := by simp
      rw [← e]
      exact h5
  · rw [dget_map] at hv
    have hn : p ∉ gl.map (·.1) := fun z => by obtain ⟨v, e⟩ := lookup_some z; rw [e] at hv; cases hv
    rw [dput_new hn]
    generalize hG : gset G g _ = G'
    have h2 := h1.setG 1 hG rfl
    have e0 : ws.pages p = zero10 := po.no p hn
    refine acc p2 gl.length (gl ++ [(p, p2)]) G' (by simp) ?_ (fun q hq => po.no q fun z => hq (by simp [z])) (by simp; exact po.len) ?_
    · rw [List.map_append, List.nodup_append]
      refine ⟨po.nd, by simp, fun x hx y hy z => hn ?_⟩
      simp at hy
      rw [← hy, ← z]
      exact hx
    · rw [← e0] at h2
      rw [← feedsA_snoc]
      exact h2
theorem WOk.feeds {fl : List (String × Addr)} {w : WS} (wo : WOk fl w) {d : String} {v : List Int} (hd : d ∈ fl.map (·.1)) (h : v.length ≤ w.sz + 1) : WOk fl { w with feeds := fset w.feeds d v, sz := w.sz + 1 } := ⟨wo.nd, fun y hy => by
  show fset w.feeds d v y = []
  rw [fset_ne fun (z : y = d) => hy (z ▸ hd)]
  exact wo.no y hy, Nat.le_succ_of_le wo.fl, fun y => by
  show (fset w.feeds d v y).length ≤ w.sz + 1
  unfold fset
  split
  · exact h
  · exact Nat.le_succ_of_le (wo.fd y), Nat.le_succ_of_le wo.sd, wo.pg⟩
/-- the first of a door of the law -/
theorem lw_pop {f g : Addr} {d : String} {x : Int} {r : List Int} {ws : WS} {F : List Asr} {G : DG} (hs : Stars (LawW f g ws :: F) G) (e : ws.feeds d = x :: r) :
    ∃ b, pyItem G (.ref f) (.str d) = some (.ref b) ∧ G b = some (.lst (.int x :: lstI r)) ∧ Stars (LawW f g { ws with feeds := fset ws.feeds d r, sz := ws.sz + 1 } :: F) (gset G b (some (.lst (lstI r)))) := by
  obtain ⟨fl, gl, h1, wo, po⟩ := LawW.op hs
  have hf := h1.get 0 rfl
  have hd : d ∈ fl.map (·.1) := Classical.byContradiction fun z => by rw [wo.no d z] at e; cases e
  obtain ⟨b, q⟩ := lookup_some hd
  obtain ⟨j, hj⟩ := feeds_at (lookup_mem q)
  have hb : G b = some (.lst (lstI (ws.feeds d))) := h1.tail.tail.get j (feeds_get hj)
  refine ⟨b, item_d hf (by rw [dget_map, q]; rfl), by rw [hb, e]; rfl, ?_⟩
  have h3 := Stars.setApp (l := [pt f (.dct (keyL fl)), pt g (.dct (keyL gl))]) (m := feedsA fl ws.feeds ++ (feedsA gl ws.pages ++ F)) (o' := .lst (lstI r)) h1 j (feeds_get hj)
  rw [feeds_set hj wo.nd] at h3
  have hl := wo.fd d
  rw [e, List.length_cons] at hl
  exact LawW.cl h3 (wo.feeds hd (by omega)) ⟨po.nd, po.no, Nat.le_succ_of_le po.len⟩
/-- feeds.setdefault(d, []) of the law -/
theorem lw_feed {f g p2 : Addr} {d : String} {ws : WS} {F : List Asr} {G : DG} (hs : Stars (pt p2 (.lst []) :: LawW f g ws :: F) G) (hb : ws.sz < 100000) {P : D → DG → Prop}
    (k : ∀ b G', Stars (LawW f g { ws with sz := ws.sz + 1 } :: F) G' → G' b = some (.lst (lstI (ws.feeds d))) → (∀ v, v.length ≤ ws.sz + 1 → Stars (LawW f g { ws with feeds := fset ws.feeds d v, sz := ws.sz + 1 } :: F) (gset G' b (some (.lst (lstI v))))) → P (.ref b) G') :
    ∃ a kvs, D.ref f = .ref a ∧ G a = some (.dct kvs) ∧ (keyOf (.str d)).isSome = true ∧ kvs.length < 1000000 ∧ (∀ v, dget kvs (.str d) = some v → P v G) ∧ (dget kvs (.str d) = none → P (.ref p2) (gset G a (some (.dct (dput kvs (.str d) (.ref p2)))))) := by
  obtain ⟨fl, gl, h1, wo, po⟩ := LawW.op hs.swap
  have hf := h1.get 0 rfl
  have hl : (keyL fl).length < 1000000 := by
    have := wo.fl
    simp
    omega
  have acc : ∀ (b : Addr) (j : Nat) (fl : List (String × Addr)) (G : DG), fl[j]? = some (d, b) → WOk fl { ws with sz := ws.sz + 1 } → Stars (pt f (.dct (keyL fl)) :: pt g (.dct (keyL gl)) :: (feedsA fl ws.feeds ++ (feedsA gl ws.pages ++ F))) G → P (.ref b) G := by
    intro b j fl G hj wo h2
    have hd : d ∈ fl.map (·.1) := List.mem_map.mpr ⟨(d, b), List.mem_of_getElem? hj, rfl⟩
    refine k b G (LawW.cl h2 wo po.grow) (h2.tail.tail.get j (feeds_get hj)) fun v hv => ?_
    have h3 := Stars.setApp (l := [pt f (.dct (keyL fl)), pt g (.dct (keyL gl))]) (m := feedsA fl ws.feeds ++ (feedsA gl ws.pages ++ F)) (o' := .lst (lstI v)) h2 j (feeds_get hj)
    rw [feeds_set hj wo.nd] at h3
    refine LawW.cl h3 ⟨wo.nd, fun y hy => ?_, wo.fl, fun y => ?_, wo.sd, wo.pg⟩ ⟨po.nd, po.no, Nat.le_succ_of_le po.len⟩
    · show fset ws.feeds d v y = []
      rw [fset_ne fun (z : y = d) => hy (z ▸ hd)]
      exact wo.no y hy
    · show (fset ws.feeds d v y).length ≤ ws.sz + 1
      unfold fset
      split
      · exact hv
      · exact wo.fd y
  refine ⟨f, keyL fl, rfl, hf, key_str, hl, fun v hv => ?_, fun hv => ?_⟩
  · rw [dget_map] at hv
    cases q : fl.lookup d with
    | none => rw [q] at hv; cases hv
    | some b =>
      rw [q] at hv
      cases hv
      obtain ⟨j, hj⟩ := feeds_at (lookup_mem q)
      have h4 : Stars ((pt f (.dct (keyL fl)) :: pt g (.dct (keyL gl)) :: (feedsA fl ws.feeds ++ feedsA gl ws.pages)) ++ ([pt p2 (.lst [])] ++ F)) G := by
        have e : (pt f (.dct (keyL fl)) :: pt g (.dct (keyL gl)) :: (feedsA fl ws.feeds ++ feedsA gl ws.pages)) ++ ([pt p2 (.lst [])] ++ F) = pt f (.dct (keyL fl)) :: pt g (.dct (keyL gl)) :: (feedsA fl ws.feeds ++ (feedsA gl ws.pages ++ pt p2 (.lst []) :: F)) := by simp
        rw [e]
        exact h1
      have h5 := h4.dropMid
      refine acc b j fl G hj wo.grow ?_
      have e : (pt f (.dct (keyL fl)) :: pt g (.dct (keyL gl)) :: (feedsA fl ws.feeds ++ feedsA gl ws.pages)) ++ F = pt f (.dct (keyL fl)) :: pt g (.dct (keyL gl)) :: (feedsA fl ws.feeds ++ (feedsA gl ws.pages ++ F)) := by simp
      rw [← e]
      exact h5
  · rw [dget_map] at hv
    have hn : d ∉ fl.map (·.1) := fun z => by obtain ⟨v, e⟩ := lookup_some z; rw [e] at hv; cases hv
    rw [dput_new hn]
    generalize hG : gset G f _ = G'
    have h2 := h1.setG 0 hG rfl
    have e0 : ws.feeds d = [] := wo.no d hn
    refine acc p2 fl.length (fl ++ [(d, p2)]) G' (by simp) ⟨?_, fun q hq => wo.no q fun z => hq (by simp [z]), by simp; exact wo.fl, wo.grow.fd, wo.grow.sd, wo.pg⟩ ?_
    · rw [List.map_append, List.nodup_append]
      refine ⟨wo.nd, by simp, fun x hx y hy z => hn ?_⟩
      simp at hy
      rw [← hy, ← z]
      exact hx
    · rw [← feedsA_snoc, e0]
      refine h2.perm ?_
      show (pt f (.dct (keyL (fl ++ [(d, p2)]))) :: pt g (.dct (keyL gl)) :: (feedsA fl ws.feeds ++ (feedsA gl ws.pages ++ pt p2 (.lst []) :: F))).Perm (pt f (.dct (keyL (fl ++ [(d, p2)]))) :: pt g (.dct (keyL gl)) :: (feedsA fl ws.feeds ++ pt p2 (.lst []) :: (feedsA gl ws.pages ++ F)))
      exact (((List.Perm.append_left _ List.perm_middle).cons _).cons _)
end PL
namespace PL
open DL PySem L2
theorem mulB_10 {G : DG} {a : Addr} (h : G a = some (.lst [.int 0])) : mulB G (.ref a) (.int 10) = some (.lst (lstI zero10)) := by
  simp only [mulB, asL_at h]
  rfl
end PL

namespace PL
open DL PySem L2
theorem gset_id {G : DG} {a : Addr} {o : DO} (h : G a = some o) : gset G a (some o) = G := by
  funext b
  by_cases q : b = a
  · rw [q, gset_same, h]
  · rw [gset_ne q]
theorem lcL_pure {tg : Tg} {te : DTE} {guard : DG → Prop} {env : DSt} {G : DG} {g : D → D} (hg : guard G) : ∀ {ds : List D} {Q : List D → DG → Prop}, (∀ d ∈ ds, ∀ Q : DK, Q (g d) G → dTg tg d env (fun env1 => te EF env1 G Q)) → Q (ds.map g) G → dLcL tg dYes te guard env ds G Q
  | [], Q, _, q => ⟨hg, q⟩
  | d :: ds, Q, h, q => by
    refine ⟨hg, ?_⟩
    have h0 := h d (by simp) (fun y G2 => dLcL tg dYes te guard env ds G2 fun ys G3 => Q (y :: ys) G3) (lcL_pure hg (fun x hx => h x (by simp [hx])) q)
    cases tg with
    | n i => exact h0
    | t is =>
      obtain ⟨xs, e, l, z⟩ := h0
      exact ⟨xs, e, l, z⟩
theorem pyAll_mapG {G : DG} {α : Type} (f : α → Bool) (xs : List α) : pyAll G [.lst (xs.map fun x => D.bl (f x))] = some (.bl (xs.all f)) := m_all _ _ _ (pyAll_map f xs)
theorem allT {G : DG} {xs : List D} {g : D → D} (h : ∀ x ∈ xs, g x = .bl true) : pyAll G [.lst (xs.map g)] = some (.bl true) := by
  have e : xs.map g = xs.map fun _ => D.bl true := List.map_congr_left h
  rw [e, pyAll_mapG]
  simp
/-- a machine alone -/
def MachA (p : Addr) (cs : CS) (ws : WS) : Asr := fun G => ∃ c w, Stars [pt p (.ins "Machine" [("core", .ref c), ("world", .ref w)]), pt c cs.ob, WorldA w ws] G
theorem MachA.op {p : Addr} {cs : CS} {ws : WS} {F : List Asr} {G : DG} (hs : Stars (MachA p cs ws :: F) G) : ∃ c w, Stars (pt p (.ins "Machine" [("core", .ref c), ("world", .ref w)]) :: pt c cs.ob :: WorldA w ws :: F) G := by
  obtain ⟨c, hs⟩ := hs.ex
  obtain ⟨w, hs⟩ := hs.ex
  exact ⟨c, w, hs.split⟩
theorem MachA.cl {p c w : Addr} {cs : CS} {ws : WS} {F : List Asr} {G : DG} (hs : Stars (pt p (.ins "Machine" [("core", .ref c), ("world", .ref w)]) :: pt c cs.ob :: WorldA w ws :: F) G) : Stars (MachA p cs ws :: F) G :=
  (Stars.join (ps := [pt p (.ins "Machine" [("core", .ref c), ("world", .ref w)]), pt c cs.ob, WorldA w ws]) hs).head fun h z => ⟨c, w, z⟩
/-- as it begins -/
structure Prg where
  prog : List Ins
  room : Nat
  asks : List String
  tells : List String
  looks : List String
  marks : List String
def Prg.cs (p : Prg) : CS := ⟨p.prog, p.room, p.asks, p.tells, p.looks, p.marks, 0, [0, 0, 0, 0], List.replicate p.room 0, [0, 0, 0, 0, 0], "going"⟩
def Prg.pD (p : Prg) : D := .tup (p.prog.map Ins.toD)
def Prg.rD (p : Prg) : D := .tup [nD p.room, tupS p.asks, tupS p.tells, tupS p.looks, tupS p.marks]
structure Prg.Ok (p : Prg) : Prop where
  prog : isProg p.pD = true
  rights : isRights p.rD = true
  ins : ∀ i ∈ p.prog, i.Ok
  len : p.prog.length ≤ 40
  room : p.room ≤ 60
theorem Prg.Ok.cs {p : Prg} (h : p.Ok) : p.cs.Ok := ⟨h.ins, h.len, rfl, by simp [Prg.cs], rfl, h.room, (by decide : "going".length ≤ 10)⟩
theorem strs_of : ∀ {xs : List D}, xs.all isWord = true → ∃ l : List String, xs = l.map D.str
  | [], _ => ⟨[], rfl⟩
  | x :: xs, h => by
    rw [List.all_cons, Bool.and_eq_true] at h
    obtain ⟨s, rfl⟩ := isWord_str h.1
    obtain ⟨l, rfl⟩ := strs_of h.2
    exact ⟨s :: l, rfl⟩
theorem row_strs {xs : List D} (h : isRow (.tup xs) = true) : ∃ l : List String, xs = l.map D.str := by
  unfold isRow at h
  simp only [Bool.and_eq_true] at h
  exact strs_of h.1.2
theorem prg_of {xs : List D} {rights : D} (hp : isProg (.tup xs) = true) (hr : isRights rights = true) : ∃ p : Prg, p.Ok ∧ .tup xs = p.pD ∧ rights = p.rD := by
  obtain ⟨i, a, b, c, d, rfl, h0, h60, ha, hb, hc, hd⟩ := isRights_cases hr
  obtain ⟨ys, e, l1, l2, hi⟩ := isProg_cases hp
  cases e
  obtain ⟨is, rfl, ok⟩ := inss_of hi
  obtain ⟨a, rfl⟩ := row_strs ha
  obtain ⟨b, rfl⟩ := row_strs hb
  obtain ⟨c, rfl⟩ := row_strs hc
  obtain ⟨d, rfl⟩ := row_strs hd
  have ei : D.int i = nD i.toNat := by simp [nD]; omega
  refine ⟨⟨is, i.toNat, a, b, c, d⟩, ⟨hp, ?_, ok, by simpa using l2, by show i.toNat ≤ 60; omega⟩, rfl, by rw [ei]; rfl⟩
  rw [ei] at hr
  exact hr
def ws0 (f : String → List Int) (g : String → List Int) (n : Nat) : WS := ⟨f, g, [], n⟩
theorem lookup_of {α : Type} {l : List (String × α)} {x : String × α} (nd : (l.map (·.1)).Nodup) (h : x ∈ l) : l.lookup x.1 = some x.2 := by
  induction l with
  | nil => cases h
  | cons y l ih =>
    rw [List.map_cons, List.nodup_cons] at nd
    obtain ⟨s, v⟩ := y
    rw [List.lookup_cons]
    rcases List.mem_cons.mp h with rfl | h
    · simp
    · have : x.1 ≠ s := fun z => nd.1 (List.mem_map.mpr ⟨x, h, z⟩)
      have h2 : (x.1 == s) = false := by rw [beq_eq_false_iff_ne]; exact this
      rw [h2]
      exact ih nd.2 h
theorem item_D {G : DG} {kvs : List (D × D)} {k : String} : pyItem G (.dct kvs) (.str k) = dget kvs (.str k) := rfl
abbrev kvL (kl : List (String × D)) : List (D × D) := kl.map fun x => (D.str x.1, x.2)
theorem le_e {n : Nat} {P : Prop} (h : n ≤ 16000000) (k : P) : n ≤ 16000000 ∧ P := ⟨h, k⟩
theorem faultI_len {c : CS} {i : Ins} {s : String} (h : faultI c i = some s) : s.length ≤ 10 := by
  have : s = "right" ∨ s = "cell" ∨ s = "great" := by
    cases i <;> simp only [faultI] at h <;> (try split at h) <;> (try split at h) <;> (try cases h) <;> simp
  rcases this with rfl | rfl | rfl <;> decide
theorem actI_ok {full : Option Nat} {c : CS} {w : WS} {i : Ins} (ok : c.Ok) : (actI full c w i).1.Ok := by
  cases i <;> exact ⟨ok.ins, ok.len, by simp [actI, ok.row], by simp [actI, ok.own], ok.cnt, ok.room, ok.mood⟩
theorem bump_len {l : List Int} {n : Nat} : (bump l n).length = l.length := by
  unfold bump
  simp only
  split <;> simp
theorem stepM_ok {full : Option Nat} {c : CS} {w : WS} (ok : c.Ok) : (stepM full c w).2.1.Ok := by
  unfold stepM
  split
  · exact ⟨ok.ins, ok.len, ok.row, ok.own, ok.cnt, ok.room, (by decide : "place".length ≤ 10)⟩
  · rename_i i hi
    split
    · rename_i s hs
      exact ⟨ok.ins, ok.len, ok.row, ok.own, ok.cnt, ok.room, faultI_len hs⟩
    · split
      · exact ⟨ok.ins, ok.len, ok.row, ok.own, ok.cnt, ok.room, (by decide : "waiting".length ≤ 10)⟩
      · have h := actI_ok (full := full) (w := w) (i := i) ok
        exact ⟨h.ins, h.len, h.row, h.own, by show (bump c.count (meterAt i)).length = 5; rw [bump_len]; exact ok.cnt, h.room, endMood_len i⟩
theorem stepM_sz {full : Option Nat} {c : CS} {w : WS} : (stepM full c w).2.2.sz ≤ w.sz + 1 := by
  unfold stepM
  split
  · exact Nat.le_succ _
  · split
    · exact Nat.le_succ _
    · split
      · exact Nat.le_succ _
      · exact Nat.le_refl _
/-- so many steps at most, as run does them -/
def runM (full : Option Nat) : Nat → CS → WS → CS × WS
  | 0, c, w => (c, w)
  | n + 1, c, w => if c.open_ = true then (if (stepM full c w).2.1.mood = "going" then runM full n (stepM full c w).2.1 (stepM full c w).2.2 else ((stepM full c w).2.1, (stepM full c w).2.2)) else (c, w)
theorem runM_ok {full : Option Nat} : ∀ {n : Nat} {c : CS} {w : WS}, c.Ok → (runM full n c w).1.Ok
  | 0, c, w, ok => ok
  | n + 1, c, w, ok => by
    unfold runM
    split
    · split
      · exact runM_ok (stepM_ok ok)
      · exact stepM_ok ok
    · exact ok
theorem runM_sz {full : Option Nat} : ∀ {n : Nat} {c : CS} {w : WS}, (runM full n c w).2.sz ≤ w.sz + n
  | 0, c, w => Nat.le_refl _
  | n + 1, c, w => by
    have h := stepM_sz (full := full) (c := c) (w := w)
    unfold runM
    split
    · split
      · have := runM_sz (full := full) (n := n) (c := (stepM full c w).2.1) (w := (stepM full c w).2.2)
        omega
      · show (stepM full c w).2.2.sz ≤ _
        omega
    · show w.sz ≤ _
      omega
def CS.prg (c : CS) : Prg := ⟨c.prog, c.room, c.asks, c.tells, c.looks, c.marks⟩
theorem actI_prg {full : Option Nat} {c : CS} {w : WS} {i : Ins} : (actI full c w i).1.prg = c.prg := by cases i <;> rfl
theorem stepM_prg {full : Option Nat} {c : CS} {w : WS} : (stepM full c w).2.1.prg = c.prg := by
  unfold stepM
  split
  · rfl
  · split
    · rfl
    · split
      · rfl
      · exact actI_prg
theorem runM_prg {full : Option Nat} : ∀ {n : Nat} {c : CS} {w : WS}, (runM full n c w).1.prg = c.prg
  | 0, c, w => rfl
  | n + 1, c, w => by
    unfold runM
    split
    · split
      · exact runM_prg.trans stepM_prg
      · exact stepM_prg
    · rfl
theorem Stars.appR {l m m' : List Asr} {G : DG} (f : ∀ G, Stars m G → Stars m' G) (hs : Stars (l ++ m) G) : Stars (l ++ m') G := by
  induction l generalizing G with
  | nil => exact f G hs
  | cons P l ih => exact Stars.cons (fun _ h => ih h) hs
theorem perm5 {α : Type} (a b c d e : α) (l : List α) : (a :: b :: c :: d :: e :: l).Perm (c :: a :: e :: d :: b :: l) := by
  have h1 : (a :: b :: c :: d :: e :: l).Perm (c :: a :: b :: d :: e :: l) := (List.Perm.cons _ (List.Perm.swap _ _ _)).trans (List.Perm.swap _ _ _)
  have h2 : (b :: d :: e :: l).Perm (e :: d :: b :: l) := (List.Perm.cons _ (List.Perm.swap _ _ _)).trans ((List.Perm.swap _ _ _).trans (List.Perm.cons _ (List.Perm.swap _ _ _)))
  exact h1.trans (List.Perm.cons _ (List.Perm.cons _ h2))
theorem asg_e {xs : List D} {ts : List DTG} {P : Prop} (h : xs.length = ts.length) (k : P) : xs.length = ts.length ∧ P := ⟨h, k⟩
theorem mulB_n {G : DG} {a : Addr} {n : Nat} (h : G a = some (.lst [.int 0])) (hn : n ≤ 60) : mulB G (.ref a) (nD n) = some (.lst (lstI (List.replicate n 0))) := by
  simp only [mulB, asL_at h]
  rw [if_pos (by simp; omega)]
  have e : (List.replicate ((n : Int).toNat) [D.int 0]).flatten = lstI (List.replicate n 0) := by
    rw [Int.toNat_natCast]
    induction n with
    | zero => rfl
    | succ n ih => rw [List.replicate_succ, List.flatten_cons, ih (by omega)]; simp [List.replicate_succ]
  rw [e]
abbrev feedsL (fd : List (String × List Int)) : List (D × D) := fd.map fun x => (D.str x.1, D.lst (lstI x.2))
end PL

namespace PL
open DL PySem L2
/-! ### runs -/
theorem stepM_true {full : Option Nat} {c : CS} {w : WS} (h : (stepM full c w).1 = true) : (stepM full c w).2.1.mood = "going" ∨ (stepM full c w).2.1.mood = "ended" := by
  unfold stepM at h ⊢
  split at h
  · cases h
  · rename_i i hi
    split at h
    · cases h
    · rename_i hf
      split at h
      · cases h
      · rename_i hw
        simp only [hf, hw]
        cases i <;> simp [endMood]
theorem fault_word {c : CS} {i : Ins} {s : String} (h : faultI c i = some s) : s = "right" ∨ s = "cell" ∨ s = "great" := by
  cases i <;> simp only [faultI] at h <;> (try split at h) <;> (try split at h) <;> (try cases h) <;> simp
theorem stepM_false {full : Option Nat} {c : CS} {w : WS} (h : (stepM full c w).1 = false) : (stepM full c w).2.1.mood ≠ "going" ∧ (stepM full c w).2.2 = w := by
  unfold stepM at h ⊢
  split at h
  · rename_i hn
    exact ⟨show "place" ≠ "going" by decide, rfl⟩
  · rename_i i hi
    split at h
    · rename_i s hf
      simp only [hf]
      rcases fault_word hf with rfl | rfl | rfl
      · exact ⟨show "right" ≠ "going" by decide, trivial⟩
      · exact ⟨show "cell" ≠ "going" by decide, trivial⟩
      · exact ⟨show "great" ≠ "going" by decide, trivial⟩
    · rename_i hf
      split at h
      · rename_i hw
        simp only [hf, if_pos hw]
        exact ⟨show "waiting" ≠ "going" by decide, trivial⟩
      · cases h
theorem open_going {c : CS} (h : c.mood = "going") : c.open_ = true := by unfold CS.open_; rw [h]; rfl
theorem open_ended {c : CS} (h : c.mood = "ended") : c.open_ = false := by unfold CS.open_; rw [h]; rfl
/-- as the law leads its own machine: on as long as a step was done -/
def lawRun (full : Option Nat) : Nat → CS → WS → CS × WS
  | 0, c, w => (c, w)
  | n + 1, c, w => if c.open_ = true then (if (stepM full c w).1 = true then lawRun full n (stepM full c w).2.1 (stepM full c w).2.2 else ((stepM full c w).2.1, (stepM full c w).2.2)) else (c, w)
theorem runM_closed {full : Option Nat} {n : Nat} {c : CS} {w : WS} (h : c.open_ = false) : runM full n c w = (c, w) := by
  cases n with
  | zero => rfl
  | succ n => unfold runM; rw [if_neg (by rw [h]; simp)]
theorem lawRun_eq {full : Option Nat} : ∀ (n : Nat) (c : CS) (w : WS), lawRun full n c w = runM full n c w
  | 0, c, w => rfl
  | n + 1, c, w => by
    unfold lawRun runM
    cases ho : c.open_ with
    | false => rfl
    | true =>
      simp only [if_true]
      cases hb : (stepM full c w).1 with
      | true =>
        simp only [if_true]
        rcases stepM_true hb with h | h
        · rw [if_pos h, lawRun_eq n]
        · rw [if_neg (by rw [h]; decide), lawRun_eq n, runM_closed (open_ended h)]
      | false =>
        rw [if_neg (stepM_false hb).1]
        rfl
/-- what holds of each machine of a law -/
structure Good (full : Option Nat) (c : CS) (w : WS) : Prop where
  ok : c.Ok
  prg : c.prg.Ok
  said : ∀ x ∈ w.said, x.1.length ≤ 100
  wait : c.mood = "waiting" → stepM full c w = (false, c, w)
theorem word_len {s : String} (h : wordS s = true) : s.length ≤ 8 := by
  unfold wordS at h
  simp only [Bool.and_eq_true, decide_eq_true_eq] at h
  exact h.1.2
theorem Good.step {full : Option Nat} {c : CS} {w : WS} (g : Good full c w) : Good full (stepM full c w).2.1 (stepM full c w).2.2 := by
  refine ⟨stepM_ok g.ok, by rw [stepM_prg]; exact g.prg, ?_, ?_⟩
  · have h := g.said
    unfold stepM
    split
    · exact h
    · rename_i i hi
      have io := g.ok.ins i (List.mem_of_getElem? hi)
      split
      · exact h
      · split
        · exact h
        · cases i with
          | tell r d =>
            intro x hx
            cases full with
            | none =>
              have hx : x ∈ w.said ++ [(d, c.at r)] := hx
              rcases List.mem_append.mp hx with hx | hx
              · exact h x hx
              · simp at hx
                subst hx
                have := word_len io.2
                show d.length ≤ 100
                omega
            | some n => exact h x hx
          | _ => exact h
  · unfold stepM
    split
    · intro z
      exact absurd z (show ¬ "place" = "waiting" by decide)
    · rename_i i hi
      split
      · rename_i s hf
        intro z
        have z : s = "waiting" := z
        rcases fault_word hf with e | e | e <;> (rw [e] at z; exact absurd z (by decide))
      · rename_i hf
        split
        · rename_i hw
          intro _
          have hf2 : faultI { c with mood := "waiting" } i = none := by cases i <;> exact hf
          simp only [hi, hf2, hw]
          rfl
        · intro z
          have z : endMood i = "waiting" := z
          cases i <;> exact absurd z (by simp [endMood])
theorem Good.run {full : Option Nat} : ∀ {n : Nat} {c : CS} {w : WS}, Good full c w → Good full (runM full n c w).1 (runM full n c w).2
  | 0, c, w, g => g
  | n + 1, c, w, g => by
    unfold runM
    split
    · split
      · exact Good.run g.step
      · exact g.step
    · exact g
theorem runM_wait {full : Option Nat} {n : Nat} {c : CS} {w : WS} (g : Good full c w) (h : c.mood ≠ "going") : c.open_ = true → runM full n c w = (c, w) := fun ho => by
  cases n with
  | zero => rfl
  | succ n =>
    have hm : c.mood = "waiting" := by
      unfold CS.open_ at ho
      simp only [Bool.or_eq_true, beq_iff_eq] at ho
      exact ho.resolve_left h
    unfold runM
    rw [if_pos ho, g.wait hm, if_neg h]
theorem runM_succ {full : Option Nat} {n : Nat} {c : CS} {w : WS} : runM full (n + 1) c w = if c.open_ = true then (if (stepM full c w).2.1.mood = "going" then runM full n (stepM full c w).2.1 (stepM full c w).2.2 else ((stepM full c w).2.1, (stepM full c w).2.2)) else (c, w) := rfl
theorem runM_split {full : Option Nat} {b : Nat} : ∀ {a : Nat} {c : CS} {w : WS}, Good full c w → runM full (a + b) c w = if (runM full a c w).1.mood = "going" then runM full b (runM full a c w).1 (runM full a c w).2 else runM full a c w
  | 0, c, w, g => by
    rw [Nat.zero_add]
    show runM full b c w = if c.mood = "going" then runM full b c w else (c, w)
    split
    · rfl
    · rename_i h
      cases ho : c.open_ with
      | true => exact runM_wait g h ho
      | false => exact runM_closed ho
  | a + 1, c, w, g => by
    rw [show a + 1 + b = (a + b) + 1 by omega, runM_succ, runM_succ (n := a)]
    cases ho : c.open_ with
    | false =>
      simp only [Bool.false_eq_true, if_false]
      rw [if_neg fun z => by rw [open_going z] at ho; cases ho]
    | true =>
      simp only [if_true]
      by_cases hg : (stepM full c w).2.1.mood = "going"
      · simp only [if_pos hg]
        exact runM_split g.step
      · simp only [if_neg hg]
def shownD (cs : CS) (sd : List (String × Int)) : D := .tup [.str cs.mood, nD cs.spot, tupI cs.row, tupI cs.own, .lst (sd.map saidD), tupI cs.count]
theorem okD_tupI (n : Nat) (l : List Int) : okD (n + 1) (tupI l) = true := by
  show (l.map D.int).all (okD n) = true
  rw [List.all_eq_true]
  intro x hx
  obtain ⟨y, _, rfl⟩ := List.mem_map.mp hx
  cases n <;> rfl
theorem Good.okD {full : Option Nat} {c : CS} {w : WS} (g : Good full c w) : okD 40 (shownD c w.said) = true := by
  have h1 : PL.okD 39 (.str c.mood) = true := decide_eq_true (by have := g.ok.mood; omega)
  have h2 : PL.okD 39 (.lst (w.said.map saidD)) = true := by
    show (w.said.map saidD).all (PL.okD 38) = true
    rw [List.all_eq_true]
    intro x hx
    obtain ⟨y, hy, rfl⟩ := List.mem_map.mp hx
    show (PL.okD 37 (.str y.1) && (PL.okD 37 (.int y.2) && true)) = true
    rw [show PL.okD 37 (.str y.1) = true from decide_eq_true (by have := g.said y hy; omega)]
    rfl
  show (PL.okD 39 _ && (PL.okD 39 _ && (PL.okD 39 _ && (PL.okD 39 _ && (PL.okD 39 _ && (PL.okD 39 _ && true)))))) = true
  rw [h1, h2, okD_tupI 38, okD_tupI 38, okD_tupI 38]
  rfl
theorem Prg.Ok.good {p : Prg} {full : Option Nat} {f g : String → List Int} {n : Nat} (h : p.Ok) : Good full p.cs (ws0 f g n) := ⟨h.cs, h, fun x hx => (by cases hx), fun z => absurd (show "going" = "waiting" from z) (by decide)⟩
end PL

namespace PL
open DL PySem L2
/-! ### two machines side by side -/
def stepO (c : CS) (w : WS) : CS × WS := if c.open_ = true then ((stepM none c w).2.1, (stepM none c w).2.2) else (c, w)
theorem Good.stepO {c : CS} {w : WS} (g : Good none c w) : Good none (PL.stepO c w).1 (PL.stepO c w).2 := by
  unfold PL.stepO
  split
  · exact g.step
  · exact g
theorem stepO_sz {c : CS} {w : WS} : (stepO c w).2.sz ≤ w.sz + 1 := by
  unfold stepO
  split
  · exact stepM_sz
  · exact Nat.le_succ _
def show5 (cs : CS) (sd : List (String × Int)) : D := .tup [.str cs.mood, nD cs.spot, tupI cs.row, tupI cs.own, .lst (sd.map saidD)]
theorem okD_said (n : Nat) {sd : List (String × Int)} (h : ∀ x ∈ sd, x.1.length ≤ 100) : okD (n + 2) (.lst (sd.map saidD)) = true := by
  show (sd.map saidD).all (okD (n + 1)) = true
  rw [List.all_eq_true]
  intro x hx
  obtain ⟨y, hy, rfl⟩ := List.mem_map.mp hx
  show (okD n (.str y.1) && (okD n (.int y.2) && true)) = true
  have e : okD n (.str y.1) = true := by
    have := h y hy
    cases n <;> exact decide_eq_true (by omega)
  rw [e]
  cases n <;> rfl
theorem Good.ok5 {full : Option Nat} {c : CS} {w : WS} (g : Good full c w) : PL.okD 40 (show5 c w.said) = true := by
  have h1 : PL.okD 39 (.str c.mood) = true := decide_eq_true (by have := g.ok.mood; omega)
  show (PL.okD 39 _ && (PL.okD 39 _ && (PL.okD 39 _ && (PL.okD 39 _ && (PL.okD 39 _ && true))))) = true
  rw [h1, okD_said 37 g.said, okD_tupI 38, okD_tupI 38]
  rfl
def unl (a b : D) : Bool := match pyEqB G0 a b with
  | some x => !x
  | none => true
theorem ne_unl {G : DG} {a b : D} (ha : okD 40 a = true) (hb : okD 40 b = true) : pyNe G a b = some (.bl (unl a b)) := by
  obtain ⟨x, e⟩ := eqB_some ha hb
  refine m_ne G _ _ _ ?_
  unfold pyNe unl
  rw [e]
  rfl
theorem unl_self {a : D} (ha : okD 40 a = true) : unl a a = false := by
  unfold unl
  rw [eqB_refl ha]
  rfl
theorem show5_py {c : CS} {sd : List (String × Int)} (h : okD 40 (show5 c sd) = true) : ∃ y, toPy G0 40 (show5 c sd) = some y := okD_py 40 _ h
theorem unl_comm {c d : CS} {s t : List (String × Int)} (h1 : okD 40 (show5 c s) = true) (h2 : okD 40 (show5 d t) = true) : unl (show5 c s) (show5 d t) = unl (show5 d t) (show5 c s) := by
  obtain ⟨x, ex⟩ := show5_py h1
  obtain ⟨y, ey⟩ := show5_py h2
  have e1 : pyEqB G0 (show5 c s) (show5 d t) = some (PyData.eqv x y) := by
    show (match toPy G0 40 (show5 c s), toPy G0 40 (show5 d t) with | some d, some e => some (PyData.eqv d e) | _, _ => none) = _
    rw [ex, ey]
  have e2 : pyEqB G0 (show5 d t) (show5 c s) = some (PyData.eqv y x) := by
    show (match toPy G0 40 (show5 d t), toPy G0 40 (show5 c s) with | some d, some e => some (PyData.eqv d e) | _, _ => none) = _
    rw [ex, ey]
  unfold unl
  rw [e1, e2, PySem.W.eqv_comm]
/-- behind how many steps they first tell unlike things -/
def dueM : Nat → Nat → CS → WS → CS → WS → Option Nat
  | 0, _, _, _, _, _ => none
  | n + 1, k, c, w, d, v => if unl (show5 c w.said) (show5 d v.said) = true then some k else dueM n (k + 1) (stepO c w).1 (stepO c w).2 (stepO d v).1 (stepO d v).2
theorem dueM_comm : ∀ {n k : Nat} {c d : CS} {w v : WS}, Good none c w → Good none d v → dueM n k c w d v = dueM n k d v c w
  | 0, _, _, _, _, _, _, _ => rfl
  | n + 1, k, c, d, w, v, g, h => by
    unfold dueM
    rw [unl_comm g.ok5 h.ok5, dueM_comm g.stepO h.stepO]
theorem dueM_self : ∀ {n k : Nat} {c : CS} {w : WS}, Good none c w → dueM n k c w c w = none
  | 0, _, _, _, _ => rfl
  | n + 1, k, c, w, g => by
    unfold dueM
    rw [unl_self g.ok5, if_neg (by simp), dueM_self g.stepO]
def dD : Option Nat → D
  | none => .non
  | some n => nD n
theorem ne_dD {G : DG} {o : Option Nat} : pyNe G (dD o) (dD o) = some (.bl false) := by
  cases o with
  | none => rfl
  | some n =>
    show some (D.bl (!decide ((n : Int) = n))) = _
    simp
theorem Good.okD39 {full : Option Nat} {c : CS} {w : WS} (g : Good full c w) : PL.okD 39 (shownD c w.said) = true := by
  have h1 : PL.okD 38 (.str c.mood) = true := decide_eq_true (by have := g.ok.mood; omega)
  show (PL.okD 38 _ && (PL.okD 38 _ && (PL.okD 38 _ && (PL.okD 38 _ && (PL.okD 38 _ && (PL.okD 38 _ && true)))))) = true
  rw [h1, okD_said 36 g.said, okD_tupI 37, okD_tupI 37, okD_tupI 37]
  rfl
theorem add_tup {G : DG} {xs ys : List D} (h : xs.length + ys.length ≤ 16000000) : pyAdd G (.tup xs) (.tup ys) = some (.tup (xs ++ ys)) := if_pos h
end PL
namespace PL
open DL PySem L2
/-! ### walks -/
def doneO (c : CS) (w : WS) : Bool := c.open_ && (stepM none c w).1
theorem bump0 {l : List Int} {n : Nat} (h : l.length = 5) : (bump l n).getD 0 0 = l.getD 0 0 + 1 := by
  match l, h with
  | [a, b, c, d, e], _ =>
    unfold bump
    by_cases hn : n = 0
    · simp [hn]
    · simp only [if_neg hn]
      cases n with
      | zero => exact absurd rfl hn
      | succ n => simp
theorem stepM_or {full : Option Nat} {c : CS} {w : WS} : (∃ m, stepM full c w = (false, { c with mood := m }, w)) ∨ ∃ i, c.prog[c.spot]? = some i ∧ faultI c i = none ∧ waits full w i = false ∧ stepM full c w = (true, { (actI full c w i).1 with mood := endMood i, count := bump c.count (meterAt i) }, { (actI full c w i).2 with sz := w.sz + 1 }) := by
  unfold stepM
  cases hi : c.prog[c.spot]? with
  | none => exact .inl ⟨_, rfl⟩
  | some i =>
    cases hf : faultI c i with
    | some f => simp only [hf]; exact .inl ⟨_, rfl⟩
    | none =>
      cases hw : waits full w i with
      | true => simp only [hf, hw, if_true]; exact .inl ⟨_, rfl⟩
      | false => simp only [hf, hw]; exact .inr ⟨i, rfl, hf, hw, rfl⟩
theorem stepM_count {c : CS} {w : WS} (ok : c.Ok) : (stepM none c w).2.1.count.getD 0 0 = c.count.getD 0 0 + (if (stepM none c w).1 = true then 1 else 0) := by
  rcases stepM_or (full := none) (c := c) (w := w) with ⟨m, e⟩ | ⟨i, _, _, _, e⟩
  · rw [e]; simp
  · rw [e]
    exact bump0 ok.cnt
theorem stepO_count {c : CS} {w : WS} (ok : c.Ok) : (stepO c w).1.count.getD 0 0 = c.count.getD 0 0 + (if doneO c w = true then 1 else 0) := by
  unfold stepO doneO
  cases ho : c.open_ with
  | false => simp
  | true =>
    simp only [if_true, Bool.true_and]
    exact stepM_count ok
theorem stepO_sz2 {c : CS} {w : WS} : (stepO c w).2.sz = w.sz + (if doneO c w = true then 1 else 0) := by
  unfold stepO doneO
  cases ho : c.open_ with
  | false => simp
  | true =>
    simp only [if_true, Bool.true_and]
    rcases stepM_or (full := none) (c := c) (w := w) with ⟨m, e⟩ | ⟨i, _, _, _, e⟩
    · rw [e]; simp
    · rw [e]; simp
def WalkA (a : Addr) (cs : CS) (ws : WS) : Asr := fun G => ∃ (rw m : Addr) (ms : List D), Stars [pt a (.ins "Walk" [("rows", .ref rw)]), pt rw (.lst (ms ++ [.ref m])), MachA m cs ws] G ∧ ms.length ≤ ws.sz
theorem WalkA.op {a : Addr} {cs : CS} {ws : WS} {F : List Asr} {G : DG} (hs : Stars (WalkA a cs ws :: F) G) : ∃ (rw m : Addr) (ms : List D), Stars (pt a (.ins "Walk" [("rows", .ref rw)]) :: pt rw (.lst (ms ++ [.ref m])) :: MachA m cs ws :: F) G ∧ ms.length ≤ ws.sz := by
  obtain ⟨rw, hs⟩ := hs.ex
  obtain ⟨m, hs⟩ := hs.ex
  obtain ⟨ms, hs⟩ := hs.ex
  obtain ⟨hs, h⟩ := hs.pure
  exact ⟨rw, m, ms, hs.split, h⟩
theorem WalkA.cl {a rw m : Addr} {ms : List D} {cs : CS} {ws : WS} {F : List Asr} {G : DG} (hs : Stars (pt a (.ins "Walk" [("rows", .ref rw)]) :: pt rw (.lst (ms ++ [.ref m])) :: MachA m cs ws :: F) G) (h : ms.length ≤ ws.sz) : Stars (WalkA a cs ws :: F) G :=
  (Stars.join (ps := [pt a (.ins "Walk" [("rows", .ref rw)]), pt rw (.lst (ms ++ [.ref m])), MachA m cs ws]) hs).head fun _ z => ⟨rw, m, ms, z, h⟩
theorem ix_last {n : Nat} : ixN (n + 1) (-1) = some n := by
  unfold ixN
  rw [if_neg (by decide)]
  rw [if_pos (by omega)]
  congr 1
  omega
theorem item_last {G : DG} {a : Addr} {ms : List D} {x : D} (h : G a = some (.lst (ms ++ [x]))) : pyItem G (.ref a) (.int (-1)) = some x := by
  unfold pyItem
  simp only [asQ_at h]
  show atI (ms ++ [x]) (-1) = _
  unfold atI
  rw [show (ms ++ [x]).length = ms.length + 1 by simp, ix_last]
  simp
theorem setAt_last {G : DG} {a : Addr} {ms : List D} {x y : D} (h : G a = some (.lst (ms ++ [x]))) : setAt G (.ref a) (.int (-1)) y = some (gset G a (some (.lst (ms ++ [y])))) := by
  simp only [setAt, h]
  rw [show (ms ++ [x]).length = ms.length + 1 by simp, ix_last]
  simp
/-- steps till a place, as long as it is going -/
def untM (place : Nat) : Nat → CS → WS → CS × WS
  | 0, c, w => (c, w)
  | n + 1, c, w => if c.spot ≠ place ∧ c.mood = "going" then (if doneO c w = true then untM place n (stepO c w).1 (stepO c w).2 else stepO c w) else (c, w)
theorem Good.unt {place : Nat} : ∀ {n : Nat} {c : CS} {w : WS}, Good none c w → Good none (untM place n c w).1 (untM place n c w).2
  | 0, _, _, g => g
  | n + 1, c, w, g => by
    unfold untM
    split
    · split
      · exact Good.unt g.stepO
      · exact g.stepO
    · exact g
theorem untM_sz {place : Nat} : ∀ {n : Nat} {c : CS} {w : WS}, (untM place n c w).2.sz ≤ w.sz + n
  | 0, _, _ => Nat.le_refl _
  | n + 1, c, w => by
    have h := stepO_sz (c := c) (w := w)
    unfold untM
    split
    · split
      · have := untM_sz (place := place) (n := n) (c := (stepO c w).1) (w := (stepO c w).2)
        omega
      · show (stepO c w).2.sz ≤ _
        omega
    · show w.sz ≤ _
      omega
theorem Good.okB {full : Option Nat} {c : CS} {w : WS} (g : Good full c w) : PL.okD 40 (.tup [nD c.spot, tupI c.row, tupI c.own, .lst (w.said.map saidD), tupI c.count]) = true := by
  show List.all [nD c.spot, tupI c.row, tupI c.own, .lst (w.said.map saidD), tupI c.count] (PL.okD 39) = true
  rw [List.all_cons, List.all_cons, List.all_cons, List.all_cons, List.all_cons, okD_said 37 g.said, okD_tupI 38, okD_tupI 38, okD_tupI 38]
  rfl
end PL

/-! where a program's places lead; rows that are sorted -/
namespace PL
open DL PySem L2
def dueN : Ins → Nat → List Nat
  | .fin, _ => []
  | .go g, _ => [g]
  | .zero _ g, p => [p + 1, g]
  | _, p => [p + 1]
def wayD (i : Ins) (p : Nat) : List D := sortD (nubD ((dueN i p).map nD))
theorem nD_at (n : Nat) : atK (nD n) = some true := rfl
theorem nD_inj {a b : Nat} (h : nD a = nD b) : a = b := by
  injection h with h
  omega
theorem nats_at {l : List Nat} : ∀ d ∈ l.map nD, atK d = some true := fun d m => by
  obtain ⟨n, _, rfl⟩ := List.mem_map.mp m
  rfl
theorem nats_of : ∀ {ds : List D}, (∀ d ∈ ds, ∃ n, d = nD n) → ∃ l : List Nat, ds = l.map nD
  | [], _ => ⟨[], rfl⟩
  | d :: ds, h => by
    obtain ⟨n, rfl⟩ := h d List.mem_cons_self
    obtain ⟨l, rfl⟩ := nats_of fun x m => h x (List.mem_cons_of_mem _ m)
    exact ⟨n :: l, rfl⟩
theorem mem_nats {l : List Nat} {n : Nat} : nD n ∈ l.map nD ↔ n ∈ l := by
  refine ⟨fun m => ?_, fun m => List.mem_map.mpr ⟨n, m, rfl⟩⟩
  obtain ⟨k, mk, e⟩ := List.mem_map.mp m
  rw [← nD_inj e]
  exact mk
theorem way_of (i : Ins) (p : Nat) : ∃ l : List Nat, wayD i p = l.map nD ∧ (∀ g, g ∈ l ↔ g ∈ dueN i p) ∧ l.length ≤ 2 := by
  have mem : ∀ d, d ∈ wayD i p ↔ d ∈ (dueN i p).map nD := fun d => by
    unfold wayD
    rw [(sortD_perm _).mem_iff, nubD_mem nats_at]
  obtain ⟨l, e⟩ := nats_of (ds := wayD i p) fun d m => by
    obtain ⟨n, _, q⟩ := List.mem_map.mp ((mem d).mp m)
    exact ⟨n, q.symm⟩
  refine ⟨l, e, fun g => ?_, ?_⟩
  · rw [← mem_nats, ← e, mem, mem_nats]
  · have len : ∀ xs : List D, (nubD xs).length ≤ xs.length := by
      intro xs
      induction xs with
      | nil => exact Nat.le_refl _
      | cons x xs ih =>
        unfold nubD
        split
        · exact Nat.le_succ_of_le ih
        · exact Nat.succ_le_succ ih
    have : (wayD i p).length = l.length := by rw [e, List.length_map]
    rw [← this]
    unfold wayD
    rw [(sortD_perm _).length_eq]
    refine Nat.le_trans (len _) ?_
    rw [List.length_map]
    cases i <;> first | exact Nat.le_refl _ | exact Nat.le_succ _ | exact Nat.zero_le _
inductive Reach (is : List Ins) : Nat → Prop
  | zero : Reach is 0
  | step {x g : Nat} {i : Ins} : Reach is x → is[x]? = some i → g ∈ dueN i x → Reach is g
theorem nodup_len : ∀ (n : Nat) (l : List Nat), l.Nodup → (∀ x ∈ l, x < n) → l.length ≤ n
  | 0, l, _, h => by
    cases l with
    | nil => exact Nat.le_refl _
    | cons x l => exact absurd (h x List.mem_cons_self) (Nat.not_lt_zero _)
  | n + 1, l, nd, h => by
    have e := nodup_len n (l.erase n) (nd.erase n) fun x m => by
      have m' := (List.Nodup.mem_erase_iff nd).mp m
      have := h x m'.2
      omega
    have : l.length ≤ (l.erase n).length + 1 := by
      rw [List.length_erase]
      split <;> omega
    omega
/-! ### the program's way: found, work -/
def push (n : Nat) : List Nat → List Nat → List Nat → List Nat × List Nat
  | [], fs, wk => (fs, wk)
  | g :: gs, fs, wk => if g < n ∧ g ∉ fs then push n gs (fs ++ [g]) (wk ++ [g]) else push n gs fs wk
structure Pushed (n : Nat) (gs fs wk fs' wk' : List Nat) : Prop where
  sub : ∀ x ∈ fs, x ∈ fs'
  subw : ∀ x ∈ wk, x ∈ wk'
  new : ∀ x ∈ fs', x ∈ fs ∨ (x ∈ gs ∧ x < n ∧ x ∈ wk')
  neww : ∀ x ∈ wk', x ∈ wk ∨ x ∈ fs'
  all : ∀ g ∈ gs, g < n → g ∈ fs'
  nd : fs.Nodup → fs'.Nodup
  len : fs'.length + wk.length = wk'.length + fs.length
theorem pushed (n : Nat) : ∀ gs fs wk : List Nat, Pushed n gs fs wk (push n gs fs wk).1 (push n gs fs wk).2
  | [], fs, wk => ⟨fun _ m => m, fun _ m => m, fun _ m => .inl m, fun _ m => .inl m, fun _ m => (by cases m), id, Nat.add_comm _ _⟩
  | g :: gs, fs, wk => by
    unfold push
    by_cases c : g < n ∧ g ∉ fs
    · rw [if_pos c]
      have ih := pushed n gs (fs ++ [g]) (wk ++ [g])
      generalize push n gs (fs ++ [g]) (wk ++ [g]) = r at ih
      have mg : g ∈ r.1 := ih.sub g (by simp)
      refine ⟨fun x m => ih.sub x (by simp [m]), fun x m => ih.subw x (by simp [m]), fun x m => ?_, fun x m => ?_, fun x m lt => ?_, fun nd => ih.nd ?_, ?_⟩
      · rcases ih.new x m with q | ⟨q1, q2, q3⟩
        · rcases List.mem_append.mp q with q | q
          · exact .inl q
          · rw [List.mem_singleton.mp q]
            exact .inr ⟨List.mem_cons_self, c.1, ih.subw g (by simp)⟩
        · exact .inr ⟨List.mem_cons_of_mem _ q1, q2, q3⟩
      · rcases ih.neww x m with q | q
        · rcases List.mem_append.mp q with q | q
          · exact .inl q
          · rw [List.mem_singleton.mp q]
            exact .inr mg
        · exact .inr q
      · rcases List.mem_cons.mp m with q | q
        · rw [q]
          exact mg
        · exact ih.all x q lt
      · refine List.nodup_append.mpr ⟨nd, by simp, fun a ha b hb e => ?_⟩
        rw [List.mem_singleton.mp hb] at e
        exact c.2 (e ▸ ha)
      · have := ih.len
        rw [List.length_append, List.length_append] at this
        simp at this
        omega
    · rw [if_neg c]
      have ih := pushed n gs fs wk
      generalize push n gs fs wk = r at ih
      refine ⟨ih.sub, ih.subw, fun x m => (ih.new x m).imp id fun q => ⟨List.mem_cons_of_mem _ q.1, q.2⟩, ih.neww, fun x m lt => ?_, ih.nd, ih.len⟩
      rcases List.mem_cons.mp m with q | q
      · subst q
        refine ih.sub x ?_
        by_cases h : x ∈ fs
        · exact h
        · exact absurd ⟨lt, h⟩ c
      · exact ih.all x q lt
structure InvP (is : List Ins) (fs wk : List Nat) : Prop where
  nd : fs.Nodup
  ok : ∀ x ∈ fs, x < is.length ∧ Reach is x
  wf : ∀ x ∈ wk, x ∈ fs
  cl : ∀ x ∈ fs, x ∈ wk ∨ ∀ i g, is[x]? = some i → g ∈ dueN i x → g < is.length → g ∈ fs
  z : 0 ∈ fs
theorem InvP.start {is : List Ins} (h : 0 < is.length) : InvP is [0] [0] :=
  ⟨by simp, fun x m => by rw [List.mem_singleton.mp m]; exact ⟨h, .zero⟩, fun _ m => m, fun _ m => .inl m, by simp⟩
theorem InvP.next {is : List Ins} {fs wk : List Nat} {h : Nat} {i : Ins} {gs : List Nat} (I : InvP is fs (wk ++ [h])) (hi : is[h]? = some i) (hg : ∀ g, g ∈ gs ↔ g ∈ dueN i h) : InvP is (push is.length gs fs wk).1 (push is.length gs fs wk).2 := by
  have p := pushed is.length gs fs wk
  generalize push is.length gs fs wk = r at p
  have hh : h ∈ fs := I.wf h (by simp)
  refine ⟨p.nd I.nd, fun x m => ?_, fun x m => ?_, fun x m => ?_, p.sub 0 I.z⟩
  · rcases p.new x m with q | ⟨q1, q2, _⟩
    · exact I.ok x q
    · exact ⟨q2, .step (I.ok h hh).2 hi ((hg x).mp q1)⟩
  · rcases p.neww x m with q | q
    · exact p.sub x (I.wf x (by simp [q]))
    · exact q
  · rcases p.new x m with q | ⟨_, _, q3⟩
    · rcases I.cl x q with c | c
      · rcases List.mem_append.mp c with c | c
        · exact .inl (p.subw x c)
        · refine .inr fun j g hj mg lt => ?_
          rw [List.mem_singleton.mp c] at hj mg
          rw [hi] at hj
          cases hj
          exact p.all g ((hg g).mpr mg) lt
      · exact .inr fun j g hj mg lt => p.sub g (c j g hj mg lt)
    · exact .inl q3
theorem InvP.meas {is : List Ins} {fs wk : List Nat} {h : Nat} {gs : List Nat} (I : InvP is fs (wk ++ [h])) (I' : InvP is (push is.length gs fs wk).1 (push is.length gs fs wk).2) :
    2 * (is.length - (push is.length gs fs wk).1.length) + (push is.length gs fs wk).2.length < 2 * (is.length - fs.length) + (wk ++ [h]).length := by
  have p := pushed is.length gs fs wk
  have l1 := nodup_len is.length fs I.nd fun x m => (I.ok x m).1
  have l2 := nodup_len is.length _ I'.nd fun x m => (I'.ok x m).1
  have e := p.len
  rw [List.length_append]
  simp
  -- fs' grows by k, wk' by k
  have : fs.length ≤ (push is.length gs fs wk).1.length := by
    have : ∀ gs fs wk : List Nat, fs.length ≤ (push is.length gs fs wk).1.length := by
      intro gs
      induction gs with
      | nil => intro fs wk; exact Nat.le_refl _
      | cons g gs ih =>
        intro fs wk
        unfold push
        split
        · have := ih (fs ++ [g]) (wk ++ [g])
          rw [List.length_append] at this
          omega
        · exact ih fs wk
    exact this gs fs wk
  omega
theorem InvP.all {is : List Ins} {fs : List Nat} (I : InvP is fs []) {x : Nat} (r : Reach is x) : x < is.length → x ∈ fs := by
  induction r with
  | zero => exact fun _ => I.z
  | step r hi mg ih =>
    rename_i y g i
    intro lt
    have ly : y < is.length := (List.getElem?_eq_some_iff.mp hi).1
    rcases I.cl y (ih ly) with c | c
    · cases c
    · exact c i g hi mg lt
/-! ### the law's way: seen, work -/
structure InvL (is : List Ins) (sn wk : List Nat) : Prop where
  nd : sn.Nodup
  ok : ∀ x ∈ sn, x < is.length ∧ Reach is x
  wr : ∀ x ∈ wk, Reach is x
  cl : ∀ x ∈ sn, ∀ i g, is[x]? = some i → g ∈ dueN i x → g < is.length → g ∈ sn ∨ g ∈ wk
  z : 0 ∈ sn ∨ 0 ∈ wk
theorem InvL.start {is : List Ins} : InvL is [] [0] :=
  ⟨by simp, fun x m => (by cases m), fun x m => (by rw [List.mem_singleton.mp m]; exact .zero), fun x m => (by cases m), .inr (by simp)⟩
theorem InvL.skip {is : List Ins} {sn wk : List Nat} {h : Nat} (I : InvL is sn (wk ++ [h])) (c : ¬ (h < is.length ∧ h ∉ sn)) : 0 < is.length → InvL is sn wk := fun h0 => by
  have old : ∀ g, g < is.length → g ∈ sn ∨ g ∈ wk ++ [h] → g ∈ sn ∨ g ∈ wk := fun g lt q => by
    rcases q with q | q
    · exact .inl q
    · rcases List.mem_append.mp q with q | q
      · exact .inr q
      · rw [List.mem_singleton.mp q] at lt ⊢
        by_cases hs : h ∈ sn
        · exact .inl hs
        · exact absurd ⟨lt, hs⟩ c
  exact ⟨I.nd, I.ok, fun x m => I.wr x (by simp [m]), fun x m i g hi mg lt => old g lt (I.cl x m i g hi mg lt), old 0 h0 I.z⟩
theorem InvL.next {is : List Ins} {sn wk gs : List Nat} {h : Nat} {i : Ins} (I : InvL is sn (wk ++ [h])) (c : h < is.length ∧ h ∉ sn) (hi : is[h]? = some i) (hg : ∀ g, g ∈ gs ↔ g ∈ dueN i h) : InvL is (sn ++ [h]) (wk ++ gs) := by
  have rh : Reach is h := I.wr h (by simp)
  have old : ∀ g, g ∈ sn ∨ g ∈ wk ++ [h] → g ∈ sn ++ [h] ∨ g ∈ wk ++ gs := fun g q => by
    rcases q with q | q
    · exact .inl (by simp [q])
    · rcases List.mem_append.mp q with q | q
      · exact .inr (by simp [q])
      · exact .inl (by simp [List.mem_singleton.mp q])
  refine ⟨List.nodup_append.mpr ⟨I.nd, by simp, fun a ha b hb e => ?_⟩, fun x m => ?_, fun x m => ?_, fun x m j g hj mg lt => ?_, old 0 I.z⟩
  · rw [List.mem_singleton.mp hb] at e
    exact c.2 (e ▸ ha)
  · rcases List.mem_append.mp m with q | q
    · exact I.ok x q
    · rw [List.mem_singleton.mp q]
      exact ⟨c.1, rh⟩
  · rcases List.mem_append.mp m with q | q
    · exact I.wr x (by simp [q])
    · exact .step rh hi ((hg x).mp q)
  · rcases List.mem_append.mp m with q | q
    · exact old g (I.cl x q j g hj mg lt)
    · rw [List.mem_singleton.mp q] at hj mg
      rw [hi] at hj
      cases hj
      exact .inr (by simp [(hg g).mpr mg])
theorem InvL.all {is : List Ins} {sn : List Nat} (I : InvL is sn []) {x : Nat} (r : Reach is x) : x < is.length → x ∈ sn := by
  induction r with
  | zero => exact fun _ => I.z.elim id fun q => by cases q
  | step r hi mg ih =>
    rename_i y g i
    intro lt
    have ly : y < is.length := (List.getElem?_eq_some_iff.mp hi).1
    exact (I.cl y (ih ly) i g hi mg lt).elim id fun q => by cases q
theorem reach_eq {is : List Ins} {fs sn : List Nat} (I : InvP is fs []) (J : InvL is sn []) : sortD (fs.map nD) = sortD (sn.map nD) := by
  have p : fs.Perm sn := perm_of I.nd J.nd fun x => ⟨fun m => J.all (I.ok x m).2 (I.ok x m).1, fun m => I.all (J.ok x m).2 (J.ok x m).1⟩
  have sh : ∀ l : List Nat, ∀ d ∈ l.map nD, shD d = some [true, true] := fun l d m => shD_at (nats_at d m)
  exact rise_eq (((sortD_perm _).trans (p.map nD)).trans (sortD_perm _).symm) (fun x m => sh fs x ((sortD_perm _).mem_iff.mp m)) (sortD_rise (sh fs)) (sortD_rise (sh sn))
theorem hom_nats (l : List Nat) : homD (l.map nD) = true := homD_of fun d m => shD_at (nats_at d m)
theorem okD_nats (l : List Nat) : okD 40 (.lst (sortD (l.map nD))) = true := by
  show (sortD (l.map nD)).all (okD 39) = true
  refine List.all_eq_true.mpr fun d m => ?_
  obtain ⟨n, _, rfl⟩ := List.mem_map.mp ((sortD_perm _).mem_iff.mp m)
  rfl
/-! ### one layer less -/
theorem cons_e {ta : DTE} {tr : DTA} {E : DXK} {env : DSt} {G : DG} {Q : List D → DG → Prop} (h : ta E env G fun x G1 => tr E env G1 fun xs G2 => Q (x :: xs) G2) : dCons ta tr E env G Q := h
theorem b_e {f : DG → List D → Option D} {t : DTA} {E : DXK} {env : DSt} {G : DG} {Q : DK} (h : t E env G fun xs G1 => ∃ z, f G1 xs = some z ∧ Q z G1) : dB f t E env G Q := h
/-! ### comprehensions, one by one -/
theorem lcl_nil {tg : Tg} {tt : DTT} {te : DTE} {guard : DG → Prop} {env : DSt} {G : DG} {Q : List D → DG → Prop} (hg : guard G) (h : Q [] G) : dLcL tg tt te guard env [] G Q := ⟨hg, h⟩
theorem lcl_one {i : Nat} {te : DTE} {guard : DG → Prop} {env : DSt} {d : D} {ds : List D} {G : DG} {Q : List D → DG → Prop} (hg : guard G) (h : te EF (env.set i (some d)) G fun y G2 => dLcL (.n i) dYes te guard env ds G2 fun ys G3 => Q (y :: ys) G3) : dLcL (.n i) dYes te guard env (d :: ds) G Q := by
  refine ⟨hg, ?_⟩
  simp only [dTg, dYes, if_true]
  exact h
theorem lcl_map {i : Nat} {te : DTE} {guard : DG → Prop} {env : DSt} {G : DG} {f : D → D} (hg : guard G) : ∀ {ds : List D} {Q : List D → DG → Prop}, (∀ d ∈ ds, ∀ Q : DK, Q (f d) G → te EF (env.set i (some d)) G Q) → Q (ds.map f) G → dLcL (.n i) dYes te guard env ds G Q
  | [], Q, _, k => lcl_nil hg k
  | d :: ds, Q, h, k => lcl_one hg (h d List.mem_cons_self _ (lcl_map hg (fun x m => h x (List.mem_cons_of_mem _ m)) k))
/-! ### rows of words -/
theorem okD_strs {xs : List D} (h : ∀ d ∈ xs, ∃ s : String, d = .str s ∧ s.length ≤ 16000000) : okD 39 (.tup xs) = true := by
  show xs.all (okD 38) = true
  refine List.all_eq_true.mpr fun d m => ?_
  obtain ⟨s, rfl, l⟩ := h d m
  exact decide_eq_true l
theorem wordS_len {s : String} (h : wordS s = true) : s.length ≤ 8 := by
  unfold wordS at h
  simp at h
  omega
/-- the words of a kind -/
def wordsI (w : String) (i : Ins) : Option String := match i with
  | .ask _ d => if w = "ask" then some d else none
  | .tell _ d => if w = "tell" then some d else none
  | .look _ _ d => if w = "look" then some d else none
  | .mark _ _ d => if w = "mark" then some d else none
  | _ => none
def wordsL (w : String) (is : List Ins) : List D := (is.filterMap (wordsI w)).map .str
def rowS (w : String) (is : List Ins) : D := .tup (sortD (nubD (wordsL w is)))
theorem wordsL_at {w : String} {is : List Ins} : ∀ d ∈ wordsL w is, atK d = some false := fun d m => by
  obtain ⟨n, _, rfl⟩ := List.mem_map.mp m
  rfl
theorem wordsL_ok {w : String} {is : List Ins} (h : ∀ i ∈ is, i.Ok) : ∀ d ∈ wordsL w is, ∃ s : String, d = .str s ∧ wordS s = true := fun d m => by
  obtain ⟨s, ms, rfl⟩ := List.mem_map.mp m
  obtain ⟨i, mi, e⟩ := List.mem_filterMap.mp ms
  have hi := h i mi
  refine ⟨s, rfl, ?_⟩
  cases i <;> first | cases e | skip
  all_goals
    unfold wordsI at e
    dsimp only at e
    split at e
    · cases e
      first | exact hi.2 | exact hi.2.2
    · cases e
theorem sortedSet_words {G : DG} {w : String} {is : List Ins} (hl : is.length ≤ 1000) : pySortedSet G [.lst (wordsL w is)] = some (.lst (sortD (nubD (wordsL w is)))) := by
  have a : atomsD (wordsL w is) = true := by
    unfold atomsD
    rw [Bool.or_eq_true]
    exact .inr (List.all_eq_true.mpr fun d m => decide_eq_true (wordsL_at d m))
  have l : (wordsL w is).length ≤ 1000 := by
    unfold wordsL
    rw [List.length_map]
    exact Nat.le_trans (List.length_filterMap_le _ _) hl
  show (if atomsD (wordsL w is) = true ∧ (wordsL w is).length ≤ 1000 then _ else _) = _
  rw [if_pos ⟨a, l⟩]
theorem rowS_ok {w : String} {is : List Ins} (h : ∀ i ∈ is, i.Ok) : okD 39 (rowS w is) = true := okD_strs fun d m => by
  obtain ⟨s, e, q⟩ := wordsL_ok h d ((nubD_mem wordsL_at d).mp ((sortD_perm _).mem_iff.mp m))
  exact ⟨s, e, Nat.le_trans (wordS_len q) (by decide)⟩
theorem rows_ok {ws : List String} {is : List Ins} (h : ∀ i ∈ is, i.Ok) : okD 40 (.tup (ws.map fun w => rowS w is)) = true := by
  show (ws.map fun w => rowS w is).all (okD 39) = true
  refine List.all_eq_true.mpr fun d m => ?_
  obtain ⟨w, _, rfl⟩ := List.mem_map.mp m
  exact rowS_ok h
end PL

open PySem in
theorem DL.bootVE : bootBuiltins "ValueError" = some (.type "ValueError") := by decide +kernel
namespace K02
open PySem PySem.Spec PyProof.Rows L2 LamX HotX L2H DL
structure Fx (P : Program) (w : World) (K : PySem.W.Frag) (T : LT) (mg : Str → Option Value) (base : Heap) : Prop where
  free : ∀ x ∈ ["ValueError", "all", "bool", "enumerate", "int", "isinstance", "len", "max", "min", "range", "set", "sorted", "str", "sum", "tuple", "zip"], mg (Str.ofString x) = none
  gi_FARTHEST : ∃ t, mg "FARTHEST" = some (.int 999 t)
  gs_SMALL : ∃ t, mg "SMALL" = some (.str (Str.ofString "abcdefghijklmnopqrstuvwxyz") t)
  kt_FORMS : KTab K w mg "FORMS" tab_FORMS
  xc_BadNumber : XcK K mg "BadNumber"
  xc_BadProgram : XcK K mg "BadProgram"
  fd__law_door_pool : ∃ fd, FunD K "_law_door_pool" "_law_door_pool" (defArgs s__law_door_pool) (defBody s__law_door_pool) (defScope s__law_door_pool) [] [] (He.fAd K ("_law_door_pool", none)) fd
  mg__law_door_pool : mg "_law_door_pool" = some (.ref (He.ga K "_law_door_pool"))
  fd__law_page_pool : ∃ fd, FunD K "_law_page_pool" "_law_page_pool" (defArgs s__law_page_pool) (defBody s__law_page_pool) (defScope s__law_page_pool) [] [] (He.fAd K ("_law_page_pool", none)) fd
  mg__law_page_pool : mg "_law_page_pool" = some (.ref (He.ga K "_law_page_pool"))
  fd__law_drawn : ∃ fd, FunD K "_law_drawn" "_law_drawn" (defArgs s__law_drawn) (defBody s__law_drawn) (defScope s__law_drawn) [] [] (He.fAd K ("_law_drawn", none)) fd
  mg__law_drawn : mg "_law_drawn" = some (.ref (He.ga K "_law_drawn"))
  fd__law_roll : ∃ fd, FunD K "_law_roll" "_law_roll" (defArgs s__law_roll) (defBody s__law_roll) (defScope s__law_roll) [] [] (He.fAd K ("_law_roll", none)) fd
  mg__law_roll : mg "_law_roll" = some (.ref (He.ga K "_law_roll"))
  fd__law_sorts : ∃ fd, FunD K "_law_sorts" "_law_sorts" (defArgs s__law_sorts) (defBody s__law_sorts) (defScope s__law_sorts) [] [] (He.fAd K ("_law_sorts", none)) fd
  mg__law_sorts : mg "_law_sorts" = some (.ref (He.ga K "_law_sorts"))
  fd__law_any_order : ∃ fd, FunD K "_law_any_order" "_law_any_order" (defArgs s__law_any_order) (defBody s__law_any_order) (defScope s__law_any_order) [] [] (He.fAd K ("_law_any_order", none)) fd
  mg__law_any_order : mg "_law_any_order" = some (.ref (He.ga K "_law_any_order"))
  fd__law_any_program : ∃ fd, FunD K "_law_any_program" "_law_any_program" (defArgs s__law_any_program) (defBody s__law_any_program) (defScope s__law_any_program) [] [] (He.fAd K ("_law_any_program", none)) fd
  mg__law_any_program : mg "_law_any_program" = some (.ref (He.ga K "_law_any_program"))
  fd__law_cell : ∃ fd, FunD K "_law_cell" "_law_cell" (defArgs s__law_cell) (defBody s__law_cell) (defScope s__law_cell) [] [] (He.fAd K ("_law_cell", none)) fd
  mg__law_cell : mg "_law_cell" = some (.ref (He.ga K "_law_cell"))
  fd__law_rounds : ∃ fd, FunD K "_law_rounds" "_law_rounds" (defArgs s__law_rounds) (defBody s__law_rounds) (defScope s__law_rounds) [] [] (He.fAd K ("_law_rounds", none)) fd
  mg__law_rounds : mg "_law_rounds" = some (.ref (He.ga K "_law_rounds"))
  fd__law_term : ∃ fd, FunD K "_law_term" "_law_term" (defArgs s__law_term) (defBody s__law_term) (defScope s__law_term) [] [] (He.fAd K ("_law_term", none)) fd
  mg__law_term : mg "_law_term" = some (.ref (He.ga K "_law_term"))
  fd__law_told : ∃ fd, FunD K "_law_told" "_law_told" (defArgs s__law_told) (defBody s__law_told) (defScope s__law_told) [] [] (He.fAd K ("_law_told", none)) fd
  mg__law_told : mg "_law_told" = some (.ref (He.ga K "_law_told"))
  fd_is_whole : ∃ fd, FunD K "is_whole" "is_whole" (defArgs s_is_whole) (defBody s_is_whole) (defScope s_is_whole) [] [] (He.fAd K ("is_whole", none)) fd
  mg_is_whole : mg "is_whole" = some (.ref (He.ga K "is_whole"))
  fd_is_number : ∃ fd, FunD K "is_number" "is_number" (defArgs s_is_number) (defBody s_is_number) (defScope s_is_number) [] [] (He.fAd K ("is_number", none)) fd
  mg_is_number : mg "is_number" = some (.ref (He.ga K "is_number"))
  fd_is_word : ∃ fd, FunD K "is_word" "is_word" (defArgs s_is_word) (defBody s_is_word) (defScope s_is_word) [] [] (He.fAd K ("is_word", none)) fd
  mg_is_word : mg "is_word" = some (.ref (He.ga K "is_word"))
  fd_is_part : ∃ fd, FunD K "is_part" "is_part" (defArgs s_is_part) (defBody s_is_part) (defScope s_is_part) [] [] (He.fAd K ("is_part", none)) fd
  mg_is_part : mg "is_part" = some (.ref (He.ga K "is_part"))
  fd_is_instruction : ∃ fd, FunD K "is_instruction" "is_instruction" (defArgs s_is_instruction) (defBody s_is_instruction) (defScope s_is_instruction) [] [] (He.fAd K ("is_instruction", none)) fd
  mg_is_instruction : mg "is_instruction" = some (.ref (He.ga K "is_instruction"))
  fd_is_program : ∃ fd, FunD K "is_program" "is_program" (defArgs s_is_program) (defBody s_is_program) (defScope s_is_program) [] [] (He.fAd K ("is_program", none)) fd
  mg_is_program : mg "is_program" = some (.ref (He.ga K "is_program"))
  fd_need_program : ∃ fd, FunD K "need_program" "need_program" (defArgs s_need_program) (defBody s_need_program) (defScope s_need_program) [] [] (He.fAd K ("need_program", none)) fd
  mg_need_program : mg "need_program" = some (.ref (He.ga K "need_program"))
  fd_goals_of : ∃ fd, FunD K "goals_of" "goals_of" (defArgs s_goals_of) (defBody s_goals_of) (defScope s_goals_of) [] [] (He.fAd K ("goals_of", none)) fd
  mg_goals_of : mg "goals_of" = some (.ref (He.ga K "goals_of"))
  fd_places_of : ∃ fd, FunD K "places_of" "places_of" (defArgs s_places_of) (defBody s_places_of) (defScope s_places_of) [] [] (He.fAd K ("places_of", none)) fd
  mg_places_of : mg "places_of" = some (.ref (He.ga K "places_of"))
  fd_come_to : ∃ fd, FunD K "come_to" "come_to" (defArgs s_come_to) (defBody s_come_to) (defScope s_come_to) [] [] (He.fAd K ("come_to", none)) fd
  mg_come_to : mg "come_to" = some (.ref (He.ga K "come_to"))
  fd_goals : ∃ fd, FunD K "goals" "goals" (defArgs s_goals) (defBody s_goals) (defScope s_goals) [] [] (He.fAd K ("goals", none)) fd
  mg_goals : mg "goals" = some (.ref (He.ga K "goals"))
  fd_words_of : ∃ fd, FunD K "words_of" "words_of" (defArgs s_words_of) (defBody s_words_of) (defScope s_words_of) [] [] (He.fAd K ("words_of", none)) fd
  mg_words_of : mg "words_of" = some (.ref (He.ga K "words_of"))
  fd_words_in : ∃ fd, FunD K "words_in" "words_in" (defArgs s_words_in) (defBody s_words_in) (defScope s_words_in) [] [] (He.fAd K ("words_in", none)) fd
  mg_words_in : mg "words_in" = some (.ref (He.ga K "words_in"))
  fd_law : ∃ fd, FunD K "law" "law" (defArgs s_law) (defBody s_law) (defScope s_law) [] [] (He.fAd K ("law", none)) fd
  mg_law : mg "law" = some (.ref (He.ga K "law"))
  told : ToldK K
  mgC : ∀ c ∈ kinds13 ++ ["CageError"], mg (Str.ofString c) = some (.ref (He.ga K (S c)))
  lamt_law : ∃ P, TabB base mg (He.codeOf K ("law", none)) P ∧ (P, Str.ofString "law.<locals>.<lambda>") ∈ T ∧ ∀ p ∈ T, p.1 = P → p.2 = Str.ofString "law.<locals>.<lambda>"
section
variable {P : Program} {w : World} {K : PySem.W.Frag} {T : LT} {mg : Str → Option Value} {base : Heap}
def t__law_door_pool : DTS := (sRet (dLst (dCons (dC (.str "bus")) (dCons (dC (.str "in")) (dCons (dC (.str "out")) dNil)))))
abbrev sp__law_door_pool : DSp := spOf [] 0 t__law_door_pool
def e__law_door_pool : List D → Option (Except DX D) := fnE [] 0 (xRet (eLst (eCons (eC (.str "bus")) (eCons (eC (.str "in")) (eCons (eC (.str "out")) (eC []))))))
theorem ev__law_door_pool : EvF sp__law_door_pool e__law_door_pool := evf (xv_ret (ev_lst (ev_cons (ev_c _) (ev_cons (ev_c _) (ev_cons (ev_c _) (ev_nil))))))
theorem sc__law_door_pool : FnScope [] [] (defScope s__law_door_pool) := ⟨rfl, rfl, rfl, by decide +kernel, rfl, by decide +kernel, by decide +kernel⟩
theorem _law_door_pool_fa (fx : Fx P w K T mg base) : DFa P w K T mg base 1 ("_law_door_pool", none) [] sp__law_door_pool :=
  dfa_of fx.fd__law_door_pool sc__law_door_pool (fun _ _ _ _ _ _ us hl => match us, hl with | [], _ => rfl) (fun cdv A outer s H E hcd hr => (qs_one (qs_ret (q_lst (qa_cons (q_str) (qa_cons (q_str) (qa_cons (q_str) qa_nil)))))))
theorem _law_door_pool_ok (fx : Fx P w K T mg base) : DFn P w K T mg base 1 "_law_door_pool" [] sp__law_door_pool := (_law_door_pool_fa fx).fn fx.mg__law_door_pool
def t__law_page_pool : DTS := (sRet (dLst (dCons (dC (.str "log")) (dCons (dC (.str "sky")) dNil))))
abbrev sp__law_page_pool : DSp := spOf [] 0 t__law_page_pool
def e__law_page_pool : List D → Option (Except DX D) := fnE [] 0 (xRet (eLst (eCons (eC (.str "log")) (eCons (eC (.str "sky")) (eC [])))))
theorem ev__law_page_pool : EvF sp__law_page_pool e__law_page_pool := evf (xv_ret (ev_lst (ev_cons (ev_c _) (ev_cons (ev_c _) (ev_nil)))))
theorem sc__law_page_pool : FnScope [] [] (defScope s__law_page_pool) := ⟨rfl, rfl, rfl, by decide +kernel, rfl, by decide +kernel, by decide +kernel⟩
theorem _law_page_pool_fa (fx : Fx P w K T mg base) : DFa P w K T mg base 1 ("_law_page_pool", none) [] sp__law_page_pool :=
  dfa_of fx.fd__law_page_pool sc__law_page_pool (fun _ _ _ _ _ _ us hl => match us, hl with | [], _ => rfl) (fun cdv A outer s H E hcd hr => (qs_one (qs_ret (q_lst (qa_cons (q_str) (qa_cons (q_str) qa_nil))))))
theorem _law_page_pool_ok (fx : Fx P w K T mg base) : DFn P w K T mg base 1 "_law_page_pool" [] sp__law_page_pool := (_law_page_pool_fa fx).fn fx.mg__law_page_pool
def t__law_drawn : DTS := (sSeq (sSet 2 (dOp pyMod (dOp pyAdd (dOp pyMul (dVar 0) (dC (.int 6364136223846793005))) (dOp pyMul (dOp pyAdd (dVar 1) (dC (.int 1))) (dC (.int 1442695040888963407)))) (dC (.int 340282366920938463463374607431768211507)))) (sSeq (sSet 2 (dOp pyMod (dOp pyMul (dVar 2) (dVar 2)) (dC (.int 340282366920938463463374607431768211297)))) (sSeq (sSet 2 (dOp pyMul (dOp pyMul (dOp pyAdd (dOp pyMod (dVar 2) (dC (.int 18446744073709551557))) (dC (.int 1))) (dOp pyAdd (dOp pyDiv (dVar 2) (dC (.int 18446744073709551557))) (dC (.int 1)))) (dVar 2))) (sRet (dOp pyMod (dVar 2) (dC (.int 340282366920938463463374607431768211507)))))))
abbrev sp__law_drawn : DSp := spOf ["cell", "k", "more"] 2 t__law_drawn
def e__law_drawn : List D → Option (Except DX D) := fnE ["cell", "k", "more"] 2 (xSeq (xSet 2 (eOp pyMod (eOp pyAdd (eOp pyMul (eVar 0) (eC (.int 6364136223846793005))) (eOp pyMul (eOp pyAdd (eVar 1) (eC (.int 1))) (eC (.int 1442695040888963407)))) (eC (.int 340282366920938463463374607431768211507)))) (xSeq (xSet 2 (eOp pyMod (eOp pyMul (eVar 2) (eVar 2)) (eC (.int 340282366920938463463374607431768211297)))) (xSeq (xSet 2 (eOp pyMul (eOp pyMul (eOp pyAdd (eOp pyMod (eVar 2) (eC (.int 18446744073709551557))) (eC (.int 1))) (eOp pyAdd (eOp pyDiv (eVar 2) (eC (.int 18446744073709551557))) (eC (.int 1)))) (eVar 2))) (xRet (eOp pyMod (eVar 2) (eC (.int 340282366920938463463374607431768211507)))))))
theorem ev__law_drawn : EvF sp__law_drawn e__law_drawn := evf (xv_seq (xv_set (ev_op m_mod (ev_op m_add (ev_op m_mul (ev_var 0) (ev_c _)) (ev_op m_mul (ev_op m_add (ev_var 1) (ev_c _)) (ev_c _))) (ev_c _))) (xv_seq (xv_set (ev_op m_mod (ev_op m_mul (ev_var 2) (ev_var 2)) (ev_c _))) (xv_seq (xv_set (ev_op m_mul (ev_op m_mul (ev_op m_add (ev_op m_mod (ev_var 2) (ev_c _)) (ev_c _)) (ev_op m_add (ev_op m_div (ev_var 2) (ev_c _)) (ev_c _))) (ev_var 2))) (xv_ret (ev_op m_mod (ev_var 2) (ev_c _))))))
theorem sc__law_drawn : FnScope ["cell", "k", "more"] ["cell", "k"] (defScope s__law_drawn) := ⟨rfl, rfl, rfl, by decide +kernel, rfl, by decide +kernel, by decide +kernel⟩
theorem _law_drawn_fa (fx : Fx P w K T mg base) : DFa P w K T mg base 1 ("_law_drawn", none) ["cell", "k"] sp__law_drawn :=
  dfa_of fx.fd__law_drawn sc__law_drawn (fun _ _ _ _ _ _ us hl => match us, hl with | [_, _], _ => rfl) (fun cdv A outer s H E hcd hr => (qs_cons (qs_set sc__law_drawn.nd rfl (by first | exact Or.inl rfl | exact Or.inr rfl) (q_op op_pyMod (q_op op_pyAdd (q_op op_pyMul (qv 0) (q_int)) (q_op op_pyMul (q_op op_pyAdd (qv 1) (q_int)) (q_int))) (q_int))) (qs_cons (qs_set sc__law_drawn.nd rfl (by first | exact Or.inl rfl | exact Or.inr rfl) (q_op op_pyMod (q_op op_pyMul (qv 2) (qv 2)) (q_int))) (qs_cons (qs_set sc__law_drawn.nd rfl (by first | exact Or.inl rfl | exact Or.inr rfl) (q_op op_pyMul (q_op op_pyMul (q_op op_pyAdd (q_op op_pyMod (qv 2) (q_int)) (q_int)) (q_op op_pyAdd (q_op op_pyDiv (qv 2) (q_int)) (q_int))) (qv 2))) (qs_one (qs_ret (q_op op_pyMod (qv 2) (q_int))))))))
theorem _law_drawn_ok (fx : Fx P w K T mg base) : DFn P w K T mg base 1 "_law_drawn" ["cell", "k"] sp__law_drawn := (_law_drawn_fa fx).fn fx.mg__law_drawn
def t__law_roll : DTS := (sSeq (sIf (dTest (dOp pyGe (dOp pyItem (dVar 0) (dC (.int 0))) (dOp pyPow (dC (.int 10)) (dC (.int 18))))) (sSeq (sSet 2 (dOp pyMod (dOp pyItem (dVar 0) (dC (.int 0))) (dVar 1))) (sSeq (sSub (dOp pyDiv (dOp pyItem (dVar 0) (dC (.int 0))) (dVar 1)) (dVar 0) (dC (.int 0))) (sRet (dVar 2)))) sNext) (sSeq (sSub (dOp pyAdd (dOp pyItem (dVar 0) (dC (.int 1))) (dC (.int 1))) (dVar 0) (dC (.int 1))) (sRet (dOp pyMod (dOp pyDiv (dCall sp__law_drawn (dCons (dOp pyItem (dVar 0) (dC (.int 0))) (dCons (dOp pyItem (dVar 0) (dC (.int 1))) dNil))) (dC (.int 8))) (dVar 1)))))
abbrev sp__law_roll : DSp := spOf ["dice", "many", "told"] 2 t__law_roll
theorem sc__law_roll : FnScope ["dice", "many", "told"] ["dice", "many"] (defScope s__law_roll) := ⟨rfl, rfl, rfl, by decide +kernel, rfl, by decide +kernel, by decide +kernel⟩
theorem _law_roll_fa (fx : Fx P w K T mg base) : DFa P w K T mg base 2 ("_law_roll", none) ["dice", "many"] sp__law_roll :=
  dfa_of fx.fd__law_roll sc__law_roll (fun _ _ _ _ _ _ us hl => match us, hl with | [_, _], _ => rfl) (fun cdv A outer s H E hcd hr => (qs_cons (qs_if (q_cmpT op_pyGe (q_item (hu_of hr) (qv 0) (q_int)) (q_op op_pyPow (q_int) (q_int)) (nomark _)) (qs_cons (qs_set sc__law_roll.nd rfl (by first | exact Or.inl rfl | exact Or.inr rfl) (q_op op_pyMod (q_item (hu_of hr) (qv 0) (q_int)) (qv 1))) (qs_cons (qs_sub (hu_of hr) (q_op op_pyDiv (q_item (hu_of hr) (qv 0) (q_int)) (qv 1)) (qv 0) (q_int)) (qs_one (qs_ret (qv 2))))) qs_nil) (qs_cons (qs_sub (hu_of hr) (q_op op_pyAdd (q_item (hu_of hr) (qv 0) (q_int)) (q_int)) (qv 0) (q_int)) (qs_one (qs_ret (q_op op_pyMod (q_op op_pyDiv (q_call (_law_drawn_ok fx) hr (by decide) (L2N.takes_of rfl rfl rfl rfl) rfl (qa_cons (q_item (hu_of hr) (qv 0) (q_int)) (qa_cons (q_item (hu_of hr) (qv 0) (q_int)) qa_nil))) (q_int)) (qv 1)))))))
theorem _law_roll_ok (fx : Fx P w K T mg base) : DFn P w K T mg base 2 "_law_roll" ["dice", "many"] sp__law_roll := (_law_roll_fa fx).fn fx.mg__law_roll
def t__law_sorts : DTS := (sSeq (sSet 1 (dDct (List.cons (Prod.mk (dC (.str "set")) (dC (.str "rn"))) (List.cons (Prod.mk (dC (.str "copy")) (dC (.str "rr"))) (List.cons (Prod.mk (dC (.str "add")) (dC (.str "rr"))) (List.cons (Prod.mk (dC (.str "take")) (dC (.str "rr"))) (List.cons (Prod.mk (dC (.str "less")) (dC (.str "rr"))) (List.cons (Prod.mk (dC (.str "go")) (dC (.str "g"))) (List.cons (Prod.mk (dC (.str "zero")) (dC (.str "rg"))) (List.cons (Prod.mk (dC (.str "read")) (dC (.str "rr"))) [])))))))))) (sSeq (sSet 2 (dDct (List.cons (Prod.mk (dC (.str "write")) (dC (.str "rr"))) (List.cons (Prod.mk (dC (.str "ask")) (dC (.str "rw"))) (List.cons (Prod.mk (dC (.str "tell")) (dC (.str "rw"))) (List.cons (Prod.mk (dC (.str "look")) (dC (.str "rrw"))) (List.cons (Prod.mk (dC (.str "mark")) (dC (.str "rrw"))) (List.cons (Prod.mk (dC (.str "end")) (dC (.str ""))) [])))))))) (sRet (dIf (dTest (dOp pyIn (dVar 0) (dVar 1))) (dOp pyItem (dVar 1) (dVar 0)) (dOp pyItem (dVar 2) (dVar 0))))))
abbrev sp__law_sorts : DSp := spOf ["word", "forms", "more"] 1 t__law_sorts
def e__law_sorts : List D → Option (Except DX D) := fnE ["word", "forms", "more"] 1 (xSeq (xSet 1 (eDct (List.cons (Prod.mk (eC (.str "set")) (eC (.str "rn"))) (List.cons (Prod.mk (eC (.str "copy")) (eC (.str "rr"))) (List.cons (Prod.mk (eC (.str "add")) (eC (.str "rr"))) (List.cons (Prod.mk (eC (.str "take")) (eC (.str "rr"))) (List.cons (Prod.mk (eC (.str "less")) (eC (.str "rr"))) (List.cons (Prod.mk (eC (.str "go")) (eC (.str "g"))) (List.cons (Prod.mk (eC (.str "zero")) (eC (.str "rg"))) (List.cons (Prod.mk (eC (.str "read")) (eC (.str "rr"))) [])))))))))) (xSeq (xSet 2 (eDct (List.cons (Prod.mk (eC (.str "write")) (eC (.str "rr"))) (List.cons (Prod.mk (eC (.str "ask")) (eC (.str "rw"))) (List.cons (Prod.mk (eC (.str "tell")) (eC (.str "rw"))) (List.cons (Prod.mk (eC (.str "look")) (eC (.str "rrw"))) (List.cons (Prod.mk (eC (.str "mark")) (eC (.str "rrw"))) (List.cons (Prod.mk (eC (.str "end")) (eC (.str ""))) [])))))))) (xRet (eIf (eTest (eOp pyIn (eVar 0) (eVar 1))) (eOp pyItem (eVar 1) (eVar 0)) (eOp pyItem (eVar 2) (eVar 0))))))
theorem ev__law_sorts : EvF sp__law_sorts e__law_sorts := evf (xv_seq (xv_set (ev_dct (.cons (ev_c _) (ev_c _) (.cons (ev_c _) (ev_c _) (.cons (ev_c _) (ev_c _) (.cons (ev_c _) (ev_c _) (.cons (ev_c _) (ev_c _) (.cons (ev_c _) (ev_c _) (.cons (ev_c _) (ev_c _) (.cons (ev_c _) (ev_c _) .nil)))))))))) (xv_seq (xv_set (ev_dct (.cons (ev_c _) (ev_c _) (.cons (ev_c _) (ev_c _) (.cons (ev_c _) (ev_c _) (.cons (ev_c _) (ev_c _) (.cons (ev_c _) (ev_c _) (.cons (ev_c _) (ev_c _) .nil)))))))) (xv_ret (ev_if (ev_test (ev_op m_in (ev_var 0) (ev_var 1))) (ev_op m_item (ev_var 1) (ev_var 0)) (ev_op m_item (ev_var 2) (ev_var 0))))))
theorem sc__law_sorts : FnScope ["word", "forms", "more"] ["word"] (defScope s__law_sorts) := ⟨rfl, rfl, rfl, by decide +kernel, rfl, by decide +kernel, by decide +kernel⟩
theorem _law_sorts_fa (fx : Fx P w K T mg base) : DFa P w K T mg base 1 ("_law_sorts", none) ["word"] sp__law_sorts :=
  dfa_of fx.fd__law_sorts sc__law_sorts (fun _ _ _ _ _ _ us hl => match us, hl with | [_], _ => rfl) (fun cdv A outer s H E hcd hr => (qs_cons (qs_set sc__law_sorts.nd rfl (by first | exact Or.inl rfl | exact Or.inr rfl) (q_dct (qp_cons (q_str) (q_str) (qp_cons (q_str) (q_str) (qp_cons (q_str) (q_str) (qp_cons (q_str) (q_str) (qp_cons (q_str) (q_str) (qp_cons (q_str) (q_str) (qp_cons (q_str) (q_str) (qp_cons (q_str) (q_str) qp_nil)))))))))) (qs_cons (qs_set sc__law_sorts.nd rfl (by first | exact Or.inl rfl | exact Or.inr rfl) (q_dct (qp_cons (q_str) (q_str) (qp_cons (q_str) (q_str) (qp_cons (q_str) (q_str) (qp_cons (q_str) (q_str) (qp_cons (q_str) (q_str) (qp_cons (q_str) (q_str) qp_nil)))))))) (qs_one (qs_ret (q_if (q_cmpT (op_pyIn (hu_of hr)) (qv 0) (qv 1) rfl) (q_item (hu_of hr) (qv 1) (qv 0)) (q_item (hu_of hr) (qv 2) (qv 0))))))))
theorem _law_sorts_ok (fx : Fx P w K T mg base) : DFn P w K T mg base 1 "_law_sorts" ["word"] sp__law_sorts := (_law_sorts_fa fx).fn fx.mg__law_sorts
def t__law_any_order : DTS := (sSeq (sSet 2 (dLst (dCons (dC (.str "set")) (dCons (dC (.str "set")) (dCons (dC (.str "copy")) (dCons (dC (.str "add")) (dCons (dC (.str "add")) (dCons (dC (.str "take")) (dCons (dC (.str "less")) (dCons (dC (.str "go")) (dCons (dC (.str "zero")) (dCons (dC (.str "zero")) (dCons (dC (.str "read")) (dCons (dC (.str "write")) (dCons (dC (.str "ask")) (dCons (dC (.str "tell")) dNil)))))))))))))))) (sSeq (sPar [3, 4] (dCons (dOp pyItem (dOp pyAdd (dVar 2) (dLst (dCons (dC (.str "look")) (dCons (dC (.str "mark")) (dCons (dC (.str "end")) dNil))))) (dCall sp__law_roll (dCons (dVar 0) (dCons (dC (.int 17)) dNil)))) (dCons (dLstB dNil) dNil))) (sSeq (sFor (dIter (dCall sp__law_sorts (dCons (dVar 3) dNil))) (.n 5) (sIf (dTest (dOp pyEq (dVar 5) (dC (.str "r")))) (sDrop (dMt "list" mAppend (dVar 4) (dCons (dCall sp__law_roll (dCons (dVar 0) (dCons (dC (.int 4)) dNil))) dNil))) (sIf (dTest (dOp pyEq (dVar 5) (dC (.str "n")))) (sDrop (dMt "list" mAppend (dVar 4) (dCons (dOp pyItem (dLst (dCons (dC (.int 0)) (dCons (dC (.int 1)) (dCons (dC (.int 2)) (dCons (dC (.int 3)) (dCons (dC (.int 5)) (dCons (dUn pyNeg (dC (.int 1))) (dCons (dC (.int 9)) (dCons (dC (.int 400)) (dCons (dC (.int 999)) dNil)))))))))) (dCall sp__law_roll (dCons (dVar 0) (dCons (dC (.int 9)) dNil)))) dNil))) (sIf (dTest (dOp pyEq (dVar 5) (dC (.str "g")))) (sDrop (dMt "list" mAppend (dVar 4) (dCons (dCall sp__law_roll (dCons (dVar 0) (dCons (dOp pyAdd (dVar 1) (dB pyIntS (dCons (dOp pyEq (dCall sp__law_roll (dCons (dVar 0) (dCons (dC (.int 12)) dNil))) (dC (.int 0))) dNil))) dNil))) dNil))) (sSeq (sSet 6 (dIf (dTest (dOp pyIn (dVar 3) (dTup (dCons (dC (.str "look")) (dCons (dC (.str "mark")) dNil))))) (dCall sp__law_page_pool dNil) (dCall sp__law_door_pool dNil))) (sDrop (dMt "list" mAppend (dVar 4) (dCons (dOp pyItem (dVar 6) (dCall sp__law_roll (dCons (dVar 0) (dCons (dB pyLen (dCons (dVar 6) dNil)) dNil)))) dNil)))))))) (sRet (dOp pyAdd (dTup (dCons (dVar 3) dNil)) (dB pyTup (dCons (dVar 4) dNil)))))))
abbrev sp__law_any_order : DSp := spOf ["dice", "many", "words", "word", "found", "sort", "names"] 2 t__law_any_order
theorem sc__law_any_order : FnScope ["dice", "many", "words", "word", "found", "sort", "names"] ["dice", "many"] (defScope s__law_any_order) := ⟨rfl, rfl, rfl, by decide +kernel, rfl, by decide +kernel, by decide +kernel⟩
theorem _law_any_order_fa (fx : Fx P w K T mg base) : DFa P w K T mg base 3 ("_law_any_order", none) ["dice", "many"] sp__law_any_order :=
  dfa_of fx.fd__law_any_order sc__law_any_order (fun _ _ _ _ _ _ us hl => match us, hl with | [_, _], _ => rfl) (fun cdv A outer s H E hcd hr => (qs_cons (qs_set sc__law_any_order.nd rfl (by first | exact Or.inl rfl | exact Or.inr rfl) (q_lst (qa_cons (q_str) (qa_cons (q_str) (qa_cons (q_str) (qa_cons (q_str) (qa_cons (q_str) (qa_cons (q_str) (qa_cons (q_str) (qa_cons (q_str) (qa_cons (q_str) (qa_cons (q_str) (qa_cons (q_str) (qa_cons (q_str) (qa_cons (q_str) (qa_cons (q_str) qa_nil)))))))))))))))) (qs_cons (qs_par rfl sc__law_any_order.nd rfl rfl (by decide) rfl rfl (qa_cons (q_item (hu_of hr) (q_op op_pyAdd (qv 2) (q_lst (qa_cons (q_str) (qa_cons (q_str) (qa_cons (q_str) qa_nil))))) (q_call (_law_roll_ok fx) hr (by decide) (L2N.takes_of rfl rfl rfl rfl) rfl (qa_cons (qv 0) (qa_cons (q_int) qa_nil)))) (qa_cons (q_lstB qa_nil) qa_nil)) rfl) (qs_cons (qs_for (passes_of rfl) rfl (qi_it (q_call (_law_sorts_ok fx) hr (by decide) (L2N.takes_of rfl rfl rfl rfl) rfl (qa_cons (qv 3) qa_nil))) (pg_name sc__law_any_order.nd rfl (by first | exact Or.inl rfl | exact Or.inr rfl)) (qs_one (qs_if (q_cmpT (op_pyEq hr.units) (qv 5) (q_str) (nomark _)) (qs_one (qs_expr (q_mt PySem.F.plainAttrs_list PySem.F.slot_list_append PySem.F.type_list_append mt_mAppend (qv 4) (qa_cons (q_call (_law_roll_ok fx) hr (by decide) (L2N.takes_of rfl rfl rfl rfl) rfl (qa_cons (qv 0) (qa_cons (q_int) qa_nil))) qa_nil)))) (qs_one (qs_if (q_cmpT (op_pyEq hr.units) (qv 5) (q_str) (nomark _)) (qs_one (qs_expr (q_mt PySem.F.plainAttrs_list PySem.F.slot_list_append PySem.F.type_list_append mt_mAppend (qv 4) (qa_cons (q_item (hu_of hr) (q_lst (qa_cons (q_int) (qa_cons (q_int) (qa_cons (q_int) (qa_cons (q_int) (qa_cons (q_int) (qa_cons (q_un un_pyNeg (q_int)) (qa_cons (q_int) (qa_cons (q_int) (qa_cons (q_int) qa_nil)))))))))) (q_call (_law_roll_ok fx) hr (by decide) (L2N.takes_of rfl rfl rfl rfl) rfl (qa_cons (qv 0) (qa_cons (q_int) qa_nil)))) qa_nil)))) (qs_one (qs_if (q_cmpT (op_pyEq hr.units) (qv 5) (q_str) (nomark _)) (qs_one (qs_expr (q_mt PySem.F.plainAttrs_list PySem.F.slot_list_append PySem.F.type_list_append mt_mAppend (qv 4) (qa_cons (q_call (_law_roll_ok fx) hr (by decide) (L2N.takes_of rfl rfl rfl rfl) rfl (qa_cons (qv 0) (qa_cons (q_op op_pyAdd (qv 1) (q_callTy call_pyIntS rfl (fx.free "int" (by decide)) boot_int (qa_cons (q_cmp (op_pyEq hr.units) (q_call (_law_roll_ok fx) hr (by decide) (L2N.takes_of rfl rfl rfl rfl) rfl (qa_cons (qv 0) (qa_cons (q_int) qa_nil))) (q_int) (nomark _)) qa_nil))) qa_nil))) qa_nil)))) (qs_cons (qs_set sc__law_any_order.nd rfl (by first | exact Or.inl rfl | exact Or.inr rfl) (q_if (q_cmpT (op_pyIn (hu_of hr)) (qv 3) (q_tup (qa_cons (q_str) (qa_cons (q_str) qa_nil))) rfl) (q_call0 (_law_page_pool_ok fx) hr (by decide) (L2N.takes_of rfl rfl rfl rfl) rfl) (q_call0 (_law_door_pool_ok fx) hr (by decide) (L2N.takes_of rfl rfl rfl rfl) rfl))) (qs_one (qs_expr (q_mt PySem.F.plainAttrs_list PySem.F.slot_list_append PySem.F.type_list_append mt_mAppend (qv 4) (qa_cons (q_item (hu_of hr) (qv 6) (q_call (_law_roll_ok fx) hr (by decide) (L2N.takes_of rfl rfl rfl rfl) rfl (qa_cons (qv 0) (qa_cons (q_callB call_pyLen rfl (fx.free "len" (by decide)) boot_len (qa_cons (qv 6) qa_nil)) qa_nil)))) qa_nil)))))))))))) (qs_one (qs_ret (q_op op_pyAdd (q_tup (qa_cons (qv 3) qa_nil)) (q_callTy call_pyTup rfl (fx.free "tuple" (by decide)) boot_tuple (qa_cons (qv 4) qa_nil)))))))))
theorem _law_any_order_ok (fx : Fx P w K T mg base) : DFn P w K T mg base 3 "_law_any_order" ["dice", "many"] sp__law_any_order := (_law_any_order_fa fx).fn fx.mg__law_any_order
def t__law_any_program : DTS := (sSeq (sSet 2 (dOp pyAdd (dC (.int 1)) (dCall sp__law_roll (dCons (dVar 0) (dCons (dVar 1) dNil))))) (sRet (dB pyTup (dCons (dLc (dRange1 (dCons (dVar 2) dNil)) (.n 3) dYes (dCall sp__law_any_order (dCons (dVar 0) (dCons (dVar 2) dNil))) [3]) dNil))))
abbrev sp__law_any_program : DSp := spOf ["dice", "high", "many", "turn"] 2 t__law_any_program
theorem sc__law_any_program : FnScope ["dice", "high", "many", "turn"] ["dice", "high"] (defScope s__law_any_program) := ⟨rfl, rfl, rfl, by decide +kernel, rfl, by decide +kernel, by decide +kernel⟩
theorem _law_any_program_fa (fx : Fx P w K T mg base) : DFa P w K T mg base 4 ("_law_any_program", none) ["dice", "high"] sp__law_any_program :=
  dfa_of fx.fd__law_any_program sc__law_any_program (fun _ _ _ _ _ _ us hl => match us, hl with | [_, _], _ => rfl) (fun cdv A outer s H E hcd hr => (qs_cons (qs_set sc__law_any_program.nd rfl (by first | exact Or.inl rfl | exact Or.inr rfl) (q_op op_pyAdd (q_int) (q_call (_law_roll_ok fx) hr (by decide) (L2N.takes_of rfl rfl rfl rfl) rfl (qa_cons (qv 0) (qa_cons (qv 1) qa_nil))))) (qs_one (qs_ret (q_callTy call_pyTup rfl (fx.free "tuple" (by decide)) boot_tuple (qa_cons (q_lc [("turn", 3)] rfl sc__law_any_program.nd (qi_range1 rfl (fx.free "range" (by decide)) (qa_cons (qv 2) qa_nil)) (blkOk_by (by kernel_rfl)) rfl (fun s H C cl fp => (pg_name sc__law_any_program.nd rfl (by first | exact Or.inl rfl | exact Or.inr rfl))) (fun s H C cl fp => qts_nil) (fun s H C cl fp => (q_call (_law_any_order_ok fx) hr (by decide) takesF rfl (qa_cons (qv 0) (qa_cons (qv 2) qa_nil))))) qa_nil))))))
theorem _law_any_program_ok (fx : Fx P w K T mg base) : DFn P w K T mg base 4 "_law_any_program" ["dice", "high"] sp__law_any_program := (_law_any_program_fa fx).fn fx.mg__law_any_program
def t__law_cell : DTS := (sSeq (sIf (dTest (dOp pyEq (dVar 0) (dLst dNil))) (sRet (dOp pyMul (dVar 1) (dC (.int 7919)))) sNext) (sRet (dOp pyAdd (dOp pyItem (dVar 0) (dOp pyMod (dVar 1) (dB pyLen (dCons (dVar 0) dNil)))) (dOp pyMul (dOp pyDiv (dVar 1) (dB pyLen (dCons (dVar 0) dNil))) (dC (.int 104729))))))
abbrev sp__law_cell : DSp := spOf ["script", "k"] 2 t__law_cell
def e__law_cell : List D → Option (Except DX D) := fnE ["script", "k"] 2 (xSeq (xIf (eTest (eOp pyEq (eVar 0) (eLst (eC [])))) (xRet (eOp pyMul (eVar 1) (eC (.int 7919)))) (xNext)) (xRet (eOp pyAdd (eOp pyItem (eVar 0) (eOp pyMod (eVar 1) (eB pyLen (eCons (eVar 0) (eC []))))) (eOp pyMul (eOp pyDiv (eVar 1) (eB pyLen (eCons (eVar 0) (eC [])))) (eC (.int 104729))))))
theorem ev__law_cell : EvF sp__law_cell e__law_cell := evf (xv_seq (xv_if (ev_test (ev_op m_eq (ev_var 0) (ev_lst (ev_nil)))) (xv_ret (ev_op m_mul (ev_var 1) (ev_c _))) (xv_next)) (xv_ret (ev_op m_add (ev_op m_item (ev_var 0) (ev_op m_mod (ev_var 1) (ev_b m_len (ev_cons (ev_var 0) (ev_nil))))) (ev_op m_mul (ev_op m_div (ev_var 1) (ev_b m_len (ev_cons (ev_var 0) (ev_nil)))) (ev_c _)))))
theorem sc__law_cell : FnScope ["script", "k"] ["script", "k"] (defScope s__law_cell) := ⟨rfl, rfl, rfl, by decide +kernel, rfl, by decide +kernel, by decide +kernel⟩
theorem _law_cell_fa (fx : Fx P w K T mg base) : DFa P w K T mg base 1 ("_law_cell", none) ["script", "k"] sp__law_cell :=
  dfa_of fx.fd__law_cell sc__law_cell (fun _ _ _ _ _ _ us hl => match us, hl with | [_, _], _ => rfl) (fun cdv A outer s H E hcd hr => (qs_cons (qs_if (q_cmpT (op_pyEq hr.units) (qv 0) (q_lst qa_nil) (nomark _)) (qs_one (qs_ret (q_op op_pyMul (qv 1) (q_int)))) qs_nil) (qs_one (qs_ret (q_op op_pyAdd (q_item (hu_of hr) (qv 0) (q_op op_pyMod (qv 1) (q_callB call_pyLen rfl (fx.free "len" (by decide)) boot_len (qa_cons (qv 0) qa_nil)))) (q_op op_pyMul (q_op op_pyDiv (qv 1) (q_callB call_pyLen rfl (fx.free "len" (by decide)) boot_len (qa_cons (qv 0) qa_nil))) (q_int)))))))
theorem _law_cell_ok (fx : Fx P w K T mg base) : DFn P w K T mg base 1 "_law_cell" ["script", "k"] sp__law_cell := (_law_cell_fa fx).fn fx.mg__law_cell
def t__law_rounds : DTS := (sRet (dLc (dRange1 (dCons (dB pyMax2 (dCons (dC (.int 1)) (dCons (dB pyMin2 (dCons (dVar 1) (dCons (dB pyLen (dCons (dVar 0) dNil)) dNil))) dNil))) dNil)) (.n 2) dYes (dLstB (dCons (dCall sp__law_cell (dCons (dVar 0) (dCons (dVar 2) dNil))) (dCons (dC (.int 0)) dNil))) [2]))
abbrev sp__law_rounds : DSp := spOf ["script", "high", "k"] 2 t__law_rounds
theorem sc__law_rounds : FnScope ["script", "high", "k"] ["script", "high"] (defScope s__law_rounds) := ⟨rfl, rfl, rfl, by decide +kernel, rfl, by decide +kernel, by decide +kernel⟩
theorem _law_rounds_fa (fx : Fx P w K T mg base) : DFa P w K T mg base 2 ("_law_rounds", none) ["script", "high"] sp__law_rounds :=
  dfa_of fx.fd__law_rounds sc__law_rounds (fun _ _ _ _ _ _ us hl => match us, hl with | [_, _], _ => rfl) (fun cdv A outer s H E hcd hr => (qs_one (qs_ret (q_lc [("k", 2)] rfl sc__law_rounds.nd (qi_range1 rfl (fx.free "range" (by decide)) (qa_cons (q_callB (call_pyMax2 rfl) rfl (fx.free "max" (by decide)) boot_max (qa_cons (q_int) (qa_cons (q_callB (call_pyMin2 rfl) rfl (fx.free "min" (by decide)) boot_min (qa_cons (qv 1) (qa_cons (q_callB call_pyLen rfl (fx.free "len" (by decide)) boot_len (qa_cons (qv 0) qa_nil)) qa_nil))) qa_nil))) qa_nil)) (blkOk_by (by kernel_rfl)) rfl (fun s H C cl fp => (pg_name sc__law_rounds.nd rfl (by first | exact Or.inl rfl | exact Or.inr rfl))) (fun s H C cl fp => qts_nil) (fun s H C cl fp => (q_lstB (qa_cons (q_call (_law_cell_ok fx) hr (by decide) takesF rfl (qa_cons (qv 0) (qa_cons (qv 2) qa_nil))) (qa_cons (q_int) qa_nil))))))))
theorem _law_rounds_ok (fx : Fx P w K T mg base) : DFn P w K T mg base 2 "_law_rounds" ["script", "high"] sp__law_rounds := (_law_rounds_fa fx).fn fx.mg__law_rounds
def t_term (a : Addr) (c : String) : DTS :=
  sSeq (sSet 1 (dLst (dCons (dIsE 0 a (c == "BadProgram")) (dCons (dIsE 0 a (c == "BadRights")) (dCons (dIsE 0 a (c == "BadNumber")) (dCons (dIsE 0 a (c == "BadFeeds")) dNil))))))
  (sSeq (sSet 1 (dOp pyAdd (dVar 1) (dLst (dCons (dIsE 0 a (c == "BadPaper")) (dCons (dIsE 0 a (c == "BadName")) (dCons (dIsE 0 a (c == "Taken")) (dCons (dIsE 0 a (c == "NoName")) dNil)))))))
  (sSeq (sSet 1 (dOp pyAdd (dVar 1) (dLst (dCons (dIsE 0 a (c == "TooMuch")) (dCons (dIsE 0 a (c == "Nothing")) (dCons (dIsE 0 a (c == "BadPicture")) (dCons (dIsE 0 a (c == "BadLog")) dNil)))))))
  (sSeq (sSet 1 (dOp pyAdd (dVar 1) (dLst (dCons (dIsE 0 a (c == "BadText")) dNil))))
  (sSeq (sSet 2 (dLst (dCons (dC (.str "BadProgram")) (dCons (dC (.str "BadRights")) (dCons (dC (.str "BadNumber")) (dCons (dC (.str "BadFeeds")) (dCons (dC (.str "BadPaper")) (dCons (dC (.str "BadName")) (dCons (dC (.str "Taken")) (dCons (dC (.str "NoName")) (dCons (dC (.str "TooMuch")) dNil)))))))))))
  (sSeq (sSet 2 (dOp pyAdd (dVar 2) (dLst (dCons (dC (.str "Nothing")) (dCons (dC (.str "BadPicture")) (dCons (dC (.str "BadLog")) (dCons (dC (.str "BadText")) dNil)))))))
  (sSeq (sIf (dOr (dTest (dOp pyNe (dB pySum (dCons (dLc (dIterL (dVar 1)) (.n 3) dYes (dB pyIntS (dCons (dVar 3) dNil)) [3]) dNil)) (dC (.int 1)))) (dNot (dTest (dIsE 0 a true)))) (sRet (dTup (dCons (dC (.str "refused")) (dCons (dC (.str "other")) dNil)))) sNext)
  (sRet (dTup (dCons (dC (.str "refused")) (dCons (dOp pyItem (dVar 2) (dMt "list" mIndex (dVar 1) (dCons (dC (.bl true)) dNil))) dNil))))))))))
theorem sc__law_term : FnScope ["e", "flags", "kinds", "flag"] ["e"] (defScope s__law_term) := ⟨rfl, rfl, rfl, by decide +kernel, rfl, by decide +kernel, by decide +kernel⟩
theorem term_plain (a : Addr) (c : String) (G : DG) (Q : DK) (hc : c ∈ refusals) (h : Q (.tup [.str "refused", .str c]) G) : t_term a c EF { nx := fun _ G' => Q .non G', rt := Q } (dstart ["e", "flags", "kinds", "flag"] [.ref a]) G := by
  simp only [t_term, sSeq, sSet, dLst, dCons, dNil, dIsE, dOp, dVar, dC, dstart, sIf, dOr, dTest, dB, dLc, dIterL, dNot, sRet, sNext, dTup, dMt, List.map_cons, List.map_nil, List.replicate, List.length_cons, List.length_nil]
  refine ⟨rfl, rfl, rfl, rfl, by decide, _, rfl, rfl, rfl, rfl, rfl, by decide, _, rfl, _, rfl, rfl, rfl, rfl, rfl, by decide, _, rfl, _, rfl, rfl, by decide, _, rfl, by decide, _, rfl, by decide, _, rfl, _, rfl, _, rfl, (by simp), ?_⟩
  refine eLcL_ok (et := eC true) (e := eB pyIntS (eCons (eVar 3) (eC []))) (ys := kinds13.map fun k => D.int (if (c == k) = true then 1 else 0)) ev_yes (ev_b m_int (ev_cons (ev_var 3) ev_nil)) (fun G => rfl) (by kernel_rfl) ?_
  simp only [refusals, List.mem_cons, List.not_mem_nil, or_false] at hc
  rcases hc with rfl | rfl | rfl | rfl | rfl | rfl | rfl | rfl | rfl | rfl | rfl | rfl
  all_goals
    refine ⟨.int 1, by kernel_rfl, .bl false, by kernel_rfl, false, rfl, ?_⟩
    simp only [Bool.false_eq_true, if_false]
    refine ⟨rfl, true, rfl, ?_⟩
    simp only [Bool.not_true, Bool.false_eq_true, if_false]
    refine ⟨_, rfl, _, rfl, by kernel_rfl, ?_⟩
  · exact ⟨.int 0, G, by kernel_rfl, _, by kernel_rfl, by decide, h⟩
  · exact ⟨.int 1, G, by kernel_rfl, _, by kernel_rfl, by decide, h⟩
  · exact ⟨.int 2, G, by kernel_rfl, _, by kernel_rfl, by decide, h⟩
  · exact ⟨.int 3, G, by kernel_rfl, _, by kernel_rfl, by decide, h⟩
  · exact ⟨.int 4, G, by kernel_rfl, _, by kernel_rfl, by decide, h⟩
  · exact ⟨.int 5, G, by kernel_rfl, _, by kernel_rfl, by decide, h⟩
  · exact ⟨.int 6, G, by kernel_rfl, _, by kernel_rfl, by decide, h⟩
  · exact ⟨.int 7, G, by kernel_rfl, _, by kernel_rfl, by decide, h⟩
  · exact ⟨.int 9, G, by kernel_rfl, _, by kernel_rfl, by decide, h⟩
  · exact ⟨.int 10, G, by kernel_rfl, _, by kernel_rfl, by decide, h⟩
  · exact ⟨.int 11, G, by kernel_rfl, _, by kernel_rfl, by decide, h⟩
  · exact ⟨.int 12, G, by kernel_rfl, _, by kernel_rfl, by decide, h⟩

theorem _law_term_ok (fx : Fx P w K T mg base) : DTerm P w K T mg base 1 := by
  obtain ⟨fd, F⟩ := fx.fd__law_term
  exact dterm_of (t := t_term) F fx.mg__law_term sc__law_term (fun _ _ _ _ _ _ us hl => match us, hl with | [_], _ => rfl) (fun cdv A outer s H p c hot hr hz hf hc => (qs_cons (qs_set sc__law_term.nd rfl (by first | exact Or.inl rfl | exact Or.inr rfl) (q_lst (qa_cons (q_isE (fx.told.exc c hc) hz hf List.mem_cons_self rfl (fx.free "isinstance" (by decide)) rfl (Or.inl rfl) (pe_glob rfl (fx.mgC "BadProgram" (by decide)) (v := .ref (He.ga K (S "BadProgram"))) rfl) (fun _ h => h) (fx.told.kit c hc "BadProgram" (by decide))) (qa_cons (q_isE (fx.told.exc c hc) hz hf List.mem_cons_self rfl (fx.free "isinstance" (by decide)) rfl (Or.inl rfl) (pe_glob rfl (fx.mgC "BadRights" (by decide)) (v := .ref (He.ga K (S "BadRights"))) rfl) (fun _ h => h) (fx.told.kit c hc "BadRights" (by decide))) (qa_cons (q_isE (fx.told.exc c hc) hz hf List.mem_cons_self rfl (fx.free "isinstance" (by decide)) rfl (Or.inl rfl) (pe_glob rfl (fx.mgC "BadNumber" (by decide)) (v := .ref (He.ga K (S "BadNumber"))) rfl) (fun _ h => h) (fx.told.kit c hc "BadNumber" (by decide))) (qa_cons (q_isE (fx.told.exc c hc) hz hf List.mem_cons_self rfl (fx.free "isinstance" (by decide)) rfl (Or.inl rfl) (pe_glob rfl (fx.mgC "BadFeeds" (by decide)) (v := .ref (He.ga K (S "BadFeeds"))) rfl) (fun _ h => h) (fx.told.kit c hc "BadFeeds" (by decide))) qa_nil)))))) (qs_cons (qs_set sc__law_term.nd rfl (by first | exact Or.inl rfl | exact Or.inr rfl) (q_op op_pyAdd (qv 1) (q_lst (qa_cons (q_isE (fx.told.exc c hc) hz hf List.mem_cons_self rfl (fx.free "isinstance" (by decide)) rfl (Or.inl rfl) (pe_glob rfl (fx.mgC "BadPaper" (by decide)) (v := .ref (He.ga K (S "BadPaper"))) rfl) (fun _ h => h) (fx.told.kit c hc "BadPaper" (by decide))) (qa_cons (q_isE (fx.told.exc c hc) hz hf List.mem_cons_self rfl (fx.free "isinstance" (by decide)) rfl (Or.inl rfl) (pe_glob rfl (fx.mgC "BadName" (by decide)) (v := .ref (He.ga K (S "BadName"))) rfl) (fun _ h => h) (fx.told.kit c hc "BadName" (by decide))) (qa_cons (q_isE (fx.told.exc c hc) hz hf List.mem_cons_self rfl (fx.free "isinstance" (by decide)) rfl (Or.inl rfl) (pe_glob rfl (fx.mgC "Taken" (by decide)) (v := .ref (He.ga K (S "Taken"))) rfl) (fun _ h => h) (fx.told.kit c hc "Taken" (by decide))) (qa_cons (q_isE (fx.told.exc c hc) hz hf List.mem_cons_self rfl (fx.free "isinstance" (by decide)) rfl (Or.inl rfl) (pe_glob rfl (fx.mgC "NoName" (by decide)) (v := .ref (He.ga K (S "NoName"))) rfl) (fun _ h => h) (fx.told.kit c hc "NoName" (by decide))) qa_nil))))))) (qs_cons (qs_set sc__law_term.nd rfl (by first | exact Or.inl rfl | exact Or.inr rfl) (q_op op_pyAdd (qv 1) (q_lst (qa_cons (q_isE (fx.told.exc c hc) hz hf List.mem_cons_self rfl (fx.free "isinstance" (by decide)) rfl (Or.inl rfl) (pe_glob rfl (fx.mgC "TooMuch" (by decide)) (v := .ref (He.ga K (S "TooMuch"))) rfl) (fun _ h => h) (fx.told.kit c hc "TooMuch" (by decide))) (qa_cons (q_isE (fx.told.exc c hc) hz hf List.mem_cons_self rfl (fx.free "isinstance" (by decide)) rfl (Or.inl rfl) (pe_glob rfl (fx.mgC "Nothing" (by decide)) (v := .ref (He.ga K (S "Nothing"))) rfl) (fun _ h => h) (fx.told.kit c hc "Nothing" (by decide))) (qa_cons (q_isE (fx.told.exc c hc) hz hf List.mem_cons_self rfl (fx.free "isinstance" (by decide)) rfl (Or.inl rfl) (pe_glob rfl (fx.mgC "BadPicture" (by decide)) (v := .ref (He.ga K (S "BadPicture"))) rfl) (fun _ h => h) (fx.told.kit c hc "BadPicture" (by decide))) (qa_cons (q_isE (fx.told.exc c hc) hz hf List.mem_cons_self rfl (fx.free "isinstance" (by decide)) rfl (Or.inl rfl) (pe_glob rfl (fx.mgC "BadLog" (by decide)) (v := .ref (He.ga K (S "BadLog"))) rfl) (fun _ h => h) (fx.told.kit c hc "BadLog" (by decide))) qa_nil))))))) (qs_cons (qs_set sc__law_term.nd rfl (by first | exact Or.inl rfl | exact Or.inr rfl) (q_op op_pyAdd (qv 1) (q_lst (qa_cons (q_isE (fx.told.exc c hc) hz hf List.mem_cons_self rfl (fx.free "isinstance" (by decide)) rfl (Or.inl rfl) (pe_glob rfl (fx.mgC "BadText" (by decide)) (v := .ref (He.ga K (S "BadText"))) rfl) (fun _ h => h) (fx.told.kit c hc "BadText" (by decide))) qa_nil)))) (qs_cons (qs_set sc__law_term.nd rfl (by first | exact Or.inl rfl | exact Or.inr rfl) (q_lst (qa_cons q_str (qa_cons q_str (qa_cons q_str (qa_cons q_str (qa_cons q_str (qa_cons q_str (qa_cons q_str (qa_cons q_str (qa_cons q_str qa_nil))))))))))) (qs_cons (qs_set sc__law_term.nd rfl (by first | exact Or.inl rfl | exact Or.inr rfl) (q_op op_pyAdd (qv 2) (q_lst (qa_cons q_str (qa_cons q_str (qa_cons q_str (qa_cons q_str qa_nil))))))) (qs_cons (qs_if (qt_w (qw_or (q_cmpT (op_pyNe (hotu hr)) (q_callB (call_pySumQ ⟨p, hot, List.mem_cons_self⟩) rfl (fx.free "sum" (by decide)) boot_sum (qa_cons (q_lcQ [("flag", 3)] ⟨p, hot, List.mem_cons_self⟩ sc__law_term.nd (qiq_it (qv 1)) (blkOk_by (by kernel_rfl)) rfl (fun s H C cl fp => pg_name sc__law_term.nd rfl (by first | exact Or.inl rfl | exact Or.inr rfl)) (fun s H C cl fp => qts_nil) (fun s H C cl fp => q_callTy call_pyIntS rfl (fx.free "int" (by decide)) boot_int (qa_cons (qv 3) qa_nil))) qa_nil)) q_int (nomark _)) (qw_or1 (qt_not (qt_val (q_isE (fx.told.exc c hc) hz hf List.mem_cons_self rfl (fx.free "isinstance" (by decide)) rfl (Or.inl rfl) (pe_bltn rfl (fx.free "ValueError" (by decide)) bootVE (v := .ty "ValueError") rfl) (fun _ h => h) (fx.told.kitV c hc))))))) (qs_one (qs_ret (q_tup (qa_cons q_str (qa_cons q_str qa_nil))))) qs_nil) (qs_one (qs_ret (q_tup (qa_cons q_str (qa_cons (q_item (hotu1 hr) (qv 2) (q_mt PySem.F.plainAttrs_list PySem.F.slot_list_index PySem.F.type_list_index mt_mIndex (qv 1) (qa_cons q_bl qa_nil))) qa_nil))))))))))))) term_plain
theorem _law_told_ok (fx : Fx P w K T mg base) : DTold P w K T mg base 7 := by
  obtain ⟨fd, F⟩ := fx.fd__law_told
  exact dtold_of F fx.mg__law_told ⟨rfl, rfl, rfl, by decide +kernel, rfl, by decide +kernel, by decide +kernel⟩ (fun _ _ _ _ _ _ _ us hl => match us, hl with | [_], _ => rfl) fx.told ((_law_term_ok fx).mono (by decide)) (Or.inl rfl) rfl rfl rfl rfl (fx.mgC "TooMuch" (by decide)) (fx.mgC "CageError" (by decide))
def t_is_whole : DTS := (sRet (dAndV (dUn (pyIsi "int") (dVar 0)) (dAndV (dNotV (dUn (pyIsi "bool") (dVar 0))) (dChain pyLe pyLe (dVar 1) (dVar 0) (dVar 2)))))
abbrev sp_is_whole : DSp := spOf ["thing", "low", "high"] 3 t_is_whole
def e_is_whole : List D → Option (Except DX D) := fnE ["thing", "low", "high"] 3 (xRet (eAndV (eUn (pyIsi "int") (eVar 0)) (eAndV (eNotV (eUn (pyIsi "bool") (eVar 0))) (eChain pyLe pyLe (eVar 1) (eVar 0) (eVar 2)))))
theorem ev_is_whole : EvF sp_is_whole e_is_whole := evf (xv_ret (ev_andV (ev_un m_isi (ev_var 0)) (ev_andV (ev_notV (ev_un m_isi (ev_var 0))) (ev_chain m_le m_le (ev_var 1) (ev_var 0) (ev_var 2)))))
theorem sc_is_whole : FnScope ["thing", "low", "high"] ["thing", "low", "high"] (defScope s_is_whole) := ⟨rfl, rfl, rfl, by decide +kernel, rfl, by decide +kernel, by decide +kernel⟩
theorem is_whole_fa (fx : Fx P w K T mg base) : DFa P w K T mg base 1 ("is_whole", none) ["thing", "low", "high"] sp_is_whole :=
  dfa_of fx.fd_is_whole sc_is_whole (fun _ _ _ _ _ _ us hl => match us, hl with | [_, _, _], _ => rfl) (fun cdv A outer s H E hcd hr => (qs_one (qs_ret (q_and (q_isi rfl (fx.free "isinstance" (by decide)) rfl (fx.free "int" (by decide)) boot_int (qv 0)) (q_and (q_not (q_isi rfl (fx.free "isinstance" (by decide)) rfl (fx.free "bool" (by decide)) boot_bool (qv 0))) (q_one (q_chain op_pyLe op_pyLe (qv 1) (qv 0) (qv 2))))))))
theorem is_whole_ok (fx : Fx P w K T mg base) : DFn P w K T mg base 1 "is_whole" ["thing", "low", "high"] sp_is_whole := (is_whole_fa fx).fn fx.mg_is_whole
def t_is_number : DTS := (sRet (dCall sp_is_whole (dCons (dVar 0) (dCons (dUn pyNeg (dC (.int 999))) (dCons (dC (.int 999)) dNil)))))
abbrev sp_is_number : DSp := spOf ["thing"] 1 t_is_number
def e_is_number : List D → Option (Except DX D) := fnE ["thing"] 1 (xRet (eCall e_is_whole (eCons (eVar 0) (eCons (eUn pyNeg (eC (.int 999))) (eCons (eC (.int 999)) (eC []))))))
theorem ev_is_number : EvF sp_is_number e_is_number := evf (xv_ret (ev_call ev_is_whole (ev_cons (ev_var 0) (ev_cons (ev_un m_neg (ev_c _)) (ev_cons (ev_c _) (ev_nil))))))
theorem sc_is_number : FnScope ["thing"] ["thing"] (defScope s_is_number) := ⟨rfl, rfl, rfl, by decide +kernel, rfl, by decide +kernel, by decide +kernel⟩
theorem is_number_fa (fx : Fx P w K T mg base) : DFa P w K T mg base 2 ("is_number", none) ["thing"] sp_is_number :=
  dfa_of fx.fd_is_number sc_is_number (fun _ _ _ _ _ _ us hl => match us, hl with | [_], _ => rfl) (fun cdv A outer s H E hcd hr => (qs_one (qs_ret (q_call (is_whole_ok fx) hr (by decide) (L2N.takes_of rfl rfl rfl rfl) rfl (qa_cons (qv 0) (qa_cons (q_un un_pyNeg (q_gint rfl fx.gi_FARTHEST)) (qa_cons (q_gint rfl fx.gi_FARTHEST) qa_nil)))))))
theorem is_number_ok (fx : Fx P w K T mg base) : DFn P w K T mg base 2 "is_number" ["thing"] sp_is_number := (is_number_fa fx).fn fx.mg_is_number
def t_is_word : DTS := (sRet (dAndV (dUn (pyIsi "str") (dVar 0)) (dAndV (dChain pyLe pyLe (dC (.int 1)) (dB pyLen (dCons (dVar 0) dNil)) (dC (.int 8))) (dB pyAll (dCons (dLc (dIter (dVar 0)) (.n 1) dYes (dOp pyIn (dVar 1) (dC (.str "abcdefghijklmnopqrstuvwxyz"))) [1]) dNil)))))
abbrev sp_is_word : DSp := spOf ["thing", "sign"] 1 t_is_word
def e_is_word : List D → Option (Except DX D) := fnE ["thing", "sign"] 1 (xRet (eAndV (eUn (pyIsi "str") (eVar 0)) (eAndV (eChain pyLe pyLe (eC (.int 1)) (eB pyLen (eCons (eVar 0) (eC []))) (eC (.int 8))) (eB pyAll (eCons (eLc (eIter (eVar 0)) (.n 1) (eC true) (eOp pyIn (eVar 1) (eC (.str "abcdefghijklmnopqrstuvwxyz"))) [1]) (eC []))))))
theorem ev_is_word : EvF sp_is_word e_is_word := evf (xv_ret (ev_andV (ev_un m_isi (ev_var 0)) (ev_andV (ev_chain m_le m_le (ev_c _) (ev_b m_len (ev_cons (ev_var 0) (ev_nil))) (ev_c _)) (ev_b m_all (ev_cons (ev_lc (ev_iter (ev_var 0)) (ev_yes) (ev_op m_in (ev_var 1) (ev_c _))) (ev_nil))))))
theorem sc_is_word : FnScope ["thing", "sign"] ["thing"] (defScope s_is_word) := ⟨rfl, rfl, rfl, by decide +kernel, rfl, by decide +kernel, by decide +kernel⟩
theorem is_word_fa (fx : Fx P w K T mg base) : DFa P w K T mg base 1 ("is_word", none) ["thing"] sp_is_word :=
  dfa_of fx.fd_is_word sc_is_word (fun _ _ _ _ _ _ us hl => match us, hl with | [_], _ => rfl) (fun cdv A outer s H E hcd hr => (qs_one (qs_ret (q_and (q_isi rfl (fx.free "isinstance" (by decide)) rfl (fx.free "str" (by decide)) boot_str (qv 0)) (q_and (q_chain op_pyLe op_pyLe (q_int) (q_callB call_pyLen rfl (fx.free "len" (by decide)) boot_len (qa_cons (qv 0) qa_nil)) (q_int)) (q_one (q_callB (call_pyAll rfl) rfl (fx.free "all" (by decide)) boot_all (qa_cons (q_lc [("sign", 1)] rfl sc_is_word.nd (qi_it (qv 0)) (blkOk_by (by kernel_rfl)) rfl (fun s H C cl fp => (pg_name sc_is_word.nd rfl (by first | exact Or.inl rfl | exact Or.inr rfl))) (fun s H C cl fp => qts_nil) (fun s H C cl fp => (q_cmp (op_pyIn (hu_of hr)) (qv 1) (q_gstr rfl fx.gs_SMALL) rfl))) qa_nil))))))))
theorem is_word_ok (fx : Fx P w K T mg base) : DFn P w K T mg base 1 "is_word" ["thing"] sp_is_word := (is_word_fa fx).fn fx.mg_is_word
def t_is_part : DTS := (sSeq (sIf (dTest (dOp pyEq (dVar 0) (dC (.str "r")))) (sRet (dCall sp_is_whole (dCons (dVar 1) (dCons (dC (.int 0)) (dCons (dC (.int 3)) dNil))))) sNext) (sSeq (sIf (dTest (dOp pyEq (dVar 0) (dC (.str "n")))) (sRet (dCall sp_is_number (dCons (dVar 1) dNil))) sNext) (sRet (dIf (dTest (dOp pyEq (dVar 0) (dC (.str "g")))) (dCall sp_is_whole (dCons (dVar 1) (dCons (dC (.int 0)) (dCons (dC (.int 99)) dNil)))) (dCall sp_is_word (dCons (dVar 1) dNil))))))
abbrev sp_is_part : DSp := spOf ["sort", "thing"] 2 t_is_part
def e_is_part : List D → Option (Except DX D) := fnE ["sort", "thing"] 2 (xSeq (xIf (eTest (eOp pyEq (eVar 0) (eC (.str "r")))) (xRet (eCall e_is_whole (eCons (eVar 1) (eCons (eC (.int 0)) (eCons (eC (.int 3)) (eC [])))))) (xNext)) (xSeq (xIf (eTest (eOp pyEq (eVar 0) (eC (.str "n")))) (xRet (eCall e_is_number (eCons (eVar 1) (eC [])))) (xNext)) (xRet (eIf (eTest (eOp pyEq (eVar 0) (eC (.str "g")))) (eCall e_is_whole (eCons (eVar 1) (eCons (eC (.int 0)) (eCons (eC (.int 99)) (eC []))))) (eCall e_is_word (eCons (eVar 1) (eC [])))))))
theorem ev_is_part : EvF sp_is_part e_is_part := evf (xv_seq (xv_if (ev_test (ev_op m_eq (ev_var 0) (ev_c _))) (xv_ret (ev_call ev_is_whole (ev_cons (ev_var 1) (ev_cons (ev_c _) (ev_cons (ev_c _) (ev_nil)))))) (xv_next)) (xv_seq (xv_if (ev_test (ev_op m_eq (ev_var 0) (ev_c _))) (xv_ret (ev_call ev_is_number (ev_cons (ev_var 1) (ev_nil)))) (xv_next)) (xv_ret (ev_if (ev_test (ev_op m_eq (ev_var 0) (ev_c _))) (ev_call ev_is_whole (ev_cons (ev_var 1) (ev_cons (ev_c _) (ev_cons (ev_c _) (ev_nil))))) (ev_call ev_is_word (ev_cons (ev_var 1) (ev_nil)))))))
theorem sc_is_part : FnScope ["sort", "thing"] ["sort", "thing"] (defScope s_is_part) := ⟨rfl, rfl, rfl, by decide +kernel, rfl, by decide +kernel, by decide +kernel⟩
theorem is_part_fa (fx : Fx P w K T mg base) : DFa P w K T mg base 3 ("is_part", none) ["sort", "thing"] sp_is_part :=
  dfa_of fx.fd_is_part sc_is_part (fun _ _ _ _ _ _ us hl => match us, hl with | [_, _], _ => rfl) (fun cdv A outer s H E hcd hr => (qs_cons (qs_if (q_cmpT (op_pyEq hr.units) (qv 0) (q_str) (nomark _)) (qs_one (qs_ret (q_call (is_whole_ok fx) hr (by decide) (L2N.takes_of rfl rfl rfl rfl) rfl (qa_cons (qv 1) (qa_cons (q_int) (qa_cons (q_int) qa_nil)))))) qs_nil) (qs_cons (qs_if (q_cmpT (op_pyEq hr.units) (qv 0) (q_str) (nomark _)) (qs_one (qs_ret (q_call (is_number_ok fx) hr (by decide) (L2N.takes_of rfl rfl rfl rfl) rfl (qa_cons (qv 1) qa_nil)))) qs_nil) (qs_one (qs_ret (q_if (q_cmpT (op_pyEq hr.units) (qv 0) (q_str) (nomark _)) (q_call (is_whole_ok fx) hr (by decide) (L2N.takes_of rfl rfl rfl rfl) rfl (qa_cons (qv 1) (qa_cons (q_int) (qa_cons (q_int) qa_nil)))) (q_call (is_word_ok fx) hr (by decide) (L2N.takes_of rfl rfl rfl rfl) rfl (qa_cons (qv 1) qa_nil))))))))
theorem is_part_ok (fx : Fx P w K T mg base) : DFn P w K T mg base 3 "is_part" ["sort", "thing"] sp_is_part := (is_part_fa fx).fn fx.mg_is_part
def t_is_instruction : DTS := (sSeq (sIf (dOr (dNot (dTest (dUn (pyIsi "tuple") (dVar 0)))) (dOr (dTest (dOp pyEq (dVar 0) (dTup dNil))) (dOr (dNot (dTest (dUn (pyIsi "str") (dOp pyItem (dVar 0) (dC (.int 0)))))) (dTest (dUn (kNotIn tab_FORMS) (dOp pyItem (dVar 0) (dC (.int 0)))))))) (sRet (dC (.bl false))) sNext) (sSeq (sSet 1 (dUn (kItem tab_FORMS) (dOp pyItem (dVar 0) (dC (.int 0))))) (sRet (dAndV (dOp pyEq (dB pyLen (dCons (dVar 0) dNil)) (dOp pyAdd (dB pyLen (dCons (dVar 1) dNil)) (dC (.int 1)))) (dB pyAll (dCons (dLc (dZip (dCons (dVar 1) (dCons (dSlice (dVar 0) (dPart (dC (.int 1))) dNoPart) dNil))) (.t [2, 3]) dYes (dCall sp_is_part (dCons (dVar 2) (dCons (dVar 3) dNil))) [2, 3]) dNil))))))
abbrev sp_is_instruction : DSp := spOf ["thing", "sorts", "sort", "part"] 1 t_is_instruction
def e_is_instruction : List D → Option (Except DX D) := fnE ["thing", "sorts", "sort", "part"] 1 (xSeq (xIf (eOr (eNot (eTest (eUn (pyIsi "tuple") (eVar 0)))) (eOr (eTest (eOp pyEq (eVar 0) (eTup (eC [])))) (eOr (eNot (eTest (eUn (pyIsi "str") (eOp pyItem (eVar 0) (eC (.int 0)))))) (eTest (eUn (kNotIn tab_FORMS) (eOp pyItem (eVar 0) (eC (.int 0)))))))) (xRet (eC (.bl false))) (xNext)) (xSeq (xSet 1 (eUn (kItem tab_FORMS) (eOp pyItem (eVar 0) (eC (.int 0))))) (xRet (eAndV (eOp pyEq (eB pyLen (eCons (eVar 0) (eC []))) (eOp pyAdd (eB pyLen (eCons (eVar 1) (eC []))) (eC (.int 1)))) (eB pyAll (eCons (eLc (eZip (eCons (eVar 1) (eCons (eSlice (eVar 0) (ePart (eC (.int 1))) (eC none)) (eC [])))) (.t [2, 3]) (eC true) (eCall e_is_part (eCons (eVar 2) (eCons (eVar 3) (eC [])))) [2, 3]) (eC [])))))))
theorem ev_is_instruction : EvF sp_is_instruction e_is_instruction := evf (xv_seq (xv_if (ev_or (ev_not (ev_test (ev_un m_isi (ev_var 0)))) (ev_or (ev_test (ev_op m_eq (ev_var 0) (ev_tup (ev_nil)))) (ev_or (ev_not (ev_test (ev_un m_isi (ev_op m_item (ev_var 0) (ev_c _))))) (ev_test (ev_un m_knotin (ev_op m_item (ev_var 0) (ev_c _))))))) (xv_ret (ev_c _)) (xv_next)) (xv_seq (xv_set (ev_un m_kitem (ev_op m_item (ev_var 0) (ev_c _)))) (xv_ret (ev_andV (ev_op m_eq (ev_b m_len (ev_cons (ev_var 0) (ev_nil))) (ev_op m_add (ev_b m_len (ev_cons (ev_var 1) (ev_nil))) (ev_c _))) (ev_b m_all (ev_cons (ev_lc (ev_zip (ev_cons (ev_var 1) (ev_cons (ev_slice (ev_var 0) (ev_part (ev_c _)) (ev_noPart)) (ev_nil)))) (ev_yes) (ev_call ev_is_part (ev_cons (ev_var 2) (ev_cons (ev_var 3) (ev_nil))))) (ev_nil)))))))
theorem sc_is_instruction : FnScope ["thing", "sorts", "sort", "part"] ["thing"] (defScope s_is_instruction) := ⟨rfl, rfl, rfl, by decide +kernel, rfl, by decide +kernel, by decide +kernel⟩
theorem is_instruction_fa (fx : Fx P w K T mg base) : DFa P w K T mg base 4 ("is_instruction", none) ["thing"] sp_is_instruction :=
  dfa_of fx.fd_is_instruction sc_is_instruction (fun _ _ _ _ _ _ us hl => match us, hl with | [_], _ => rfl) (fun cdv A outer s H E hcd hr => (qs_cons (qs_if (qt_w (qw_or (qt_not (qt_val (q_isi rfl (fx.free "isinstance" (by decide)) rfl (fx.free "tuple" (by decide)) boot_tuple (qv 0)))) (qw_or (q_cmpT (op_pyEq hr.units) (qv 0) (q_tup qa_nil) (nomark _)) (qw_or (qt_not (qt_val (q_isi rfl (fx.free "isinstance" (by decide)) rfl (fx.free "str" (by decide)) boot_str (q_item (hu_of hr) (qv 0) (q_int))))) (qw_or1 (q_knotinT fx.kt_FORMS rfl (q_item (hu_of hr) (qv 0) (q_int)))))))) (qs_one (qs_ret (q_bl))) qs_nil) (qs_cons (qs_set sc_is_instruction.nd rfl (by first | exact Or.inl rfl | exact Or.inr rfl) (q_kitem fx.kt_FORMS rfl (q_item (hu_of hr) (qv 0) (q_int)))) (qs_one (qs_ret (q_and (q_cmp (op_pyEq hr.units) (q_callB call_pyLen rfl (fx.free "len" (by decide)) boot_len (qa_cons (qv 0) qa_nil)) (q_op op_pyAdd (q_callB call_pyLen rfl (fx.free "len" (by decide)) boot_len (qa_cons (qv 1) qa_nil)) (q_int)) (nomark _)) (q_one (q_callB (call_pyAll rfl) rfl (fx.free "all" (by decide)) boot_all (qa_cons (q_lc [("sort", 2), ("part", 3)] rfl sc_is_instruction.nd (qi_zip rfl (fx.free "zip" (by decide)) (qa_cons (qv 1) (qa_cons (q_slice (qv 0) (qo_some (q_int)) qo_none) qa_nil))) (blkOk_by (by kernel_rfl)) rfl (fun s H C cl fp => (pg_tup rfl (pgs_cons (pg_name sc_is_instruction.nd rfl (by first | exact Or.inl rfl | exact Or.inr rfl)) (pgs_cons (pg_name sc_is_instruction.nd rfl (by first | exact Or.inl rfl | exact Or.inr rfl)) pgs_nil)))) (fun s H C cl fp => qts_nil) (fun s H C cl fp => (q_call (is_part_ok fx) hr (by decide) takesF rfl (qa_cons (qv 2) (qa_cons (qv 3) qa_nil))))) qa_nil)))))))))
theorem is_instruction_ok (fx : Fx P w K T mg base) : DFn P w K T mg base 4 "is_instruction" ["thing"] sp_is_instruction := (is_instruction_fa fx).fn fx.mg_is_instruction
def t_is_program : DTS := (sRet (dAndV (dUn (pyIsi "tuple") (dVar 0)) (dAndV (dChain pyLe pyLe (dC (.int 1)) (dB pyLen (dCons (dVar 0) dNil)) (dC (.int 40))) (dB pyAll (dCons (dLc (dIter (dVar 0)) (.n 1) dYes (dCall sp_is_instruction (dCons (dVar 1) dNil)) [1]) dNil)))))
abbrev sp_is_program : DSp := spOf ["thing", "one"] 1 t_is_program
def e_is_program : List D → Option (Except DX D) := fnE ["thing", "one"] 1 (xRet (eAndV (eUn (pyIsi "tuple") (eVar 0)) (eAndV (eChain pyLe pyLe (eC (.int 1)) (eB pyLen (eCons (eVar 0) (eC []))) (eC (.int 40))) (eB pyAll (eCons (eLc (eIter (eVar 0)) (.n 1) (eC true) (eCall e_is_instruction (eCons (eVar 1) (eC []))) [1]) (eC []))))))
theorem ev_is_program : EvF sp_is_program e_is_program := evf (xv_ret (ev_andV (ev_un m_isi (ev_var 0)) (ev_andV (ev_chain m_le m_le (ev_c _) (ev_b m_len (ev_cons (ev_var 0) (ev_nil))) (ev_c _)) (ev_b m_all (ev_cons (ev_lc (ev_iter (ev_var 0)) (ev_yes) (ev_call ev_is_instruction (ev_cons (ev_var 1) (ev_nil)))) (ev_nil))))))
theorem sc_is_program : FnScope ["thing", "one"] ["thing"] (defScope s_is_program) := ⟨rfl, rfl, rfl, by decide +kernel, rfl, by decide +kernel, by decide +kernel⟩
theorem is_program_fa (fx : Fx P w K T mg base) : DFa P w K T mg base 5 ("is_program", none) ["thing"] sp_is_program :=
  dfa_of fx.fd_is_program sc_is_program (fun _ _ _ _ _ _ us hl => match us, hl with | [_], _ => rfl) (fun cdv A outer s H E hcd hr => (qs_one (qs_ret (q_and (q_isi rfl (fx.free "isinstance" (by decide)) rfl (fx.free "tuple" (by decide)) boot_tuple (qv 0)) (q_and (q_chain op_pyLe op_pyLe (q_int) (q_callB call_pyLen rfl (fx.free "len" (by decide)) boot_len (qa_cons (qv 0) qa_nil)) (q_int)) (q_one (q_callB (call_pyAll rfl) rfl (fx.free "all" (by decide)) boot_all (qa_cons (q_lc [("one", 1)] rfl sc_is_program.nd (qi_it (qv 0)) (blkOk_by (by kernel_rfl)) rfl (fun s H C cl fp => (pg_name sc_is_program.nd rfl (by first | exact Or.inl rfl | exact Or.inr rfl))) (fun s H C cl fp => qts_nil) (fun s H C cl fp => (q_call (is_instruction_ok fx) hr (by decide) takesF rfl (qa_cons (qv 1) qa_nil)))) qa_nil))))))))
theorem is_program_ok (fx : Fx P w K T mg base) : DFn P w K T mg base 5 "is_program" ["thing"] sp_is_program := (is_program_fa fx).fn fx.mg_is_program
def t_need_program : DTS := (sIf (dNot (dTest (dCall sp_is_program (dCons (dVar 0) dNil)))) (sRaise "BadProgram") sNext)
abbrev sp_need_program : DSp := spOf ["thing"] 1 t_need_program
def e_need_program : List D → Option (Except DX D) := fnE ["thing"] 1 (xIf (eNot (eTest (eCall e_is_program (eCons (eVar 0) (eC []))))) (xRaise "BadProgram") (xNext))
theorem ev_need_program : EvF sp_need_program e_need_program := evf (xv_if (ev_not (ev_test (ev_call ev_is_program (ev_cons (ev_var 0) (ev_nil))))) (xv_raise) (xv_next))
theorem sc_need_program : FnScope ["thing"] ["thing"] (defScope s_need_program) := ⟨rfl, rfl, rfl, by decide +kernel, rfl, by decide +kernel, by decide +kernel⟩
theorem need_program_fa (fx : Fx P w K T mg base) : DFa P w K T mg base 6 ("need_program", none) ["thing"] sp_need_program :=
  dfa_of fx.fd_need_program sc_need_program (fun _ _ _ _ _ _ us hl => match us, hl with | [_], _ => rfl) (fun cdv A outer s H E hcd hr => (qs_one (qs_if (qt_not (qt_val (q_call (is_program_ok fx) hr (by decide) (L2N.takes_of rfl rfl rfl rfl) rfl (qa_cons (qv 0) qa_nil)))) (qs_one (qs_raise (dxc fx.xc_BadProgram) rfl (L2N.takes_of rfl rfl rfl rfl) rfl)) qs_nil)))
theorem need_program_ok (fx : Fx P w K T mg base) : DFn P w K T mg base 6 "need_program" ["thing"] sp_need_program := (need_program_fa fx).fn fx.mg_need_program
def t_goals_of : DTS := (sSeq (sSet 2 (dOp pyItem (dOp pyItem (dVar 0) (dVar 1)) (dC (.int 0)))) (sSeq (sIf (dTest (dOp pyEq (dVar 2) (dC (.str "end")))) (sRet (dLst dNil)) sNext) (sSeq (sIf (dTest (dOp pyEq (dVar 2) (dC (.str "go")))) (sRet (dLst (dCons (dOp pyItem (dOp pyItem (dVar 0) (dVar 1)) (dC (.int 1))) dNil))) sNext) (sSeq (sSet 3 (dOp pyAdd (dLst (dCons (dOp pyAdd (dVar 1) (dC (.int 1))) dNil)) (dIf (dTest (dOp pyEq (dVar 2) (dC (.str "zero")))) (dLst (dCons (dOp pyItem (dOp pyItem (dVar 0) (dVar 1)) (dC (.int 2))) dNil)) (dLst dNil)))) (sRet (dB pySortedSet (dCons (dVar 3) dNil)))))))
abbrev sp_goals_of : DSp := spOf ["program", "place", "word", "found"] 2 t_goals_of
def e_goals_of : List D → Option (Except DX D) := fnE ["program", "place", "word", "found"] 2 (xSeq (xSet 2 (eOp pyItem (eOp pyItem (eVar 0) (eVar 1)) (eC (.int 0)))) (xSeq (xIf (eTest (eOp pyEq (eVar 2) (eC (.str "end")))) (xRet (eLst (eC []))) (xNext)) (xSeq (xIf (eTest (eOp pyEq (eVar 2) (eC (.str "go")))) (xRet (eLst (eCons (eOp pyItem (eOp pyItem (eVar 0) (eVar 1)) (eC (.int 1))) (eC [])))) (xNext)) (xSeq (xSet 3 (eOp pyAdd (eLst (eCons (eOp pyAdd (eVar 1) (eC (.int 1))) (eC []))) (eIf (eTest (eOp pyEq (eVar 2) (eC (.str "zero")))) (eLst (eCons (eOp pyItem (eOp pyItem (eVar 0) (eVar 1)) (eC (.int 2))) (eC []))) (eLst (eC []))))) (xRet (eB pySortedSet (eCons (eVar 3) (eC []))))))))
theorem ev_goals_of : EvF sp_goals_of e_goals_of := evf (xv_seq (xv_set (ev_op m_item (ev_op m_item (ev_var 0) (ev_var 1)) (ev_c _))) (xv_seq (xv_if (ev_test (ev_op m_eq (ev_var 2) (ev_c _))) (xv_ret (ev_lst (ev_nil))) (xv_next)) (xv_seq (xv_if (ev_test (ev_op m_eq (ev_var 2) (ev_c _))) (xv_ret (ev_lst (ev_cons (ev_op m_item (ev_op m_item (ev_var 0) (ev_var 1)) (ev_c _)) (ev_nil)))) (xv_next)) (xv_seq (xv_set (ev_op m_add (ev_lst (ev_cons (ev_op m_add (ev_var 1) (ev_c _)) (ev_nil))) (ev_if (ev_test (ev_op m_eq (ev_var 2) (ev_c _))) (ev_lst (ev_cons (ev_op m_item (ev_op m_item (ev_var 0) (ev_var 1)) (ev_c _)) (ev_nil))) (ev_lst (ev_nil))))) (xv_ret (ev_b m_sortedSet (ev_cons (ev_var 3) (ev_nil))))))))
theorem sc_goals_of : FnScope ["program", "place", "word", "found"] ["program", "place"] (defScope s_goals_of) := ⟨rfl, rfl, rfl, by decide +kernel, rfl, by decide +kernel, by decide +kernel⟩
theorem goals_of_fa (fx : Fx P w K T mg base) : DFa P w K T mg base 1 ("goals_of", none) ["program", "place"] sp_goals_of :=
  dfa_of fx.fd_goals_of sc_goals_of (fun _ _ _ _ _ _ us hl => match us, hl with | [_, _], _ => rfl) (fun cdv A outer s H E hcd hr => (qs_cons (qs_set sc_goals_of.nd rfl (by first | exact Or.inl rfl | exact Or.inr rfl) (q_item (hu_of hr) (q_item (hu_of hr) (qv 0) (qv 1)) (q_int))) (qs_cons (qs_if (q_cmpT (op_pyEq hr.units) (qv 2) (q_str) (nomark _)) (qs_one (qs_ret (q_lst qa_nil))) qs_nil) (qs_cons (qs_if (q_cmpT (op_pyEq hr.units) (qv 2) (q_str) (nomark _)) (qs_one (qs_ret (q_lst (qa_cons (q_item (hu_of hr) (q_item (hu_of hr) (qv 0) (qv 1)) (q_int)) qa_nil)))) qs_nil) (qs_cons (qs_set sc_goals_of.nd rfl (by first | exact Or.inl rfl | exact Or.inr rfl) (q_op op_pyAdd (q_lst (qa_cons (q_op op_pyAdd (qv 1) (q_int)) qa_nil)) (q_if (q_cmpT (op_pyEq hr.units) (qv 2) (q_str) (nomark _)) (q_lst (qa_cons (q_item (hu_of hr) (q_item (hu_of hr) (qv 0) (qv 1)) (q_int)) qa_nil)) (q_lst qa_nil)))) (qs_one (qs_ret (q_sortedSet rfl rfl (fx.free "sorted" (by decide)) rfl (fx.free "set" (by decide)) (qv 3)))))))))
theorem goals_of_ok (fx : Fx P w K T mg base) : DFn P w K T mg base 1 "goals_of" ["program", "place"] sp_goals_of := (goals_of_fa fx).fn fx.mg_goals_of
def t_places_of : DTS := (sSeq (sPar [1, 2] (dCons (dDctB (List.cons (Prod.mk (dC (.int 0)) (dC (.bl true))) [])) (dCons (dLstB (dCons (dC (.int 0)) dNil)) dNil))) (sSeq (sWhile (dTest (dOp pyNe (dVar 2) (dLst dNil))) (sFor (dIter (dCall sp_goals_of (dCons (dVar 0) (dCons (dMt0 "list" mPop (dVar 2)) dNil)))) (.n 3) (sIf (dAnd (dTest (dOp pyLt (dVar 3) (dB pyLen (dCons (dVar 0) dNil)))) (dTest (dOp pyNotIn (dVar 3) (dVar 1)))) (sSeq (sSub (dC (.bl true)) (dVar 1) (dVar 3)) (sDrop (dMt "list" mAppend (dVar 2) (dCons (dVar 3) dNil)))) sNext))) (sRet (dB pySorted (dCons (dVar 1) dNil)))))
abbrev sp_places_of : DSp := spOf ["program", "found", "work", "goal"] 1 t_places_of
theorem sc_places_of : FnScope ["program", "found", "work", "goal"] ["program"] (defScope s_places_of) := ⟨rfl, rfl, rfl, by decide +kernel, rfl, by decide +kernel, by decide +kernel⟩
theorem places_of_fa (fx : Fx P w K T mg base) : DFa P w K T mg base 2 ("places_of", none) ["program"] sp_places_of :=
  dfa_of fx.fd_places_of sc_places_of (fun _ _ _ _ _ _ us hl => match us, hl with | [_], _ => rfl) (fun cdv A outer s H E hcd hr => (qs_cons (qs_par rfl sc_places_of.nd rfl rfl (by decide) rfl rfl (qa_cons (q_dctB (qp_cons (q_int) (q_bl) qp_nil)) (qa_cons (q_lstB (qa_cons (q_int) qa_nil)) qa_nil)) rfl) (qs_cons (qs_while (passes_of rfl) (q_cmpT (op_pyNe hr.units) (qv 2) (q_lst qa_nil) (nomark _)) (qs_one (qs_for (passes_of rfl) rfl (qi_it (q_call (goals_of_ok fx) hr (by decide) (L2N.takes_of rfl rfl rfl rfl) rfl (qa_cons (qv 0) (qa_cons (q_mt0 PySem.F.plainAttrs_list PySem.F.slot_list_pop PySem.F.type_list_pop mt_mPop (qv 2)) qa_nil)))) (pg_name sc_places_of.nd rfl (by first | exact Or.inl rfl | exact Or.inr rfl)) (qs_one (qs_if (qt_w (qw_and (q_cmpT op_pyLt (qv 3) (q_callB call_pyLen rfl (fx.free "len" (by decide)) boot_len (qa_cons (qv 0) qa_nil)) (nomark _)) (qw_and1 (q_cmpT (op_pyNotIn (hu_of hr)) (qv 3) (qv 1) rfl)))) (qs_cons (qs_sub (hu_of hr) (q_bl) (qv 1) (qv 3)) (qs_one (qs_expr (q_mt PySem.F.plainAttrs_list PySem.F.slot_list_append PySem.F.type_list_append mt_mAppend (qv 2) (qa_cons (qv 3) qa_nil))))) qs_nil))))) (qs_one (qs_ret (q_callB (call_pySorted rfl) rfl (fx.free "sorted" (by decide)) boot_sorted (qa_cons (qv 1) qa_nil)))))))
theorem places_of_ok (fx : Fx P w K T mg base) : DFn P w K T mg base 2 "places_of" ["program"] sp_places_of := (places_of_fa fx).fn fx.mg_places_of
def t_come_to : DTS := (sSeq (sDrop (dCall sp_need_program (dCons (dVar 0) dNil))) (sRet (dCall sp_places_of (dCons (dVar 0) dNil))))
abbrev sp_come_to : DSp := spOf ["program"] 1 t_come_to
theorem sc_come_to : FnScope ["program"] ["program"] (defScope s_come_to) := ⟨rfl, rfl, rfl, by decide +kernel, rfl, by decide +kernel, by decide +kernel⟩
theorem come_to_fa (fx : Fx P w K T mg base) : DFa P w K T mg base 7 ("come_to", none) ["program"] sp_come_to :=
  dfa_of fx.fd_come_to sc_come_to (fun _ _ _ _ _ _ us hl => match us, hl with | [_], _ => rfl) (fun cdv A outer s H E hcd hr => (qs_cons (qs_expr (q_call (need_program_ok fx) hr (by decide) (L2N.takes_of rfl rfl rfl rfl) rfl (qa_cons (qv 0) qa_nil))) (qs_one (qs_ret (q_call (places_of_ok fx) hr (by decide) (L2N.takes_of rfl rfl rfl rfl) rfl (qa_cons (qv 0) qa_nil))))))
theorem come_to_ok (fx : Fx P w K T mg base) : DFn P w K T mg base 7 "come_to" ["program"] sp_come_to := (come_to_fa fx).fn fx.mg_come_to
def t_goals : DTS := (sSeq (sDrop (dCall sp_need_program (dCons (dVar 0) dNil))) (sSeq (sIf (dNot (dTest (dCall sp_is_whole (dCons (dVar 1) (dCons (dC (.int 0)) (dCons (dOp pySub (dB pyLen (dCons (dVar 0) dNil)) (dC (.int 1))) dNil)))))) (sRaise "BadNumber") sNext) (sRet (dCall sp_goals_of (dCons (dVar 0) (dCons (dVar 1) dNil))))))
abbrev sp_goals : DSp := spOf ["program", "place"] 2 t_goals
def e_goals : List D → Option (Except DX D) := fnE ["program", "place"] 2 (xSeq (xDrop (eCall e_need_program (eCons (eVar 0) (eC [])))) (xSeq (xIf (eNot (eTest (eCall e_is_whole (eCons (eVar 1) (eCons (eC (.int 0)) (eCons (eOp pySub (eB pyLen (eCons (eVar 0) (eC []))) (eC (.int 1))) (eC []))))))) (xRaise "BadNumber") (xNext)) (xRet (eCall e_goals_of (eCons (eVar 0) (eCons (eVar 1) (eC [])))))))
theorem ev_goals : EvF sp_goals e_goals := evf (xv_seq (xv_drop (ev_call ev_need_program (ev_cons (ev_var 0) (ev_nil)))) (xv_seq (xv_if (ev_not (ev_test (ev_call ev_is_whole (ev_cons (ev_var 1) (ev_cons (ev_c _) (ev_cons (ev_op m_sub (ev_b m_len (ev_cons (ev_var 0) (ev_nil))) (ev_c _)) (ev_nil))))))) (xv_raise) (xv_next)) (xv_ret (ev_call ev_goals_of (ev_cons (ev_var 0) (ev_cons (ev_var 1) (ev_nil)))))))
theorem sc_goals : FnScope ["program", "place"] ["program", "place"] (defScope s_goals) := ⟨rfl, rfl, rfl, by decide +kernel, rfl, by decide +kernel, by decide +kernel⟩
theorem goals_fa (fx : Fx P w K T mg base) : DFa P w K T mg base 7 ("goals", none) ["program", "place"] sp_goals :=
  dfa_of fx.fd_goals sc_goals (fun _ _ _ _ _ _ us hl => match us, hl with | [_, _], _ => rfl) (fun cdv A outer s H E hcd hr => (qs_cons (qs_expr (q_call (need_program_ok fx) hr (by decide) (L2N.takes_of rfl rfl rfl rfl) rfl (qa_cons (qv 0) qa_nil))) (qs_cons (qs_if (qt_not (qt_val (q_call (is_whole_ok fx) hr (by decide) (L2N.takes_of rfl rfl rfl rfl) rfl (qa_cons (qv 1) (qa_cons (q_int) (qa_cons (q_op op_pySub (q_callB call_pyLen rfl (fx.free "len" (by decide)) boot_len (qa_cons (qv 0) qa_nil)) (q_int)) qa_nil)))))) (qs_one (qs_raise (dxc fx.xc_BadNumber) rfl (L2N.takes_of rfl rfl rfl rfl) rfl)) qs_nil) (qs_one (qs_ret (q_call (goals_of_ok fx) hr (by decide) (L2N.takes_of rfl rfl rfl rfl) rfl (qa_cons (qv 0) (qa_cons (qv 1) qa_nil))))))))
theorem goals_ok (fx : Fx P w K T mg base) : DFn P w K T mg base 7 "goals" ["program", "place"] sp_goals := (goals_fa fx).fn fx.mg_goals
def t_words_of : DTS := (sSeq (sSet 1 (dLc (dIter (dTup (dCons (dC (.str "ask")) (dCons (dC (.str "tell")) (dCons (dC (.str "look")) (dCons (dC (.str "mark")) dNil)))))) (.n 3) dYes (dLc (dIter (dVar 0)) (.n 2) (dTest (dOp pyEq (dOp pyItem (dVar 2) (dC (.int 0))) (dVar 3))) (dOp pyItem (dVar 2) (dUn pyNeg (dC (.int 1)))) [2]) [3])) (sRet (dB pyTup (dCons (dLc (dIter (dVar 1)) (.n 4) dYes (dB pyTup (dCons (dB pySortedSet (dCons (dVar 4) dNil)) dNil)) [4]) dNil))))
abbrev sp_words_of : DSp := spOf ["instructions", "rows", "one", "word", "row"] 1 t_words_of
def e_words_of : List D → Option (Except DX D) := fnE ["instructions", "rows", "one", "word", "row"] 1 (xSeq (xSet 1 (eLc (eIter (eTup (eCons (eC (.str "ask")) (eCons (eC (.str "tell")) (eCons (eC (.str "look")) (eCons (eC (.str "mark")) (eC []))))))) (.n 3) (eC true) (eLc (eIter (eVar 0)) (.n 2) (eTest (eOp pyEq (eOp pyItem (eVar 2) (eC (.int 0))) (eVar 3))) (eOp pyItem (eVar 2) (eUn pyNeg (eC (.int 1)))) [2]) [3])) (xRet (eB pyTup (eCons (eLc (eIter (eVar 1)) (.n 4) (eC true) (eB pyTup (eCons (eB pySortedSet (eCons (eVar 4) (eC []))) (eC []))) [4]) (eC [])))))
theorem ev_words_of : EvF sp_words_of e_words_of := evf (xv_seq (xv_set (ev_lc (ev_iter (ev_tup (ev_cons (ev_c _) (ev_cons (ev_c _) (ev_cons (ev_c _) (ev_cons (ev_c _) (ev_nil))))))) (ev_yes) (ev_lc (ev_iter (ev_var 0)) (ev_test (ev_op m_eq (ev_op m_item (ev_var 2) (ev_c _)) (ev_var 3))) (ev_op m_item (ev_var 2) (ev_un m_neg (ev_c _)))))) (xv_ret (ev_b m_tup (ev_cons (ev_lc (ev_iter (ev_var 1)) (ev_yes) (ev_b m_tup (ev_cons (ev_b m_sortedSet (ev_cons (ev_var 4) (ev_nil))) (ev_nil)))) (ev_nil)))))
theorem sc_words_of : FnScope ["instructions", "rows", "one", "word", "row"] ["instructions"] (defScope s_words_of) := ⟨rfl, rfl, rfl, by decide +kernel, rfl, by decide +kernel, by decide +kernel⟩
theorem words_of_fa (fx : Fx P w K T mg base) : DFa P w K T mg base 1 ("words_of", none) ["instructions"] sp_words_of :=
  dfa_of fx.fd_words_of sc_words_of (fun _ _ _ _ _ _ us hl => match us, hl with | [_], _ => rfl) (fun cdv A outer s H E hcd hr => (qs_cons (qs_setLc [("word", 3)] rfl sc_words_of.nd rfl rfl (sw_true rfl rfl rfl (by decide +kernel)) (qi_it (q_tup (qa_cons (q_str) (qa_cons (q_str) (qa_cons (q_str) (qa_cons (q_str) qa_nil)))))) (blkOk_by (by kernel_rfl)) rfl (fun s H C cl fp => (pg_name sc_words_of.nd rfl (by first | exact Or.inl rfl | exact Or.inr rfl))) (fun s H C cl fp => qts_nil) (fun s H C cl fp => (q_lc [("one", 2)] rfl sc_words_of.nd (qi_it (qv 0)) (blkOk_by (by kernel_rfl)) rfl (fun s H C cl fp => (pg_name sc_words_of.nd rfl (by first | exact Or.inl rfl | exact Or.inr rfl))) (fun s H C cl fp => (qts_one (q_cmpT (op_pyEq hr.units) (q_item (hu_of hr) (qv 2) (q_int)) (qv 3) (nomark _)))) (fun s H C cl fp => (q_item (hu_of hr) (qv 2) (q_un un_pyNeg (q_int))))))) (qs_one (qs_ret (q_callTy call_pyTup rfl (fx.free "tuple" (by decide)) boot_tuple (qa_cons (q_lc [("row", 4)] rfl sc_words_of.nd (qi_it (qv 1)) (blkOk_by (by kernel_rfl)) rfl (fun s H C cl fp => (pg_name sc_words_of.nd rfl (by first | exact Or.inl rfl | exact Or.inr rfl))) (fun s H C cl fp => qts_nil) (fun s H C cl fp => (q_callTy call_pyTup rfl (fx.free "tuple" (by decide)) boot_tuple (qa_cons (q_sortedSet rfl rfl (fx.free "sorted" (by decide)) rfl (fx.free "set" (by decide)) (qv 4)) qa_nil)))) qa_nil))))))
theorem words_of_ok (fx : Fx P w K T mg base) : DFn P w K T mg base 1 "words_of" ["instructions"] sp_words_of := (words_of_fa fx).fn fx.mg_words_of
def t_words_in : DTS := (sSeq (sDrop (dCall sp_need_program (dCons (dVar 0) dNil))) (sRet (dCall sp_words_of (dCons (dVar 0) dNil))))
abbrev sp_words_in : DSp := spOf ["program"] 1 t_words_in
def e_words_in : List D → Option (Except DX D) := fnE ["program"] 1 (xSeq (xDrop (eCall e_need_program (eCons (eVar 0) (eC [])))) (xRet (eCall e_words_of (eCons (eVar 0) (eC [])))))
theorem ev_words_in : EvF sp_words_in e_words_in := evf (xv_seq (xv_drop (ev_call ev_need_program (ev_cons (ev_var 0) (ev_nil)))) (xv_ret (ev_call ev_words_of (ev_cons (ev_var 0) (ev_nil)))))
theorem sc_words_in : FnScope ["program"] ["program"] (defScope s_words_in) := ⟨rfl, rfl, rfl, by decide +kernel, rfl, by decide +kernel, by decide +kernel⟩
theorem words_in_fa (fx : Fx P w K T mg base) : DFa P w K T mg base 7 ("words_in", none) ["program"] sp_words_in :=
  dfa_of fx.fd_words_in sc_words_in (fun _ _ _ _ _ _ us hl => match us, hl with | [_], _ => rfl) (fun cdv A outer s H E hcd hr => (qs_cons (qs_expr (q_call (need_program_ok fx) hr (by decide) (L2N.takes_of rfl rfl rfl rfl) rfl (qa_cons (qv 0) qa_nil))) (qs_one (qs_ret (q_call (words_of_ok fx) hr (by decide) (L2N.takes_of rfl rfl rfl rfl) rfl (qa_cons (qv 0) qa_nil))))))
theorem words_in_ok (fx : Fx P w K T mg base) : DFn P w K T mg base 7 "words_in" ["program"] sp_words_in := (words_in_fa fx).fn fx.mg_words_in
def t_law : DTS := (sSeq (sFor (dIter (dCall sp__law_rounds (dCons (dVar 0) (dCons (dC (.int 5)) dNil)))) (.n 1) (sSeq (sSet 2 (dCall sp__law_any_program (dCons (dVar 1) (dCons (dC (.int 14)) dNil)))) (sSeq (sSet 3 (dLstB dNil)) (sSeq (sFor (dEnum (dCons (dVar 2) dNil)) (.t [4, 5]) (sSeq (sSet 6 (dIf (dTest (dOp pyNotIn (dOp pyItem (dVar 5) (dC (.int 0))) (dTup (dCons (dC (.str "go")) (dCons (dC (.str "end")) dNil))))) (dLst (dCons (dOp pyAdd (dVar 4) (dC (.int 1))) dNil)) (dLst dNil))) (sSeq (sIf (dTest (dOp pyIn (dOp pyItem (dVar 5) (dC (.int 0))) (dTup (dCons (dC (.str "go")) (dCons (dC (.str "zero")) dNil))))) (sSet 6 (dOp pyAdd (dVar 6) (dLst (dCons (dOp pyItem (dVar 5) (dUn pyNeg (dC (.int 1)))) dNil)))) sNext) (sSeq (sDrop (dMt "list" mAppend (dVar 3) (dCons (dB pySortedSet (dCons (dVar 6) dNil)) dNil))) (sIf (dTest (dOp pyNe (dCall sp_goals (dCons (dVar 2) (dCons (dVar 4) dNil))) (dOp pyItem (dVar 3) (dVar 4)))) (sRet (dC (.bl false))) sNext))))) (sSeq (sPar [7, 8] (dCons (dLstB dNil) (dCons (dLstB (dCons (dC (.int 0)) dNil)) dNil))) (sSeq (sWhile (dTest (dOp pyNe (dVar 8) (dLst dNil))) (sSeq (sSet 9 (dMt0 "list" mPop (dVar 8))) (sIf (dAnd (dTest (dOp pyLt (dVar 9) (dB pyLen (dCons (dVar 2) dNil)))) (dTest (dOp pyNotIn (dVar 9) (dVar 7)))) (sSeq (sDrop (dMt "list" mAppend (dVar 7) (dCons (dVar 9) dNil))) (sSet 8 (dOpB addB (dVar 8) (dOp pyItem (dVar 3) (dVar 9))))) sNext))) (sSeq (sIf (dTest (dOp pyNe (dCall sp_come_to (dCons (dVar 2) dNil)) (dB pySorted (dCons (dVar 7) dNil)))) (sRet (dC (.bl false))) sNext) (sSeq (sSet 10 (dLstB dNil)) (sSeq (sFor (dIter (dLst (dCons (dC (.str "ask")) (dCons (dC (.str "tell")) (dCons (dC (.str "look")) (dCons (dC (.str "mark")) dNil)))))) (.n 11) (sDrop (dMt "list" mAppend (dVar 10) (dCons (dB pyTup (dCons (dB pySortedSet (dCons (dLc (dIter (dVar 2)) (.n 5) (dTest (dOp pyEq (dOp pyItem (dVar 5) (dC (.int 0))) (dVar 11))) (dOp pyItem (dVar 5) (dUn pyNeg (dC (.int 1)))) [5]) dNil)) dNil)) dNil)))) (sSeq (sIf (dTest (dOp pyNe (dCall sp_words_in (dCons (dVar 2) dNil)) (dB pyTup (dCons (dVar 10) dNil)))) (sRet (dC (.bl false))) sNext) (sFor (dIter (dLst (dCons (dUn pyNeg (dC (.int 1))) (dCons (dB pyLen (dCons (dVar 2) dNil)) (dCons (dC (.bl true)) (dCons (dC .non) (dCons (dC (.str "0")) dNil))))))) (.n 12) (sIf (dTest (dOp pyNe (dTold (dCall sp_goals (dCons (dVar 2) (dCons (dVar 12) dNil)))) (dTup (dCons (dC (.str "refused")) (dCons (dC (.str "BadNumber")) dNil))))) (sRet (dC (.bl false))) sNext)))))))))))) (sRet (dC (.bl true))))
abbrev sp_law : DSp := spOf ["script", "dice", "program", "ways", "at", "one", "due", "seen", "work", "here", "rows", "word", "bad"] 1 t_law
theorem sc_law : FnScope ["script", "dice", "program", "ways", "at", "one", "due", "seen", "work", "here", "rows", "word", "bad"] ["script"] (defScope s_law) := ⟨rfl, rfl, rfl, by decide +kernel, rfl, by decide +kernel, by decide +kernel⟩
theorem lam_law (fx : Fx P w K T mg base) (cdv : Value) (A : Around) (outer : List Env) (s : Shared) (H : Hp) (E : XK) (hcd : cdv = .ref (He.codeOf K ("law", none))) : LamT (cxOf (L2N.CX P w) P w K mg base ["script", "dice", "program", "ways", "at", "one", "due", "seen", "work", "here", "rows", "word", "bad"] "law" (defScope s_law) (He.fAd K ("law", none)) cdv A outer s H E) T := by
  obtain ⟨Pt, tb, e, u⟩ := fx.lamt_law
  exact ⟨_, Pt, tb, hcd, e, u⟩
def t_law_rest : DTS := (sSeq (sIf (dTest (dOp pyNe (dCall sp_words_in (dCons (dVar 2) dNil)) (dB pyTup (dCons (dVar 10) dNil)))) (sRet (dC (.bl false))) sNext) (sFor (dIter (dLst (dCons (dUn pyNeg (dC (.int 1))) (dCons (dB pyLen (dCons (dVar 2) dNil)) (dCons (dC (.bl true)) (dCons (dC .non) (dCons (dC (.str "0")) dNil))))))) (.n 12) (sIf (dTest (dOp pyNe (dTold (dCall sp_goals (dCons (dVar 2) (dCons (dVar 12) dNil)))) (dTup (dCons (dC (.str "refused")) (dCons (dC (.str "BadNumber")) dNil))))) (sRet (dC (.bl false))) sNext)))
def x_law_rest : EvX := xSeq (xIf (eTest (eOp pyNe (eCall e_words_in (eCons (eVar 2) (eC []))) (eB pyTup (eCons (eVar 10) (eC []))))) (xRet (eC (.bl false))) (xNext)) (xFor (eIter (eLst (eCons (eUn pyNeg (eC (.int 1))) (eCons (eB pyLen (eCons (eVar 2) (eC []))) (eCons (eC (.bl true)) (eCons (eC .non) (eCons (eC (.str "0")) (eC [])))))))) (.n 12) (xIf (eTest (eOp pyNe (eTold (eCall e_goals (eCons (eVar 2) (eCons (eVar 12) (eC []))))) (eTup (eCons (eC (.str "refused")) (eCons (eC (.str "BadNumber")) (eC [])))))) (xRet (eC (.bl false))) (xNext)))
theorem xv_law_rest : EvS t_law_rest x_law_rest := xv_seq (xv_if (ev_test (ev_op m_ne (ev_call ev_words_in (ev_cons (ev_var 2) (ev_nil))) (ev_b m_tup (ev_cons (ev_var 10) (ev_nil))))) (xv_ret (ev_c _)) (xv_next)) (xv_for (ev_iter (ev_lst (ev_cons (ev_un m_neg (ev_c _)) (ev_cons (ev_b m_len (ev_cons (ev_var 2) (ev_nil))) (ev_cons (ev_c _) (ev_cons (ev_c _) (ev_cons (ev_c _) (ev_nil)))))))) (xv_if (ev_test (ev_op m_ne (ev_told (ev_call ev_goals (ev_cons (ev_var 2) (ev_cons (ev_var 12) (ev_nil))))) (ev_tup (ev_cons (ev_c _) (ev_cons (ev_c _) (ev_nil)))))) (xv_ret (ev_c _)) (xv_next)))
theorem law_fn (fx : Fx P w K T mg base) {fd : FuncData} (F : FunD K "law" "law" (defArgs s_law) (defBody s_law) (defScope s_law) [] [] (He.fAd K ("law", none)) fd) : FnOk P w K mg base (L2N.CX P w) 10 (He.fAd K ("law", none)) fd ["script"] (liftSp K T sp_law) :=
  fna_of F sc_law (fun cdv A outer s H E hcd hr => (qs_cons (qs_for (passes_of rfl) rfl (qi_it (q_call (_law_rounds_ok fx) hr (by decide) (L2N.takes_of rfl rfl rfl rfl) rfl (qa_cons (qv 0) (qa_cons (q_int) qa_nil)))) (pg_name sc_law.nd rfl (by first | exact Or.inl rfl | exact Or.inr rfl)) (qs_cons (qs_set sc_law.nd rfl (by first | exact Or.inl rfl | exact Or.inr rfl) (q_call (_law_any_program_ok fx) hr (by decide) (L2N.takes_of rfl rfl rfl rfl) rfl (qa_cons (qv 1) (qa_cons (q_int) qa_nil)))) (qs_cons (qs_set sc_law.nd rfl (by first | exact Or.inl rfl | exact Or.inr rfl) (q_lstB qa_nil)) (qs_cons (qs_for (passes_of rfl) rfl (qi_enum rfl (fx.free "enumerate" (by decide)) (qa_cons (qv 2) qa_nil)) (pg_tup rfl (pgs_cons (pg_name sc_law.nd rfl (by first | exact Or.inl rfl | exact Or.inr rfl)) (pgs_cons (pg_name sc_law.nd rfl (by first | exact Or.inl rfl | exact Or.inr rfl)) pgs_nil))) (qs_cons (qs_set sc_law.nd rfl (by first | exact Or.inl rfl | exact Or.inr rfl) (q_if (q_cmpT (op_pyNotIn (hu_of hr)) (q_item (hu_of hr) (qv 5) (q_int)) (q_tup (qa_cons (q_str) (qa_cons (q_str) qa_nil))) rfl) (q_lst (qa_cons (q_op op_pyAdd (qv 4) (q_int)) qa_nil)) (q_lst qa_nil))) (qs_cons (qs_if (q_cmpT (op_pyIn (hu_of hr)) (q_item (hu_of hr) (qv 5) (q_int)) (q_tup (qa_cons (q_str) (qa_cons (q_str) qa_nil))) rfl) (qs_one (qs_set sc_law.nd rfl (by first | exact Or.inl rfl | exact Or.inr rfl) (q_op op_pyAdd (qv 6) (q_lst (qa_cons (q_item (hu_of hr) (qv 5) (q_un un_pyNeg (q_int))) qa_nil))))) qs_nil) (qs_cons (qs_expr (q_mt PySem.F.plainAttrs_list PySem.F.slot_list_append PySem.F.type_list_append mt_mAppend (qv 3) (qa_cons (q_sortedSet rfl rfl (fx.free "sorted" (by decide)) rfl (fx.free "set" (by decide)) (qv 6)) qa_nil))) (qs_one (qs_if (q_cmpT (op_pyNe hr.units) (q_call (goals_ok fx) hr (by decide) (L2N.takes_of rfl rfl rfl rfl) rfl (qa_cons (qv 2) (qa_cons (qv 4) qa_nil))) (q_item (hu_of hr) (qv 3) (qv 4)) (nomark _)) (qs_one (qs_ret (q_bl))) qs_nil)))))) (qs_cons (qs_par rfl sc_law.nd rfl rfl (by decide) rfl rfl (qa_cons (q_lstB qa_nil) (qa_cons (q_lstB (qa_cons (q_int) qa_nil)) qa_nil)) rfl) (qs_cons (qs_while (passes_of rfl) (q_cmpT (op_pyNe hr.units) (qv 8) (q_lst qa_nil) (nomark _)) (qs_cons (qs_set sc_law.nd rfl (by first | exact Or.inl rfl | exact Or.inr rfl) (q_mt0 PySem.F.plainAttrs_list PySem.F.slot_list_pop PySem.F.type_list_pop mt_mPop (qv 8))) (qs_one (qs_if (qt_w (qw_and (q_cmpT op_pyLt (qv 9) (q_callB call_pyLen rfl (fx.free "len" (by decide)) boot_len (qa_cons (qv 2) qa_nil)) (nomark _)) (qw_and1 (q_cmpT (op_pyNotIn (hu_of hr)) (qv 9) (qv 7) rfl)))) (qs_cons (qs_expr (q_mt PySem.F.plainAttrs_list PySem.F.slot_list_append PySem.F.type_list_append mt_mAppend (qv 7) (qa_cons (qv 9) qa_nil))) (qs_one (qs_set sc_law.nd rfl (by first | exact Or.inl rfl | exact Or.inr rfl) (q_opB op_addB (qv 8) (q_item (hu_of hr) (qv 3) (qv 9)))))) qs_nil)))) (qs_cons (qs_if (q_cmpT (op_pyNe hr.units) (q_call (come_to_ok fx) hr (by decide) (L2N.takes_of rfl rfl rfl rfl) rfl (qa_cons (qv 2) qa_nil)) (q_callB (call_pySorted rfl) rfl (fx.free "sorted" (by decide)) boot_sorted (qa_cons (qv 7) qa_nil)) (nomark _)) (qs_one (qs_ret (q_bl))) qs_nil) (qs_cons (qs_set sc_law.nd rfl (by first | exact Or.inl rfl | exact Or.inr rfl) (q_lstB qa_nil)) (qs_cons (qs_for (passes_of rfl) rfl (qi_it (q_lst (qa_cons (q_str) (qa_cons (q_str) (qa_cons (q_str) (qa_cons (q_str) qa_nil)))))) (pg_name sc_law.nd rfl (by first | exact Or.inl rfl | exact Or.inr rfl)) (qs_one (qs_expr (q_mt PySem.F.plainAttrs_list PySem.F.slot_list_append PySem.F.type_list_append mt_mAppend (qv 10) (qa_cons (q_callTy call_pyTup rfl (fx.free "tuple" (by decide)) boot_tuple (qa_cons (q_sortedSet rfl rfl (fx.free "sorted" (by decide)) rfl (fx.free "set" (by decide)) (q_lc [("one", 5)] rfl sc_law.nd (qi_it (qv 2)) (blkOk_by (by kernel_rfl)) rfl (fun s H C cl fp => (pg_name sc_law.nd rfl (by first | exact Or.inl rfl | exact Or.inr rfl))) (fun s H C cl fp => (qts_one (q_cmpT (op_pyEq hr.units) (q_item (hu_of hr) (qv 5) (q_int)) (qv 11) (nomark _)))) (fun s H C cl fp => (q_item (hu_of hr) (qv 5) (q_un un_pyNeg (q_int)))))) qa_nil)) qa_nil))))) (qs_cons (qs_if (q_cmpT (op_pyNe hr.units) (q_call (words_in_ok fx) hr (by decide) (L2N.takes_of rfl rfl rfl rfl) rfl (qa_cons (qv 2) qa_nil)) (q_callTy call_pyTup rfl (fx.free "tuple" (by decide)) boot_tuple (qa_cons (qv 10) qa_nil)) (nomark _)) (qs_one (qs_ret (q_bl))) qs_nil) (qs_one (qs_for (passes_of rfl) rfl (qi_it (q_lst (qa_cons (q_un un_pyNeg (q_int)) (qa_cons (q_callB call_pyLen rfl (fx.free "len" (by decide)) boot_len (qa_cons (qv 2) qa_nil)) (qa_cons (q_bl) (qa_cons (q_non) (qa_cons (q_str) qa_nil))))))) (pg_name sc_law.nd rfl (by first | exact Or.inl rfl | exact Or.inr rfl)) (qs_one (qs_if (q_cmpT (op_pyNe hr.units) (q_told (_law_told_ok fx) (lam_law fx cdv A outer s H E hcd) rfl hr (by decide) (lamS_by (by kernel_rfl)) (fun A outer s H E f c2 hr => (q_call (goals_ok fx) hr (by decide) takes_lam rfl (qa_cons (qv 2) (qa_cons (qv 12) qa_nil))))) (q_tup (qa_cons (q_str) (qa_cons (q_str) qa_nil))) (nomark _)) (qs_one (qs_ret (q_bl))) qs_nil)))))))))))))) (qs_one (qs_ret (q_bl)))))
end
end K02

namespace K02
open DL L2 PySem
def b__law_any_order_0 : DTS := (sIf (dTest (dOp pyEq (dVar 5) (dC (.str "r")))) (sDrop (dMt "list" mAppend (dVar 4) (dCons (dCall sp__law_roll (dCons (dVar 0) (dCons (dC (.int 4)) dNil))) dNil))) (sIf (dTest (dOp pyEq (dVar 5) (dC (.str "n")))) (sDrop (dMt "list" mAppend (dVar 4) (dCons (dOp pyItem (dLst (dCons (dC (.int 0)) (dCons (dC (.int 1)) (dCons (dC (.int 2)) (dCons (dC (.int 3)) (dCons (dC (.int 5)) (dCons (dUn pyNeg (dC (.int 1))) (dCons (dC (.int 9)) (dCons (dC (.int 400)) (dCons (dC (.int 999)) dNil)))))))))) (dCall sp__law_roll (dCons (dVar 0) (dCons (dC (.int 9)) dNil)))) dNil))) (sIf (dTest (dOp pyEq (dVar 5) (dC (.str "g")))) (sDrop (dMt "list" mAppend (dVar 4) (dCons (dCall sp__law_roll (dCons (dVar 0) (dCons (dOp pyAdd (dVar 1) (dB pyIntS (dCons (dOp pyEq (dCall sp__law_roll (dCons (dVar 0) (dCons (dC (.int 12)) dNil))) (dC (.int 0))) dNil))) dNil))) dNil))) (sSeq (sSet 6 (dIf (dTest (dOp pyIn (dVar 3) (dTup (dCons (dC (.str "look")) (dCons (dC (.str "mark")) dNil))))) (dCall sp__law_page_pool dNil) (dCall sp__law_door_pool dNil))) (sDrop (dMt "list" mAppend (dVar 4) (dCons (dOp pyItem (dVar 6) (dCall sp__law_roll (dCons (dVar 0) (dCons (dB pyLen (dCons (dVar 6) dNil)) dNil)))) dNil)))))))
/-! ### the dice -/
theorem drawn_ok {cell k : Int} {G : DG} {Q : DK} {E : DX → DG → Prop} (h : ∀ r, 0 ≤ r → Q (.int r) G) : sp__law_drawn [.int cell, .int k] G Q E := by
  refine ⟨rfl, ?_⟩
  simp only [t__law_drawn, sSeq, sSet, sRet, dOp, dVar, dC, dstart]
  refine ⟨_, rfl, _, mulS _ _ (by decide), _, rfl, _, rfl, _, mulS _ _ (by decide), _, rfl, _, modP _ _ (by decide), _, rfl, _, rfl, ?_⟩
  generalize ha : (cell * 6364136223846793005 + (k + 1) * 1442695040888963407) % 340282366920938463463374607431768211507 = a
  have a0 : 0 ≤ a := by rw [← ha]; exact Int.emod_nonneg _ (by decide)
  have a1 : a < 2 ^ 129 := by
    have := Int.emod_lt_of_pos (cell * 6364136223846793005 + (k + 1) * 1442695040888963407) (show (0 : Int) < 340282366920938463463374607431768211507 by decide)
    rw [ha] at this
    exact Int.lt_trans this (by decide)
  have aw := pow_600 (by decide) (bits_lt a0 a1)
  refine ⟨_, mulW _ aw aw, _, modP _ _ (by decide), _, rfl, ?_⟩
  generalize hb : a * a % 340282366920938463463374607431768211297 = b
  have b0 : 0 ≤ b := by rw [← hb]; exact Int.emod_nonneg _ (by decide)
  have b1 : b < 2 ^ 128 := by
    have := Int.emod_lt_of_pos (a * a) (show (0 : Int) < 340282366920938463463374607431768211297 by decide)
    rw [hb] at this
    exact Int.lt_trans this (by decide)
  have bw := bits_lt b0 b1
  refine ⟨_, modP _ _ (by decide), _, rfl, _, rfl, _, divP _ _ (by decide) (by decide), _, rfl, ?_⟩
  have c0 : 0 ≤ b % 18446744073709551557 := Int.emod_nonneg _ (by decide)
  have c1 : b % 18446744073709551557 < 18446744073709551557 := Int.emod_lt_of_pos _ (by decide)
  have d0 : 0 ≤ b / 18446744073709551557 := Int.ediv_nonneg b0 (by decide)
  have d1 : b / 18446744073709551557 ≤ b := Int.ediv_le_self _ b0
  have x1 : (b % 18446744073709551557 + 1).natAbs < 2 ^ 65 := bits_lt (by omega) (Int.lt_of_le_of_lt (by omega : _ ≤ (18446744073709551557 : Int)) (by decide))
  have x2 : (b / 18446744073709551557 + 1).natAbs < 2 ^ 129 := bits_lt (by omega) (Int.lt_of_le_of_lt (by omega : _ ≤ (2 : Int) ^ 128) (by decide))
  refine ⟨_, mulW _ (pow_600 (by decide) x1) (pow_600 (by decide) x2), _, rfl, _, mulW _ (pow_600 (m := 65 + 129) (by decide) (wide_lt x1 x2)) (pow_600 (by decide) bw), _, rfl, _, modP _ _ (by decide), h _ (Int.emod_nonneg _ (by decide))⟩
theorem roll_ok {p : Addr} {c k many : Int} {G : DG} {Q : DK} {E : DX → DG → Prop} (hG : G p = some (.lst [.int c, .int k])) (hm : 0 < many) (hm2 : many < 1000000) (h : ∀ r c' k', 0 ≤ r → r < many → Q (.int r) (gset G p (some (.lst [.int c', .int k'])))) : sp__law_roll [.ref p, .int many] G Q E := by
  refine ⟨rfl, ?_⟩
  have aq : asQ G (.ref p) = some [.int c, .int k] := by show lstO (G p) = _; rw [hG]; rfl
  have i0 : pyItem G (.ref p) (.int 0) = some (.int c) := by simp only [pyItem, aq]; rfl
  have i1 : pyItem G (.ref p) (.int 1) = some (.int k) := by simp only [pyItem, aq]; rfl
  have big : many < 2 ^ 600 := Int.lt_trans hm2 (by decide)
  simp only [t__law_roll, sSeq, sSet, sRet, sIf, sSub, sNext, dTest, dOp, dVar, dC, dCons, dNil, dCall, dstart]
  refine ⟨_, rfl, _, i0, _, rfl, _, rfl, _, rfl, ?_⟩
  by_cases hc : (10 : Int) ^ (18 : Int).toNat ≤ c
  · rw [decide_eq_true hc, if_pos rfl]
    refine ⟨_, rfl, _, i0, _, rfl, _, modP _ _ hm, _, rfl, _, i0, _, rfl, _, divP _ _ hm big, _, rfl, gset G p (some (.lst [.int (c / many), .int k])), ?_, _, rfl, ?_⟩
    · simp only [setAt, hG]; rfl
    · exact h _ _ _ (Int.emod_nonneg _ (by omega)) (Int.emod_lt_of_pos _ hm)
  · rw [decide_eq_false hc, if_neg Bool.false_ne_true]
    refine ⟨_, rfl, _, i1, _, rfl, _, rfl, gset G p (some (.lst [.int c, .int (k + 1)])), ?_, ?_⟩
    · simp only [setAt, hG]; rfl
    · have aq' : asQ (gset G p (some (.lst [.int c, .int (k + 1)]))) (.ref p) = some [.int c, .int (k + 1)] := by show lstO (gset G p _ p) = _; rw [gset_same]; rfl
      have j0 : pyItem (gset G p (some (.lst [.int c, .int (k + 1)]))) (.ref p) (.int 0) = some (.int c) := by simp only [pyItem, aq']; rfl
      have j1 : pyItem (gset G p (some (.lst [.int c, .int (k + 1)]))) (.ref p) (.int 1) = some (.int (k + 1)) := by simp only [pyItem, aq']; rfl
      refine ⟨_, rfl, _, j0, _, rfl, _, j1, ?_⟩
      refine drawn_ok fun r hr => ⟨_, divP _ _ (by decide) (by decide), _, rfl, _, modP _ _ hm, ?_⟩
      exact h _ _ _ (Int.emod_nonneg _ (by omega)) (Int.emod_lt_of_pos _ hm)
theorem toPy_ints (G : DG) : ∀ ns : List Int, mapO (toPy G 39) (ns.map .int) = some (ns.map PyData.int)
  | [] => rfl
  | n :: ns => by
    rw [List.map_cons]
    unfold mapO
    rw [toPy_ints G ns]
    rfl
theorem scr_nil (G : DG) (ns : List Int) : pyEq G (.scr ns) (.lst []) = some (.bl (decide (ns = []))) := by
  have e1 : toPy G 40 (.scr ns) = some (.list (ns.map PyData.int)) := by
    show (mapO (toPy G 39) (ns.map .int)).map PyData.list = _
    rw [toPy_ints]
    rfl
  have e2 : toPy G 40 (.lst []) = some (.list []) := rfl
  unfold pyEq pyEqB
  simp only [e1, e2, Option.map_some]
  cases ns with
  | nil => rfl
  | cons n ns => simp [PyData.eqv, PyData.eqvAll]
theorem cell_ok {ns : List Int} {k : Int} {G : DG} {Q : DK} {E : DX → DG → Prop} (hk : 0 ≤ k) (hl : ns.length ≤ 1000000) (h : ∀ c, Q (.int c) G) : sp__law_cell [.scr ns, .int k] G Q E := by
  refine ⟨rfl, ?_⟩
  simp only [t__law_cell, sSeq, sSet, sRet, sIf, sNext, dTest, dOp, dVar, dC, dCons, dNil, dB, dLst, dstart]
  refine ⟨_, rfl, by decide, _, scr_nil G ns, _, rfl, ?_⟩
  by_cases hn : ns = []
  · rw [decide_eq_true hn, if_pos rfl]
    exact ⟨_, rfl, _, mulS _ _ (by decide), h _⟩
  · rw [decide_eq_false hn, if_neg Bool.false_ne_true]
    have hp : 0 < ns.length := List.length_pos_iff.mpr hn
    have len : pyLen G [.scr ns] = some (.int ns.length) := by
      show some (D.int ((ns.map D.int).length : Nat)) = _
      rw [List.length_map]
    have m0 : 0 ≤ k % (ns.length : Int) := Int.emod_nonneg _ (by omega)
    have m1 : k % (ns.length : Int) < ns.length := Int.emod_lt_of_pos _ (by omega)
    have big : (ns.length : Int) < 2 ^ 600 := Int.lt_of_le_of_lt (by omega : _ ≤ (1000000 : Int)) (by decide)
    refine ⟨_, rfl, _, rfl, _, rfl, _, len, _, modP _ _ (by omega), .int (ns[(k % (ns.length : Int)).toNat]'(by omega)), ?_, _, rfl, _, rfl, _, len, _, divP _ _ (by omega) big, _, mulS _ _ (by decide), _, rfl, h _⟩
    show (atI (ns.map D.int) (k % (ns.length : Int))) = _
    unfold atI ixN
    rw [if_pos m0, if_pos (by rw [List.length_map]; exact m1)]
    simp
def DiceOk (G : DG) (ps : List Addr) : Prop := ∀ p ∈ ps, ∃ c k, G p = some (.lst [.int c, .int k])
/-- what stands besides the dice stays -/
structure Fr (ps : List Addr) (G G' : DG) : Prop where
  dice : DiceOk G' ps
  rest : ∀ b, b ∉ ps → G b ≠ none → G' b = G b
theorem Fr.trans {ps : List Addr} {G G' G'' : DG} (a : Fr ps G G') (b : Fr ps G' G'') : Fr ps G G'' := ⟨b.dice, fun x hx h => by
  have e := a.rest x hx h
  rw [← e]
  exact b.rest x hx (by rw [e]; exact h)⟩
theorem Fr.refl {ps : List Addr} {G : DG} (h : DiceOk G ps) : Fr ps G G := ⟨h, fun _ _ _ => rfl⟩
/-- a new object -/
theorem Fr.new {ps : List Addr} {G : DG} {q : Addr} {o : Option DO} (h : DiceOk G ps) (hq : G q = none) : Fr ps G (gset G q o) := ⟨fun p hp => by
  have e : p ≠ q := fun z => by
    obtain ⟨c, k, e⟩ := h p hp
    rw [z, hq] at e; cases e
  rw [gset_ne e]; exact h p hp, fun b _ hb => gset_ne fun e => hb (e ▸ hq)⟩
theorem Fr.get {ps : List Addr} {G G' : DG} {q : Addr} {o : DO} (f : Fr ps G G') (hq : q ∉ ps) (h : G q = some o) : G' q = some o := by rw [f.rest q hq (by rw [h]; simp), h]
theorem not_dice {ps : List Addr} {G : DG} {q : Addr} (h : DiceOk G ps) (hq : G q = none) : q ∉ ps := fun z => by
  obtain ⟨c, k, e⟩ := h q z
  rw [hq] at e; cases e
theorem rounds_loop {ns : List Int} (hl : ns.length ≤ 1000000) {guard : DG → Prop} (hg : ∀ G, guard G) {o1 o2 : Option D} : ∀ (m : Nat) (lo : Int) (G : DG) (P : List D → DG → Prop), 0 ≤ lo → (∀ ps G', ps.length = m → (∀ p ∈ ps, G p = none) → DiceOk G' ps → (∀ b, G b ≠ none → G' b = G b) → P (ps.map .ref) G') →
    dLcL (.n 2) dYes (dLstB (dCons (dCall sp__law_cell (dCons (dVar 0) (dCons (dVar 2) dNil))) (dCons (dC (.int 0)) dNil))) guard [some (.scr ns), o1, o2] (intsFrom lo m) G P
  | 0, lo, G, P, _, h => ⟨hg G, h [] G rfl (fun p hp => by cases hp) (fun p hp => by cases hp) fun b _ => rfl⟩
  | m + 1, lo, G, P, h0, h => by
    refine ⟨hg G, ?_⟩
    show dTg (.n 2) (.int lo) _ _
    simp only [dTg, dYes, if_true, dLstB, dCons, dCall, dVar, dC, dNil]
    refine ⟨_, rfl, _, rfl, ?_⟩
    refine cell_ok h0 hl fun c => ⟨by simp, fun p hp => ?_⟩
    refine rounds_loop hl hg m (lo + 1) _ _ (by omega) fun ps G' hlen hfr hd hk => ?_
    have hpp : gset G p (some (.lst [.int c, .int 0])) p = some (.lst [.int c, .int 0]) := gset_same
    refine h (p :: ps) G' (by simp [hlen]) (fun q hq => ?_) (fun q hq => ?_) (fun b hb => ?_)
    · rcases List.mem_cons.mp hq with e | hq
      · rw [e]; exact hp
      · have := hfr q hq
        by_cases e : q = p
        · rw [e]; exact hp
        · rwa [gset_ne e] at this
    · rcases List.mem_cons.mp hq with e | hq
      · rw [e]
        exact ⟨c, 0, by rw [hk p (by rw [hpp]; simp), hpp]⟩
      · exact hd q hq
    · have e : b ≠ p := fun z => hb (by rw [z]; exact hp)
      have e2 : gset G p (some (.lst [.int c, .int 0])) b = G b := gset_ne e
      rw [← e2]
      exact hk b (by rw [e2]; exact hb)
theorem rounds_ok {ns : List Int} {high : Int} {G : DG} {Q : DK} {E : DX → DG → Prop} (hl : ns.length ≤ 1000000) (h1 : 1 ≤ high) (h2 : high ≤ 1000) (h : ∀ ps G', (∀ p ∈ ps, G p = none) → DiceOk G' ps → (∀ b, G b ≠ none → G' b = G b) → Q (.lst (ps.map .ref)) G') : sp__law_rounds [.scr ns, .int high] G Q E := by
  refine ⟨rfl, ?_⟩
  have len : pyLen G [.scr ns] = some (.int ns.length) := by
    show some (D.int ((ns.map D.int).length : Nat)) = _
    rw [List.length_map]
  simp only [t__law_rounds, sRet, dLc, dRange1, dB, dCons, dNil, dVar, dC, dstart]
  refine ⟨_, rfl, _, rfl, _, len, _, rfl, _, rfl, ?_⟩
  generalize hm : (if (if (ns.length : Int) < high then (ns.length : Int) else high) > 1 then (if (ns.length : Int) < high then (ns.length : Int) else high) else 1) = m
  have m1 : 1 ≤ m ∧ m ≤ 1000 := by rw [← hm]; split <;> (try split) <;> omega
  refine ⟨m, rfl, by omega, by omega, by rw [intsFrom_len]; omega, ?_⟩
  exact rounds_loop hl (fun _ => trivial) m.toNat 0 G _ (by decide) fun ps G' _ hfr hd hk => h ps G' hfr hd hk
theorem roll_d {ps : List Addr} {p : Addr} {many : Int} {G : DG} {Q : DK} {E : DX → DG → Prop} (hp : p ∈ ps) (hd : DiceOk G ps) (hm : 0 < many) (hm2 : many < 1000000) (h : ∀ r G', 0 ≤ r → r < many → Fr ps G G' → Q (.int r) G') : sp__law_roll [.ref p, .int many] G Q E := by
  obtain ⟨c, k, hG⟩ := hd p hp
  exact roll_ok hG hm hm2 fun r c' k' h0 h1 => h r _ h0 h1 ⟨fun q hq => by
    by_cases e : q = p
    · rw [e, gset_same]; exact ⟨c', k', rfl⟩
    · rw [gset_ne e]; exact hd q hq, fun b hb _ => gset_ne fun e => hb (e ▸ hp)⟩
/-! ### drawn programs and rights -/
theorem item_nth {G : DG} {xs : List D} {r : Int} (h0 : 0 ≤ r) (h1 : r < xs.length) : ∃ d ∈ xs, pyItem G (.lst xs) (.int r) = some d := by
  refine ⟨xs[r.toNat]'(by omega), List.getElem_mem _, ?_⟩
  show atI xs r = _
  unfold atI ixN
  rw [if_pos h0, if_pos h1]
  simp
theorem append_ok {G : DG} {q : Addr} {acc : List D} {x : D} (h : G q = some (.lst acc)) (hl : acc.length < 16000000) : mAppend G (.ref q) [x] = some (.non, gset G q (some (.lst (acc ++ [x])))) := by
  simp only [mAppend, h, lstO, if_pos hl]
theorem ty_lst {G : DG} {q : Addr} {acc : List D} (h : G q = some (.lst acc)) : tyM G (.ref q) = some "list" := by
  simp only [tyM, h, tyL]
theorem one_dec (c d : Char) : pyEq G0 (.str (String.singleton c)) (.str (String.singleton d)) = some (.bl (decide (c = d))) := by
  rw [PL.eq_str, PL.one_eq]
/-- the frame of a list that grows -/
structure FrB (ps : List Addr) (q : Addr) (G G' : DG) : Prop where
  dice : DiceOk G' ps
  rest : ∀ b, b ∉ ps → b ≠ q → G b ≠ none → G' b = G b
theorem FrB.trans {ps : List Addr} {q : Addr} {G G' G'' : DG} (a : FrB ps q G G') (b : FrB ps q G' G'') : FrB ps q G G'' := ⟨b.dice, fun x hx hq h => by
  have e := a.rest x hx hq h
  rw [← e]
  exact b.rest x hx hq (by rw [e]; exact h)⟩
theorem Fr.toB {ps : List Addr} {q : Addr} {G G' : DG} (a : Fr ps G G') : FrB ps q G G' := ⟨a.dice, fun b hb _ h => a.rest b hb h⟩
theorem FrB.set {ps : List Addr} {q : Addr} {G G' : DG} {o : Option DO} (a : FrB ps q G G') (hq : q ∉ ps) : FrB ps q G (gset G' q o) := ⟨fun p hp => by
  rw [gset_ne (fun (e : p = q) => hq (e ▸ hp))]; exact a.dice p hp, fun b hb hbq h => by rw [gset_ne hbq]; exact a.rest b hb hbq h⟩
theorem FrB.fr {ps : List Addr} {q : Addr} {G G' : DG} {o : Option DO} (hn : G q = none) (a : FrB ps q (gset G q o) G') : Fr ps G G' := ⟨a.dice, fun b hb h => by
  have e : b ≠ q := fun z => h (by rw [z]; exact hn)
  rw [a.rest b hb e (by rw [gset_ne e]; exact h), gset_ne e]⟩
def nums9 : List D := [.int 0, .int 1, .int 2, .int 3, .int 5, .int (-1), .int 9, .int 400, .int 999]
theorem nums9_ok : ∀ d ∈ nums9, PL.isPart 'n' d = true := by
  intro d hd
  simp only [nums9, List.mem_cons, List.not_mem_nil, or_false] at hd
  rcases hd with rfl | rfl | rfl | rfl | rfl | rfl | rfl | rfl | rfl <;> decide
theorem pools_ok : ∀ d ∈ [D.str "log", .str "sky", .str "bus", .str "in", .str "out"], PL.isPart 'w' d = true := by
  intro d hd
  simp only [List.mem_cons, List.not_mem_nil, or_false] at hd
  rcases hd with rfl | rfl | rfl | rfl | rfl <;> decide
theorem door_ok {G : DG} {Q : DK} {E : DX → DG → Prop} (h : Q (.lst [.str "bus", .str "in", .str "out"]) G) : sp__law_door_pool [] G Q E := ev__law_door_pool [] (.ok (.lst [.str "bus", .str "in", .str "out"])) (by kernel_rfl) G Q E h
theorem page_ok {G : DG} {Q : DK} {E : DX → DG → Prop} (h : Q (.lst [.str "log", .str "sky"]) G) : sp__law_page_pool [] G Q E := ev__law_page_pool [] (.ok (.lst [.str "log", .str "sky"])) (by kernel_rfl) G Q E h
theorem order_body {ps : List Addr} {p q : Addr} (hp : p ∈ ps) (hq : q ∉ ps) {many : Int} (hm : 1 ≤ many ∧ many ≤ 60) {w : String} {a2 a6 : Option D} {E : DXK} {DE : DEnds} {c : Char} (hc : c = 'r' ∨ c = 'n' ∨ c = 'g' ∨ c = 'w') {acc : List D} (hl : acc.length ≤ 10) {G : DG} (hd : DiceOk G ps) (hG : G q = some (.lst acc))
    (go1 : ∀ (d : D) (a6 : Option D) (G1 : DG), PL.isPart c d = true → FrB ps q G G1 → G1 q = some (.lst acc) → DE.nx [some (.ref p), some (.int many), a2, some (.str w), some (.ref q), some (.str (String.singleton c)), a6] (gset G1 q (some (.lst (acc ++ [d]))))) :
    b__law_any_order_0 E DE [some (.ref p), some (.int many), a2, some (.str w), some (.ref q), some (.str (String.singleton c)), a6] G := by
  have hal : acc.length < 16000000 := by omega
  simp only [b__law_any_order_0, sIf, sSeq, sSet, sDrop, dTest, dOp, dVar, dC, dMt, dCall, dCons, dNil, dIf, dTup, dB, dLst, dUn]
  refine ⟨_, rfl, _, m_eq _ _ _ _ (one_dec c 'r'), _, rfl, ?_⟩
  by_cases h1 : c = 'r'
  · rw [decide_eq_true h1, if_pos rfl]
    refine ⟨_, rfl, ty_lst hG, _, rfl, ?_⟩
    refine roll_d hp hd (by decide) (by decide) fun r G1 r0 r1 f => ?_
    have h2 := f.get hq hG
    refine ⟨_, _, append_ok h2 hal, go1 _ _ _ ?_ f.toB h2⟩
    rw [h1]
    show (decide _ && decide _) = true
    rw [decide_eq_true r0, decide_eq_true (show r ≤ 3 by omega)]
    rfl
  rw [decide_eq_false h1, if_neg Bool.false_ne_true]
  refine ⟨_, rfl, _, m_eq _ _ _ _ (one_dec c 'n'), _, rfl, ?_⟩
  by_cases h2 : c = 'n'
  · rw [decide_eq_true h2, if_pos rfl]
    refine ⟨_, rfl, ty_lst hG, _, rfl, by simp, _, rfl, ?_⟩
    refine roll_d hp hd (by decide) (by decide) fun r G1 r0 r1 f => ?_
    have h3 := f.get hq hG
    obtain ⟨d, hd9, e⟩ := item_nth (G := G1) (xs := nums9) r0 r1
    refine ⟨d, e, _, _, append_ok h3 hal, go1 _ _ _ ?_ f.toB h3⟩
    rw [h2]
    exact nums9_ok d hd9
  rw [decide_eq_false h2, if_neg Bool.false_ne_true]
  refine ⟨_, rfl, _, m_eq _ _ _ _ (one_dec c 'g'), _, rfl, ?_⟩
  by_cases h3 : c = 'g'
  · rw [decide_eq_true h3, if_pos rfl]
    refine ⟨_, rfl, ty_lst hG, _, rfl, _, rfl, _, rfl, ?_⟩
    refine roll_d hp hd (by decide) (by decide) fun r G1 r0 r1 f => ⟨_, rfl, _, rfl, _, rfl, ?_⟩
    have b1 : (if decide (r = 0) = true then (1 : Int) else 0) = 0 ∨ (if decide (r = 0) = true then (1 : Int) else 0) = 1 := by split <;> simp
    generalize (if decide (r = 0) = true then (1 : Int) else 0) = b at b1
    refine roll_d hp f.dice (by omega) (by omega) fun r2 G2 r20 r21 f2 => ?_
    have h4 := (f.trans f2).get hq hG
    refine ⟨_, _, append_ok h4 hal, go1 _ _ _ ?_ (f.trans f2).toB h4⟩
    rw [h3]
    show (decide _ && decide _) = true
    rw [decide_eq_true r20, decide_eq_true (show r2 ≤ 99 by omega)]
    rfl
  rw [decide_eq_false h3, if_neg Bool.false_ne_true]
  have hcw : c = 'w' := by
    rcases hc with z | z | z | z
    · exact absurd z h1
    · exact absurd z h2
    · exact absurd z h3
    · exact z
  refine ⟨_, rfl, by simp, _, rfl, _, rfl, ?_⟩
  generalize (([D.str "look", .str "mark"].any fun z => eqF z (.str w))) = bb
  cases bb with
  | true =>
    rw [if_pos rfl]
    refine page_ok ⟨_, rfl, ty_lst hG, _, rfl, _, rfl, _, rfl, _, rfl, ?_⟩
    refine roll_d hp hd (by decide) (by decide) fun r G1 r0 r1 f => ?_
    have h5 := f.get hq hG
    obtain ⟨d, hd9, e⟩ := item_nth (G := G1) (xs := [.str "log", .str "sky"]) r0 r1
    refine ⟨d, e, _, _, append_ok h5 hal, go1 _ _ _ ?_ f.toB h5⟩
    rw [hcw]
    exact pools_ok d (by simp at hd9 ⊢; rcases hd9 with h | h <;> simp [h])
  | false =>
    rw [if_neg Bool.false_ne_true]
    refine door_ok ⟨_, rfl, ty_lst hG, _, rfl, _, rfl, _, rfl, _, rfl, ?_⟩
    refine roll_d hp hd (by decide) (by decide) fun r G1 r0 r1 f => ?_
    have h5 := f.get hq hG
    obtain ⟨d, hd9, e⟩ := item_nth (G := G1) (xs := [.str "bus", .str "in", .str "out"]) r0 r1
    refine ⟨d, e, _, _, append_ok h5 hal, go1 _ _ _ ?_ f.toB h5⟩
    rw [hcw]
    exact pools_ok d (by simp at hd9 ⊢; rcases hd9 with h | h | h <;> simp [h])
theorem order_loop {ps : List Addr} {p q : Addr} (hp : p ∈ ps) (hq : q ∉ ps) {many : Int} (hm : 1 ≤ many ∧ many ≤ 60) {w : String} {a2 : Option D} {E : DXK} {DE : DEnds} {guard : DG → Prop} (hg : ∀ G, guard G) :
    ∀ (cs : List Char) (acc : List D) (a5 a6 : Option D) (G : DG), (∀ c ∈ cs, c = 'r' ∨ c = 'n' ∨ c = 'g' ∨ c = 'w') → acc.length + cs.length ≤ 10 → DiceOk G ps → G q = some (.lst acc) →
    (∀ parts a5 a6 G', parts.length = cs.length → (∀ x ∈ cs.zip parts, PL.isPart x.1 x.2 = true) → G' q = some (.lst (acc ++ parts)) → FrB ps q G G' → DE.nx [some (.ref p), some (.int many), a2, some (.str w), some (.ref q), a5, a6] G') →
    dLoop E (.n 5) b__law_any_order_0 DE guard (cs.map fun c => .str (String.singleton c)) [some (.ref p), some (.int many), a2, some (.str w), some (.ref q), a5, a6] G
  | [], acc, a5, a6, G, _, _, hd, hG, k => ⟨hg G, k [] a5 a6 G rfl (fun x hx => by cases hx) (by rw [List.append_nil]; exact hG) ⟨hd, fun _ _ _ _ => rfl⟩⟩
  | c :: cs, acc, a5, a6, G, hc, hl, hd, hG, k => by
    refine ⟨hg G, ?_⟩
    have go1 : ∀ (d : D) (a6 : Option D) (G1 : DG), PL.isPart c d = true → FrB ps q G G1 → G1 q = some (.lst acc) → dLoop E (.n 5) b__law_any_order_0 DE guard (cs.map fun c => .str (String.singleton c)) [some (.ref p), some (.int many), a2, some (.str w), some (.ref q), some (.str (String.singleton c)), a6] (gset G1 q (some (.lst (acc ++ [d])))) := fun d a6 G1 hpd f1 h1 => by
      refine order_loop hp hq hm hg cs (acc ++ [d]) _ _ _ (fun x hx => hc x (List.mem_cons_of_mem _ hx)) (by simp at hl ⊢; omega) (f1.set hq).dice gset_same fun parts a5 a6 G' hle hz hG' f2 => ?_
      refine k (d :: parts) a5 a6 G' (by simp [hle]) (fun x hx => ?_) (by rw [hG']; simp) ((f1.set hq).trans f2)
      rw [List.zip_cons_cons] at hx
      rcases List.mem_cons.mp hx with rfl | hx
      · exact hpd
      · exact hz x hx
    exact order_body hp hq hm (hc c List.mem_cons_self) (by simp at hl; omega) hd hG go1
def words17 : List D := [.str "set", .str "set", .str "copy", .str "add", .str "add", .str "take", .str "less", .str "go", .str "zero", .str "zero", .str "read", .str "write", .str "ask", .str "tell", .str "look", .str "mark", .str "end"]
theorem words_ok : ∀ d ∈ words17, ∃ w so, d = .str w ∧ PL.lst_FORMS.lookup w = some so ∧ e__law_sorts [.str w] = some (.ok (.str so)) := by
  intro d hd
  simp only [words17, List.mem_cons, List.not_mem_nil, or_false] at hd
  rcases hd with rfl | rfl | rfl | rfl | rfl | rfl | rfl | rfl | rfl | rfl | rfl | rfl | rfl | rfl | rfl | rfl | rfl <;> first | exact ⟨_, "rr", rfl, by decide, by kernel_rfl⟩ | exact ⟨_, "rn", rfl, by decide, by kernel_rfl⟩ | exact ⟨_, "g", rfl, by decide, by kernel_rfl⟩ | exact ⟨_, "rg", rfl, by decide, by kernel_rfl⟩ | exact ⟨_, "rw", rfl, by decide, by kernel_rfl⟩ | exact ⟨_, "rrw", rfl, by decide, by kernel_rfl⟩ | exact ⟨_, "", rfl, by decide, by kernel_rfl⟩
theorem order_ok {ps : List Addr} {p : Addr} {many : Int} {G : DG} {Q : DK} {E : DX → DG → Prop} (hp : p ∈ ps) (hd : DiceOk G ps) (hm : 1 ≤ many ∧ many ≤ 60) (h : ∀ d G', PL.isInstr d = true → Fr ps G G' → Q d G') : sp__law_any_order [.ref p, .int many] G Q E := by
  refine ⟨rfl, ?_⟩
  show sSeq (sSet 2 _) (sSeq (sPar _ _) (sSeq (sFor _ _ b__law_any_order_0) _)) _ _ _ _
  simp only [sSeq, sSet, sPar, sFor, sRet, dOp, dVar, dC, dCall, dCons, dNil, dTup, dB, dLst, dLstB, dIter]
  refine ⟨by simp, _, rfl, by simp, _, rfl, _, rfl, ?_⟩
  refine roll_d hp hd (by decide) (by decide) fun r G1 r0 r1 f => ?_
  obtain ⟨d, hdm, e⟩ := item_nth (G := G1) (xs := words17) r0 r1
  obtain ⟨w, so, rfl, hso, hes⟩ := words_ok d hdm
  refine ⟨.str w, e, by simp, fun q hq => ⟨rfl, ?_⟩⟩
  have hqd := not_dice f.dice hq
  have f1 : Fr ps G1 (gset G1 q (some (.lst []))) := Fr.new f.dice hq
  refine ⟨_, rfl, ?_⟩
  refine ev__law_sorts _ _ hes _ _ _ ?_
  refine ⟨_, rfl, ?_⟩
  obtain ⟨hs3, _, hch⟩ := PL.forms_at hso
  refine order_loop hp hqd hm (fun _ => rfl) so.toList [] _ _ _ hch (by rw [PL.slen]; simp; omega) f1.dice gset_same fun parts a5 a6 G' hle hz hG' f2 => ?_
  refine ⟨_, rfl, by simp, _, rfl, .tup parts, ?_, _, ?_, h (.tup (.str w :: parts)) G' ?_ (f.trans (FrB.fr hq f2))⟩
  · show (asQ G' (.ref q)).map D.tup = _
    rw [show asQ G' (.ref q) = some ([] ++ parts) by show lstO (G' q) = _; rw [hG']; rfl]
    rfl
  · show (if _ then _ else none) = _
    rw [PL.slen] at hle
    rw [if_pos (by simp; omega)]
    rfl
  · show (match PL.lst_FORMS.lookup w with | some so => PL.partsOk so parts | none => false) = true
    rw [hso]
    show (_ && _) = true
    rw [decide_eq_true (by rw [hle, PL.slen]), List.all_eq_true.mpr hz]
    rfl
theorem program_loop {ps : List Addr} {p : Addr} (hp : p ∈ ps) {many : Int} (hm : 1 ≤ many ∧ many ≤ 60) {a1 a3 : Option D} {guard : DG → Prop} (hg : ∀ G, guard G) : ∀ (m : Nat) (lo : Int) (G : DG) (P : List D → DG → Prop), DiceOk G ps →
    (∀ xs G', xs.length = m → (∀ x ∈ xs, PL.isInstr x = true) → Fr ps G G' → P xs G') →
    dLcL (.n 3) dYes (dCall sp__law_any_order (dCons (dVar 0) (dCons (dVar 2) dNil))) guard [some (.ref p), a1, some (.int many), a3] (intsFrom lo m) G P
  | 0, lo, G, P, hd, k => ⟨hg G, k [] G rfl (fun x hx => by cases hx) (Fr.refl hd)⟩
  | m + 1, lo, G, P, hd, k => by
    refine ⟨hg G, ?_⟩
    show dTg (.n 3) (.int lo) _ _
    simp only [dTg, dYes, if_true, dCall, dCons, dVar, dNil]
    refine ⟨_, rfl, _, rfl, order_ok hp hd hm fun d G1 hi f => ?_⟩
    refine program_loop hp hm hg m (lo + 1) G1 _ f.dice fun xs G' hl hx f2 => ?_
    refine k (d :: xs) G' (by simp [hl]) (fun x hx' => ?_) (f.trans f2)
    rcases List.mem_cons.mp hx' with rfl | hx'
    · exact hi
    · exact hx x hx'
theorem program_ok {ps : List Addr} {p : Addr} {high : Int} {G : DG} {Q : DK} {E : DX → DG → Prop} (hp : p ∈ ps) (hd : DiceOk G ps) (hh : 1 ≤ high ∧ high ≤ 40) (h : ∀ xs G', PL.isProg (.tup xs) = true → (xs.length : Int) ≤ high → Fr ps G G' → Q (.tup xs) G') : sp__law_any_program [.ref p, .int high] G Q E := by
  refine ⟨rfl, ?_⟩
  simp only [t__law_any_program, sSeq, sSet, sRet, dOp, dVar, dC, dCall, dCons, dNil, dB, dLc, dRange1]
  refine ⟨_, rfl, _, rfl, roll_d hp hd (by omega) (by omega) fun r G1 r0 r1 f => ⟨_, rfl, _, rfl, _, rfl, by omega, by omega, by rw [intsFrom_len]; omega, ?_⟩⟩
  refine program_loop hp (by omega) (fun _ => trivial) _ _ _ _ f.dice fun xs G' hl hx f2 => ⟨_, rfl, h xs G' ?_ (by omega) (f.trans f2)⟩
  show ((decide _ && decide _) && _) = true
  rw [decide_eq_true (by omega), decide_eq_true (by omega), List.all_eq_true.mpr hx]
  rfl
/-! ### the dice, apart from all else -/
section
open PL
variable {ps : List Addr} {p : Addr} {F : List Asr} {G : DG} {Q : DK} {E : DX → DG → Prop}
def DiceA (ps : List Addr) : Asr := fun G => DiceOk G ps
theorem fr_stars {G' : DG} (hs : Stars (DiceA ps :: F) G) (f : Fr ps G G') : Stars (DiceA ps :: F) G' := by
  obtain ⟨h, k, a, b, c, d, e⟩ := hs
  have hk : ∀ x, k x ≠ none → x ∉ ps := fun x hx hm => by
    obtain ⟨u, v, z⟩ := d x hm
    exact hx ((a x).resolve_left (by rw [z]; simp))
  refine ⟨fun x => if x ∈ ps then G' x else none, k, fun x => ?_, fun x hx => ?_, fun x hx => ?_, fun x hm => ?_, e⟩
  · by_cases q : k x = none
    · exact .inr q
    · exact .inl (if_neg (hk x q))
  · by_cases q : x ∈ ps
    · simp only [if_pos q]
    · simp only [if_neg q] at hx
      exact absurd rfl hx
  · rw [f.rest x (hk x hx) (by rw [c x hx]; exact hx), c x hx]
  · obtain ⟨u, v, z⟩ := f.dice x hm
    exact ⟨u, v, by simp only [if_pos hm]; exact z⟩
theorem dice_of (hs : Stars (DiceA ps :: F) G) : DiceOk G ps := fun q hq => by
  obtain ⟨h, k, a, b, c, d, e⟩ := hs
  obtain ⟨u, v, z⟩ := d q hq
  exact ⟨u, v, by rw [b q (by rw [z]; simp), z]⟩
theorem sroll {many : Int} (hp : p ∈ ps) (hs : Stars (DiceA ps :: F) G) (hm : 0 < many) (hm2 : many < 1000000) (h : ∀ (r : Nat) G', (r : Int) < many → Stars (DiceA ps :: F) G' → Q (nD r) G') : sp__law_roll [.ref p, .int many] G Q E :=
  roll_d hp (dice_of hs) hm hm2 fun r G' h0 h1 f => by
    have := h r.toNat G' (by omega) (fr_stars hs f)
    rwa [show nD r.toNat = D.int r by simp [nD]; omega] at this
theorem sprogram {high : Int} (hp : p ∈ ps) (hs : Stars (DiceA ps :: F) G) (hh : 1 ≤ high ∧ high ≤ 40) (h : ∀ xs G', isProg (.tup xs) = true → (xs.length : Int) ≤ high → Stars (DiceA ps :: F) G' → Q (.tup xs) G') : sp__law_any_program [.ref p, .int high] G Q E :=
  program_ok hp (dice_of hs) hh fun xs G' a b f => h xs G' a b (fr_stars hs f)
end
end K02

namespace K02
open DL L2 PySem
def b_law_0 : DTS := (sSeq (sSet 2 (dCall sp__law_any_program (dCons (dVar 1) (dCons (dC (.int 14)) dNil)))) (sSeq (sSet 3 (dLstB dNil)) (sSeq (sFor (dEnum (dCons (dVar 2) dNil)) (.t [4, 5]) (sSeq (sSet 6 (dIf (dTest (dOp pyNotIn (dOp pyItem (dVar 5) (dC (.int 0))) (dTup (dCons (dC (.str "go")) (dCons (dC (.str "end")) dNil))))) (dLst (dCons (dOp pyAdd (dVar 4) (dC (.int 1))) dNil)) (dLst dNil))) (sSeq (sIf (dTest (dOp pyIn (dOp pyItem (dVar 5) (dC (.int 0))) (dTup (dCons (dC (.str "go")) (dCons (dC (.str "zero")) dNil))))) (sSet 6 (dOp pyAdd (dVar 6) (dLst (dCons (dOp pyItem (dVar 5) (dUn pyNeg (dC (.int 1)))) dNil)))) sNext) (sSeq (sDrop (dMt "list" mAppend (dVar 3) (dCons (dB pySortedSet (dCons (dVar 6) dNil)) dNil))) (sIf (dTest (dOp pyNe (dCall sp_goals (dCons (dVar 2) (dCons (dVar 4) dNil))) (dOp pyItem (dVar 3) (dVar 4)))) (sRet (dC (.bl false))) sNext))))) (sSeq (sPar [7, 8] (dCons (dLstB dNil) (dCons (dLstB (dCons (dC (.int 0)) dNil)) dNil))) (sSeq (sWhile (dTest (dOp pyNe (dVar 8) (dLst dNil))) (sSeq (sSet 9 (dMt0 "list" mPop (dVar 8))) (sIf (dAnd (dTest (dOp pyLt (dVar 9) (dB pyLen (dCons (dVar 2) dNil)))) (dTest (dOp pyNotIn (dVar 9) (dVar 7)))) (sSeq (sDrop (dMt "list" mAppend (dVar 7) (dCons (dVar 9) dNil))) (sSet 8 (dOpB addB (dVar 8) (dOp pyItem (dVar 3) (dVar 9))))) sNext))) (sSeq (sIf (dTest (dOp pyNe (dCall sp_come_to (dCons (dVar 2) dNil)) (dB pySorted (dCons (dVar 7) dNil)))) (sRet (dC (.bl false))) sNext) (sSeq (sSet 10 (dLstB dNil)) (sSeq (sFor (dIter (dLst (dCons (dC (.str "ask")) (dCons (dC (.str "tell")) (dCons (dC (.str "look")) (dCons (dC (.str "mark")) dNil)))))) (.n 11) (sDrop (dMt "list" mAppend (dVar 10) (dCons (dB pyTup (dCons (dB pySortedSet (dCons (dLc (dIter (dVar 2)) (.n 5) (dTest (dOp pyEq (dOp pyItem (dVar 5) (dC (.int 0))) (dVar 11))) (dOp pyItem (dVar 5) (dUn pyNeg (dC (.int 1)))) [5]) dNil)) dNil)) dNil)))) (sSeq (sIf (dTest (dOp pyNe (dCall sp_words_in (dCons (dVar 2) dNil)) (dB pyTup (dCons (dVar 10) dNil)))) (sRet (dC (.bl false))) sNext) (sFor (dIter (dLst (dCons (dUn pyNeg (dC (.int 1))) (dCons (dB pyLen (dCons (dVar 2) dNil)) (dCons (dC (.bl true)) (dCons (dC .non) (dCons (dC (.str "0")) dNil))))))) (.n 12) (sIf (dTest (dOp pyNe (dTold (dCall sp_goals (dCons (dVar 2) (dCons (dVar 12) dNil)))) (dTup (dCons (dC (.str "refused")) (dCons (dC (.str "BadNumber")) dNil))))) (sRet (dC (.bl false))) sNext)))))))))))
def b_law_1 : DTS := (sSeq (sSet 6 (dIf (dTest (dOp pyNotIn (dOp pyItem (dVar 5) (dC (.int 0))) (dTup (dCons (dC (.str "go")) (dCons (dC (.str "end")) dNil))))) (dLst (dCons (dOp pyAdd (dVar 4) (dC (.int 1))) dNil)) (dLst dNil))) (sSeq (sIf (dTest (dOp pyIn (dOp pyItem (dVar 5) (dC (.int 0))) (dTup (dCons (dC (.str "go")) (dCons (dC (.str "zero")) dNil))))) (sSet 6 (dOp pyAdd (dVar 6) (dLst (dCons (dOp pyItem (dVar 5) (dUn pyNeg (dC (.int 1)))) dNil)))) sNext) (sSeq (sDrop (dMt "list" mAppend (dVar 3) (dCons (dB pySortedSet (dCons (dVar 6) dNil)) dNil))) (sIf (dTest (dOp pyNe (dCall sp_goals (dCons (dVar 2) (dCons (dVar 4) dNil))) (dOp pyItem (dVar 3) (dVar 4)))) (sRet (dC (.bl false))) sNext))))
def b_law_2 : DTT := (dTest (dOp pyNe (dVar 8) (dLst dNil)))
def b_law_3 : DTS := (sSeq (sSet 9 (dMt0 "list" mPop (dVar 8))) (sIf (dAnd (dTest (dOp pyLt (dVar 9) (dB pyLen (dCons (dVar 2) dNil)))) (dTest (dOp pyNotIn (dVar 9) (dVar 7)))) (sSeq (sDrop (dMt "list" mAppend (dVar 7) (dCons (dVar 9) dNil))) (sSet 8 (dOpB addB (dVar 8) (dOp pyItem (dVar 3) (dVar 9))))) sNext))
def b_law_4 : DTS := (sDrop (dMt "list" mAppend (dVar 10) (dCons (dB pyTup (dCons (dB pySortedSet (dCons (dLc (dIter (dVar 2)) (.n 5) (dTest (dOp pyEq (dOp pyItem (dVar 5) (dC (.int 0))) (dVar 11))) (dOp pyItem (dVar 5) (dUn pyNeg (dC (.int 1)))) [5]) dNil)) dNil)) dNil)))
def b_law_5 : DTS := (sIf (dTest (dOp pyNe (dTold (dCall sp_goals (dCons (dVar 2) (dCons (dVar 12) dNil)))) (dTup (dCons (dC (.str "refused")) (dCons (dC (.str "BadNumber")) dNil))))) (sRet (dC (.bl false))) sNext)
def b_places_of_0 : DTT := (dTest (dOp pyNe (dVar 2) (dLst dNil)))
def b_places_of_1 : DTS := (sFor (dIter (dCall sp_goals_of (dCons (dVar 0) (dCons (dMt0 "list" mPop (dVar 2)) dNil)))) (.n 3) (sIf (dAnd (dTest (dOp pyLt (dVar 3) (dB pyLen (dCons (dVar 0) dNil)))) (dTest (dOp pyNotIn (dVar 3) (dVar 1)))) (sSeq (sSub (dC (.bl true)) (dVar 1) (dVar 3)) (sDrop (dMt "list" mAppend (dVar 2) (dCons (dVar 3) dNil)))) sNext))
def b_places_of_2 : DTS := (sIf (dAnd (dTest (dOp pyLt (dVar 3) (dB pyLen (dCons (dVar 0) dNil)))) (dTest (dOp pyNotIn (dVar 3) (dVar 1)))) (sSeq (sSub (dC (.bl true)) (dVar 1) (dVar 3)) (sDrop (dMt "list" mAppend (dVar 2) (dCons (dVar 3) dNil)))) sNext)
def v_law_1_2 : DTS := (sSeq (sDrop (dMt "list" mAppend (dVar 3) (dCons (dB pySortedSet (dCons (dVar 6) dNil)) dNil))) (sIf (dTest (dOp pyNe (dCall sp_goals (dCons (dVar 2) (dCons (dVar 4) dNil))) (dOp pyItem (dVar 3) (dVar 4)))) (sRet (dC (.bl false))) sNext))
/-! ### k02: goals, places, words -/
section
open PL
variable {ps : List Addr} {p w f : Addr} {F : List Asr} {G : DG} {E : DXK} {DE : DEnds} {is : List Ins}
theorem told_at {c : String} (hc : c ∈ refusals) {P : DK} {env : DSt} {G : DG} (h : P (.tup [.str "refused", .str c]) G) : toldX P (c, none) env G := ⟨c, rfl, hc, h⟩
abbrev pD (is : List Ins) : D := .tup (is.map Ins.toD)
theorem item_p {k : Nat} {i : Ins} (h : is[k]? = some i) : pyItem G (pD is) (nD k) = some i.toD := by
  show atI (is.map Ins.toD) k = some i.toD
  have lt : k < is.length := (List.getElem?_eq_some_iff.mp h).1
  unfold atI ixN
  rw [List.length_map]
  have e : is[k] = i := (List.getElem?_eq_some_iff.mp h).2
  simp [lt, e]
theorem len_p : pyLen G [pD is] = some (nD is.length) := by
  show some (D.int ((is.map Ins.toD).length : Nat)) = _
  rw [List.length_map]
theorem xgoals_of {k : Nat} {i : Ins} {Q : DK} {E : DX → DG → Prop} (h : is[k]? = some i) (kk : Q (.lst (wayD i k)) G) : sp_goals_of [pD is, nD k] G Q E := by
  refine ⟨rfl, ?_⟩
  unfold t_goals_of
  have e := item_p (G := G) h
  cases i <;> ((repeat first | refine Exists.intro _ (And.intro rfl ?_) | refine Exists.intro _ (And.intro (e) ?_) | (refine PL.le_e ?_ ?_; (focus (simp; done))) | refine And.intro (show _ = some "str" from rfl) ?_ | refine And.intro (And.intro rfl (by decide)) ?_ | refine PL.ifF rfl ?_ | refine PL.ifT rfl ?_ | refine PL.par_e rfl ?_ | refine PL.some_e rfl ?_ | refine PL.asg_e rfl ?_); try dsimp only [dNil]; exact kk)
theorem xgoals {k : Nat} {i : Ins} {Q : DK} {E : DX → DG → Prop} (hp : isProg (pD is) = true) (h : is[k]? = some i) (kk : Q (.lst (wayD i k)) G) : sp_goals [pD is, nD k] G Q E := by
  have lt : k < is.length := (List.getElem?_eq_some_iff.mp h).1
  have e : e_is_whole [nD k, .int 0, .int (is.length - 1)] = some (.ok (.bl true)) := by
    rw [show e_is_whole = PL.e_is_whole from rfl, is_whole_eq rfl]
    simp [inR]
    omega
  refine ⟨rfl, ?_⟩
  unfold t_goals
  (repeat first | refine Exists.intro _ (And.intro rfl ?_) | (refine PL.le_e ?_ ?_; (focus (simp; done))) | refine And.intro (show _ = some "str" from rfl) ?_ | refine And.intro (And.intro rfl (by decide)) ?_ | refine PL.ifF rfl ?_ | refine PL.ifT rfl ?_ | refine PL.par_e rfl ?_ | refine PL.some_e rfl ?_ | refine PL.asg_e rfl ?_); try dsimp only [dNil]
  refine ev_need_program _ _ (PL.need_program_ok hp) _ _ _ ?_
  (repeat first | refine Exists.intro _ (And.intro rfl ?_) | (refine PL.le_e ?_ ?_; (focus (simp; done))) | refine And.intro (show _ = some "str" from rfl) ?_ | refine And.intro (And.intro rfl (by decide)) ?_ | refine PL.ifF rfl ?_ | refine PL.ifT rfl ?_ | refine PL.par_e rfl ?_ | refine PL.some_e rfl ?_ | refine PL.asg_e rfl ?_); try dsimp only [dNil]
  rw [List.length_map]
  refine ev_is_whole _ _ e _ _ _ ?_
  (repeat first | refine Exists.intro _ (And.intro rfl ?_) | (refine PL.le_e ?_ ?_; (focus (simp; done))) | refine And.intro (show _ = some "str" from rfl) ?_ | refine And.intro (And.intro rfl (by decide)) ?_ | refine PL.ifF rfl ?_ | refine PL.ifT rfl ?_ | refine PL.par_e rfl ?_ | refine PL.some_e rfl ?_ | refine PL.asg_e rfl ?_); try dsimp only [dNil]
  exact xgoals_of h kk
theorem xgoals_bad {d : D} {Q : DK} {E : DX → DG → Prop} (hp : isProg (pD is) = true) (h : e_is_whole [d, .int 0, .int (is.length - 1)] = some (.ok (.bl false))) (kk : E ("BadNumber", none) G) : sp_goals [pD is, d] G Q E := by
  refine ⟨rfl, ?_⟩
  unfold t_goals
  (repeat first | refine Exists.intro _ (And.intro rfl ?_) | (refine PL.le_e ?_ ?_; (focus (simp; done))) | refine And.intro (show _ = some "str" from rfl) ?_ | refine And.intro (And.intro rfl (by decide)) ?_ | refine PL.ifF rfl ?_ | refine PL.ifT rfl ?_ | refine PL.par_e rfl ?_ | refine PL.some_e rfl ?_ | refine PL.asg_e rfl ?_); try dsimp only [dNil]
  refine ev_need_program _ _ (PL.need_program_ok hp) _ _ _ ?_
  (repeat first | refine Exists.intro _ (And.intro rfl ?_) | (refine PL.le_e ?_ ?_; (focus (simp; done))) | refine And.intro (show _ = some "str" from rfl) ?_ | refine And.intro (And.intro rfl (by decide)) ?_ | refine PL.ifF rfl ?_ | refine PL.ifT rfl ?_ | refine PL.par_e rfl ?_ | refine PL.some_e rfl ?_ | refine PL.asg_e rfl ?_); try dsimp only [dNil]
  rw [List.length_map]
  refine ev_is_whole _ _ h _ _ _ ?_
  (repeat first | refine Exists.intro _ (And.intro rfl ?_) | (refine PL.le_e ?_ ?_; (focus (simp; done))) | refine And.intro (show _ = some "str" from rfl) ?_ | refine And.intro (And.intro rfl (by decide)) ?_ | refine PL.ifF rfl ?_ | refine PL.ifT rfl ?_ | refine PL.par_e rfl ?_ | refine PL.some_e rfl ?_ | refine PL.asg_e rfl ?_); try dsimp only [dNil]
  exact kk
/-! ### places -/
abbrev fndL (fs : List Nat) : List (D × D) := fs.map fun n => (nD n, .bl true)
theorem dk_n (x g : Nat) : dkEq (nD x) (nD g) = decide (x = g) := by
  show decide ((x : Int) = (g : Int)) = _
  exact decide_eq_decide.mpr (by omega)
theorem fnd_any (fs : List Nat) (g : Nat) : ((fndL fs).any fun p => dkEq p.1 (nD g)) = decide (g ∈ fs) := by
  rw [List.any_map, Bool.eq_iff_iff, List.any_eq_true, decide_eq_true_eq]
  constructor
  · rintro ⟨x, m, e⟩
    have e : dkEq (nD x) (nD g) = true := e
    rw [dk_n, decide_eq_true_eq] at e
    exact e ▸ m
  · exact fun m => ⟨g, m, by show dkEq (nD g) (nD g) = true; rw [dk_n, decide_eq_true_eq]⟩
theorem fnd_in {fs : List Nat} {g : Nat} (h : G f = some (.dct (fndL fs))) : pyNotIn G (nD g) (.ref f) = some (.bl (!decide (g ∈ fs))) := by
  have e : (dget (fndL fs) (nD g)).isSome = decide (g ∈ fs) := by
    unfold dget
    rw [Option.isSome_map, List.isSome_find?, fnd_any]
  unfold pyNotIn pyInB
  simp only [asQ, asL, h, lstO, asD, dctO, DL.keyOf]
  rw [e]
  rfl
theorem dput_fnd {fs : List Nat} {g : Nat} (h : g ∉ fs) : dput (fndL fs) (nD g) (.bl true) = fndL (fs ++ [g]) := by
  unfold dput
  rw [fnd_any, decide_eq_false h, if_neg (by decide)]
  unfold fndL
  rw [List.map_append]
  rfl
theorem fnd_put {fs : List Nat} {g : Nat} (h : G f = some (.dct (fndL fs))) (hg : g ∉ fs) (hl : fs.length ≤ 40) : setAt G (.ref f) (nD g) (.bl true) = some (gset G f (some (.dct (fndL (fs ++ [g]))))) := by
  have e : (fndL fs).length < 1000000 := by
    rw [List.length_map]
    omega
  simp only [setAt, h, DL.keyOf, if_pos e]
  rw [dput_fnd hg]
theorem lt_p {g : Nat} : pyLt G (nD g) (nD is.length) = some (.bl (decide (g < is.length))) := by
  show some (D.bl (decide ((g : Int) < (is.length : Int)))) = _
  congr 2
  exact decide_eq_decide.mpr (by omega)
theorem pl_for {a0 : Option D} {guard : DG → Prop} (hg : ∀ G, guard G) : ∀ (gs : List Nat) (fs wk : List Nat) (a3 : Option D) (G : DG), fs.Nodup → (∀ x ∈ fs, x < is.length) → is.length ≤ 40 → wk.length + gs.length ≤ 1000 → a0 = some (pD is) → Stars (pt f (.dct (fndL fs)) :: pt w (.lst (wk.map nD)) :: F) G →
    (∀ a3 G', Stars (pt f (.dct (fndL (push is.length gs fs wk).1)) :: pt w (.lst ((push is.length gs fs wk).2.map nD)) :: F) G' → DE.nx [a0, some (.ref f), some (.ref w), a3] G') →
    dLoop E (.n 3) b_places_of_2 DE guard (gs.map nD) [a0, some (.ref f), some (.ref w), a3] G
  | [], fs, wk, a3, G, _, _, _, _, _, hs, k => ⟨hg G, k _ G hs⟩
  | g :: gs, fs, wk, a3, G, nd, lt, hn, hl, ha, hs, k => by
    refine ⟨hg G, ?_⟩
    show b_places_of_2 _ _ [a0, some (.ref f), some (.ref w), some (nD g)] G
    subst ha
    have h0 := hs.get 0 rfl
    have h1 := hs.get 1 rfl
    have e1 := len_p (G := G) (is := is)
    have e2 := lt_p (G := G) (is := is) (g := g)
    have e3 := fnd_in (g := g) h0
    have fl := nodup_len is.length fs nd lt
    unfold push at k
    unfold b_places_of_2
    (repeat first | refine Exists.intro _ (And.intro rfl ?_) | (refine PL.le_e ?_ ?_; (focus (simp; done))) | refine And.intro (show _ = some "str" from rfl) ?_ | refine And.intro (And.intro rfl (by decide)) ?_ | refine PL.ifF rfl ?_ | refine PL.ifT rfl ?_ | refine PL.par_e rfl ?_ | refine PL.some_e rfl ?_ | refine PL.asg_e rfl ?_); try dsimp only [dNil]
    by_cases c1 : g < is.length
    · refine ifT (decide_eq_true (by rw [List.length_map]; omega)) ?_
      (repeat first | refine Exists.intro _ (And.intro rfl ?_) | refine Exists.intro _ (And.intro (e3) ?_) | (refine PL.le_e ?_ ?_; (focus (simp; done))) | refine And.intro (show _ = some "str" from rfl) ?_ | refine And.intro (And.intro rfl (by decide)) ?_ | refine PL.ifF rfl ?_ | refine PL.ifT rfl ?_ | refine PL.par_e rfl ?_ | refine PL.some_e rfl ?_ | refine PL.asg_e rfl ?_); try dsimp only [dNil]
      by_cases c2 : g ∈ fs
      · refine ifF (by simp [c2]) ?_
        rw [if_neg (fun z => z.2 c2)] at k
        exact pl_for hg gs fs wk _ G nd lt hn (by simp at hl; omega) rfl hs k
      · refine ifT (by simp [c2]) ?_
        rw [if_pos ⟨c1, c2⟩] at k
        (repeat first | refine Exists.intro _ (And.intro rfl ?_) | (refine PL.le_e ?_ ?_; (focus (simp; done))) | refine And.intro (show _ = some "str" from rfl) ?_ | refine And.intro (And.intro rfl (by decide)) ?_ | refine PL.ifF rfl ?_ | refine PL.ifT rfl ?_ | refine PL.par_e rfl ?_ | refine PL.some_e rfl ?_ | refine PL.asg_e rfl ?_); try dsimp only [dNil]
        refine ⟨_, fnd_put h0 c2 (by omega), ?_⟩
        generalize hG : gset G f _ = G1
        have hs := hs.setG 0 hG rfl
        have h1 := hs.get 1 rfl
        (repeat first | refine Exists.intro _ (And.intro rfl ?_) | (refine PL.le_e ?_ ?_; (focus (simp; done))) | refine And.intro (show _ = some "str" from rfl) ?_ | refine And.intro (And.intro rfl (by decide)) ?_ | refine PL.ifF rfl ?_ | refine PL.ifT rfl ?_ | refine PL.par_e rfl ?_ | refine PL.some_e rfl ?_ | refine PL.asg_e rfl ?_); try dsimp only [dNil]
        refine ⟨ty_lst h1, _, rfl, _, _, append_ok h1 (by rw [List.length_map]; simp at hl; omega), ?_⟩
        generalize hG : gset G1 w _ = G2
        have hs := hs.setG 1 hG rfl
        have e4 : wk.map nD ++ [nD g] = (wk ++ [g]).map nD := by simp
        rw [e4] at hs
        refine pl_for hg gs (fs ++ [g]) (wk ++ [g]) _ G2 ?_ ?_ hn (by simp at hl ⊢; omega) rfl hs k
        · refine List.nodup_append.mpr ⟨nd, by simp, fun a ha b hb e => ?_⟩
          rw [List.mem_singleton.mp hb] at e
          exact c2 (e ▸ ha)
        · intro x m
          rcases List.mem_append.mp m with m | m
          · exact lt x m
          · rw [List.mem_singleton.mp m]
            exact c1
    · refine ifF (decide_eq_false (by rw [List.length_map]; omega)) ?_
      rw [if_neg (fun z => c1 z.1)] at k
      exact pl_for hg gs fs wk _ G nd lt hn (by simp at hl; omega) rfl hs k
theorem all_ints (l : List Nat) : okD 40 (.lst (l.map nD)) = true := by
  show (l.map nD).all (okD 39) = true
  refine List.all_eq_true.mpr fun d m => ?_
  obtain ⟨n, _, rfl⟩ := List.mem_map.mp m
  rfl
theorem ne_nil {wk : List Nat} (h : G w = some (.lst (wk.map nD))) : pyNe G (.ref w) (.lst []) = some (.bl (!decide (wk = []))) := by
  rw [ne_ref h, m_ne _ _ _ _ (ne_nilL (all_ints wk))]
  cases wk <;> rfl
theorem last_of {wk : List Nat} (h : wk ≠ []) : ∃ l x, wk = l ++ [x] := ⟨wk.dropLast, wk.getLast h, (List.dropLast_concat_getLast h).symm⟩
theorem pop_ok {wk : List Nat} {x : Nat} (h : G w = some (.lst ((wk ++ [x]).map nD))) : mPop G (.ref w) [] = some (nD x, gset G w (some (.lst (wk.map nD)))) := by
  have e1 : ((wk ++ [x]).map nD).getLast? = some (nD x) := by simp
  have e2 : ((wk ++ [x]).map nD).dropLast = wk.map nD := by simp
  simp only [mPop, h, lstO, e1, e2]
theorem at_of {x : Nat} (h : x < is.length) : ∃ i, is[x]? = some i := ⟨is[x], List.getElem?_eq_getElem h⟩
theorem pl_while (hn : is.length ≤ 40) : ∀ (m : Nat) (fs wk : List Nat) (a3 : Option D) (G : DG), InvP is fs wk → 2 * (is.length - fs.length) + wk.length ≤ m → m ≤ 200 → Stars (pt f (.dct (fndL fs)) :: pt w (.lst (wk.map nD)) :: F) G →
    (∀ fs a3 G', InvP is fs [] → Stars (pt f (.dct (fndL fs)) :: F) G' → DE.nx [some (pD is), some (.ref f), some (.ref w), a3] G') →
    dWhile E b_places_of_0 b_places_of_1 DE (m + 1) [some (pD is), some (.ref f), some (.ref w), a3] G := by
  intro m
  induction m with
  | zero =>
    intro fs wk a3 G I hm hl hs k
    obtain rfl : wk = [] := List.eq_nil_of_length_eq_zero (by omega)
    unfold dWhile b_places_of_0
    (repeat first | refine Exists.intro _ (And.intro rfl ?_) | refine Exists.intro _ (And.intro (ne_nil (hs.get 1 rfl)) ?_) | (refine PL.le_e ?_ ?_; (focus (simp; done))) | refine And.intro (show _ = some "str" from rfl) ?_ | refine And.intro (And.intro rfl (by decide)) ?_ | refine PL.ifF rfl ?_ | refine PL.ifT rfl ?_ | refine PL.par_e rfl ?_ | refine PL.some_e rfl ?_ | refine PL.asg_e rfl ?_); try dsimp only [dNil]
    exact k fs a3 G I (hs.perm (List.Perm.swap _ _ _)).tail
  | succ m ih =>
    intro fs wk a3 G I hm hl hs k
    have e := ne_nil (hs.get 1 rfl)
    unfold dWhile
    unfold b_places_of_0
    by_cases c : wk = []
    · subst c
      (repeat first | refine Exists.intro _ (And.intro rfl ?_) | refine Exists.intro _ (And.intro (e) ?_) | (refine PL.le_e ?_ ?_; (focus (simp; done))) | refine And.intro (show _ = some "str" from rfl) ?_ | refine And.intro (And.intro rfl (by decide)) ?_ | refine PL.ifF rfl ?_ | refine PL.ifT rfl ?_ | refine PL.par_e rfl ?_ | refine PL.some_e rfl ?_ | refine PL.asg_e rfl ?_); try dsimp only [dNil]
      exact k fs a3 G I (hs.perm (List.Perm.swap _ _ _)).tail
    · obtain ⟨wk, x, rfl⟩ := last_of c
      have e : pyNe G (.ref w) (.lst []) = some (.bl true) := by
        rw [e, decide_eq_false c]
        rfl
      have lx : x < is.length := (I.ok x (I.wf x (by simp))).1
      obtain ⟨i, hi⟩ := at_of lx
      obtain ⟨gs, ew, mg, lg⟩ := way_of i x
      (repeat first | refine Exists.intro _ (And.intro rfl ?_) | refine Exists.intro _ (And.intro (e) ?_) | (refine PL.le_e ?_ ?_; (focus (simp; done))) | refine And.intro (show _ = some "str" from rfl) ?_ | refine And.intro (And.intro rfl (by decide)) ?_ | refine PL.ifF rfl ?_ | refine PL.ifT rfl ?_ | refine PL.par_e rfl ?_ | refine PL.some_e rfl ?_ | refine PL.asg_e rfl ?_); try dsimp only [dNil]
      unfold b_places_of_1
      (repeat first | refine Exists.intro _ (And.intro rfl ?_) | (refine PL.le_e ?_ ?_; (focus (simp; done))) | refine And.intro (show _ = some "str" from rfl) ?_ | refine And.intro (And.intro rfl (by decide)) ?_ | refine PL.ifF rfl ?_ | refine PL.ifT rfl ?_ | refine PL.par_e rfl ?_ | refine PL.some_e rfl ?_ | refine PL.asg_e rfl ?_); try dsimp only [dNil]
      refine ⟨ty_lst (hs.get 1 rfl), _, _, pop_ok (hs.get 1 rfl), ?_⟩
      generalize hG : gset G w _ = G1
      have hs := hs.setG 1 hG rfl
      refine xgoals_of hi ?_
      rw [ew]
      (repeat first | refine Exists.intro _ (And.intro rfl ?_) | (refine PL.le_e ?_ ?_; (focus (simp; done))) | refine And.intro (show _ = some "str" from rfl) ?_ | refine And.intro (And.intro rfl (by decide)) ?_ | refine PL.ifF rfl ?_ | refine PL.ifT rfl ?_ | refine PL.par_e rfl ?_ | refine PL.some_e rfl ?_ | refine PL.asg_e rfl ?_); try dsimp only [dNil]
      have I' := I.next hi mg
      have mm := I.meas I'
      refine pl_for (fun _ => rfl) gs fs wk _ G1 I.nd (fun x m => (I.ok x m).1) hn (by simp at hm; omega) rfl hs fun a3 G2 hs => ?_
      exact ih _ _ _ G2 I' (by omega) (by omega) hs k
theorem xcome {Q : DK} {E : DX → DG → Prop} (hp : isProg (pD is) = true) (hn : is.length ≤ 40) (h0 : 0 < is.length) (hs : Stars F G) (k : ∀ fs G', InvP is fs [] → Stars F G' → Q (.lst (sortD (fs.map nD))) G') : sp_come_to [pD is] G Q E := by
  refine ⟨rfl, ?_⟩
  unfold t_come_to
  (repeat first | refine Exists.intro _ (And.intro rfl ?_) | (refine PL.le_e ?_ ?_; (focus (simp; done))) | refine And.intro (show _ = some "str" from rfl) ?_ | refine And.intro (And.intro rfl (by decide)) ?_ | refine PL.ifF rfl ?_ | refine PL.ifT rfl ?_ | refine PL.par_e rfl ?_ | refine PL.some_e rfl ?_ | refine PL.asg_e rfl ?_); try dsimp only [dNil]
  refine ev_need_program _ _ (PL.need_program_ok hp) _ _ _ ?_
  (repeat first | refine Exists.intro _ (And.intro rfl ?_) | (refine PL.le_e ?_ ?_; (focus (simp; done))) | refine And.intro (show _ = some "str" from rfl) ?_ | refine And.intro (And.intro rfl (by decide)) ?_ | refine PL.ifF rfl ?_ | refine PL.ifT rfl ?_ | refine PL.par_e rfl ?_ | refine PL.some_e rfl ?_ | refine PL.asg_e rfl ?_); try dsimp only [dNil]
  refine ⟨rfl, ?_⟩
  unfold t_places_of
  (repeat first | refine Exists.intro _ (And.intro rfl ?_) | (refine PL.le_e ?_ ?_; (focus (simp; done))) | refine And.intro (show _ = some "str" from rfl) ?_ | refine And.intro (And.intro rfl (by decide)) ?_ | refine PL.ifF rfl ?_ | refine PL.ifT rfl ?_ | refine PL.par_e rfl ?_ | refine PL.some_e rfl ?_ | refine PL.asg_e rfl ?_); try dsimp only [dNil]
  intro f hf
  generalize hG : gset G f _ = G1
  have hs := hs.newG hf hG
  (repeat first | refine Exists.intro _ (And.intro rfl ?_) | (refine PL.le_e ?_ ?_; (focus (simp; done))) | refine And.intro (show _ = some "str" from rfl) ?_ | refine And.intro (And.intro rfl (by decide)) ?_ | refine PL.ifF rfl ?_ | refine PL.ifT rfl ?_ | refine PL.par_e rfl ?_ | refine PL.some_e rfl ?_ | refine PL.asg_e rfl ?_); try dsimp only [dNil]
  intro w hw
  generalize hG : gset G1 w _ = G2
  have hs := hs.newG hw hG
  (repeat first | refine Exists.intro _ (And.intro rfl ?_) | (refine PL.le_e ?_ ?_; (focus (simp; done))) | refine And.intro (show _ = some "str" from rfl) ?_ | refine And.intro (And.intro rfl (by decide)) ?_ | refine PL.ifF rfl ?_ | refine PL.ifT rfl ?_ | refine PL.par_e rfl ?_ | refine PL.some_e rfl ?_ | refine PL.asg_e rfl ?_); try dsimp only [dNil]
  refine ⟨2 * (is.length - 1) + 1 + 1, ?_⟩
  refine pl_while hn (2 * (is.length - 1) + 1) [0] [0] _ G2 (InvP.start h0) (by simp) (by omega) (hs.perm (List.Perm.swap _ _ _)) fun fs a3 G3 I hs => ?_
  have e : pySorted G3 [.ref f] = some (.lst (sortD (fs.map nD))) := by
    have h := hs.get 0 rfl
    have e1 : (fndL fs).map (·.1) = fs.map nD := by
      unfold fndL
      rw [List.map_map]
      rfl
    simp only [pySorted, itD, asQ, asL, h, lstO, asD, dctO, e1, hom_nats, if_true]
  (repeat first | refine Exists.intro _ (And.intro rfl ?_) | refine Exists.intro _ (And.intro (e) ?_) | (refine PL.le_e ?_ ?_; (focus (simp; done))) | refine And.intro (show _ = some "str" from rfl) ?_ | refine And.intro (And.intro rfl (by decide)) ?_ | refine PL.ifF rfl ?_ | refine PL.ifT rfl ?_ | refine PL.par_e rfl ?_ | refine PL.some_e rfl ?_ | refine PL.asg_e rfl ?_); try dsimp only [dNil]
  exact k fs G3 I hs.tail
theorem words_lc {w : String} {env : DSt} {a2 : Nat} (hw : w = "ask" ∨ w = "tell" ∨ w = "look" ∨ w = "mark") (tt : DTT) (te : DTE) {guard : DG → Prop} (hg : ∀ G, guard G) (h1 : ∀ i : Ins, ∀ Q, (∀ b, b = (wordsI w i).isSome → Q b G) → tt EF (env.set a2 (some i.toD)) G Q)
    (h2 : ∀ (i : Ins) (s : String), wordsI w i = some s → ∀ Q : DK, Q (.str s) G → te EF (env.set a2 (some i.toD)) G Q) : ∀ (is : List Ins) (Q : List D → DG → Prop), Q (wordsL w is) G → dLcL (.n a2) tt te guard env (is.map Ins.toD) G Q
  | [], Q, k => ⟨hg G, k⟩
  | i :: is, Q, k => by
    refine ⟨hg G, h1 i _ fun b hb => ?_⟩
    subst hb
    cases e : wordsI w i with
    | none =>
      refine ifF rfl (words_lc hw tt te hg h1 h2 is Q ?_)
      unfold wordsL at k ⊢
      rw [List.filterMap_cons, e] at k
      exact k
    | some s =>
      refine ifT rfl (h2 i s e _ (words_lc hw tt te hg h1 h2 is _ ?_))
      unfold wordsL at k ⊢
      rw [List.filterMap_cons, e] at k
      exact k
def words4 : List String := ["ask", "tell", "look", "mark"]
theorem is_w {w : String} (hw : w ∈ words4) (i : Ins) : ∃ d, pyItem G i.toD (.int 0) = some d ∧ pyEq G d (.str w) = some (.bl (wordsI w i).isSome) := by
  simp only [words4, List.mem_cons, List.not_mem_nil, or_false] at hw
  rcases hw with rfl | rfl | rfl | rfl <;> cases i <;> exact ⟨_, rfl, rfl⟩
theorem last_w {w s : String} {i : Ins} (h : wordsI w i = some s) : pyItem G i.toD (.int (-1)) = some (.str s) := by
  cases i <;> first | cases h | skip
  all_goals
    unfold wordsI at h
    dsimp only at h
    split at h
    · cases h
      rfl
    · cases h
abbrev lc_w (i j k : Nat) : DTE := dLc (dIter (dVar i)) (.n j) (dTest (dOp pyEq (dOp pyItem (dVar j) (dC (.int 0))) (dVar k))) (dOp pyItem (dVar j) (dUn pyNeg (dC (.int 1)))) [j]
theorem lc_w_ok {w : String} {i j k : Nat} {env : DSt} {Q : DK} {E : DXK} (hw : w ∈ words4) (hn : is.length ≤ 1000) (hi : env[i]? = some (some (pD is))) (hk : ∀ d : D, ((wipeD env [j]).set j (some d))[k]? = some (some (.str w))) (hj : ∀ d : D, ((wipeD env [j]).set j (some d))[j]? = some (some d)) (h : Q (.lst (wordsL w is)) G) : lc_w i j k E env G Q := by
  refine ⟨_, hi, _, rfl, by rw [List.length_map]; omega, ?_⟩
  refine words_lc (by simpa [words4] using hw) _ _ (fun _ => rfl) (fun x Q hq => ?_) (fun x s e Q hq => ?_) is _ h
  · obtain ⟨d, e1, e2⟩ := is_w (G := G) hw x
    exact ⟨_, hj _, _, e1, _, hk _, _, e2, _, rfl, hq _ rfl⟩
  · exact ⟨_, hj _, _, rfl, _, last_w e, hq⟩
theorem xwords {Q : DK} {E : DX → DG → Prop} (hn : is.length ≤ 1000) (k : Q (.tup (words4.map fun w => rowS w is)) G) : sp_words_of [pD is] G Q E := by
  refine ⟨rfl, ?_⟩
  unfold t_words_of
  (repeat first | refine Exists.intro _ (And.intro rfl ?_) | (refine PL.le_e ?_ ?_; (focus (simp; done))) | refine And.intro (show _ = some "str" from rfl) ?_ | refine And.intro (And.intro rfl (by decide)) ?_ | refine PL.ifF rfl ?_ | refine PL.ifT rfl ?_ | refine PL.par_e rfl ?_ | refine PL.some_e rfl ?_ | refine PL.asg_e rfl ?_); try dsimp only [dNil]
  refine lcl_one rfl (lc_w_ok (w := "ask") (by decide) hn rfl (fun _ => rfl) (fun _ => rfl) ?_)
  refine lcl_one rfl (lc_w_ok (w := "tell") (by decide) hn rfl (fun _ => rfl) (fun _ => rfl) ?_)
  refine lcl_one rfl (lc_w_ok (w := "look") (by decide) hn rfl (fun _ => rfl) (fun _ => rfl) ?_)
  refine lcl_one rfl (lc_w_ok (w := "mark") (by decide) hn rfl (fun _ => rfl) (fun _ => rfl) ?_)
  refine lcl_nil rfl ?_
  (repeat first | refine Exists.intro _ (And.intro rfl ?_) | (refine PL.le_e ?_ ?_; (focus (simp; done))) | refine And.intro (show _ = some "str" from rfl) ?_ | refine And.intro (And.intro rfl (by decide)) ?_ | refine PL.ifF rfl ?_ | refine PL.ifT rfl ?_ | refine PL.par_e rfl ?_ | refine PL.some_e rfl ?_ | refine PL.asg_e rfl ?_); try dsimp only [dNil]
  have e : ∀ w : String, pySortedSet G [.lst (wordsL w is)] = some (.lst (sortD (nubD (wordsL w is)))) := fun w => sortedSet_words hn
  refine lcl_map (f := fun d => match d with | .lst xs => .tup (sortD (nubD xs)) | _ => .non) ?_ (fun d m Q q => ?_) ?_
  · rfl
  · have : ∃ w, d = .lst (wordsL w is) := by
      simp only [List.mem_cons, List.not_mem_nil, or_false] at m
      rcases m with rfl | rfl | rfl | rfl <;> exact ⟨_, rfl⟩
    obtain ⟨w, rfl⟩ := this
    exact ⟨_, rfl, _, e w, _, rfl, q⟩
  · (repeat first | refine Exists.intro _ (And.intro rfl ?_) | (refine PL.le_e ?_ ?_; (focus (simp; done))) | refine And.intro (show _ = some "str" from rfl) ?_ | refine And.intro (And.intro rfl (by decide)) ?_ | refine PL.ifF rfl ?_ | refine PL.ifT rfl ?_ | refine PL.par_e rfl ?_ | refine PL.some_e rfl ?_ | refine PL.asg_e rfl ?_); try dsimp only [dNil]
    exact k
theorem xwords_in {Q : DK} {E : DX → DG → Prop} (hp : isProg (pD is) = true) (hn : is.length ≤ 40) (k : Q (.tup (words4.map fun w => rowS w is)) G) : sp_words_in [pD is] G Q E := by
  refine ⟨rfl, ?_⟩
  unfold t_words_in
  (repeat first | refine Exists.intro _ (And.intro rfl ?_) | (refine PL.le_e ?_ ?_; (focus (simp; done))) | refine And.intro (show _ = some "str" from rfl) ?_ | refine And.intro (And.intro rfl (by decide)) ?_ | refine PL.ifF rfl ?_ | refine PL.ifT rfl ?_ | refine PL.par_e rfl ?_ | refine PL.some_e rfl ?_ | refine PL.asg_e rfl ?_); try dsimp only [dNil]
  refine ev_need_program _ _ (PL.need_program_ok hp) _ _ _ ?_
  (repeat first | refine Exists.intro _ (And.intro rfl ?_) | (refine PL.le_e ?_ ?_; (focus (simp; done))) | refine And.intro (show _ = some "str" from rfl) ?_ | refine And.intro (And.intro rfl (by decide)) ?_ | refine PL.ifF rfl ?_ | refine PL.ifT rfl ?_ | refine PL.par_e rfl ?_ | refine PL.some_e rfl ?_ | refine PL.asg_e rfl ?_); try dsimp only [dNil]
  exact xwords (by omega) k
/-! ### the law -/
def waysF : Nat → List Ins → List D
  | _, [] => []
  | k, i :: r => .lst (wayD i k) :: waysF (k + 1) r
theorem waysF_len : ∀ (l : List Ins) (k : Nat), (waysF k l).length = l.length
  | [], _ => rfl
  | i :: l, k => by rw [waysF, List.length_cons, waysF_len l, List.length_cons]
theorem waysF_app : ∀ (l : List Ins) (k : Nat) (i : Ins), waysF k (l ++ [i]) = waysF k l ++ [.lst (wayD i (k + l.length))]
  | [], k, i => rfl
  | x :: l, k, i => by
    rw [List.cons_append, waysF, waysF_app l, waysF, List.length_cons, List.cons_append]
    rw [show k + 1 + l.length = k + (l.length + 1) by omega]
theorem waysF_at : ∀ (l : List Ins) (k j : Nat) (i : Ins), l[j]? = some i → (waysF k l)[j]? = some (.lst (wayD i (k + j)))
  | [], k, j, i, h => by simp at h
  | x :: l, k, 0, i, h => by
    cases h
    rfl
  | x :: l, k, j + 1, i, h => by
    have := waysF_at l (k + 1) j i h
    rw [show k + (j + 1) = k + 1 + j by omega]
    exact this
theorem item_w {l : List Ins} {j : Nat} {i : Ins} (h : G w = some (.lst (waysF 0 l))) (hj : l[j]? = some i) : pyItem G (.ref w) (nD j) = some (.lst (wayD i j)) := by
  have e := waysF_at l 0 j i hj
  rw [Nat.zero_add] at e
  have lt : j < (waysF 0 l).length := (List.getElem?_eq_some_iff.mp e).1
  show (match lstO (G w) with | some xs => atI xs (j : Int) | none => _) = _
  rw [h]
  show atI (waysF 0 l) (j : Int) = _
  unfold atI ixN
  have e2 : (waysF 0 l)[j] = .lst (wayD i j) := (List.getElem?_eq_some_iff.mp e).2
  simp [lt, e2]
theorem okD_way (i : Ins) (j : Nat) : okD 40 (.lst (wayD i j)) = true := by
  obtain ⟨l, e, _⟩ := way_of i j
  rw [e]
  exact all_ints l
theorem en_loop {a0 a1 a7 a8 a9 a10 a11 a12 : Option D} {guard : DG → Prop} (hg : ∀ G, guard G) (hp : isProg (pD is) = true) (hn : is.length ≤ 40) : ∀ (ts js : List Ins) (a4 a5 a6 : Option D) (G : DG), is = js ++ ts → Stars (pt w (.lst (waysF 0 js)) :: F) G →
    (∀ a4 a5 a6 G', Stars (pt w (.lst (waysF 0 is)) :: F) G' → DE.nx [a0, a1, some (pD is), some (.ref w), a4, a5, a6, a7, a8, a9, a10, a11, a12] G') →
    dLoop E (.t [4, 5]) b_law_1 DE guard (enumD js.length (ts.map Ins.toD)) [a0, a1, some (pD is), some (.ref w), a4, a5, a6, a7, a8, a9, a10, a11, a12] G
  | [], js, a4, a5, a6, G, e, hs, k => ⟨hg G, k _ _ _ G (by rw [e, List.append_nil]; exact hs)⟩
  | i :: ts, js, a4, a5, a6, G, e, hs, k => by
    have hi : is[js.length]? = some i := by rw [e]; simp
    have ll : js.length < is.length := (List.getElem?_eq_some_iff.mp hi).1
    refine ⟨hg G, ⟨[nD js.length, i.toD], rfl, rfl, ?_⟩⟩
    show b_law_1 _ _ [a0, a1, some (pD is), some (.ref w), some (nD js.length), some i.toD, a6, a7, a8, a9, a10, a11, a12] G
    have rest : v_law_1_2 E { DE with nx := fun env2 G2 => dLoop E (.t [4, 5]) b_law_1 DE guard (enumD (js.length + 1) (ts.map Ins.toD)) env2 G2 } [a0, a1, some (pD is), some (.ref w), some (nD js.length), some i.toD, some (.lst ((dueN i js.length).map nD)), a7, a8, a9, a10, a11, a12] G := by
      unfold v_law_1_2
      (repeat first | refine Exists.intro _ (And.intro rfl ?_) | (refine PL.le_e ?_ ?_; (focus (simp; done))) | refine And.intro (show _ = some "str" from rfl) ?_ | refine And.intro (And.intro rfl (by decide)) ?_ | refine PL.ifF rfl ?_ | refine PL.ifT rfl ?_ | refine PL.par_e rfl ?_ | refine PL.some_e rfl ?_ | refine PL.asg_e rfl ?_); try dsimp only [dNil]
      refine ⟨ty_lst (hs.get 0 rfl), ?_⟩
      have e1 : pySortedSet G [.lst ((dueN i js.length).map nD)] = some (.lst (wayD i js.length)) := by
        cases i <;> rfl
      (repeat first | refine Exists.intro _ (And.intro rfl ?_) | refine Exists.intro _ (And.intro (e1) ?_) | (refine PL.le_e ?_ ?_; (focus (simp; done))) | refine And.intro (show _ = some "str" from rfl) ?_ | refine And.intro (And.intro rfl (by decide)) ?_ | refine PL.ifF rfl ?_ | refine PL.ifT rfl ?_ | refine PL.par_e rfl ?_ | refine PL.some_e rfl ?_ | refine PL.asg_e rfl ?_); try dsimp only [dNil]
      refine ⟨_, _, append_ok (hs.get 0 rfl) (by rw [waysF_len]; omega), ?_⟩
      generalize hG : gset G w _ = G1
      have hs := hs.setG 0 hG rfl
      have e2 : waysF 0 js ++ [.lst (wayD i js.length)] = waysF 0 (js ++ [i]) := by
        rw [waysF_app, Nat.zero_add]
      rw [e2] at hs
      (repeat first | refine Exists.intro _ (And.intro rfl ?_) | (refine PL.le_e ?_ ?_; (focus (simp; done))) | refine And.intro (show _ = some "str" from rfl) ?_ | refine And.intro (And.intro rfl (by decide)) ?_ | refine PL.ifF rfl ?_ | refine PL.ifT rfl ?_ | refine PL.par_e rfl ?_ | refine PL.some_e rfl ?_ | refine PL.asg_e rfl ?_); try dsimp only [dNil]
      refine xgoals hp hi ?_
      have e3 := item_w (i := i) (j := js.length) (hs.get 0 rfl) (by simp)
      refine ⟨_, rfl, _, rfl, _, e3, _, ne_refl (okD_way i js.length), _, rfl, ifF rfl ?_⟩
      have := en_loop hg hp hn ts (js ++ [i]) (some (nD js.length)) (some i.toD) (some (.lst ((dueN i js.length).map nD))) G1 (by rw [e]; simp) hs k
      rw [List.length_append] at this
      exact this
    unfold b_law_1
    cases i <;> ((repeat first | refine Exists.intro _ (And.intro rfl ?_) | (refine PL.le_e ?_ ?_; (focus (simp; done))) | refine And.intro (show _ = some "str" from rfl) ?_ | refine And.intro (And.intro rfl (by decide)) ?_ | refine PL.ifF rfl ?_ | refine PL.ifT rfl ?_ | refine PL.par_e rfl ?_ | refine PL.some_e rfl ?_ | refine PL.asg_e rfl ?_); try dsimp only [dNil]; obtain ⟨d, hd, r⟩ := rest; cases hd; exact r)
theorem seen_in {sn : List Nat} {g : Nat} (h : G f = some (.lst (sn.map nD))) : pyNotIn G (nD g) (.ref f) = some (.bl (!decide (g ∈ sn))) := by
  have e1 : ((sn.map nD).all flatD) = true := List.all_eq_true.mpr fun d m => by
    obtain ⟨n, _, rfl⟩ := List.mem_map.mp m
    rfl
  have e2 : ((sn.map nD).any fun z => eqF z (nD g)) = decide (g ∈ sn) := by
    rw [List.any_map, Bool.eq_iff_iff, List.any_eq_true, decide_eq_true_eq]
    constructor
    · rintro ⟨x, m, e⟩
      have e : eqF (nD x) (nD g) = true := e
      have : x = g := by
        simp [eqF] at e
        omega
      exact this ▸ m
    · exact fun m => ⟨g, m, by show eqF (nD g) (nD g) = true; simp [eqF]⟩
  unfold pyNotIn pyInB
  have e3 : flatD (nD g) = true := rfl
  simp only [asQ, asL, h, lstO, e1, e3, e2, Bool.and_true, if_true]
  rfl
theorem lw_while {a0 a1 a4 a5 a6 a10 a11 a12 : Option D} {sa : Addr} (hn : is.length ≤ 40) (h0 : 0 < is.length) : ∀ (m : Nat) (sn wk : List Nat) (wa : Addr) (a9 : Option D) (G : DG), InvL is sn wk → 3 * (is.length - sn.length) + wk.length ≤ m → m ≤ 300 → Stars (pt sa (.lst (sn.map nD)) :: pt wa (.lst (wk.map nD)) :: pt w (.lst (waysF 0 is)) :: F) G →
    (∀ sn wa a9 G', InvL is sn [] → Stars (pt sa (.lst (sn.map nD)) :: F) G' → DE.nx [a0, a1, some (pD is), some (.ref w), a4, a5, a6, some (.ref sa), some (.ref wa), a9, a10, a11, a12] G') →
    dWhile E b_law_2 b_law_3 DE (m + 1) [a0, a1, some (pD is), some (.ref w), a4, a5, a6, some (.ref sa), some (.ref wa), a9, a10, a11, a12] G := by
  intro m
  induction m with
  | zero =>
    intro sn wk wa a9 G I hm hl hs k
    obtain rfl : wk = [] := List.eq_nil_of_length_eq_zero (by omega)
    unfold dWhile b_law_2
    (repeat first | refine Exists.intro _ (And.intro rfl ?_) | refine Exists.intro _ (And.intro (ne_nil (hs.get 1 rfl)) ?_) | (refine PL.le_e ?_ ?_; (focus (simp; done))) | refine And.intro (show _ = some "str" from rfl) ?_ | refine And.intro (And.intro rfl (by decide)) ?_ | refine PL.ifF rfl ?_ | refine PL.ifT rfl ?_ | refine PL.par_e rfl ?_ | refine PL.some_e rfl ?_ | refine PL.asg_e rfl ?_); try dsimp only [dNil]
    exact k sn wa a9 G I ((hs.front 2 rfl).tail.swap.tail)
  | succ m ih =>
    intro sn wk wa a9 G I hm hl hs k
    have e := ne_nil (hs.get 1 rfl)
    unfold dWhile
    unfold b_law_2
    by_cases c : wk = []
    · subst c
      (repeat first | refine Exists.intro _ (And.intro rfl ?_) | refine Exists.intro _ (And.intro (e) ?_) | (refine PL.le_e ?_ ?_; (focus (simp; done))) | refine And.intro (show _ = some "str" from rfl) ?_ | refine And.intro (And.intro rfl (by decide)) ?_ | refine PL.ifF rfl ?_ | refine PL.ifT rfl ?_ | refine PL.par_e rfl ?_ | refine PL.some_e rfl ?_ | refine PL.asg_e rfl ?_); try dsimp only [dNil]
      exact k sn wa a9 G I ((hs.front 2 rfl).tail.swap.tail)
    · obtain ⟨wk, x, rfl⟩ := last_of c
      have e : pyNe G (.ref wa) (.lst []) = some (.bl true) := by
        rw [e, decide_eq_false c]
        rfl
      have lw : (wk ++ [x]).length = wk.length + 1 := by simp
      (repeat first | refine Exists.intro _ (And.intro rfl ?_) | refine Exists.intro _ (And.intro (e) ?_) | (refine PL.le_e ?_ ?_; (focus (simp; done))) | refine And.intro (show _ = some "str" from rfl) ?_ | refine And.intro (And.intro rfl (by decide)) ?_ | refine PL.ifF rfl ?_ | refine PL.ifT rfl ?_ | refine PL.par_e rfl ?_ | refine PL.some_e rfl ?_ | refine PL.asg_e rfl ?_); try dsimp only [dNil]
      unfold b_law_3
      (repeat first | refine Exists.intro _ (And.intro rfl ?_) | (refine PL.le_e ?_ ?_; (focus (simp; done))) | refine And.intro (show _ = some "str" from rfl) ?_ | refine And.intro (And.intro rfl (by decide)) ?_ | refine PL.ifF rfl ?_ | refine PL.ifT rfl ?_ | refine PL.par_e rfl ?_ | refine PL.some_e rfl ?_ | refine PL.asg_e rfl ?_); try dsimp only [dNil]
      refine ⟨ty_lst (hs.get 1 rfl), _, _, pop_ok (hs.get 1 rfl), ?_⟩
      generalize hG : gset G wa _ = G1
      have hs := hs.setG 1 hG rfl
      have e3 := seen_in (g := x) (hs.get 0 rfl)
      (repeat first | refine Exists.intro _ (And.intro rfl ?_) | (refine PL.le_e ?_ ?_; (focus (simp; done))) | refine And.intro (show _ = some "str" from rfl) ?_ | refine And.intro (And.intro rfl (by decide)) ?_ | refine PL.ifF rfl ?_ | refine PL.ifT rfl ?_ | refine PL.par_e rfl ?_ | refine PL.some_e rfl ?_ | refine PL.asg_e rfl ?_); try dsimp only [dNil]
      by_cases c1 : x < is.length
      · refine ifT (decide_eq_true (by rw [List.length_map]; omega)) ?_
        (repeat first | refine Exists.intro _ (And.intro rfl ?_) | refine Exists.intro _ (And.intro (e3) ?_) | (refine PL.le_e ?_ ?_; (focus (simp; done))) | refine And.intro (show _ = some "str" from rfl) ?_ | refine And.intro (And.intro rfl (by decide)) ?_ | refine PL.ifF rfl ?_ | refine PL.ifT rfl ?_ | refine PL.par_e rfl ?_ | refine PL.some_e rfl ?_ | refine PL.asg_e rfl ?_); try dsimp only [dNil]
        by_cases c2 : x ∈ sn
        · refine ifF (by simp [c2]) ?_
          exact ih sn wk wa _ G1 (I.skip (fun z => z.2 c2) h0) (by omega) (by omega) hs k
        · refine ifT (by simp [c2]) ?_
          obtain ⟨i, hi⟩ := at_of c1
          obtain ⟨gs, ew, mg, lg⟩ := way_of i x
          have sl := nodup_len is.length sn I.nd fun x m => (I.ok x m).1
          have I' := I.next ⟨c1, c2⟩ hi mg
          have sl' := nodup_len is.length (sn ++ [x]) I'.nd fun x m => (I'.ok x m).1
          rw [List.length_append] at sl'
          simp at sl'
          (repeat first | refine Exists.intro _ (And.intro rfl ?_) | (refine PL.le_e ?_ ?_; (focus (simp; done))) | refine And.intro (show _ = some "str" from rfl) ?_ | refine And.intro (And.intro rfl (by decide)) ?_ | refine PL.ifF rfl ?_ | refine PL.ifT rfl ?_ | refine PL.par_e rfl ?_ | refine PL.some_e rfl ?_ | refine PL.asg_e rfl ?_); try dsimp only [dNil]
          refine ⟨ty_lst (hs.get 0 rfl), _, rfl, _, _, append_ok (hs.get 0 rfl) (by rw [List.length_map]; omega), ?_⟩
          generalize hG : gset G1 sa _ = G2
          have hs := hs.setG 0 hG rfl
          have e4 : sn.map nD ++ [nD x] = (sn ++ [x]).map nD := by simp
          rw [e4] at hs
          have e5 := item_w (hs.get 2 rfl) hi
          rw [ew] at e5
          have e6 : addB G2 (.ref wa) (.lst (gs.map nD)) = some (.lst ((wk ++ gs).map nD)) := by
            have h1 := hs.get 1 rfl
            simp only [addB, asL, h1, lstO, List.length_map]
            rw [if_pos (by omega), List.map_append]
          (repeat first | refine Exists.intro _ (And.intro rfl ?_) | refine Exists.intro _ (And.intro (e5) ?_) | refine Exists.intro _ (And.intro (e6) ?_) | (refine PL.le_e ?_ ?_; (focus (simp; done))) | refine And.intro (show _ = some "str" from rfl) ?_ | refine And.intro (And.intro rfl (by decide)) ?_ | refine PL.ifF rfl ?_ | refine PL.ifT rfl ?_ | refine PL.par_e rfl ?_ | refine PL.some_e rfl ?_ | refine PL.asg_e rfl ?_); try dsimp only [dNil]
          intro wb hwb
          generalize hG : gset G2 wb _ = G3
          have hs := hs.newG hwb hG
          have hs : Stars (pt sa (.lst ((sn ++ [x]).map nD)) :: pt wb (.lst ((wk ++ gs).map nD)) :: pt w (.lst (waysF 0 is)) :: F) G3 := ((hs.front 2 rfl).tail.swap)
          refine ih (sn ++ [x]) (wk ++ gs) wb _ G3 I' ?_ (by omega) hs k
          rw [List.length_append, List.length_append]
          simp
          omega
      · refine ifF (decide_eq_false (by rw [List.length_map]; omega)) ?_
        exact ih sn wk wa _ G1 (I.skip (fun z => c1 z.1) h0) (by omega) (by omega) hs k
def badPs (n : Nat) : List D := [.int (-1), nD n, .bl true, .non, .str "0"]
theorem badPs_ok {n : Nat} : ∀ d ∈ badPs n, e_is_whole [d, .int 0, .int (n - 1)] = some (.ok (.bl false)) := by
  intro d hd
  simp only [badPs, List.mem_cons, List.not_mem_nil, or_false] at hd
  rcases hd with rfl | rfl | rfl | rfl | rfl
  all_goals
    rw [show e_is_whole = PL.e_is_whole from rfl, is_whole_eq rfl]
    simp [inR]
  omega
theorem bad_loop {a0 a1 a3 a4 a5 a6 a7 a8 a9 a10 a11 : Option D} {guard : DG → Prop} (hg : ∀ G, guard G) (hp : isProg (pD is) = true) : ∀ (ds : List D) (a12 : Option D), (∀ d ∈ ds, d ∈ badPs is.length) → (∀ a12, DE.nx [a0, a1, some (pD is), a3, a4, a5, a6, a7, a8, a9, a10, a11, a12] G) →
    dLoop E (.n 12) b_law_5 DE guard ds [a0, a1, some (pD is), a3, a4, a5, a6, a7, a8, a9, a10, a11, a12] G
  | [], a12, _, k => ⟨hg G, k _⟩
  | d :: ds, a12, h, k => by
    refine ⟨hg G, ?_⟩
    show b_law_5 _ _ [a0, a1, some (pD is), a3, a4, a5, a6, a7, a8, a9, a10, a11, some d] G
    unfold b_law_5
    (repeat first | refine Exists.intro _ (And.intro rfl ?_) | (refine PL.le_e ?_ ?_; (focus (simp; done))) | refine And.intro (show _ = some "str" from rfl) ?_ | refine And.intro (And.intro rfl (by decide)) ?_ | refine PL.ifF rfl ?_ | refine PL.ifT rfl ?_ | refine PL.par_e rfl ?_ | refine PL.some_e rfl ?_ | refine PL.asg_e rfl ?_); try dsimp only [dNil]
    refine xgoals_bad hp (badPs_ok d (h d (by simp))) (told_at (by decide) ?_)
    (repeat first | refine Exists.intro _ (And.intro rfl ?_) | (refine PL.le_e ?_ ?_; (focus (simp; done))) | refine And.intro (show _ = some "str" from rfl) ?_ | refine And.intro (And.intro rfl (by decide)) ?_ | refine PL.ifF rfl ?_ | refine PL.ifT rfl ?_ | refine PL.par_e rfl ?_ | refine PL.some_e rfl ?_ | refine PL.asg_e rfl ?_); try dsimp only [dNil]
    exact bad_loop hg hp ds _ (fun x hx => h x (by simp [hx])) k
theorem rows_loop {a0 a1 a3 a4 a5 a6 a7 a8 a9 a12 : Option D} {ra : Addr} {guard : DG → Prop} (hg : ∀ G, guard G) (hn : is.length ≤ 40) : ∀ (ts js : List String) (a11 : Option D) (G : DG), (∀ t ∈ ts, t ∈ words4) → (js ++ ts).length ≤ 10 → Stars (pt ra (.lst (js.map fun w => rowS w is)) :: F) G →
    (∀ a11 G', Stars (pt ra (.lst ((js ++ ts).map fun w => rowS w is)) :: F) G' → DE.nx [a0, a1, some (pD is), a3, a4, a5, a6, a7, a8, a9, some (.ref ra), a11, a12] G') →
    dLoop E (.n 11) b_law_4 DE guard (ts.map .str) [a0, a1, some (pD is), a3, a4, a5, a6, a7, a8, a9, some (.ref ra), a11, a12] G
  | [], js, a11, G, _, _, hs, k => ⟨hg G, k _ G (by rw [List.append_nil]; exact hs)⟩
  | t :: ts, js, a11, G, h, hl, hs, k => by
    refine ⟨hg G, ?_⟩
    show b_law_4 _ _ [a0, a1, some (pD is), a3, a4, a5, a6, a7, a8, a9, some (.ref ra), some (.str t), a12] G
    unfold b_law_4
    (repeat first | refine Exists.intro _ (And.intro rfl ?_) | (refine PL.le_e ?_ ?_; (focus (simp; done))) | refine And.intro (show _ = some "str" from rfl) ?_ | refine And.intro (And.intro rfl (by decide)) ?_ | refine PL.ifF rfl ?_ | refine PL.ifT rfl ?_ | refine PL.par_e rfl ?_ | refine PL.some_e rfl ?_ | refine PL.asg_e rfl ?_); try dsimp only [dNil]
    refine ⟨ty_lst (hs.get 0 rfl), ?_⟩
    refine cons_e (b_e (cons_e (b_e (cons_e ?_))))
    refine lc_w_ok (is := is) (w := t) (i := 2) (j := 5) (k := 11) (env := [a0, a1, some (pD is), a3, a4, a5, a6, a7, a8, a9, some (.ref ra), some (.str t), a12]) (h t (by simp)) (by omega) rfl (fun _ => rfl) (fun _ => rfl) ?_
    have e : pySortedSet G [.lst (wordsL t is)] = some (.lst (sortD (nubD (wordsL t is)))) := sortedSet_words (by omega)
    (repeat first | refine Exists.intro _ (And.intro rfl ?_) | refine Exists.intro _ (And.intro (e) ?_) | (refine PL.le_e ?_ ?_; (focus (simp; done))) | refine And.intro (show _ = some "str" from rfl) ?_ | refine And.intro (And.intro rfl (by decide)) ?_ | refine PL.ifF rfl ?_ | refine PL.ifT rfl ?_ | refine PL.par_e rfl ?_ | refine PL.some_e rfl ?_ | refine PL.asg_e rfl ?_); try dsimp only [dNil]
    refine ⟨_, _, append_ok (hs.get 0 rfl) (by rw [List.length_map]; simp at hl; omega), ?_⟩
    generalize hG : gset G ra _ = G1
    have hs := hs.setG 0 hG rfl
    have e2 : (js.map fun w => rowS w is) ++ [.tup (sortD (nubD (wordsL t is)))] = (js ++ [t]).map fun w => rowS w is := by
      rw [List.map_append]
      rfl
    rw [e2] at hs
    exact rows_loop hg hn ts (js ++ [t]) _ G1 (fun x m => h x (List.mem_cons_of_mem _ m)) (by simpa using hl) hs (by simpa using k)
theorem round_body {a0 a2 a3 a4 a5 a6 a7 a8 a9 a10 a11 a12 : Option D} (hp : p ∈ ps) (hs : Stars [DiceA ps] G) (k : ∀ env' G', env'.length = 13 → Stars [DiceA ps] G' → DE.nx env' G') : b_law_0 E DE [a0, some (.ref p), a2, a3, a4, a5, a6, a7, a8, a9, a10, a11, a12] G := by
  unfold b_law_0
  (repeat first | refine Exists.intro _ (And.intro rfl ?_) | (refine PL.le_e ?_ ?_; (focus (simp; done))) | refine And.intro (show _ = some "str" from rfl) ?_ | refine And.intro (And.intro rfl (by decide)) ?_ | refine PL.ifF rfl ?_ | refine PL.ifT rfl ?_ | refine PL.par_e rfl ?_ | refine PL.some_e rfl ?_ | refine PL.asg_e rfl ?_); try dsimp only [dNil]
  refine sprogram hp hs (by decide) fun xs G1 hpr hlen hs => ?_
  obtain ⟨xs', e, h1, h40, hi⟩ := isProg_cases hpr
  cases e
  obtain ⟨is, e, iok⟩ := inss_of hi
  subst e
  rw [List.length_map] at h1 h40
  have hpr : isProg (pD is) = true := hpr
  (repeat first | refine Exists.intro _ (And.intro rfl ?_) | (refine PL.le_e ?_ ?_; (focus (simp; done))) | refine And.intro (show _ = some "str" from rfl) ?_ | refine And.intro (And.intro rfl (by decide)) ?_ | refine PL.ifF rfl ?_ | refine PL.ifT rfl ?_ | refine PL.par_e rfl ?_ | refine PL.some_e rfl ?_ | refine PL.asg_e rfl ?_); try dsimp only [dNil]
  intro w hw
  generalize hG : gset G1 w _ = G2
  have hs := hs.newG hw hG
  (repeat first | refine Exists.intro _ (And.intro rfl ?_) | (refine PL.le_e ?_ ?_; (focus (simp; done))) | refine And.intro (show _ = some "str" from rfl) ?_ | refine And.intro (And.intro rfl (by decide)) ?_ | refine PL.ifF rfl ?_ | refine PL.ifT rfl ?_ | refine PL.par_e rfl ?_ | refine PL.some_e rfl ?_ | refine PL.asg_e rfl ?_); try dsimp only [dNil]
  refine ⟨_, _, rfl, rfl, ?_⟩
  refine en_loop (is := is) (fun _ => rfl) hpr h40 is [] _ _ _ G2 rfl hs fun a4 a5 a6 G3 hs => ?_
  (repeat first | refine Exists.intro _ (And.intro rfl ?_) | (refine PL.le_e ?_ ?_; (focus (simp; done))) | refine And.intro (show _ = some "str" from rfl) ?_ | refine And.intro (And.intro rfl (by decide)) ?_ | refine PL.ifF rfl ?_ | refine PL.ifT rfl ?_ | refine PL.par_e rfl ?_ | refine PL.some_e rfl ?_ | refine PL.asg_e rfl ?_); try dsimp only [dNil]
  intro sa hsa
  generalize hG : gset G3 sa _ = G4
  have hs := hs.newG hsa hG
  (repeat first | refine Exists.intro _ (And.intro rfl ?_) | (refine PL.le_e ?_ ?_; (focus (simp; done))) | refine And.intro (show _ = some "str" from rfl) ?_ | refine And.intro (And.intro rfl (by decide)) ?_ | refine PL.ifF rfl ?_ | refine PL.ifT rfl ?_ | refine PL.par_e rfl ?_ | refine PL.some_e rfl ?_ | refine PL.asg_e rfl ?_); try dsimp only [dNil]
  intro wa hwa
  generalize hG : gset G4 wa _ = G5
  have hs := hs.newG hwa hG
  (repeat first | refine Exists.intro _ (And.intro rfl ?_) | (refine PL.le_e ?_ ?_; (focus (simp; done))) | refine And.intro (show _ = some "str" from rfl) ?_ | refine And.intro (And.intro rfl (by decide)) ?_ | refine PL.ifF rfl ?_ | refine PL.ifT rfl ?_ | refine PL.par_e rfl ?_ | refine PL.some_e rfl ?_ | refine PL.asg_e rfl ?_); try dsimp only [dNil]
  refine ⟨3 * is.length + 1 + 1, ?_⟩
  refine lw_while h40 (by omega) (3 * is.length + 1) [] [0] wa _ G5 InvL.start (by simp) (by omega) hs.swap fun sn wa a9 G6 J hs => ?_
  (repeat first | refine Exists.intro _ (And.intro rfl ?_) | (refine PL.le_e ?_ ?_; (focus (simp; done))) | refine And.intro (show _ = some "str" from rfl) ?_ | refine And.intro (And.intro rfl (by decide)) ?_ | refine PL.ifF rfl ?_ | refine PL.ifT rfl ?_ | refine PL.par_e rfl ?_ | refine PL.some_e rfl ?_ | refine PL.asg_e rfl ?_); try dsimp only [dNil]
  refine xcome hpr h40 (by omega) hs fun fs G7 I hs => ?_
  have e1 : pySorted G7 [.ref sa] = some (.lst (sortD (sn.map nD))) := by
    have h := hs.get 0 rfl
    simp only [pySorted, itD, asQ, asL, h, lstO, hom_nats, if_true]
  rw [reach_eq I J]
  (repeat first | refine Exists.intro _ (And.intro rfl ?_) | refine Exists.intro _ (And.intro (e1) ?_) | refine Exists.intro _ (And.intro (ne_refl (okD_nats sn)) ?_) | (refine PL.le_e ?_ ?_; (focus (simp; done))) | refine And.intro (show _ = some "str" from rfl) ?_ | refine And.intro (And.intro rfl (by decide)) ?_ | refine PL.ifF rfl ?_ | refine PL.ifT rfl ?_ | refine PL.par_e rfl ?_ | refine PL.some_e rfl ?_ | refine PL.asg_e rfl ?_); try dsimp only [dNil]
  intro ra hra
  generalize hG : gset G7 ra _ = G8
  have hs := hs.newG hra hG
  (repeat first | refine Exists.intro _ (And.intro rfl ?_) | (refine PL.le_e ?_ ?_; (focus (simp; done))) | refine And.intro (show _ = some "str" from rfl) ?_ | refine And.intro (And.intro rfl (by decide)) ?_ | refine PL.ifF rfl ?_ | refine PL.ifT rfl ?_ | refine PL.par_e rfl ?_ | refine PL.some_e rfl ?_ | refine PL.asg_e rfl ?_); try dsimp only [dNil]
  refine rows_loop (fun _ => rfl) h40 words4 [] _ G8 (fun _ m => m) (by decide) hs fun a11 G9 hs => ?_
  (repeat first | refine Exists.intro _ (And.intro rfl ?_) | (refine PL.le_e ?_ ?_; (focus (simp; done))) | refine And.intro (show _ = some "str" from rfl) ?_ | refine And.intro (And.intro rfl (by decide)) ?_ | refine PL.ifF rfl ?_ | refine PL.ifT rfl ?_ | refine PL.par_e rfl ?_ | refine PL.some_e rfl ?_ | refine PL.asg_e rfl ?_); try dsimp only [dNil]
  refine xwords_in hpr h40 ?_
  have e2 : pyTup G9 [.ref ra] = some (.tup (words4.map fun w => rowS w is)) := by
    have h := hs.get 0 rfl
    simp only [pyTup, asQ, asL, h, lstO]
    rfl
  (repeat first | refine Exists.intro _ (And.intro rfl ?_) | refine Exists.intro _ (And.intro (e2) ?_) | refine Exists.intro _ (And.intro (ne_refl (rows_ok iok)) ?_) | (refine PL.le_e ?_ ?_; (focus (simp; done))) | refine And.intro (show _ = some "str" from rfl) ?_ | refine And.intro (And.intro rfl (by decide)) ?_ | refine PL.ifF rfl ?_ | refine PL.ifT rfl ?_ | refine PL.par_e rfl ?_ | refine PL.some_e rfl ?_ | refine PL.asg_e rfl ?_); try dsimp only [dNil]
  rw [List.length_map]
  refine bad_loop (fun _ => rfl) hpr (badPs is.length) _ (fun _ m => m) fun a12 => ?_
  exact k _ G9 rfl hs.tail.tail
theorem env13 {env : DSt} (h : env.length = 13) : ∃ a0 a1 a2 a3 a4 a5 a6 a7 a8 a9 a10 a11 a12, env = [a0, a1, a2, a3, a4, a5, a6, a7, a8, a9, a10, a11, a12] := by
  match env, h with
  | [a0, a1, a2, a3, a4, a5, a6, a7, a8, a9, a10, a11, a12], _ => exact ⟨a0, a1, a2, a3, a4, a5, a6, a7, a8, a9, a10, a11, a12, rfl⟩
theorem plain (ns : List Int) (hl : ns.length ≤ 1000000) : sp_law [.scr ns] G0 (fun d _ => d = .bl true) fun _ _ => False := by
  refine ⟨rfl, ?_⟩
  show sSeq (sFor _ _ b_law_0) _ _ _ _ _
  refine ⟨_, rfl, ?_⟩
  refine rounds_ok hl (by decide) (by decide) fun ps G' _ hd _ => ⟨_, rfl, ?_⟩
  have loop : ∀ (E : DXK) (DE : DEnds), (∀ env G, DE.nx env G) → ∀ (qs : List Addr) (env : DSt) (G : DG), env.length = 13 → (∀ q ∈ qs, q ∈ ps) → Stars [DiceA ps] G → dLoop E (.n 1) b_law_0 DE (fun G' => iterD G' (.lst (ps.map .ref)) = some (ps.map .ref)) (qs.map .ref) env G := by
    intro E DE hn qs
    induction qs with
    | nil => intro env G _ _ _; exact ⟨rfl, hn _ _⟩
    | cons p qs ih =>
      intro env G he hq hs
      refine ⟨rfl, ?_⟩
      obtain ⟨a0, a1, a2, a3, a4, a5, a6, a7, a8, a9, a10, a11, a12, rfl⟩ := env13 he
      exact round_body (hq p List.mem_cons_self) hs fun env' G2 hl' hd2 => ih env' G2 hl' (fun q hq' => hq q (List.mem_cons_of_mem _ hq')) hd2
  exact loop _ _ (fun _ _ => rfl) ps _ G' rfl (fun q hq => hq) ⟨G', fun _ => none, fun _ => .inr rfl, Ext.refl _, fun _ h => absurd rfl h, hd, trivial⟩
end
end K02

namespace K02
open PySem PySem.Spec PyProof.Rows L2 LamX HotX L2H DL
theorem facts {P : Program} {w : World} {K : PySem.W.Frag} {h base : Heap} {mg : Str → Option Value} (X : K.In h) (G : h.Ns mainGlobals mg) (c : He.SaysX fa fn ts tf ex w h K) (hT : ∀ p ∈ ([He.cT K ("law", none)] : List (Addr × Addr)), LamX.TabB base mg p.1 p.2) : Fx P w K [((He.cT K ("law", none)).2, Str.ofString "law.<locals>.<lambda>")] mg base := by
  have d := c.t.d
  have m := c.more
  simp only [ex, Bool.and_eq_true] at m
  exact {
    free := fun x hx => by
      simp only [List.mem_cons, List.not_mem_nil, or_false] at hx
      rcases hx with rfl | rfl | rfl | rfl | rfl | rfl | rfl | rfl | rfl | rfl | rfl | rfl | rfl | rfl | rfl | rfl
      · exact He.free_ok X G (d.fact 25)
      · exact He.free_ok X G (d.fact 26)
      · exact He.free_ok X G (d.fact 27)
      · exact He.free_ok X G (d.fact 28)
      · exact He.free_ok X G (d.fact 29)
      · exact He.free_ok X G (d.fact 30)
      · exact He.free_ok X G (d.fact 31)
      · exact He.free_ok X G (d.fact 32)
      · exact He.free_ok X G (d.fact 33)
      · exact He.free_ok X G (d.fact 34)
      · exact He.free_ok X G (d.fact 35)
      · exact He.free_ok X G (d.fact 36)
      · exact He.free_ok X G (d.fact 37)
      · exact He.free_ok X G (d.fact 38)
      · exact He.free_ok X G (d.fact 39)
      · exact He.free_ok X G (d.fact 40)
    gi_FARTHEST := He.int_ok X G (d.fact 41)
    gs_SMALL := He.str_ok X G (d.fact 42)
    kt_FORMS := ktab_of (He.glo_ok X G (d.fact 43)) (says_tab c.t 0) m.2
    xc_BadNumber := ⟨d.fact 44, He.glo_ok X G (d.fact 45)⟩
    xc_BadProgram := ⟨d.fact 46, He.glo_ok X G (d.fact 47)⟩
    fd__law_door_pool := d.def_ 0
    mg__law_door_pool := He.glo_ok X G (d.fact 0)
    fd__law_page_pool := d.def_ 1
    mg__law_page_pool := He.glo_ok X G (d.fact 1)
    fd__law_drawn := d.def_ 2
    mg__law_drawn := He.glo_ok X G (d.fact 2)
    fd__law_roll := d.def_ 3
    mg__law_roll := He.glo_ok X G (d.fact 3)
    fd__law_sorts := d.def_ 4
    mg__law_sorts := He.glo_ok X G (d.fact 4)
    fd__law_any_order := d.def_ 5
    mg__law_any_order := He.glo_ok X G (d.fact 5)
    fd__law_any_program := d.def_ 6
    mg__law_any_program := He.glo_ok X G (d.fact 6)
    fd__law_cell := d.def_ 7
    mg__law_cell := He.glo_ok X G (d.fact 7)
    fd__law_rounds := d.def_ 8
    mg__law_rounds := He.glo_ok X G (d.fact 8)
    fd__law_term := d.def_ 9
    mg__law_term := He.glo_ok X G (d.fact 9)
    fd__law_told := d.def_ 10
    mg__law_told := He.glo_ok X G (d.fact 10)
    fd_is_whole := d.def_ 11
    mg_is_whole := He.glo_ok X G (d.fact 11)
    fd_is_number := d.def_ 12
    mg_is_number := He.glo_ok X G (d.fact 12)
    fd_is_word := d.def_ 13
    mg_is_word := He.glo_ok X G (d.fact 13)
    fd_is_part := d.def_ 14
    mg_is_part := He.glo_ok X G (d.fact 14)
    fd_is_instruction := d.def_ 15
    mg_is_instruction := He.glo_ok X G (d.fact 15)
    fd_is_program := d.def_ 16
    mg_is_program := He.glo_ok X G (d.fact 16)
    fd_need_program := d.def_ 17
    mg_need_program := He.glo_ok X G (d.fact 17)
    fd_goals_of := d.def_ 18
    mg_goals_of := He.glo_ok X G (d.fact 18)
    fd_places_of := d.def_ 19
    mg_places_of := He.glo_ok X G (d.fact 19)
    fd_come_to := d.def_ 20
    mg_come_to := He.glo_ok X G (d.fact 20)
    fd_goals := d.def_ 21
    mg_goals := He.glo_ok X G (d.fact 21)
    fd_words_of := d.def_ 22
    mg_words_of := He.glo_ok X G (d.fact 22)
    fd_words_in := d.def_ 23
    mg_words_in := He.glo_ok X G (d.fact 23)
    fd_law := d.def_ 24
    mg_law := He.glo_ok X G (d.fact 24)
    told := toldB_ok m.1
    mgC := fun x hx => by
      simp only [kinds13, List.cons_append, List.nil_append, List.mem_cons, List.not_mem_nil, or_false] at hx
      rcases hx with rfl | rfl | rfl | rfl | rfl | rfl | rfl | rfl | rfl | rfl | rfl | rfl | rfl | rfl
      · exact He.glo_ok X G (d.fact 47)
      · exact He.glo_ok X G (d.fact 48)
      · exact He.glo_ok X G (d.fact 45)
      · exact He.glo_ok X G (d.fact 49)
      · exact He.glo_ok X G (d.fact 50)
      · exact He.glo_ok X G (d.fact 51)
      · exact He.glo_ok X G (d.fact 52)
      · exact He.glo_ok X G (d.fact 53)
      · exact He.glo_ok X G (d.fact 54)
      · exact He.glo_ok X G (d.fact 55)
      · exact He.glo_ok X G (d.fact 56)
      · exact He.glo_ok X G (d.fact 57)
      · exact He.glo_ok X G (d.fact 58)
      · exact He.glo_ok X G (d.fact 59)
    lamt_law := ⟨(He.cT K ("law", none)).2, hT (He.cT K ("law", none)) (by simp), by simp, fun p hp e => by
      rw [List.mem_singleton] at hp
      rw [hp]⟩ }
theorem cx_none {P : Program} {w : World} {o : List Env} {H : Hp} {s : Shared} {e : Value} {t : Shared} (z : L2N.CX P w o H s (fun _ _ _ => False) e t) : False := by
  obtain ⟨_, _, _, _, _, _, _, _, _, _, _, _, z⟩ := z
  exact z
theorem lawAt {w : World} {K : PySem.W.Frag} {h : Heap} {mg : Str → Option Value} {fa : Addr} (X : K.In h) (G : h.Ns mainGlobals mg) (hmg : mg ("law" : Str) = some (.ref fa)) (c : He.SaysX K02.fa fn ts tf ex w h K) : LawAtS PySem.Challenge.rw_cageworks_k02_whole_goals w K (L2N.CX (PySem.Challenge.rw_cageworks_k02_whole_goals).prog w) 10 63 "script" mg fa h := by
  obtain ⟨fd, F⟩ := c.t.d.def_ 24
  have e := hmg.symm.trans (He.glo_ok X G (c.t.d.fact 24 (f := .glo "law") rfl))
  cases e
  have b := FunD.bindsA (ps := ["script"]) F fun _ _ _ _ _ _ us hl => match us, hl with | [_], _ => rfl
  refine ⟨fd, [He.cT K ("law", none)], liftSp K [((He.cT K ("law", none)).2, Str.ofString "law.<locals>.<lambda>")] sp_law, ?_, ?_, ?_, fun s v => b s [v] rfl, fun H a ns hl _ hH hS => law_sp (fun p hp => by
      rw [List.mem_singleton] at hp
      subst hp
      exact TabS.nil (hH (He.cT K ("law", none)) (by simp))) hS (plain ns (Nat.le_trans hl (by decide))), fun base _ _ hT => law_fn (facts X G c hT) F⟩
  · intro p hp
    exact by
        rw [List.mem_singleton] at hp
        subst hp
        exact c.empty ("law", none) (by simp [tf])
  · intro p hp
    exact by
        rw [List.mem_singleton] at hp
        subst hp
        exact c.out ("law", none) (by simp [tf])
  · intro p hp
    exact by
        rw [List.mem_singleton] at hp
        subst hp
        exact PySem.W.codeHd_of_K X (c.hd ("law", none) (by simp [tf]))
end K02
open PySem PySem.W PySem.Calls PyProof.Rows DL in
theorem K02.holds : PySem.Challenge.rw_cageworks_k02_whole_goals.Holds := by
  w_on; o_law
  refine HandSHeadRun.head_any (r := OpenLaw.row PySem.Challenge.rw_cageworks_k02_whole_goals) (q := view (OpenLaw.row PySem.Challenge.rw_cageworks_k02_whole_goals).prog [44]) (H := K02.hk) (ob := K02.ob) (M := 20000) (loose := K02.nms) (d := HandSHeadRun.topDef (OpenLaw.row PySem.Challenge.rw_cageworks_k02_whole_goals).prog 44) (kwd := []) K02.ob_eq
    (by kernel_rfl) (fun s => by kernel_rfl) K02.run (by kernel_rfl) (by kernel_rfl) (by kernel_rfl) (by rfl) (by first | assumption | decide +kernel) (by decide +kernel) ⟨rfl, rfl, rfl, rfl, rfl, by decide +kernel⟩ ?hw ?hc
  case hw => w_witness2
  case hc =>
    refine LamX.walk_ofTsE (l := PySem.Challenge.rw_cageworks_k02_whole_goals) (n := 63) (k := 10) (x := "script") (CX := fun w => L2N.CX (PySem.Challenge.rw_cageworks_k02_whole_goals).prog w) rfl (by decide) (by kernel_rfl) ⟨rfl, by decide, by decide⟩ ?F (fun _ _ _ _ _ z => K02.cx_none z)
    intro w mg fa h Y G hmg0
    obtain ⟨K, KX, c⟩ := Y
    have hmg : mg ("law" : PySem.Str) = some (.ref fa) := by
      have e : (HandSHeadRun.topDef (OpenLaw.row PySem.Challenge.rw_cageworks_k02_whole_goals).prog 44).name = ("law" : PySem.Str) := by kernel_rfl
      rw [← e]
      exact hmg0
    exact ⟨K, KX, K02.lawAt KX G hmg c⟩

theorem PySem.Challenge.cw_cageworks_k02_whole_goals_holds : PySem.Challenge.rw_cageworks_k02_whole_goals.Holds := by
  exact K02.holds
