import PyProof.Rows.All
import PySem.Challenge.RW_haulring_k24_whole_clear_lists_in_any_or
import Wide.All
import OpenK.AllK
import Wide.FinOn
import HandS.ForMost
import HandS.Defaults
import HandS.HeadHook4
import HandS.Head2
import HandS.Walk
import KE.GoesEnum
import KE.KUnpackStar
import KE.GoesEnumKw
import KE.KDictZip
import KE.KDictItemsList
import HandS.SetBool
import HandS.Strs
import HandS.Comp
import KE.DataMinMax
import HandS.SortKw
import HandS.Dict
import HandS.More
import HandS.HeadHook3
import PyProof.MeetsIn
import KE.SortKeyHeap
import KE.SortData
import KE.KLam
import HandS.Lambda
import PyProof.TupleOfSeq
import PyProof.EqAt
import PyProof.NeKinds
import HandS.DictComp
import HandS.IsInst
import HandS.Codes
import HandS.MakeKwOnly
import HandS.TupAny
import HandS.Flow
import HandS.SortInts
import HandS.Iter
import HandS.Zip
import HandS.EndTab
import HandS.Style
import PyProof.P3Eq
import HandS.HeadWalk
section
set_option Elab.async false
set_option linter.all false
set_option maxRecDepth 100000
set_option maxHeartbeats 4000000
namespace K24
open PySem PySem.Spec PyProof.Rows L2
/-! the text by places (printed by gen_head.py) -/
def topS (i : Nat) : Stmt := PySem.Challenge.pw_haulring_k24_whole_clear_lists_in_any_or.main.body.getD i (.Pass ⟨0, 0, 0, 0⟩)
abbrev sIsWhole : Stmt := topS 11
abbrev sIsByte : Stmt := topS 12
abbrev sIsFlag : Stmt := topS 13
abbrev sIsMemory : Stmt := topS 14
abbrev sAreaWrong : Stmt := topS 18
abbrev sOwnCells : Stmt := topS 19
abbrev sOwnSize : Stmt := topS 20
abbrev sIsThing : Stmt := topS 35
abbrev sFormOf : Stmt := topS 36
abbrev sThingsWrong : Stmt := topS 37
abbrev sStepWrong : Stmt := topS 38
abbrev sNeedStep : Stmt := topS 39
abbrev sListWrong : Stmt := topS 40
abbrev sNeedList : Stmt := topS 41
abbrev sAllTouches : Stmt := topS 42
abbrev sCellsBy : Stmt := topS 43
abbrev sReadsOf : Stmt := topS 44
abbrev sWritesOf : Stmt := topS 45
abbrev sWaysOf : Stmt := topS 49
abbrev sSInit : Stmt := inClass (topS 50) 0
abbrev sSShared : Stmt := inClass (topS 50) 1
abbrev sSBarred : Stmt := inClass (topS 50) 2
abbrev sSClashes : Stmt := inClass (topS 50) 3
abbrev sSAllNeeds : Stmt := inClass (topS 50) 4
abbrev sSpreadOf : Stmt := topS 51
abbrev sNeeds : Stmt := topS 52
abbrev sIsClear : Stmt := topS 53
abbrev sAreSpots : Stmt := topS 54
abbrev sFenced : Stmt := topS 55
abbrev sLeastSpots : Stmt := topS 56
abbrev sFewest : Stmt := topS 57
abbrev sAreaCells : Stmt := topS 65
abbrev sCellsTouched : Stmt := topS 66
abbrev sDoStep : Stmt := topS 67
abbrev sNeedMemory : Stmt := topS 68
abbrev sNeedInside : Stmt := topS 69
abbrev sOwnStepsDone : Stmt := topS 70
abbrev sListDone : Stmt := topS 71
abbrev sLawDraws : Stmt := topS 73
abbrev sLawTake : Stmt := topS 74
abbrev sLawArea : Stmt := topS 75
abbrev sLawStep : Stmt := topS 76
abbrev sLawList : Stmt := topS 77
abbrev sLawCells : Stmt := topS 78
abbrev sLawParts : Stmt := topS 79
abbrev sLawPart : Stmt := topS 80
abbrev sLawPlainly : Stmt := topS 81
abbrev sLawMoved : Stmt := topS 82
abbrev sLaw : Stmt := topS 83
def dIsWhole : He.DefD := ⟨("is_whole", none), "is_whole", "is_whole", defArgs sIsWhole, defBody sIsWhole, defScope sIsWhole, [], [("least", .int 0), ("most", .int 1023)]⟩
def dIsByte : He.DefD := ⟨("is_byte", none), "is_byte", "is_byte", defArgs sIsByte, defBody sIsByte, defScope sIsByte, [], []⟩
def dIsFlag : He.DefD := ⟨("is_flag", none), "is_flag", "is_flag", defArgs sIsFlag, defBody sIsFlag, defScope sIsFlag, [], []⟩
def dIsMemory : He.DefD := ⟨("is_memory", none), "is_memory", "is_memory", defArgs sIsMemory, defBody sIsMemory, defScope sIsMemory, [], []⟩
def dAreaWrong : He.DefD := ⟨("area_wrong", none), "area_wrong", "area_wrong", defArgs sAreaWrong, defBody sAreaWrong, defScope sAreaWrong, [], []⟩
def dOwnCells : He.DefD := ⟨("own_cells", none), "own_cells", "own_cells", defArgs sOwnCells, defBody sOwnCells, defScope sOwnCells, [], []⟩
def dOwnSize : He.DefD := ⟨("own_size", none), "own_size", "own_size", defArgs sOwnSize, defBody sOwnSize, defScope sOwnSize, [], []⟩
def dIsThing : He.DefD := ⟨("is_thing", none), "is_thing", "is_thing", defArgs sIsThing, defBody sIsThing, defScope sIsThing, [], []⟩
def dFormOf : He.DefD := ⟨("form_of", none), "form_of", "form_of", defArgs sFormOf, defBody sFormOf, defScope sFormOf, [], []⟩
def dThingsWrong : He.DefD := ⟨("things_wrong", none), "things_wrong", "things_wrong", defArgs sThingsWrong, defBody sThingsWrong, defScope sThingsWrong, [], []⟩
def dStepWrong : He.DefD := ⟨("step_wrong", none), "step_wrong", "step_wrong", defArgs sStepWrong, defBody sStepWrong, defScope sStepWrong, [], []⟩
def dNeedStep : He.DefD := ⟨("need_step", none), "need_step", "need_step", defArgs sNeedStep, defBody sNeedStep, defScope sNeedStep, [], []⟩
def dListWrong : He.DefD := ⟨("list_wrong", none), "list_wrong", "list_wrong", defArgs sListWrong, defBody sListWrong, defScope sListWrong, [], []⟩
def dNeedList : He.DefD := ⟨("need_list", none), "need_list", "need_list", defArgs sNeedList, defBody sNeedList, defScope sNeedList, [], []⟩
def dAllTouches : He.DefD := ⟨("all_touches", none), "all_touches", "all_touches", defArgs sAllTouches, defBody sAllTouches, defScope sAllTouches, [], []⟩
def dCellsBy : He.DefD := ⟨("cells_by", none), "cells_by", "cells_by", defArgs sCellsBy, defBody sCellsBy, defScope sCellsBy, [], []⟩
def dReadsOf : He.DefD := ⟨("reads_of", none), "reads_of", "reads_of", defArgs sReadsOf, defBody sReadsOf, defScope sReadsOf, [], []⟩
def dWritesOf : He.DefD := ⟨("writes_of", none), "writes_of", "writes_of", defArgs sWritesOf, defBody sWritesOf, defScope sWritesOf, [], []⟩
def dWaysOf : He.DefD := ⟨("ways_of", none), "ways_of", "ways_of", defArgs sWaysOf, defBody sWaysOf, defScope sWaysOf, [], []⟩
def dSInit : He.DefD := ⟨("Spread", some "__init__"), "__init__", "Spread.__init__", defArgs sSInit, defBody sSInit, defScope sSInit, [], []⟩
def dSShared : He.DefD := ⟨("Spread", some "shared"), "shared", "Spread.shared", defArgs sSShared, defBody sSShared, defScope sSShared, [], []⟩
def dSBarred : He.DefD := ⟨("Spread", some "barred"), "barred", "Spread.barred", defArgs sSBarred, defBody sSBarred, defScope sSBarred, [], []⟩
def dSClashes : He.DefD := ⟨("Spread", some "clashes"), "clashes", "Spread.clashes", defArgs sSClashes, defBody sSClashes, defScope sSClashes, [], []⟩
def dSAllNeeds : He.DefD := ⟨("Spread", some "all_needs"), "all_needs", "Spread.all_needs", defArgs sSAllNeeds, defBody sSAllNeeds, defScope sSAllNeeds, [], []⟩
def dSpreadOf : He.DefD := ⟨("spread_of", none), "spread_of", "spread_of", defArgs sSpreadOf, defBody sSpreadOf, defScope sSpreadOf, [], []⟩
def dNeeds : He.DefD := ⟨("needs", none), "needs", "needs", defArgs sNeeds, defBody sNeeds, defScope sNeeds, [], []⟩
def dIsClear : He.DefD := ⟨("is_clear", none), "is_clear", "is_clear", defArgs sIsClear, defBody sIsClear, defScope sIsClear, [], []⟩
def dAreSpots : He.DefD := ⟨("are_spots", none), "are_spots", "are_spots", defArgs sAreSpots, defBody sAreSpots, defScope sAreSpots, [], []⟩
def dFenced : He.DefD := ⟨("fenced", none), "fenced", "fenced", defArgs sFenced, defBody sFenced, defScope sFenced, [], []⟩
def dLeastSpots : He.DefD := ⟨("least_spots", none), "least_spots", "least_spots", defArgs sLeastSpots, defBody sLeastSpots, defScope sLeastSpots, [], []⟩
def dFewest : He.DefD := ⟨("fewest", none), "fewest", "fewest", defArgs sFewest, defBody sFewest, defScope sFewest, [], []⟩
def dAreaCells : He.DefD := ⟨("area_cells", none), "area_cells", "area_cells", defArgs sAreaCells, defBody sAreaCells, defScope sAreaCells, [], []⟩
def dCellsTouched : He.DefD := ⟨("cells_touched", none), "cells_touched", "cells_touched", defArgs sCellsTouched, defBody sCellsTouched, defScope sCellsTouched, [], []⟩
def dDoStep : He.DefD := ⟨("do_step", none), "do_step", "do_step", defArgs sDoStep, defBody sDoStep, defScope sDoStep, [], []⟩
def dNeedMemory : He.DefD := ⟨("need_memory", none), "need_memory", "need_memory", defArgs sNeedMemory, defBody sNeedMemory, defScope sNeedMemory, [], []⟩
def dNeedInside : He.DefD := ⟨("need_inside", none), "need_inside", "need_inside", defArgs sNeedInside, defBody sNeedInside, defScope sNeedInside, [], []⟩
def dOwnStepsDone : He.DefD := ⟨("own_steps_done", none), "own_steps_done", "own_steps_done", defArgs sOwnStepsDone, defBody sOwnStepsDone, defScope sOwnStepsDone, [], []⟩
def dListDone : He.DefD := ⟨("list_done", none), "list_done", "list_done", defArgs sListDone, defBody sListDone, defScope sListDone, [], []⟩
def dLawDraws : He.DefD := ⟨("_law_draws", none), "_law_draws", "_law_draws", defArgs sLawDraws, defBody sLawDraws, defScope sLawDraws, [], []⟩
def dLawTake : He.DefD := ⟨("_law_take", none), "_law_take", "_law_take", defArgs sLawTake, defBody sLawTake, defScope sLawTake, [], []⟩
def dLawArea : He.DefD := ⟨("_law_area", none), "_law_area", "_law_area", defArgs sLawArea, defBody sLawArea, defScope sLawArea, [], []⟩
def dLawStep : He.DefD := ⟨("_law_step", none), "_law_step", "_law_step", defArgs sLawStep, defBody sLawStep, defScope sLawStep, [], []⟩
def dLawList : He.DefD := ⟨("_law_list", none), "_law_list", "_law_list", defArgs sLawList, defBody sLawList, defScope sLawList, [], []⟩
def dLawCells : He.DefD := ⟨("_law_cells", none), "_law_cells", "_law_cells", defArgs sLawCells, defBody sLawCells, defScope sLawCells, [], []⟩
def dLawParts : He.DefD := ⟨("_law_parts", none), "_law_parts", "_law_parts", defArgs sLawParts, defBody sLawParts, defScope sLawParts, [], []⟩
def dLawPart : He.DefD := ⟨("_law_part", none), "_law_part", "_law_part", defArgs sLawPart, defBody sLawPart, defScope sLawPart, [], []⟩
def dLawPlainly : He.DefD := ⟨("_law_plainly", none), "_law_plainly", "_law_plainly", defArgs sLawPlainly, defBody sLawPlainly, defScope sLawPlainly, [], []⟩
def dLawMoved : He.DefD := ⟨("_law_moved", none), "_law_moved", "_law_moved", defArgs sLawMoved, defBody sLawMoved, defScope sLawMoved, [], []⟩
def dLaw : He.DefD := ⟨("law", none), "law", "law", defArgs sLaw, defBody sLaw, defScope sLaw, [], []⟩
def fnL : List He.DefD := [dIsWhole, dIsByte, dIsFlag, dIsMemory, dAreaWrong, dOwnCells, dOwnSize, dIsThing, dFormOf, dThingsWrong, dStepWrong, dNeedStep, dListWrong, dNeedList, dAllTouches, dCellsBy, dReadsOf, dWritesOf, dWaysOf, dSInit, dSShared, dSBarred, dSClashes, dSAllNeeds, dSpreadOf, dNeeds, dIsClear, dAreSpots, dFenced, dLeastSpots, dFewest, dAreaCells, dCellsTouched, dDoStep, dNeedMemory, dNeedInside, dOwnStepsDone, dListDone, dLawDraws, dLawTake, dLawArea, dLawStep, dLawList, dLawCells, dLawParts, dLawPart, dLawPlainly, dLawMoved, dLaw]
def faL : List He.Fa := [.glo "is_whole", .glo "is_byte", .glo "is_flag", .glo "is_memory", .glo "area_wrong", .glo "own_cells", .glo "own_size", .glo "is_thing", .glo "form_of", .glo "things_wrong", .glo "step_wrong", .glo "need_step", .glo "list_wrong", .glo "need_list", .glo "all_touches", .glo "cells_by", .glo "reads_of", .glo "writes_of", .glo "ways_of", .glo "spread_of", .glo "needs", .glo "is_clear", .glo "are_spots", .glo "fenced", .glo "least_spots", .glo "fewest", .glo "area_cells", .glo "cells_touched", .glo "do_step", .glo "need_memory", .glo "need_inside", .glo "own_steps_done", .glo "list_done", .glo "_law_draws", .glo "_law_take", .glo "_law_area", .glo "_law_step", .glo "_law_list", .glo "_law_cells", .glo "_law_parts", .glo "_law_part", .glo "_law_plainly", .glo "_law_moved", .glo "law", .glo "Spread", .glo "BARS", .glo "FENCE_fences", .glo "STEP_FORMS", .free "all", .free "bool", .free "dict", .free "enumerate", .free "int", .free "isinstance", .free "len", .free "list", .free "max", .free "min", .free "range", .free "sorted", .free "str", .free "sum", .free "tuple", .free "zip", .int "MOST_CELLS" 1024, .int "FLAGS" 8, .int "GREATEST_BYTE" 255, .int "MOST_AREA" 256, .int "MOST_STEPS" 64, .int "MOST_NOTED" 99, .int "BYTES" 256, .int "GREATEST_CELL" 1023, .str "END" "end", .str "COPY_steps" "copy", .str "FILL_steps" "fill", .str "ADD_steps" "add", .str "NOTE" "note", .str "WAIT" "wait", .str "FENCE_steps" "fence", .str "READ_steps" "r", .str "WRITE_steps" "w", .str "SIZE" "size", .str "SKIP" "skip", .str "COPY_plain" "copy", .str "FILL_plain" "fill", .str "ADD_plain" "add", .str "READ_plain" "r", .str "WRITE_plain" "w", .cls "Spread", .mkr "Spread", .noat "Spread" "own_ways", .noat "Spread" "own_bars", .meth "Spread" "shared", .meth "Spread" "barred", .meth "Spread" "clashes", .meth "Spread" "all_needs"]
def tsL : List He.Tab := [(fun K => He.ga K "STEP_FORMS", ["copy", "fill", "add", "note", "wait", "fence"])]
def tfL : List He.Defn := [("least_spots", none)]
def exB (K : PySem.W.Frag) : Bool := He.tupB K "BARS" [.str "fence", .str "note"] && (He.tupB K "FENCE_fences" [.str "fence"] &&
  He.valsB K (He.ga K "STEP_FORMS") [("copy", .str "AAS"), ("fill", .str "ABS"), ("add", .str "AC"), ("note", .str "F"), ("wait", .str "FN"), ("fence", .str "")])
def loose0 : List Str := [("__name__" : Str), ("HaulError" : Str), ("BadMemory" : Str), ("BadStep" : Str), ("BadList" : Str), ("BadPaper" : Str), ("MOST_CELLS" : Str), ("FLAGS" : Str), ("GREATEST_CELL" : Str), ("GREATEST_BYTE" : Str), ("is_whole" : Str), ("is_byte" : Str), ("is_flag" : Str), ("is_memory" : Str), ("MOST_AREA" : Str), ("END" : Str), ("area_wrong" : Str), ("own_cells" : Str), ("own_size" : Str), ("MOST_STEPS" : Str), ("MOST_NOTED" : Str), ("COPY_steps" : Str), ("FILL_steps" : Str), ("ADD_steps" : Str), ("NOTE" : Str), ("WAIT" : Str), ("FENCE_steps" : Str), ("READ_steps" : Str), ("WRITE_steps" : Str), ("SIZE" : Str), ("SKIP" : Str), ("STEP_FORMS" : Str), ("is_thing" : Str), ("form_of" : Str), ("things_wrong" : Str)]
def loose1 : List Str := [("step_wrong" : Str), ("need_step" : Str), ("list_wrong" : Str), ("need_list" : Str), ("all_touches" : Str), ("cells_by" : Str), ("reads_of" : Str), ("writes_of" : Str), ("BARS" : Str), ("FENCE_fences" : Str), ("ways_of" : Str), ("Spread" : Str), ("spread_of" : Str), ("needs" : Str), ("is_clear" : Str), ("are_spots" : Str), ("fenced" : Str), ("least_spots" : Str), ("fewest" : Str), ("COPY_plain" : Str), ("FILL_plain" : Str), ("ADD_plain" : Str), ("READ_plain" : Str), ("WRITE_plain" : Str), ("BYTES" : Str), ("area_cells" : Str), ("cells_touched" : Str), ("do_step" : Str), ("need_memory" : Str), ("need_inside" : Str), ("own_steps_done" : Str), ("list_done" : Str), ("_law_draws" : Str), ("_law_take" : Str), ("_law_area" : Str)]
def loose2 : List Str := [("_law_step" : Str), ("_law_list" : Str), ("_law_cells" : Str), ("_law_parts" : Str), ("_law_part" : Str), ("_law_plainly" : Str), ("_law_moved" : Str)]
def looseL : List Str := loose0 ++ loose1 ++ loose2
end K24
end
section
set_option Elab.async false
set_option linter.all false
set_option maxRecDepth 100000
set_option maxHeartbeats 0
namespace K24
open PySem PySem.Spec PyProof.Rows L2
abbrev RR : PySem.W.OpenRow := PySem.W.OpenLaw.row PySem.Challenge.rw_haulring_k24_whole_clear_lists_in_any_or
abbrev hk : PySem.W.Hook := He.hookX 4 faL fnL tsL tfL exB
def ob (s : PySem.W.SharedT) : He.AlX := He.obsX 4 faL fnL tsL tfL exB (HandSHeadRun.getT s)
theorem ob_eq (s : PySem.W.SharedT) : ob s = hk.obs s.abs := He.obsX_eq (HandSHeadRun.getT_eq s)
theorem run_no (w : World) : HandSHeadRun.RunEq RR (PySem.W.view RR.prog [83]) hk ob 6000 looseL (w.withFollow "special-get-raises" false) := by
  intro os
  kernel_rfl
theorem run_yes (w : World) : HandSHeadRun.RunEq RR (PySem.W.view RR.prog [83]) hk ob 6000 looseL (w.withFollow "special-get-raises" true) := by
  intro os
  kernel_rfl
theorem run_top (w : World) : HandSHeadRun.RunEq RR (PySem.W.view RR.prog [83]) hk ob 6000 looseL w :=
  PySem.W.byRow2 "special-get-raises" (P := fun w => HandSHeadRun.RunEq RR (PySem.W.view RR.prog [83]) hk ob 6000 looseL w) run_no run_yes w
end K24
end
section
set_option linter.all false
/-! The mathematics: areas, steps, parts, what a list does, fences. Plain Lean, no program in sight. -/
namespace K24
/-! ### areas -/
structure Area where
  start : Nat
  count : Nat
  rows : Nat
  pitch : Nat
def Area.size (a : Area) : Nat := a.count * a.rows
def Area.cells (a : Area) : List Nat := (List.range a.rows).flatMap fun r => (List.range a.count).map fun k => a.start + r * a.pitch + k
structure Area.Ok (top : Nat) (a : Area) : Prop where
  rows3 : a.rows = 1 ∨ a.rows = 2 ∨ a.rows = 3
  count1 : 1 ≤ a.count
  pitch1 : a.count ≤ a.pitch
  plain : a.rows = 1 → a.pitch = a.count
  within : a.start + (a.rows - 1) * a.pitch + a.count ≤ top
theorem flat_len {α β : Type} (f : α → List β) (n : Nat) : ∀ l : List α, (∀ x ∈ l, (f x).length = n) → (l.flatMap f).length = l.length * n
  | [], _ => by simp
  | x :: r, h => by
    rw [List.flatMap_cons, List.length_append, flat_len f n r fun y hy => h y (List.mem_cons_of_mem _ hy), h x List.mem_cons_self, List.length_cons, Nat.add_mul]
    omega
theorem Area.cells_length (a : Area) : a.cells.length = a.size := by
  unfold Area.cells Area.size
  rw [flat_len _ a.count _ (fun x _ => by simp), List.length_range, Nat.mul_comm]
theorem Area.Ok.lt {top : Nat} {a : Area} (h : a.Ok top) : ∀ c ∈ a.cells, c < top := by
  intro c hc
  unfold Area.cells at hc
  obtain ⟨r, hr, hc⟩ := List.mem_flatMap.mp hc
  obtain ⟨k, hk, rfl⟩ := List.mem_map.mp hc
  have hr := List.mem_range.mp hr
  have hk := List.mem_range.mp hk
  have hw := h.within
  have h1 : r * a.pitch ≤ (a.rows - 1) * a.pitch := Nat.mul_le_mul_right _ (by omega)
  omega
theorem Area.Ok.size_le {top : Nat} {a : Area} (h : a.Ok top) : a.size ≤ top := by
  have hw := h.within
  have hp := h.pitch1
  unfold Area.size
  rcases h.rows3 with e | e | e <;> (rw [e] at hw ⊢; omega)
theorem Area.Ok.size_pos {top : Nat} {a : Area} (h : a.Ok top) : 1 ≤ a.size := by
  have hp := h.count1
  unfold Area.size
  rcases h.rows3 with e | e | e <;> (rw [e]; omega)
theorem Area.Ok.bounds {top : Nat} {a : Area} (h : a.Ok top) : a.start < top ∧ a.count ≤ top ∧ a.pitch ≤ top := by
  have hw := h.within
  have h1 := h.count1
  have h2 := h.plain
  refine ⟨by omega, by omega, ?_⟩
  rcases h.rows3 with e | e | e
  · have := h2 e
    omega
  · rw [e] at hw; omega
  · rw [e] at hw; omega

/-! ### parts -/
inductive Part where
  | cp (a b : Nat)
  | fl (v : Int) (c : Nat)
  | rd (a : Nat)
  | sm (c : Nat)
def Part.rds : Part → List Nat
  | .cp a _ => [a]
  | .rd a => [a]
  | _ => []
def Part.wrs : Part → List Nat
  | .cp _ b => [b]
  | .fl _ c => [c]
  | .sm c => [c]
  | _ => []
abbrev Mem := List Int
def Part.row : Part → Mem → List Int → Mem
  | .cp a b, m, _ => m.set b (m.getD a 0)
  | .fl v c, m, _ => m.set c v
  | .rd _, m, _ => m
  | .sm c, m, h => m.set c (h.sum % 256)
def Part.held : Part → Mem → List Int → List Int
  | .rd a, m, h => h ++ [m.getD a 0]
  | _, _, h => h
theorem Part.row_length (p : Part) (m : Mem) (h : List Int) : (p.row m h).length = m.length := by
  cases p <;> simp [Part.row]
def run : List Part → Mem → List Int → Mem
  | [], m, _ => m
  | p :: r, m, h => run r (p.row m h) (p.held m h)
theorem run_length : ∀ (ps : List Part) (m : Mem) (h : List Int), (run ps m h).length = m.length
  | [], _, _ => rfl
  | p :: r, m, h => by
    show (run r (p.row m h) (p.held m h)).length = m.length
    rw [run_length r, p.row_length]
/-- neither writes what the other touches -/
structure Ind (p q : Part) : Prop where
  pq : ∀ c ∈ p.wrs, c ∉ q.rds ∧ c ∉ q.wrs
  qp : ∀ c ∈ q.wrs, c ∉ p.rds ∧ c ∉ p.wrs
theorem Ind.symm {p q : Part} (h : Ind p q) : Ind q p := ⟨h.qp, h.pq⟩
theorem getD_set_ne {m : Mem} {b a : Nat} {x : Int} (h : b ≠ a) : (m.set b x).getD a 0 = m.getD a 0 := by
  rw [List.getD_eq_getElem?_getD, List.getD_eq_getElem?_getD, List.getElem?_set_ne h]
theorem Ind.held {p q : Part} (h : Ind p q) (m : Mem) (hp hq : List Int) : q.held (p.row m hp) hq = q.held m hq := by
  cases q with
  | rd a =>
    cases p with
    | cp x b =>
      have := (h.pq b (by simp [Part.wrs])).1
      simp only [Part.rds, List.mem_singleton] at this
      show hq ++ [(m.set b (m.getD x 0)).getD a 0] = hq ++ [m.getD a 0]
      rw [getD_set_ne this]
    | fl v c =>
      have := (h.pq c (by simp [Part.wrs])).1
      simp only [Part.rds, List.mem_singleton] at this
      show hq ++ [(m.set c v).getD a 0] = hq ++ [m.getD a 0]
      rw [getD_set_ne this]
    | rd x => rfl
    | sm c =>
      have := (h.pq c (by simp [Part.wrs])).1
      simp only [Part.rds, List.mem_singleton] at this
      show hq ++ [(m.set c (hp.sum % 256)).getD a 0] = hq ++ [m.getD a 0]
      rw [getD_set_ne this]
  | _ => rfl
/-- the value written -/
def Part.val : Part → Mem → List Int → Int
  | .cp a _, m, _ => m.getD a 0
  | .fl v _, _, _ => v
  | .rd _, _, _ => 0
  | .sm _, _, h => h.sum % 256
theorem Part.row_none {p : Part} (h : p.wrs = []) (m : Mem) (hp : List Int) : p.row m hp = m := by
  cases p <;> simp [Part.wrs] at h <;> rfl
theorem Part.row_one {p : Part} {c : Nat} (h : p.wrs = [c]) (m : Mem) (hp : List Int) : p.row m hp = m.set c (p.val m hp) := by
  cases p <;> simp [Part.wrs] at h <;> (try subst h) <;> rfl
theorem Part.wrs_cases (p : Part) : p.wrs = [] ∨ ∃ c, p.wrs = [c] := by
  cases p <;> simp [Part.wrs]
theorem Part.val_set {q : Part} {c : Nat} (h : c ∉ q.rds) (m : Mem) (x : Int) (hq : List Int) : q.val (m.set c x) hq = q.val m hq := by
  cases q with
  | cp a b =>
    simp only [Part.rds, List.mem_singleton] at h
    exact getD_set_ne h
  | _ => rfl
theorem Ind.row {p q : Part} (h : Ind p q) (m : Mem) (hp hq : List Int) : q.row (p.row m hp) hq = p.row (q.row m hq) hp := by
  rcases p.wrs_cases with e | ⟨b, e⟩
  · rw [Part.row_none e, Part.row_none e]
  · rcases q.wrs_cases with e' | ⟨c, e'⟩
    · rw [Part.row_none e', Part.row_none e']
    · have h1 := h.pq b (by rw [e]; simp)
      have h2 := h.qp c (by rw [e']; simp)
      have hbc : b ≠ c := by
        have := h1.2
        rw [e'] at this
        simpa using this
      rw [Part.row_one e, Part.row_one e', Part.row_one e', Part.row_one e, Part.val_set h1.1, Part.val_set h2.1, List.set_comm _ _ hbc]

/-! ### steps -/
inductive Step where
  | copy (f t : Area) (k : Nat)
  | fill (t : Area) (v : Int) (k : Nat)
  | add (f : Area) (c : Nat)
  | note (g : Nat)
  | wait (g n : Nat)
  | fence
def Step.parts : Step → List Part
  | .copy f t k => ((f.cells.zip t.cells).drop k).map fun p => .cp p.1 p.2
  | .fill t v k => (t.cells.drop k).map (.fl v)
  | .add f c => f.cells.map .rd ++ [.sm c]
  | _ => []
def Step.Ok (top : Nat) : Step → Prop
  | .copy f t k => f.Ok top ∧ t.Ok top ∧ f.size = t.size ∧ k < f.size
  | .fill t v k => t.Ok top ∧ 0 ≤ v ∧ v < 256 ∧ k < t.size
  | .add f c => f.Ok top ∧ c < top
  | .note g => g < 8
  | .wait g n => g < 8 ∧ 1 ≤ n ∧ n ≤ 99
  | .fence => True
def Step.bar : Step → Bool
  | .note _ => true
  | .fence => true
  | _ => false
def Step.isWait : Step → Bool
  | .wait _ _ => true
  | _ => false
def Step.rds (s : Step) : List Nat := s.parts.flatMap Part.rds
def Step.wrs (s : Step) : List Nat := s.parts.flatMap Part.wrs
def done (s : Step) (m : Mem) : Mem := run s.parts m []
def plain : List Step → Mem → Mem
  | [], m => m
  | s :: r, m => plain r (done s m)
theorem done_length (s : Step) (m : Mem) : (done s m).length = m.length := run_length _ _ _
theorem plain_length : ∀ (ss : List Step) (m : Mem), (plain ss m).length = m.length
  | [], _ => rfl
  | s :: r, m => by
    show (plain r (done s m)).length = m.length
    rw [plain_length r, done_length]
theorem bar_parts {s : Step} (h : s.bar = true) : s.parts = [] := by
  cases s <;> simp [Step.bar] at h <;> rfl
/-- two steps clash -/
def Clash (s t : Step) : Prop := ∃ c, (c ∈ s.wrs ∧ (c ∈ t.rds ∨ c ∈ t.wrs)) ∨ (c ∈ t.wrs ∧ (c ∈ s.rds ∨ c ∈ s.wrs))
theorem not_clash_left {s t : Step} (h : s.parts = []) : ¬ Clash s t := by
  rintro ⟨c, ⟨h1, _⟩ | ⟨_, h1 | h1⟩⟩ <;> simp [Step.wrs, Step.rds, h] at h1
theorem not_clash_right {s t : Step} (h : t.parts = []) : ¬ Clash s t := by
  rintro ⟨c, ⟨_, h1 | h1⟩ | ⟨h1, _⟩⟩ <;> simp [Step.wrs, Step.rds, h] at h1
theorem ind_of {s t : Step} (h : ¬ Clash s t) {p q : Part} (hp : p ∈ s.parts) (hq : q ∈ t.parts) : Ind p q := by
  refine ⟨fun c hc => ⟨fun h1 => h ⟨c, .inl ⟨?_, .inl ?_⟩⟩, fun h1 => h ⟨c, .inl ⟨?_, .inr ?_⟩⟩⟩, fun c hc => ⟨fun h1 => h ⟨c, .inr ⟨?_, .inl ?_⟩⟩, fun h1 => h ⟨c, .inr ⟨?_, .inr ?_⟩⟩⟩⟩
  all_goals first
    | exact List.mem_flatMap.mpr ⟨p, hp, by assumption⟩
    | exact List.mem_flatMap.mpr ⟨q, hq, by assumption⟩

/-! ### clear lists -/
def Barred (ss : List Step) (i j : Nat) : Prop := ∃ k u, i < k ∧ k < j ∧ ss[k]? = some u ∧ u.bar = true
def Clear (ss : List Step) : Prop := ∀ i j s t, i < j → ss[i]? = some s → ss[j]? = some t → Clash s t → Barred ss i j
def Needs (ss : List Step) (ps : List (Nat × Nat)) : Prop := ∀ i j, (i, j) ∈ ps ↔ i < j ∧ (∃ s t, ss[i]? = some s ∧ ss[j]? = some t ∧ Clash s t) ∧ ¬ Barred ss i j
theorem Needs.clear {ss : List Step} {ps : List (Nat × Nat)} (h : Needs ss ps) : ps = [] ↔ Clear ss := by
  constructor
  · rintro rfl i j s t hij hs ht hc
    refine Classical.byContradiction fun hb => ?_
    exact absurd ((h i j).mpr ⟨hij, ⟨s, t, hs, ht, hc⟩, hb⟩) (by simp)
  · intro hc
    cases ps with
    | nil => rfl
    | cons p r =>
      obtain ⟨hij, ⟨s, t, hs, ht, hcl⟩, hb⟩ := (h p.1 p.2).mp (by simp)
      exact absurd (hc _ _ s t hij hs ht hcl) hb
theorem Needs.lt {ss : List Step} {ps : List (Nat × Nat)} (h : Needs ss ps) {p : Nat × Nat} (hp : p ∈ ps) : p.1 < p.2 ∧ p.2 < ss.length := by
  obtain ⟨hij, ⟨s, t, hs, ht, hcl⟩, hb⟩ := (h p.1 p.2).mp hp
  exact ⟨hij, (List.getElem?_eq_some_iff.mp ht).1⟩
/-- the bars ahead of a place -/
def nbars (ss : List Step) (i : Nat) : Nat := ((ss.take i).filter Step.bar).length
theorem nbars_succ {ss : List Step} {i : Nat} {s : Step} (h : ss[i]? = some s) : nbars ss (i + 1) = nbars ss i + (if s.bar = true then 1 else 0) := by
  unfold nbars
  rw [List.take_add_one, h, List.filter_append, List.length_append]
  cases hb : s.bar <;> simp [hb]
theorem nbars_gt {ss : List Step} : ∀ (d i : Nat), i + d ≤ ss.length → (nbars ss (i + d) > nbars ss i ↔ ∃ k u, i ≤ k ∧ k < i + d ∧ ss[k]? = some u ∧ u.bar = true)
  | 0, i, _ => by
    constructor
    · intro h; simp at h
    · rintro ⟨k, u, h1, h2, _⟩; omega
  | d + 1, i, hl => by
    have hs : ss[i + d]? = some (ss[i + d]'(by omega)) := List.getElem?_eq_getElem (by omega)
    have e := nbars_succ hs
    have ih := nbars_gt (ss := ss) d i (by omega)
    have e2 : i + (d + 1) = i + d + 1 := by omega
    have mono : nbars ss i ≤ nbars ss (i + d) := by
      unfold nbars
      rw [List.take_add, List.filter_append, List.length_append]
      omega
    rw [e2, e]
    constructor
    · intro h
      cases hb : (ss[i + d]'(by omega)).bar with
      | true => exact ⟨i + d, _, by omega, by omega, hs, hb⟩
      | false =>
        rw [hb] at h
        obtain ⟨k, u, h1, h2, h3⟩ := ih.mp (by simpa using h)
        exact ⟨k, u, h1, by omega, h3⟩
    · rintro ⟨k, u, h1, h2, h3, h4⟩
      by_cases hk : k = i + d
      · subst hk
        rw [hs] at h3
        cases h3
        rw [if_pos h4]
        omega
      · have := ih.mpr ⟨k, u, h1, by omega, h3, h4⟩
        omega
theorem nbars_barred {ss : List Step} {i j : Nat} (h : i < j) (hj : j ≤ ss.length) : nbars ss j > nbars ss (i + 1) ↔ Barred ss i j := by
  have e := nbars_gt (ss := ss) (j - (i + 1)) (i + 1) (by omega)
  rw [show i + 1 + (j - (i + 1)) = j by omega] at e
  rw [e]
  constructor
  · rintro ⟨k, u, h1, h2, h3⟩; exact ⟨k, u, by omega, h2, h3⟩
  · rintro ⟨k, u, h1, h2, h3⟩; exact ⟨k, u, by omega, h2, h3⟩
/-! by recursion -/
def FreeOf (s : Step) : List Step → Prop
  | [] => True
  | t :: r => ¬ Clash s t ∧ (t.bar = true ∨ FreeOf s r)
def ClearR : List Step → Prop
  | [] => True
  | s :: r => FreeOf s r ∧ ClearR r
theorem FreeOf.at {s : Step} : ∀ {r : List Step} {j : Nat} {t : Step}, FreeOf s r → r[j]? = some t → Clash s t → ∃ k u, k < j ∧ r[k]? = some u ∧ u.bar = true
  | [], _, _, _, h, _ => by simp at h
  | t :: r, 0, u, h, e, c => by
    simp at e
    subst e
    exact absurd c h.1
  | t :: r, j + 1, u, h, e, c => by
    rcases h.2 with hb | hf
    · exact ⟨0, t, by omega, rfl, hb⟩
    · obtain ⟨k, v, h1, h2, h3⟩ := FreeOf.at hf (by simpa using e) c
      exact ⟨k + 1, v, by omega, by simpa using h2, h3⟩
theorem ClearR.clear : ∀ {ss : List Step}, ClearR ss → Clear ss
  | [], _ => fun i j s t _ h => by simp at h
  | s :: r, h => fun i j u t hij hu ht hc => by
    obtain ⟨j, rfl⟩ : ∃ j', j = j' + 1 := ⟨j - 1, by omega⟩
    cases i with
    | zero =>
      simp at hu
      subst hu
      obtain ⟨k, v, h1, h2, h3⟩ := FreeOf.at h.1 (by simpa using ht) hc
      exact ⟨k + 1, v, by omega, by omega, by simpa using h2, h3⟩
    | succ i =>
      obtain ⟨k, v, h1, h2, h3, h4⟩ := ClearR.clear h.2 i j u t (by omega) (by simpa using hu) (by simpa using ht) hc
      exact ⟨k + 1, v, by omega, by omega, by simpa using h3, h4⟩

/-! ### fences put in -/
def fencedFrom (spots : List Nat) : Nat → List Step → List Step
  | _, [] => []
  | k, s :: r => (if k ∈ spots then [.fence, s] else [s]) ++ fencedFrom spots (k + 1) r
def Serves (ss : List Step) (spots : List Nat) : Prop := ∀ i j s t, i < j → ss[i]? = some s → ss[j]? = some t → Clash s t → ¬ Barred ss i j → ∃ x ∈ spots, i < x ∧ x ≤ j
theorem free_fenced {s : Step} {spots : List Nat} : ∀ {r : List Step} {m : Nat}, (∀ j t, r[j]? = some t → (∀ k u, k < j → r[k]? = some u → u.bar = false) → Clash s t → ∃ x ∈ spots, m ≤ x ∧ x ≤ m + j) → FreeOf s (fencedFrom spots m r)
  | [], _, _ => trivial
  | t :: r, m, h => by
    unfold fencedFrom
    by_cases hm : m ∈ spots
    · rw [if_pos hm]
      exact ⟨not_clash_right rfl, .inl rfl⟩
    · rw [if_neg hm]
      refine ⟨fun c => ?_, ?_⟩
      · obtain ⟨x, hx, h1, h2⟩ := h 0 t rfl (fun k u hk => by omega) c
        have : x = m := by omega
        subst this
        exact hm hx
      · cases hb : t.bar with
        | true => exact .inl rfl
        | false =>
          refine .inr (free_fenced fun j u hu hk c => ?_)
          obtain ⟨x, hx, h1, h2⟩ := h (j + 1) u (by simpa using hu) (fun k v hk' hv => by
            cases k with
            | zero => simp at hv; subst hv; exact hb
            | succ k => exact hk k v (by omega) (by simpa using hv)) c
          have : x ≠ m := fun e => hm (e ▸ hx)
          exact ⟨x, hx, by omega, by omega⟩
theorem clear_fenced {spots : List Nat} : ∀ {ss : List Step} {k : Nat}, (∀ i j s t, i < j → ss[i]? = some s → ss[j]? = some t → Clash s t → ¬ Barred ss i j → ∃ x ∈ spots, k + i < x ∧ x ≤ k + j) → ClearR (fencedFrom spots k ss)
  | [], _, _ => trivial
  | s :: r, k, h => by
    have hr : ClearR (fencedFrom spots (k + 1) r) := clear_fenced fun i j u t hij hu ht hc hb => by
      obtain ⟨x, hx, h1, h2⟩ := h (i + 1) (j + 1) u t (by omega) (by simpa using hu) (by simpa using ht) hc (by
        rintro ⟨m, v, h1, h2, h3, h4⟩
        obtain ⟨m, rfl⟩ : ∃ m', m = m' + 1 := ⟨m - 1, by omega⟩
        exact hb ⟨m, v, by omega, by omega, by simpa using h3, h4⟩)
      exact ⟨x, hx, by omega, by omega⟩
    have hf : FreeOf s (fencedFrom spots (k + 1) r) := free_fenced fun j t ht hk hc => by
      obtain ⟨x, hx, h1, h2⟩ := h 0 (j + 1) s t (by omega) rfl (by simpa using ht) hc (by
        rintro ⟨m, v, h1, h2, h3, h4⟩
        obtain ⟨m, rfl⟩ : ∃ m', m = m' + 1 := ⟨m - 1, by omega⟩
        have := hk m v (by omega) (by simpa using h3)
        rw [this] at h4
        cases h4)
      exact ⟨x, hx, by omega, by omega⟩
    unfold fencedFrom
    by_cases hm : k ∈ spots
    · rw [if_pos hm]
      show ClearR (.fence :: s :: fencedFrom spots (k + 1) r)
      exact ⟨⟨not_clash_left rfl, by
        cases hb : s.bar with
        | true => exact .inl rfl
        | false => exact .inr (free_all rfl)⟩, hf, hr⟩
    · rw [if_neg hm]
      exact ⟨hf, hr⟩
where
  free_all {s : Step} (h : s.parts = []) : ∀ {r : List Step}, FreeOf s r
    | [] => trivial
    | t :: r => ⟨not_clash_left h, .inr (free_all h)⟩
theorem Serves.clear {ss : List Step} {spots : List Nat} (h : Serves ss spots) : Clear (fencedFrom spots 0 ss) := ClearR.clear (clear_fenced fun i j s t a b c d e => by
  obtain ⟨x, h1, h2, h3⟩ := h i j s t a b c d e
  exact ⟨x, h1, by omega, by omega⟩)
theorem plain_fenced {spots : List Nat} : ∀ (ss : List Step) (k : Nat) (m : Mem), plain (fencedFrom spots k ss) m = plain ss m
  | [], _, _ => rfl
  | s :: r, k, m => by
    unfold fencedFrom
    by_cases hm : k ∈ spots
    · rw [if_pos hm]
      exact plain_fenced r (k + 1) (done s m)
    · rw [if_neg hm]
      exact plain_fenced r (k + 1) (done s m)
theorem fenced_mem {spots : List Nat} : ∀ {ss : List Step} {k : Nat} {s : Step}, s ∈ fencedFrom spots k ss → s = .fence ∨ s ∈ ss
  | [], _, _, h => by cases h
  | t :: r, k, s, h => by
    unfold fencedFrom at h
    rcases List.mem_append.mp h with h | h
    · split at h
      · rcases List.mem_cons.mp h with h | h
        · exact .inl h
        · exact .inr (by simp at h; simp [h])
      · exact .inr (by simp at h; simp [h])
    · rcases fenced_mem h with h | h
      · exact .inl h
      · exact .inr (List.mem_cons_of_mem _ h)
theorem fenced_length {spots : List Nat} : ∀ (ss : List Step) (k : Nat), (fencedFrom spots k ss).length ≤ 2 * ss.length ∧ ss.length ≤ (fencedFrom spots k ss).length
  | [], _ => by simp [fencedFrom]
  | t :: r, k => by
    have ih := fenced_length (spots := spots) r (k + 1)
    unfold fencedFrom
    split <;> simp <;> omega
/-- a fence ahead of each -/
def allFenced : List Step → List Step
  | [] => []
  | s :: r => .fence :: s :: allFenced r
theorem allFenced_snoc (s : Step) : ∀ ss : List Step, allFenced (ss ++ [s]) = allFenced ss ++ [.fence, s]
  | [] => rfl
  | t :: r => by
    show Step.fence :: t :: allFenced (r ++ [s]) = _
    rw [allFenced_snoc s r]
    rfl
theorem allFenced_clear : ∀ {ss : List Step}, ClearR (allFenced ss)
  | [] => trivial
  | s :: r => by
    refine ⟨clear_fenced.free_all rfl, ?_, allFenced_clear⟩
    cases r with
    | nil => exact trivial
    | cons t r => exact ⟨not_clash_right rfl, .inl rfl⟩
theorem plain_allFenced : ∀ (ss : List Step) (m : Mem), plain (allFenced ss) m = plain ss m
  | [], _ => rfl
  | s :: r, m => plain_allFenced r (done s m)
theorem allFenced_mem : ∀ {ss : List Step} {s : Step}, s ∈ allFenced ss → s = .fence ∨ s ∈ ss
  | [], _, h => by cases h
  | t :: r, s, h => by
    rcases List.mem_cons.mp h with h | h
    · exact .inl h
    · rcases List.mem_cons.mp h with h | h
      · exact .inr (by rw [h]; exact List.mem_cons_self)
      · rcases allFenced_mem h with h | h
        · exact .inl h
        · exact .inr (List.mem_cons_of_mem _ h)
theorem allFenced_length : ∀ ss : List Step, (allFenced ss).length = 2 * ss.length
  | [] => rfl
  | s :: r => by
    show (allFenced r).length + 1 + 1 = 2 * (r.length + 1)
    rw [allFenced_length r]
    omega
end K24
end
section
set_option linter.all false
/-! The mathematics, further: steps that fly, moved in any order; the greedy spots. -/
namespace K24
structure Fly where
  ps : List Part
  held : List Int
def finish : List Fly → Mem → Mem
  | [], m => m
  | F :: r, m => finish r (run F.ps m F.held)
theorem finish_append : ∀ (l r : List Fly) (m : Mem), finish (l ++ r) m = finish r (finish l m)
  | [], _, _ => rfl
  | F :: l, r, m => finish_append l r (run F.ps m F.held)
theorem run_move {p : Part} : ∀ {qs : List Part} {m : Mem} {h hq : List Int}, (∀ q ∈ qs, Ind p q) → run qs (p.row m h) hq = p.row (run qs m hq) h ∧ p.held (run qs m hq) h = p.held m h
  | [], _, _, _, _ => ⟨rfl, rfl⟩
  | q :: r, m, h, hq, hi => by
    have h1 := hi q List.mem_cons_self
    obtain ⟨a, b⟩ := run_move (p := p) (qs := r) (m := q.row m hq) (h := h) (hq := q.held m hq) fun x hx => hi x (List.mem_cons_of_mem _ hx)
    refine ⟨?_, ?_⟩
    · show run r (q.row (p.row m h) hq) (q.held (p.row m h) hq) = p.row (run r (q.row m hq) (q.held m hq)) h
      rw [h1.row, h1.held, a]
    · show p.held (run r (q.row m hq) (q.held m hq)) h = p.held m h
      rw [b, h1.symm.held]
theorem finish_move {p : Part} : ∀ {fl : List Fly} {m : Mem} {h : List Int}, (∀ F ∈ fl, ∀ q ∈ F.ps, Ind p q) → finish fl (p.row m h) = p.row (finish fl m) h ∧ p.held (finish fl m) h = p.held m h
  | [], _, _, _ => ⟨rfl, rfl⟩
  | F :: r, m, h, hi => by
    obtain ⟨a, b⟩ := run_move (p := p) (qs := F.ps) (m := m) (h := h) (hq := F.held) (hi F List.mem_cons_self)
    obtain ⟨c, d⟩ := finish_move (p := p) (fl := r) (m := run F.ps m F.held) (h := h) fun G hG => hi G (List.mem_cons_of_mem _ hG)
    refine ⟨?_, ?_⟩
    · show finish r (run F.ps (p.row m h) F.held) = p.row (finish r (run F.ps m F.held)) h
      rw [a, c]
    · show p.held (finish r (run F.ps m F.held)) h = p.held m h
      rw [d, b]
/-- one part of one that flies is done -/
theorem finish_step {l r : List Fly} {p : Part} {ps : List Part} {h : List Int} {m : Mem} (hi : ∀ F ∈ l, ∀ q ∈ F.ps, Ind p q) : finish (l ++ ⟨ps, p.held m h⟩ :: r) (p.row m h) = finish (l ++ ⟨p :: ps, h⟩ :: r) m := by
  rw [finish_append, finish_append]
  obtain ⟨a, b⟩ := finish_move (p := p) (fl := l) (m := m) (h := h) hi
  show finish r (run ps (finish l (p.row m h)) (p.held m h)) = finish r (run ps (p.row (finish l m) h) (p.held (finish l m) h))
  rw [a, b]
/-- those that still have parts -/
def kept (fl : List Fly) : List Fly := fl.filter fun F => !F.ps.isEmpty
theorem finish_kept : ∀ (fl : List Fly) (m : Mem), finish (kept fl) m = finish fl m
  | [], _ => rfl
  | F :: r, m => by
    unfold kept
    rw [List.filter_cons]
    cases e : F.ps with
    | nil =>
      rw [if_neg (by simp [e])]
      show finish (kept r) m = finish r (run F.ps m F.held)
      rw [finish_kept r m, e]
      rfl
    | cons p q =>
      rw [if_pos (by simp [e])]
      show finish (kept r) (run F.ps m F.held) = finish r (run F.ps m F.held)
      rw [finish_kept r]
def IndF (F G : Fly) : Prop := ∀ p ∈ F.ps, ∀ q ∈ G.ps, Ind p q
structure Moved (ss : List Step) (due : Mem) (ahead : Nat) (fl : List Fly) (m : Mem) : Prop where
  le : ahead ≤ ss.length
  due : plain (ss.drop ahead) (finish fl m) = due
  src : ∀ F ∈ fl, F.ps ≠ [] ∧ ∃ i s, i < ahead ∧ ss[i]? = some s ∧ (∀ p ∈ F.ps, p ∈ s.parts) ∧ ¬ Barred ss i ahead
  ind : fl.Pairwise IndF
theorem Moved.start (ss : List Step) (m : Mem) : Moved ss (plain ss m) 0 [] m := ⟨Nat.zero_le _, rfl, fun F h => absurd h (by simp), .nil⟩
theorem Moved.stop {ss : List Step} {due m : Mem} {ahead : Nat} (h : Moved ss due ahead [] m) (e : ahead = ss.length) : m = due := by
  have := h.due
  rw [e, List.drop_length] at this
  exact this
/-- the one that is begun -/
def begun (s : Step) : List Fly := if s.parts.isEmpty then [] else [⟨s.parts, []⟩]
theorem Moved.begin {ss : List Step} {due m : Mem} {ahead : Nat} {fl : List Fly} {s : Step} (h : Moved ss due ahead fl m) (hc : Clear ss) (hs : ss[ahead]? = some s) (hb : s.bar = true → fl = []) : Moved ss due (ahead + 1) (fl ++ begun s) m := by
  have hlt : ahead < ss.length := (List.getElem?_eq_some_iff.mp hs).1
  have hd : ss.drop ahead = s :: ss.drop (ahead + 1) := by
    rw [List.drop_eq_getElem_cons hlt]
    congr 1
    exact (List.getElem?_eq_some_iff.mp hs).2
  refine ⟨hlt, ?_, fun F hF => ?_, ?_⟩
  · rw [finish_append, ← h.due, hd]
    show plain _ (finish (begun s) (finish fl m)) = plain _ (run s.parts (finish fl m) [])
    unfold begun
    cases e : s.parts with
    | nil => simp [run, finish]
    | cons p q => simp [finish]
  · rcases List.mem_append.mp hF with hF | hF
    · obtain ⟨h1, i, t, h2, h3, h4, h5⟩ := h.src F hF
      refine ⟨h1, i, t, by omega, h3, h4, ?_⟩
      rintro ⟨k, u, k1, k2, k3, k4⟩
      by_cases e : k = ahead
      · subst e
        rw [hs] at k3
        cases k3
        rw [hb k4] at hF
        cases hF
      · exact h5 ⟨k, u, k1, by omega, k3, k4⟩
    · unfold begun at hF
      split at hF
      · cases hF
      · rename_i e
        simp at hF
        subst hF
        refine ⟨by simpa using e, ahead, s, by omega, hs, fun p hp => hp, ?_⟩
        rintro ⟨k, u, k1, k2, _⟩
        omega
  · refine List.pairwise_append.mpr ⟨h.ind, ?_, fun F hF G hG => ?_⟩
    · unfold begun
      split
      · exact .nil
      · exact List.pairwise_singleton _ _
    · unfold begun at hG
      split at hG
      · cases hG
      · simp at hG
        subst hG
        obtain ⟨h1, i, t, h2, h3, h4, h5⟩ := h.src F hF
        have nc : ¬ Clash t s := fun c => h5 (hc i ahead t s h2 h3 hs c)
        exact fun p hp q hq => ind_of nc (h4 p hp) hq
theorem Moved.move {ss : List Step} {due m : Mem} {ahead : Nat} {l r : List Fly} {p : Part} {ps : List Part} {h : List Int} (M : Moved ss due ahead (l ++ ⟨p :: ps, h⟩ :: r) m) :
    Moved ss due ahead (kept (l ++ ⟨ps, p.held m h⟩ :: r)) (p.row m h) := by
  obtain ⟨hl, hr, hlr⟩ := List.pairwise_append.mp M.ind
  have hr2 := List.pairwise_cons.mp hr
  have hi : ∀ F ∈ l, ∀ q ∈ F.ps, Ind p q := fun F hF q hq => (hlr F hF _ List.mem_cons_self q hq p List.mem_cons_self).symm
  refine ⟨M.le, ?_, fun F hF => ?_, ?_⟩
  · rw [finish_kept, finish_step hi]
    exact M.due
  · obtain ⟨hF1, hF2⟩ := List.mem_filter.mp hF
    refine ⟨by simpa using hF2, ?_⟩
    rcases List.mem_append.mp hF1 with z | z
    · exact (M.src F (List.mem_append_left _ z)).2
    · rcases List.mem_cons.mp z with z | z
      · obtain ⟨_, i, s, a, b, c, d⟩ := M.src ⟨p :: ps, h⟩ (List.mem_append_right _ List.mem_cons_self)
        subst z
        exact ⟨i, s, a, b, fun q hq => c q (List.mem_cons_of_mem _ hq), d⟩
      · exact (M.src F (List.mem_append_right _ (List.mem_cons_of_mem _ z))).2
  · refine List.Pairwise.filter _ (List.pairwise_append.mpr ⟨hl, List.pairwise_cons.mpr ⟨fun G hG q hq => hr2.1 G hG q (List.mem_cons_of_mem _ hq), hr2.2⟩, fun F hF G hG => ?_⟩)
    rcases List.mem_cons.mp hG with z | z
    · subst z
      exact fun a ha q hq => hlr F hF _ List.mem_cons_self a ha q (List.mem_cons_of_mem _ hq)
    · exact hlr F hF G (List.mem_cons_of_mem _ z)
/-- what is left to be done -/
def left (ss : List Step) (ahead : Nat) (fl : List Fly) : Nat := ((ss.drop ahead).map fun s => 1 + s.parts.length).sum + (fl.map fun F => F.ps.length).sum
theorem begun_sum (s : Step) : ((begun s).map fun F => F.ps.length).sum = s.parts.length := by
  unfold begun
  cases e : s.parts <;> simp
theorem left_begin {ss : List Step} {ahead : Nat} {fl : List Fly} {s : Step} (hs : ss[ahead]? = some s) : left ss (ahead + 1) (fl ++ begun s) + 1 = left ss ahead fl := by
  have hlt : ahead < ss.length := (List.getElem?_eq_some_iff.mp hs).1
  have hd : ss.drop ahead = s :: ss.drop (ahead + 1) := by
    rw [List.drop_eq_getElem_cons hlt]
    congr 1
    exact (List.getElem?_eq_some_iff.mp hs).2
  unfold left
  rw [hd, List.map_cons, List.sum_cons, List.map_append, List.sum_append, begun_sum]
  omega
theorem kept_sum : ∀ fl : List Fly, ((kept fl).map fun F => F.ps.length).sum = (fl.map fun F => F.ps.length).sum
  | [] => rfl
  | F :: r => by
    have ih := kept_sum r
    unfold kept at ih ⊢
    rw [List.filter_cons]
    cases e : F.ps with
    | nil =>
      rw [if_neg (by simp [e]), ih]
      simp [e]
    | cons p q =>
      rw [if_pos (by simp [e]), List.map_cons, List.map_cons, List.sum_cons, List.sum_cons, ih]
theorem left_move {ss : List Step} {ahead : Nat} {l r : List Fly} {p : Part} {ps : List Part} {h h' : List Int} : left ss ahead (kept (l ++ ⟨ps, h'⟩ :: r)) + 1 = left ss ahead (l ++ ⟨p :: ps, h⟩ :: r) := by
  unfold left
  rw [kept_sum]
  simp
  omega

/-! ### the greedy spots -/
def lastOr (sp : List Nat) : Nat := sp.getLastD 0
def greedy : List (Nat × Nat) → List Nat → List Nat
  | [], sp => sp
  | (i, j) :: r, sp => if sp = [] ∨ sp.getLastD 0 ≤ i then greedy r (sp ++ [j]) else greedy r sp
/-- behind some of the pairs, sorted by their ends -/
structure Greedy (n : Nat) (before after : List (Nat × Nat)) (sp : List Nat) : Prop where
  up : sp.Pairwise (· < ·)
  lt : ∀ x ∈ sp, x < n
  serve : ∀ q ∈ before, ∃ x ∈ sp, q.1 < x ∧ x ≤ q.2
  last : sp ≠ [] → ∀ q ∈ after, sp.getLastD 0 ≤ q.2
theorem getLastD_mem : ∀ {sp : List Nat}, sp ≠ [] → sp.getLastD 0 ∈ sp
  | [], h => absurd rfl h
  | [x], _ => by simp
  | x :: y :: r, _ => by
    have := getLastD_mem (sp := y :: r) (by simp)
    rw [show (x :: y :: r).getLastD 0 = (y :: r).getLastD 0 by simp [List.getLastD]]
    exact List.mem_cons_of_mem _ this
theorem le_last : ∀ {sp : List Nat}, sp.Pairwise (· < ·) → ∀ x ∈ sp, x ≤ sp.getLastD 0
  | [], _, x, h => by cases h
  | [y], _, x, h => by simp at h; simp [h]
  | y :: z :: r, hp, x, h => by
    have hp2 := List.pairwise_cons.mp hp
    rw [show (y :: z :: r).getLastD 0 = (z :: r).getLastD 0 by simp [List.getLastD]]
    rcases List.mem_cons.mp h with h | h
    · subst h
      exact Nat.le_of_lt (hp2.1 _ (getLastD_mem (by simp)))
    · exact le_last hp2.2 x h
theorem getLastD_snoc (sp : List Nat) (j : Nat) : (sp ++ [j]).getLastD 0 = j := by
  rw [List.getLastD_eq_getLast?, List.getLast?_append]
  simp
theorem Greedy.begin (n : Nat) (after : List (Nat × Nat)) : Greedy n [] after [] := ⟨.nil, fun x h => absurd h (by simp), fun q h => absurd h (by simp), fun h => absurd rfl h⟩
theorem Greedy.turn {n : Nat} {before after : List (Nat × Nat)} {sp : List Nat} {i j : Nat} (g : Greedy n before ((i, j) :: after) sp) (hs : ((i, j) :: after).Pairwise fun a b => a.2 ≤ b.2) (hij : i < j) (hj : j < n) :
    Greedy n (before ++ [(i, j)]) after (if sp = [] ∨ sp.getLastD 0 ≤ i then sp ++ [j] else sp) := by
  have hs2 := List.pairwise_cons.mp hs
  split
  · rename_i c
    refine ⟨List.pairwise_append.mpr ⟨g.up, List.pairwise_singleton _ _, fun x hx y hy => ?_⟩, fun x hx => ?_, fun q hq => ?_, fun _ q hq => ?_⟩
    · simp at hy
      subst hy
      rcases c with c | c
      · rw [c] at hx; cases hx
      · have := le_last g.up x hx
        omega
    · rcases List.mem_append.mp hx with hx | hx
      · exact g.lt x hx
      · simp at hx; subst hx; exact hj
    · rcases List.mem_append.mp hq with hq | hq
      · obtain ⟨x, h1, h2⟩ := g.serve q hq
        exact ⟨x, List.mem_append_left _ h1, h2⟩
      · simp at hq
        subst hq
        exact ⟨j, by simp, hij, Nat.le_refl _⟩
    · rw [getLastD_snoc]
      exact hs2.1 q hq
  · rename_i c
    have c1 : sp ≠ [] := fun e => c (.inl e)
    have c2 : i < sp.getLastD 0 := by
      have : ¬ sp.getLastD 0 ≤ i := fun e => c (.inr e)
      omega
    refine ⟨g.up, g.lt, fun q hq => ?_, fun h q hq => g.last h q (List.mem_cons_of_mem _ hq)⟩
    rcases List.mem_append.mp hq with hq | hq
    · exact g.serve q hq
    · simp at hq
      subst hq
      exact ⟨_, getLastD_mem c1, c2, g.last c1 (i, j) List.mem_cons_self⟩
theorem up_length : ∀ {sp : List Nat} {n : Nat}, sp.Pairwise (· < ·) → (∀ x ∈ sp, x < n) → sp.length ≤ n := by
  intro sp
  suffices h : ∀ (l : List Nat) (k n : Nat), l.Pairwise (· < ·) → (∀ x ∈ l, k ≤ x ∧ x < n) → l.length ≤ n - k by
    intro n h1 h2
    have := h sp 0 n h1 fun x hx => ⟨Nat.zero_le _, h2 x hx⟩
    simpa using this
  intro l
  induction l with
  | nil => intro k n _ _; simp
  | cons x r ih =>
    intro k n hp hb
    have hp2 := List.pairwise_cons.mp hp
    have h1 := hb x List.mem_cons_self
    have := ih (x + 1) n hp2.2 fun y hy => ⟨hp2.1 y hy, (hb y (List.mem_cons_of_mem _ hy)).2⟩
    rw [List.length_cons]
    omega
theorem Needs.serves {ss : List Step} {ps before : List (Nat × Nat)} {sp : List Nat} (h : Needs ss ps) (g : Greedy ss.length before [] sp) (hb : ∀ q ∈ ps, q ∈ before) : Serves ss sp := fun i j s t hij hs ht hc nb => by
  have hm : (i, j) ∈ ps := (h i j).mpr ⟨hij, ⟨s, t, hs, ht, hc⟩, nb⟩
  exact g.serve (i, j) (hb _ hm)
end K24
end
section
set_option Elab.async false
set_option linter.all false
namespace K24
/-! ### touches -/
abbrev Tch := Bool × Nat
def Step.touches : Step → List (List Tch)
  | .copy f t k => ((f.cells.zip t.cells).drop k).map fun p => [(false, p.1), (true, p.2)]
  | .fill t _ k => (t.cells.drop k).map fun c => [(true, c)]
  | .add f c => f.cells.map (fun c => [(false, c)]) ++ [[(true, c)]]
  | _ => [[]]
def Step.own (s : Step) (b : Bool) : List Nat := if b = true then s.wrs else s.rds
theorem Step.touch_own (s : Step) (b : Bool) (c : Nat) : (∃ l ∈ s.touches, (b, c) ∈ l) ↔ c ∈ s.own b := by
  unfold Step.own
  cases s with
  | copy f t k =>
    cases b with
    | true =>
      simp only [if_true, Bool.false_eq_true, if_false, Step.touches, Step.rds, Step.wrs, Step.parts, List.mem_append, List.mem_singleton, List.mem_map, List.mem_flatMap]
      constructor
      · rintro ⟨l, ⟨p, hp, rfl⟩, h⟩
        simp at h
        exact ⟨_, ⟨p, hp, rfl⟩, by simp [Part.wrs, h]⟩
      · rintro ⟨_, ⟨p, hp, rfl⟩, h⟩
        simp [Part.wrs] at h
        exact ⟨_, ⟨p, hp, rfl⟩, by simp [h]⟩
    | false =>
      simp only [if_true, Bool.false_eq_true, if_false, Step.touches, Step.rds, Step.wrs, Step.parts, List.mem_append, List.mem_singleton, List.mem_map, List.mem_flatMap]
      constructor
      · rintro ⟨l, ⟨p, hp, rfl⟩, h⟩
        simp at h
        exact ⟨_, ⟨p, hp, rfl⟩, by simp [Part.rds, h]⟩
      · rintro ⟨_, ⟨p, hp, rfl⟩, h⟩
        simp [Part.rds] at h
        exact ⟨_, ⟨p, hp, rfl⟩, by simp [h]⟩
  | fill t v k =>
    cases b with
    | true =>
      simp only [if_true, Bool.false_eq_true, if_false, Step.touches, Step.rds, Step.wrs, Step.parts, List.mem_append, List.mem_singleton, List.mem_map, List.mem_flatMap]
      constructor
      · rintro ⟨l, ⟨p, hp, rfl⟩, h⟩
        simp at h
        exact ⟨_, ⟨p, hp, rfl⟩, by simp [Part.wrs, h]⟩
      · rintro ⟨_, ⟨p, hp, rfl⟩, h⟩
        simp [Part.wrs] at h
        exact ⟨_, ⟨p, hp, rfl⟩, by simp [h]⟩
    | false =>
      simp only [if_true, Bool.false_eq_true, if_false, Step.touches, Step.rds, Step.wrs, Step.parts, List.mem_append, List.mem_singleton, List.mem_map, List.mem_flatMap]
      constructor
      · rintro ⟨l, ⟨p, hp, rfl⟩, h⟩
        simp at h
      · rintro ⟨_, ⟨p, hp, rfl⟩, h⟩
        simp [Part.rds] at h
  | add f c0 =>
    cases b with
    | true =>
      simp only [if_true, Bool.false_eq_true, if_false, Step.touches, Step.rds, Step.wrs, Step.parts, List.mem_append, List.mem_singleton, List.mem_map, List.mem_flatMap]
      constructor
      · rintro ⟨l, ⟨p, hp, rfl⟩ | rfl, h⟩
        · simp at h
        · simp at h
          exact ⟨_, .inr rfl, by simp [Part.wrs, h]⟩
      · rintro ⟨_, ⟨p, hp, rfl⟩ | rfl, h⟩
        · simp [Part.wrs] at h
        · simp [Part.wrs] at h
          exact ⟨_, .inr rfl, by simp [h]⟩
    | false =>
      simp only [if_true, Bool.false_eq_true, if_false, Step.touches, Step.rds, Step.wrs, Step.parts, List.mem_append, List.mem_singleton, List.mem_map, List.mem_flatMap]
      constructor
      · rintro ⟨l, ⟨p, hp, rfl⟩ | rfl, h⟩
        · simp at h
          exact ⟨_, .inl ⟨p, hp, rfl⟩, by simp [Part.rds, h]⟩
        · simp at h
      · rintro ⟨_, ⟨p, hp, rfl⟩ | rfl, h⟩
        · simp [Part.rds] at h
          exact ⟨_, .inl ⟨p, hp, rfl⟩, by simp [h]⟩
        · simp [Part.rds] at h
  | note g => cases b <;> simp [Step.touches, Step.rds, Step.wrs, Step.parts]
  | wait g n => cases b <;> simp [Step.touches, Step.rds, Step.wrs, Step.parts]
  | fence => cases b <;> simp [Step.touches, Step.rds, Step.wrs, Step.parts]
/-- a step's cells lie below top -/
theorem Step.Ok.own_lt {top : Nat} {s : Step} (h : s.Ok top) (b : Bool) : ∀ c ∈ s.own b, c < top := by
  intro c hc
  rw [← s.touch_own] at hc
  obtain ⟨l, hl, hc⟩ := hc
  cases s with
  | copy f t k =>
    obtain ⟨h1, h2, _, _⟩ := h
    obtain ⟨p, hp, rfl⟩ := List.mem_map.mp hl
    have hz := List.mem_of_mem_drop hp
    have hz1 := (List.of_mem_zip (a := p.1) (b := p.2) hz).1
    have hz2 := (List.of_mem_zip (a := p.1) (b := p.2) hz).2
    simp at hc
    rcases hc with ⟨_, e⟩ | ⟨_, e⟩
    · rw [e]; exact h1.lt _ hz1
    · rw [e]; exact h2.lt _ hz2
  | fill t v k =>
    obtain ⟨h1, _⟩ := h
    obtain ⟨p, hp, rfl⟩ := List.mem_map.mp hl
    simp at hc
    rw [hc.2]; exact h1.lt _ (List.mem_of_mem_drop hp)
  | add f c0 =>
    obtain ⟨h1, h2⟩ := h
    rcases List.mem_append.mp hl with hl | hl
    · obtain ⟨p, hp, rfl⟩ := List.mem_map.mp hl
      simp at hc
      rw [hc.2]; exact h1.lt _ hp
    · rw [List.mem_singleton.mp hl] at hc
      simp at hc
      rw [hc.2]; exact h2
  | note g => rw [List.mem_singleton.mp hl] at hc; cases hc
  | wait g n => rw [List.mem_singleton.mp hl] at hc; cases hc
  | fence => rw [List.mem_singleton.mp hl] at hc; cases hc
/-- how many below 40 -/
def cntL (L : List Nat) : Nat := ((List.range 40).filter fun c => decide (c ∈ L)).length
theorem cnt_le (L : List Nat) : cntL L ≤ 40 := by
  unfold cntL
  exact Nat.le_trans (List.length_filter_le _ _) (by rw [List.length_range]; exact Nat.le_refl _)
theorem cnt_aux (p : Nat → Bool) (c : Nat) (hp : p c = false) : ∀ l : List Nat, l.Nodup → (l.filter fun j => p j || decide (j = c)).length = (l.filter p).length + (if c ∈ l then 1 else 0)
  | [], _ => by simp
  | a :: l, h => by
    rw [List.nodup_cons] at h
    have ih := cnt_aux p c hp l h.2
    by_cases e : a = c
    · subst e
      rw [List.filter_cons_of_pos (by simp), List.filter_cons_of_neg (by simp [hp]), List.length_cons, ih, if_neg h.1, if_pos (List.mem_cons_self ..)]
    · have hm : (c ∈ a :: l) ↔ c ∈ l := by simp [Ne.symm e]
      by_cases ha : p a = true
      · rw [List.filter_cons_of_pos (by simp [ha]), List.filter_cons_of_pos ha, List.length_cons, List.length_cons, ih]
        simp only [hm]
        omega
      · rw [List.filter_cons_of_neg (by simp [ha, e]), List.filter_cons_of_neg ha, ih]
        simp only [hm]
theorem cnt_new {L : List Nat} {c : Nat} (h : c ∉ L) (hc : c < 40) : cntL (L ++ [c]) = cntL L + 1 := by
  have e := cnt_aux (fun j => decide (j ∈ L)) c (by simp [h]) (List.range 40) List.nodup_range
  rw [if_pos (List.mem_range.mpr hc)] at e
  unfold cntL
  rw [← e]
  congr 2
  funext j
  simp [Bool.decide_or]
theorem cnt_old {L : List Nat} {c : Nat} (h : c ∈ L) : cntL (L ++ [c]) = cntL L := by
  unfold cntL
  congr 2
  funext j
  by_cases e : j = c
  · subst e; simp [h]
  · simp [e]
end K24
end
section
set_option Elab.async false
set_option linter.all false
set_option maxRecDepth 100000
set_option maxHeartbeats 4000000
/-! Further rules: enumerate over a tuple, over a text. -/
namespace K24
open PySem PySem.Spec PyProof.Rows L2
/-! ### enumerate(v), one argument -/
set_option maxHeartbeats 8000000 in
theorem meets_enum1 {v : Value} {o : Obj} {S : Heap → Prop} (B : Begins v o S) :
    Meets (Builtin.«enumerate.__new__» ⟨[.type "enumerate", v], []⟩) (fun _ R s => S s.heap ∧
      R (.ok (.ret (.ref (s.heap.push o).objs.size))) { s with heap := (s.heap.push o).push { cls := .type "enumerate", data := .fields #[.none, .bool false, .ref s.heap.objs.size, rawInt 0, .none, .none] } }) :=
  .of_wp fun prog w A R s h => by
    obtain ⟨hp, g, d, tk, os⟩ := s
    obtain ⟨hB, hR⟩ := h
    have hsub := sub_enumerate
    have go : ∀ {A' : Around} {E Q : Value → Shared → Prop}, Q (.ref hp.objs.size) ⟨hp.push o, g, d, tk, os⟩ → wpAny (model prog w) A' (pyIter v) Q E ⟨hp, g, d, tk, os⟩ :=
      fun q => B.iter prog w _ _ ⟨hp, g, d, tk, os⟩ _ hB q
    wp_walk using go
    refine wpAny_stack_any fun st => wpAny_pure ?_
    split
    · rename_i c _ _ _ _ _
      cases (c == Value.type "enumerate") <;> (wp_walk using go; exact ⟨_, rfl, hR⟩)
    · wp_walk using go
      exact ⟨_, rfl, hR⟩
theorem enum1_begins {prog : Program} {w : World} {A : Around} {E : Value → Shared → Prop} {s : Shared} {v : Value} {o : Obj} {S : Heap → Prop} {Q : Value → Shared → Prop} (B : Begins v o S) (h1 : S s.heap)
    (h : ∀ h', IsEnum h' (s.heap.objs.size + 1) s.heap.objs.size 0 .none → h'.get? s.heap.objs.size = some o → (∀ b o, s.heap.get? b = some o → h'.get? b = some o) → Q (.ref (s.heap.objs.size + 1)) { s with heap := h' }) :
    wpAny (model prog w) A (call (.type "enumerate") [v]) Q E s := by
  refine callType_new F.called_enumerate (by decide) (F.typeCall_enumerate_1 _) (F.newCall_enumerate_1 _) (fun obj => F.args_object_init_2 obj _) F.entry_enumerate_new (meets_enum1 B) ⟨h1, ?_⟩
  have hz : (s.heap.push o).objs.size = s.heap.objs.size + 1 := Heap.size_push ..
  have he := Heap.get?_push_size (s.heap.push o) (o := { cls := .type "enumerate", data := .fields #[.none, .bool false, .ref s.heap.objs.size, rawInt 0, .none, .none] }) rfl
  rw [hz] at he
  show _ ∧ _
  rw [hz]
  exact ⟨⟨_, he, rfl⟩, h _ he (Heap.get?_push_of_some _ (Heap.get?_push_size _ B.free)) fun b o x => Heap.get?_push_of_some _ (Heap.get?_push_of_some _ x)⟩
/-- one turn of enumerate, whatever the iterator within draws from -/
theorem enum_turn {X : Cx} {pins : List (Addr × Obj)} {s : Shared} {σ : L2.St} {H : Hp} {E : Value → Shared → Prop} {elts : List Expr} {kk : Nat} {tpos : Pos} {e it : Addr} {fp : List Addr} {n i : Nat} {Pv : Nat → Value → Prop} {S : Nat → Heap → Prop} {old : Value} {G : Nat → Heap → Prop} {x : V}
    (I : Inv X pins σ H s) (hf : ∀ b ∈ [e, it], FpOk X pins H b) (D : Draws X.prog X.w X.A.in1 it fp n Pv S) (he : IsEnum s.heap e it ((i : Nat) : Int) old) (hst : S i s.heap) (hlt : i < n) (hne : e ≠ it) (hef : e ∉ fp)
    (hrel : ∀ u, Pv i u → RelV x u) (hG : ∀ h, S (i + 1) h → G (i + 1) h) :
    wpAny (model X.prog X.w) X.A (pyNext (.ref e)) (fun r s1 => ∃ u, r = some u ∧ wpAny (model X.prog X.w) X.A (letOwnedTupleGo (.Tuple elts kk tpos) (.ref e) u) (fun _ s2 => ∃ v H', Inv X pins σ H' s2 ∧ RelV v u ∧
      (∃ T, v = .ref T ∧ H T = none ∧ H' = upd H T (.tup [.int (i : Nat), x])) ∧ ((∃ old, IsEnum s2.heap e it ((i + 1 : Nat) : Int) old) ∧ G (i + 1) s2.heap) ∧ ∀ b ∈ [e, it], H' b = none) E s1) E s := by
  have hel : e < s.heap.objs.size := Heap.lt_size he
  have hil : it < s.heap.objs.size := by
    obtain ⟨o, y⟩ := D.live _ _ hst
    exact Heap.lt_size y
  refine wpAny_pyNext_enum_itemC D he hst hlt hne hef fun u h' tk hP ho hst' hT hsz hk => ?_
  refine ⟨_, rfl, wpAny_letOwnedTupleGo_enum (s := { s with heap := h', toks := tk + 1 }) ho fun h2 he2 sb => ?_⟩
  have hT2 : h2.get? s.heap.objs.size = some { cls := .type "tuple", data := .seq #[.int i tk, u] } := (sb.2 _ (Nat.ne_of_gt hel)).trans hT
  have fresh : H s.heap.objs.size = none := I.hok.fresh (Nat.le_refl _)
  have new : ObjOk X.prog X.w (upd H s.heap.objs.size (.tup [.int (i : Nat), x])) h2 s.heap.objs.size (.tup [.int (i : Nat), x]) :=
    ⟨by show 2 ≤ sizeLine; decide, [.int i tk, u], .cons ⟨_, rfl⟩ (.cons (hrel u hP) .nil), ⟨_, hT2, rfl, _, rfl⟩⟩
  have I1 : Inv X pins σ (upd H s.heap.objs.size (.tup [.int (i : Nat), x])) { s with heap := h2, toks := tk + 1 } :=
    I.turnedNew (ch := [e, it]) (fun b ob hb q => (sb.2 b (fun z => hb (by simp [z]))).trans (hk b ob (fun z => hb (by simp [z])) (fun z => hb (by simp [z])) q)) hf (Nat.le_refl _) new
  refine ⟨.ref s.heap.objs.size, _, I1, rfl, ⟨_, rfl, fresh, rfl⟩, ⟨⟨u, ?_⟩, hG _ (D.frame _ _ _ hst' fun b hb o q => (sb.2 b fun z => hef (z ▸ hb)).trans q)⟩, fun b hb => ?_⟩
  · rw [show ((i + 1 : Nat) : Int) = (i : Int) + 1 by omega]
    exact he2
  · have hb' : b < s.heap.objs.size := by
      rcases List.mem_cons.mp hb with z | z
      · rw [z]; exact hel
      · rw [List.mem_singleton.mp z]; exact hil
    rw [upd_ne (Nat.ne_of_lt hb')]
    exact (hf b hb).1
/-! ### over a tuple -/
def Iet (K : PySem.W.Frag) (a : Addr) (xs : List V) : It :=
  ⟨fun i H => i < xs.length ∧ SqT K H a xs, fun i H v H' => ∃ T x, v = .ref T ∧ H T = none ∧ H' = upd H T (.tup [.int (i : Nat), x]) ∧ xs[i]? = some x, fun i H => i = xs.length ∧ SqT K H a xs⟩
theorem turn_enumT {P : Program} {w : World} {K : PySem.W.Frag} {elts : List Expr} {kk : Nat} {tpos : Pos} {a e it : Addr} {xs : List V} (hne : e ≠ it) (hea : e ≠ a) (hia : a ≠ it) :
    Turn P w K (.Tuple elts kk tpos) (Iet K a xs) [e, it] e (fun i h => (∃ old, IsEnum h e it ((i : Nat) : Int) old) ∧ h.IsTupleIter it a i) where
  mem := by simp
  obj := fun i h st b hb => by
    obtain ⟨⟨old, he⟩, o, ho, hc, hd⟩ := st
    rcases List.mem_cons.mp hb with z | z
    · rw [z]; exact ⟨_, he, fun v q => nomatch q⟩
    · rw [List.mem_singleton.mp z]; exact ⟨o, ho, fun v q => by rw [hd] at q; cases q⟩
  keep := fun i h h' st k => let ⟨⟨old, he⟩, hi⟩ := st; ⟨⟨old, k e (by simp) _ he⟩, hi.at fun o q => k it (by simp) o q⟩
  item := by
    intro X hP hw hK hc i pins s σ H E I hf st hg
    subst hP hw hK
    obtain ⟨⟨old, he⟩, hit⟩ := st
    obtain ⟨hi, hq⟩ := hg
    obtain ⟨its, rv, p, hz⟩ := I.tuple hq
    have hx : xs[i]? = some xs[i] := List.getElem?_eq_getElem hi
    obtain ⟨u, hu, ru⟩ := rv.get hx
    have hl := rv.length
    refine thn (enum_turn (elts := elts) (kk := kk) (tpos := tpos) (x := xs[i]) (G := fun j h => h.IsTupleIter it a j) I hf (Draws.tuple (A := X.A.in1) (I.ok.hd hc) it a hia its.toArray) he ⟨hit, p⟩ (by simp; omega) hne (by simp [hne, hea]) (fun u' h' => ?_) fun h z => z.1) ?_
    · have e1 : u' = u := by
        have z : its.toArray[i]? = some u' := h'
        simp [hu] at z
        exact z.symm
      rw [e1]; exact ru
    · rintro r s1 ⟨u', hr, h1⟩
      refine ⟨u', hr, thn h1 ?_⟩
      rintro _ s2 ⟨v, H', J, rl, ⟨T, e1, e2, e3⟩, ⟨h2, h3⟩, h4⟩
      exact ⟨v, H', J, rl, ⟨T, _, e1, e2, e3, hx⟩, ⟨h2, h3⟩, h4⟩
  done := by
    intro X hP hw hK hc i pins s σ H E I hf st hg
    subst hP hw hK
    obtain ⟨⟨old, he⟩, hit⟩ := st
    obtain ⟨hi, hq⟩ := hg
    obtain ⟨its, rv, p, hz⟩ := I.tuple hq
    obtain ⟨f0, f1, f2, f3, f4, f5⟩ := hf it (by simp)
    have hl := rv.length
    have hit' : s.heap.IsTupleIter it a its.toArray.size := by
      rw [List.size_toArray, ← hl, ← hi]; exact hit
    exact wpAny_pyNext_enum_endD (Draws.tuple (A := X.A.in1) (I.ok.hd hc) it a hia its.toArray) he ⟨hit', p⟩ fun h' eb => ⟨rfl, I.turned (t' := s.toks) (fun b o hb q => eb b o hb q) f0 f1 f3 f4 f5⟩
  self := fun A i s Q E st h => let ⟨⟨_, he⟩, _⟩ := st; wpAny_pyIter_enum he h
def iEnumT (K : PySem.W.Frag) (ta : TA) : TI := fun σ H R => ta σ H fun vs H1 => ∃ a xs, vs = [.ref a] ∧ SqT K H1 a xs ∧ R (Iet K a xs) H1
theorem pi_enumT {X : Cx} {e : Expr} {ta : TA} {p pos tpos : Pos} {elts : List Expr} {kk : Nat} (hg : Gl X "enumerate") (hm : X.mg "enumerate" = none) (ha : PA X [e] ta) (hs : starEach [e] X.env = [(false, eval e X.env)] := by rfl) :
    PI X (.Tuple elts kk tpos) (.Call (.Name "enumerate" p) [e] [] pos) (iEnumT X.K ta) := by
  refine ⟨fun pins s σ H R I h => ?_⟩
  refine Call_ (ld_blt I hg hm boot_enumerate (PyProof.Rows.callWith_type1 (thn (ha.run pos pins s σ H _ I h) fun us s1 ⟨vs, H1, I1, r1, q1⟩ => ?_) hs rfl))
  obtain ⟨a, xs, ex, hq, q⟩ := q1
  subst ex
  obtain rfl := Vals.ref1 r1
  obtain ⟨its, rv, p', hz⟩ := I1.tuple hq
  have hlt : a < s1.heap.objs.size := p'.lt
  refine enum1_begins (begins_tuple a its.toArray) p' fun h' he ho hk => wpAny_pyIter_enum he ?_
  have I2 : Inv X pins σ H1 { s1 with heap := h' } := I1.kept (t' := s1.toks) hk
  refine ⟨s1.heap.objs.size + 1, [s1.heap.objs.size + 1, s1.heap.objs.size], _, _, H1, rfl, I2, turn_enumT (Nat.succ_ne_self _) (Nat.ne_of_gt (Nat.lt_succ_of_lt hlt)) (Nat.ne_of_lt hlt), ⟨⟨.none, he⟩, ⟨_, ho, rfl, rfl⟩⟩, fun b hb => ?_, q⟩
  have hle : s1.heap.objs.size ≤ b := by
    rcases List.mem_cons.mp hb with z | z
    · rw [z]; exact Nat.le_add_right _ _
    · rw [List.mem_singleton.mp z]; exact Nat.le_refl _
  exact I1.fpOk hle (I1.hok.fresh hle)
theorem walk_enumT {K : PySem.W.Frag} {a : Addr} {xs : List V} : Walk (Iet K a xs) xs.length (fun H => SqT K H a xs) (fun i H v H' => ∃ T x, v = .ref T ∧ H T = none ∧ H' = upd H T (.tup [.int (i : Nat), x]) ∧ xs[i]? = some x) :=
  ⟨fun i _ hi q => ⟨hi, q⟩, fun _ q => ⟨rfl, q⟩, fun _ _ _ _ _ _ y => y⟩
/-! ### over a text -/
def Ies (z : Str) : It :=
  ⟨fun i _ => i < z.cps.size, fun i H v H' => ∃ T c, v = .ref T ∧ H T = none ∧ H' = upd H T (.tup [.int (i : Nat), .str ⟨#[c]⟩]) ∧ z.cps[i]? = some c, fun i _ => i = z.cps.size⟩
theorem turn_enumS {P : Program} {w : World} {K : PySem.W.Frag} {elts : List Expr} {kk : Nat} {tpos : Pos} {e it : Addr} {z : Str} {t : Tok} (hne : e ≠ it) :
    Turn P w K (.Tuple elts kk tpos) (Ies z) [e, it] e (fun i h => (∃ old, IsEnum h e it ((i : Nat) : Int) old) ∧ h.IsStrIter it (strIterType z) z t i) where
  mem := by simp
  obj := fun i h st b hb => by
    obtain ⟨⟨old, he⟩, o, ho, hc, hd⟩ := st
    rcases List.mem_cons.mp hb with z | z
    · rw [z]; exact ⟨_, he, fun v q => nomatch q⟩
    · rw [List.mem_singleton.mp z]; exact ⟨o, ho, fun v q => by rw [hd] at q; cases q⟩
  keep := fun i h h' st k => let ⟨⟨old, he⟩, o, ho, hc⟩ := st; ⟨⟨old, k e (by simp) _ he⟩, o, k it (by simp) _ ho, hc⟩
  item := by
    intro X hP hw hK hc i pins s σ H E I hf st hg
    subst hP hw hK
    obtain ⟨⟨old, he⟩, hit⟩ := st
    have hi : i < z.cps.size := hg
    have hx : z.cps[i]? = some z.cps[i] := by simp [hi]
    refine thn (enum_turn (elts := elts) (kk := kk) (tpos := tpos) (x := .str ⟨#[z.cps[i]]⟩) (G := fun j h => h.IsStrIter it (strIterType z) z t j) I hf (Draws.text (A := X.A.in1) (I.ok.hd hc) it z t) he hit hi hne (by simp [hne]) (fun u' h' => ?_) fun h y => y) ?_
    · obtain ⟨c, t', h1, h2⟩ := h'
      rw [hx] at h1
      cases h1
      rw [h2]
      exact ⟨t', rfl⟩
    · rintro r s1 ⟨u', hr, h1⟩
      refine ⟨u', hr, thn h1 ?_⟩
      rintro _ s2 ⟨v, H', J, rl, ⟨T, e1, e2, e3⟩, ⟨h2, h3⟩, h4⟩
      exact ⟨v, H', J, rl, ⟨T, _, e1, e2, e3, hx⟩, ⟨h2, h3⟩, h4⟩
  done := by
    intro X hP hw hK hc i pins s σ H E I hf st hg
    subst hP hw hK
    obtain ⟨⟨old, he⟩, hit⟩ := st
    have hi : i = z.cps.size := hg
    subst hi
    obtain ⟨f0, f1, f2, f3, f4, f5⟩ := hf it (by simp)
    exact wpAny_pyNext_enum_endD (Draws.text (A := X.A.in1) (I.ok.hd hc) it z t) he hit fun h' eb => ⟨rfl, I.turned (t' := s.toks) (fun b o hb q => eb b o hb q) f0 f1 f3 f4 f5⟩
  self := fun A i s Q E st h => let ⟨⟨_, he⟩, _⟩ := st; wpAny_pyIter_enum he h
def iEnumS (ta : TA) : TI := fun σ H R => ta σ H fun vs H1 => ∃ z, vs = [.str z] ∧ R (Ies z) H1
theorem pi_enumS {X : Cx} {e : Expr} {ta : TA} {p pos tpos : Pos} {elts : List Expr} {kk : Nat} (hg : Gl X "enumerate") (hm : X.mg "enumerate" = none) (ha : PA X [e] ta) (hs : starEach [e] X.env = [(false, eval e X.env)] := by rfl) :
    PI X (.Tuple elts kk tpos) (.Call (.Name "enumerate" p) [e] [] pos) (iEnumS ta) := by
  refine ⟨fun pins s σ H R I h => ?_⟩
  refine Call_ (ld_blt I hg hm boot_enumerate (PyProof.Rows.callWith_type1 (thn (ha.run pos pins s σ H _ I h) fun us s1 ⟨vs, H1, I1, r1, q1⟩ => ?_) hs rfl))
  obtain ⟨z, ex, q⟩ := q1
  subst ex
  obtain ⟨u1, rfl, t, rfl⟩ := vals1 r1
  refine enum1_begins (begins_text z t) trivial fun h' he ho hk => wpAny_pyIter_enum he ?_
  have I2 : Inv X pins σ H1 { s1 with heap := h' } := I1.kept (t' := s1.toks) hk
  refine ⟨s1.heap.objs.size + 1, [s1.heap.objs.size + 1, s1.heap.objs.size], _, _, H1, rfl, I2, turn_enumS (Nat.succ_ne_self _), ⟨⟨.none, he⟩, ⟨_, ho, rfl, rfl⟩⟩, fun b hb => ?_, q⟩
  have hle : s1.heap.objs.size ≤ b := by
    rcases List.mem_cons.mp hb with z | z
    · rw [z]; exact Nat.le_add_right _ _
    · rw [List.mem_singleton.mp z]; exact Nat.le_refl _
  exact I1.fpOk hle (I1.hok.fresh hle)
theorem walk_enumS {z : Str} : Walk (Ies z) z.cps.size (fun _ => True) (fun i H v H' => ∃ T c, v = .ref T ∧ H T = none ∧ H' = upd H T (.tup [.int (i : Nat), .str ⟨#[c]⟩]) ∧ z.cps[i]? = some c) :=
  ⟨fun i _ hi _ => hi, fun _ _ => rfl, fun _ _ _ _ _ _ y => y⟩
end K24
end
section
set_option Elab.async false
set_option linter.all false
set_option maxRecDepth 100000
set_option maxHeartbeats 4000000
/-! Further rules: a, *rest = a tuple. -/
namespace K24
open PySem PySem.Spec PyProof.Rows L2
theorem unpack_star {prog : Program} {w : World} {A : Around} {E : Value → Shared → Prop} {s : Shared} {t : Addr} {x : Value} {r : List Value} {Q : List Value → Shared → Prop} (hh : A.handled = none) (ht : IsTup s.heap t (x :: r).toArray) (hz : (x :: r).length ≤ sizeLine)
    (h : ∀ D h' tk, s.heap.get? D = none → (∀ b o, s.heap.get? b = some o → h'.get? b = some o) → h'.get? D = some { cls := .type "list", data := .seq r.toArray } → Q [x, .ref D] { s with heap := h', toks := tk }) :
    wpAny (model prog w) A (unpackItems (.ref t) 2 (some 1)) Q E s := by
  have hlt : t < s.heap.objs.size := ht.lt
  have hne : t ≠ s.heap.objs.size := Nat.ne_of_lt hlt
  unfold unpackItems
  refine wpAny_bind ?_
  unfold notIterableAtAll
  refine wpAny_bind (wpAny_specialOf ht.typeIs slot_tuple_iter.lookup (wpAny_pure ?_))
  simp only [Bool.false_eq_true, if_false]
  refine wpAny_bind (wpAny_holding (iter_tuple ht (wpAny_bind (wpAny_holding (draw_tuple hne 1 0 _ _ ⟨_, Heap.get?_push_size _ rfl, rfl, rfl⟩ (ht.push _) (by simp) fun h1 hi1 hs1 => ?_)))))
  have ht1 : IsTup h1 t (x :: r).toArray := (ht.push _).extBut hs1.extBut hne
  obtain ⟨oi, hoi, _⟩ := id hi1
  obtain ⟨ot, hot, _⟩ := id ht1
  have e1 : List.take 1 (List.drop 0 (x :: r).toArray.toList) = [x] := by simp
  rw [e1]
  simp only [List.length_singleton, Nat.lt_irrefl, if_false]
  refine wpAny_bind (wpAny_holding (PySem.W.kun_collect (s := { s with heap := h1 }) (T := "tuple_iterator") (k := 1) (.inr (.inr (.inr rfl))) (Walks.tuple (A := A.in1) hh s.heap.objs.size t hne (x :: r).toArray) (fun j u st => st.1.typeIs) (by simp) ⟨hi1, ht1⟩ (Heap.lt_size hoi) (Heap.lt_size hot) (fun h2 tk hk => ?_) (by simpa using hz)))
  have e2 : List.drop 1 (x :: r).toArray.toList = r := by simp
  rw [e2]
  show wpAny _ _ (if r.length < 2 - 1 - 1 then _ else _) _ _ _
  rw [if_neg (by omega)]
  show wpAny _ _ (newList (r.take (r.length - (2 - 1 - 1))) >>= fun d => pure ([x] ++ [d] ++ r.drop (r.length - (2 - 1 - 1)))) _ _ _
  have e3 : r.take (r.length - (2 - 1 - 1)) = r := List.take_of_length_le (by omega)
  have e4 : r.drop (r.length - (2 - 1 - 1)) = [] := List.drop_eq_nil_of_le (by omega)
  rw [e3, e4]
  have kp : ∀ b o, s.heap.get? b = some o → h2.get? b = some o := fun b o e => by
    have hb : b ≠ s.heap.objs.size := Nat.ne_of_lt (Heap.lt_size e)
    exact hk b o hb ((hs1.2 b hb).trans (Heap.get?_push_of_some _ e))
  have dead : s.heap.get? h2.objs.size = none := by
    cases q : s.heap.get? h2.objs.size with
    | none => rfl
    | some o => exact absurd (Heap.lt_size (kp _ o q)) (Nat.lt_irrefl _)
  refine wpAny_bind (wpAny_newList ?_ (by have := hz; rw [List.length_cons] at this; show r.length ≤ _; omega))
  exact wpAny_pure (h h2.objs.size _ tk dead (fun b o e => Heap.get?_push_of_some _ (kp b o e)) (Heap.get?_push_size _ rfl))
theorem obj_alive {P : Program} {w : World} {H : Hp} {h : Heap} {a : Addr} {o : HO} (x : ObjOk P w H h a o) : ∃ u, h.get? a = some u := by
  cases o with
  | lst xs => obtain ⟨_, _, _, _, e⟩ := x; exact ⟨_, e⟩
  | tup xs => obtain ⟨_, _, _, u, e, _⟩ := x; exact ⟨u, e⟩
  | dK kvs => obtain ⟨_, _, _, _, u, _, _, e, _⟩ := x; exact ⟨u, e⟩
  | dT kvs => obtain ⟨_, _, _, _, u, _, _, e, _⟩ := x; exact ⟨u, e⟩
  | set S n => obtain ⟨u, _, _, _, e, _⟩ := x; exact ⟨u, e⟩
  | ins C dx fs => obtain ⟨_, _, _, e, _⟩ := x; exact ⟨_, e⟩
  | own y => exact x
  | xd fs => obtain ⟨_, ⟨u, _, _, e, _⟩, _⟩ := x; exact ⟨u, e⟩
  | rng lo hi => obtain ⟨_, _, _, e⟩ := x; exact ⟨_, e⟩
  | frz u v => exact ⟨u, x.1⟩
  | tbl ps => exact ⟨_, show h.get? a = some _ from x⟩
  | met f y => exact ⟨_, show h.get? a = some _ from x⟩
  | ext p => exact x.2.1
section
variable {X : Cx} {pins : List (Addr × Obj)} {σ : L2.St} {H : Hp} {s : Shared} {h' : Heap} {D : Addr} {o : HO} {t' : Nat}
/-- a new object at a free place -/
theorem laid_free (I : Inv X pins σ H s) (k : ∀ b u, s.heap.get? b = some u → h'.get? b = some u) (hD : s.heap.get? D = none) (new : ObjOk X.prog X.w (upd H D o) h' D o) : H D = none ∧ Inv X pins σ (upd H D o) { s with heap := h', toks := t' } := by
  have nD : H D = none := by
    cases q : H D with
    | none => rfl
    | some u =>
      obtain ⟨v, e⟩ := obj_alive (I.hok D u q)
      rw [hD] at e
      cases e
  have ne : ∀ b u, s.heap.get? b = some u → b ≠ D := fun b u e z => by
    rw [z, hD] at e
    cases e
  have neH : ∀ b u, H b = some u → b ≠ D := fun b u e => ne_of_none e nD
  refine ⟨nD, I.step (g' := s.gens) (d' := s.drawn) (ch := []) (fun _ z => nomatch z) (fun b u _ _ _ e _ => k b u e) (fun b u _ _ _ e _ => ⟨u.slots, k b u e⟩) (fun b u _ e n => by rw [upd_ne (ne b u e)]; exact n) (fun b u _ e => ⟨u, k b u e⟩)
    (fun b xs e => by rw [upd_ne (neH b _ e)]; exact e) (fun b u v e => by rw [upd_ne (neH b _ e)]; exact e) (fun b ps e => ⟨#[], by rw [upd_ne (neH b _ e), e]; simp⟩) (fun m hm => hm.keeps k) (fun b u e => ?_) I.bare⟩
  by_cases hb : b = D
  · subst hb
    rw [upd_same] at e
    cases e
    exact new
  · rw [upd_ne hb] at e
    exact (I.hok b u e).stay (fun c v _ q => k c v q) (fun c q => by rw [upd_ne (neH c _ q)]; exact q) fun c xs q => by rw [upd_ne (neH c _ q)]; exact q
end
/-- a, *rest = a tuple -/
def gStar (K : PySem.W.Frag) (t : TGs) : TG := fun v σ H Q => ∃ a x r, v = .ref a ∧ SqT K H a (x :: r) ∧ ∀ D, H D = none → t [x, .ref D] σ (upd H D (.lst r)) Q
theorem pg_star {X : Cx} {es : List Expr} {k : Nat} {pos : Pos} {t : TGs} (hc : X.calm = true) (h : PGs X es t) (hn : (assignEach es X.env).length = 2 := by rfl) (hst : (assignEach es X.env).findIdx? (·.1) = some 1 := by rfl) : PG X (.Tuple es k pos) (gStar X.K t) := by
  refine ⟨fun pins s σ H v u Q I r hw => ?_⟩
  obtain ⟨a, x, rest, e1, hq, hw⟩ := hw
  subst e1
  cases r
  obtain ⟨its, rv, ht, hz⟩ := I.tuple hq
  obtain ⟨y, ys, rfl, rx, rr⟩ : ∃ y ys, its = y :: ys ∧ RelV x y ∧ Vals rest ys := by
    cases rv with
    | cons p q => exact ⟨_, _, rfl, p, q⟩
  have hl := rr.length
  rw [List.length_cons] at hz
  rw [assign_Tuple]
  refine wpAny_bind (wpAny_standAt ?_)
  unfold unpack
  rw [hn, hst]
  refine wpAny_bind (wpAny_holding (unpack_star (I.ok.hd hc) ht (by rw [List.length_cons, ← hl]; exact hz) fun D h' tk hD kp hob => ?_))
  obtain ⟨nD, J⟩ := laid_free (t' := tk) (o := .lst rest) I kp hD ⟨Nat.le_of_succ_le hz, ys, 0, rr, hob⟩
  exact h.run pins _ σ _ [x, .ref D] _ Q J (.cons rx (.cons rfl .nil)) (hw D nD)
theorem pgs_star {X : Cx} {e : Expr} {p : Pos} {es : List Expr} {t : TG} {u : TGs} (h1 : PG X e t) (h2 : PGs X es u)
    (hs : (assignEach (.Starred e p :: es) X.env).map (·.2) = assign e X.env :: (assignEach es X.env).map (·.2) := by rfl) : PGs X (.Starred e p :: es) (gCons t u) := by
  refine ⟨fun pins s σ H vs us Q I r h => ?_⟩
  obtain ⟨v, vr, rfl, h⟩ := h
  cases r with
  | cons r rr =>
    rw [hs]
    exact assignInOrder_cons (thn (h1.run pins s σ H _ _ _ I r h) fun _ s1 ⟨σ1, H1, I1, q1⟩ => h2.run pins s1 σ1 H1 _ _ Q I1 rr q1)
end K24
end
section
set_option Elab.async false
set_option linter.all false
set_option maxRecDepth 100000
set_option maxHeartbeats 4000000
/-! zip(a, b, strict=True), gathered by list(..): over the heap. -/
namespace K24
open PySem PySem.Spec PyProof.Rows L2
/-! ### the strict zip's object -/
abbrev IsZs (h : Heap) (z TI TO : Addr) (own : Value) (f : Bool) : Prop :=
  h.get? z = some { cls := .type "zip", dict := none, data := .fields #[own, .bool f, .bool true, .ref TI, .ref TO], slots := #[] }
theorem zs_typeCall (a b : Value) : checkTypeCall "zip" ⟨[a, b], [(Str.ofString "strict", .bool true)]⟩ = pure () := by kernel_rfl
theorem zs_newCall (a b : Value) : checkBuiltinCall "zip.__new__" ⟨[.type "zip", a, b], [(Str.ofString "strict", .bool true)]⟩ = pure () := by kernel_rfl
theorem zs_init (obj a b : Value) : argsOk "object.__init__" ⟨[obj, a, b], [(Str.ofString "strict", .bool true)]⟩ := by unfold argsOk; kernel_rfl
abbrev zsHeap (h : Heap) (o1 o2 : Obj) : Heap := (gzO2 h o1 o2).push { cls := .type "zip", data := .fields #[.none, .bool false, .bool true, .ref ((h.push o1).push o2).objs.size, .ref (gzT2 h o1 o2).objs.size] }
set_option maxHeartbeats 8000000 in
theorem meets_zs {v1 v2 : Value} {o1 o2 : Obj} {S1 S2 : Heap → Prop} (B1 : Begins v1 o1 S1) (B2 : Begins v2 o2 S2) :
    Meets (Builtin.«zip.__new__» ⟨[.type "zip", v1, v2], [(Str.ofString "strict", .bool true)]⟩) (fun _ R s => (S1 s.heap ∧ S2 s.heap) ∧ R (.ok (.ret (.ref (gzO2 s.heap o1 o2).objs.size))) { s with heap := zsHeap s.heap o1 o2 }) :=
  .of_wp fun prog w A R s h => by
    obtain ⟨hp, g, d, tk, os⟩ := s
    obtain ⟨⟨h1, h2⟩, hR⟩ := h
    have hsub := sub_zip
    have e1 : (Str.ofString "strict" != ("strict" : Str)) = false := by decide +kernel
    have go1 : ∀ {A' : Around} {E Q : Value → Shared → Prop}, Q (.ref hp.objs.size) ⟨hp.push o1, g, d, tk, os⟩ → wpAny (model prog w) A' (pyIter v1) Q E ⟨hp, g, d, tk, os⟩ :=
      fun q => B1.iter prog w _ _ ⟨hp, g, d, tk, os⟩ _ h1 q
    have go2 : ∀ {A' : Around} {E Q : Value → Shared → Prop}, Q (.ref (hp.push o1).objs.size) ⟨(hp.push o1).push o2, g, d, tk, os⟩ → wpAny (model prog w) A' (pyIter v2) Q E ⟨hp.push o1, g, d, tk, os⟩ :=
      fun q => B2.iter prog w _ _ ⟨hp.push o1, g, d, tk, os⟩ _ (B2.keeps _ _ h2 fun b o' e => Heap.get?_push_of_some _ e) q
    unfold Builtin.«zip.__new__»
    repeat (any_goals (first | assumption | apply go1 | apply go2 | wp_step))
    exact ⟨_, rfl, hR⟩
section
variable {prog : Program} {w : World} {A : Around} {E : Value → Shared → Prop} {s : Shared}
/-- zip(v1, v2, strict=True): its five new cells -/
theorem zs_begins {v1 v2 : Value} {o1 o2 : Obj} {S1 S2 : Heap → Prop} {Q : Value → Shared → Prop} (B1 : Begins v1 o1 S1) (B2 : Begins v2 o2 S2) (h1 : S1 s.heap) (h2 : S2 s.heap)
    (h : ∀ h', IsZs h' (s.heap.objs.size + 4) (s.heap.objs.size + 2) (s.heap.objs.size + 3) .none false → IsTupOf2 h' (s.heap.objs.size + 2) (.ref s.heap.objs.size) (.ref (s.heap.objs.size + 1)) → IsTupOf2 h' (s.heap.objs.size + 3) .none .none →
      h'.get? s.heap.objs.size = some o1 → h'.get? (s.heap.objs.size + 1) = some o2 → h'.objs.size = s.heap.objs.size + 5 → (∀ c o, s.heap.get? c = some o → h'.get? c = some o) → Q (.ref (s.heap.objs.size + 4)) { s with heap := h' }) :
    wpAny (model prog w) A (call (.type "zip") [v1, v2] [(Str.ofString "strict", .bool true)]) Q E s := by
  refine callType_newKw F.called_zip (by decide) (zs_typeCall _ _) (zs_newCall _ _) (fun obj => zs_init obj _ _) F.entry_zip_new (meets_zs B1 B2) ⟨⟨h1, h2⟩, ?_⟩
  have a1 : (s.heap.push o1).objs.size = s.heap.objs.size + 1 := by rw [Heap.size_push]
  have a2 : ((s.heap.push o1).push o2).objs.size = s.heap.objs.size + 2 := by rw [Heap.size_push, a1]
  have a3 : (gzT2 s.heap o1 o2).objs.size = s.heap.objs.size + 3 := by rw [Heap.size_push, a2]
  have a4 : (gzO2 s.heap o1 o2).objs.size = s.heap.objs.size + 4 := by rw [Heap.size_push, a3]
  have a5 : (zsHeap s.heap o1 o2).objs.size = s.heap.objs.size + 5 := by rw [Heap.size_push, a4]
  have gZ : (zsHeap s.heap o1 o2).get? (gzO2 s.heap o1 o2).objs.size = some { cls := .type "zip", data := .fields #[.none, .bool false, .bool true, .ref ((s.heap.push o1).push o2).objs.size, .ref (gzT2 s.heap o1 o2).objs.size] } := Heap.get?_push_size _ rfl
  have gO : (zsHeap s.heap o1 o2).get? (gzT2 s.heap o1 o2).objs.size = some { cls := .type "tuple", data := .seq #[.none, .none] } := Heap.get?_push_of_some _ (Heap.get?_push_size _ rfl)
  have gT : (zsHeap s.heap o1 o2).get? ((s.heap.push o1).push o2).objs.size = some { cls := .type "tuple", data := .seq #[.ref s.heap.objs.size, .ref (s.heap.push o1).objs.size] } := Heap.get?_push_of_some _ (Heap.get?_push_of_some _ (Heap.get?_push_size _ rfl))
  have g1 : (zsHeap s.heap o1 o2).get? s.heap.objs.size = some o1 := Heap.get?_push_of_some _ (Heap.get?_push_of_some _ (Heap.get?_push_of_some _ (Heap.get?_push_of_some _ (Heap.get?_push_size _ B1.free))))
  have g2 : (zsHeap s.heap o1 o2).get? (s.heap.push o1).objs.size = some o2 := Heap.get?_push_of_some _ (Heap.get?_push_of_some _ (Heap.get?_push_of_some _ (Heap.get?_push_size _ B2.free)))
  rw [a4, a3, a2] at gZ
  rw [a3] at gO
  rw [a2, a1] at gT
  rw [a1] at g2
  show _ ∧ _
  rw [a4]
  exact ⟨⟨_, gZ, rfl⟩, h _ gZ gT gO g1 g2 a5 fun c o e => Heap.get?_push_of_some _ (Heap.get?_push_of_some _ (Heap.get?_push_of_some _ (Heap.get?_push_of_some _ (Heap.get?_push_of_some _ e))))⟩
variable {it z TI TO i1 i2 : Addr} {fp fp1 fp2 : List Addr} {n i : Nat} {Pv P1 P2 : Nat → Value → Prop} {St St1 St2 : Nat → Heap → Prop}
theorem nextOrEnd_item {Q : Option Value → Shared → Prop} (D : Draws prog w A it fp n Pv St) (hi : i < n) (st : St i s.heap) (h : ∀ x h' tk, Pv i x → St (i + 1) h' → Heap.SameBut it s.heap h' → Q (some x) { s with heap := h', toks := tk }) :
    wpAny (model prog w) A (Builtin.SmallTypes.nextOrEnd (.ref it)) Q E s := by
  unfold Builtin.SmallTypes.nextOrEnd
  exact wpAny_bind (wpAny_attempt (D.item i _ _ _ hi st fun x h' tk a b c => wpAny_pure (h x h' tk a b c)))
theorem nextOrEnd_end {Q : Option Value → Shared → Prop} (D : Draws prog w A it fp n Pv St) (st : St n s.heap) (h : ∀ h', Heap.ExtBut it s.heap h' → Q none { s with heap := h' }) :
    wpAny (model prog w) A (Builtin.SmallTypes.nextOrEnd (.ref it)) Q E s := by
  unfold Builtin.SmallTypes.nextOrEnd
  refine wpAny_bind (wpAny_attempt (D.done _ _ _ st fun h' e a he => ?_))
  obtain ⟨o, ho, hc⟩ := he
  exact wpAny_bind (wpAny_isInstance (T := "StopIteration") (b := true) ⟨o, ho, hc⟩ isSubtype_stop (wpAny_pure (h h' a)))
/-- the first pair: the zip's own tuple is free -/
theorem zs_first {Q : Value → Shared → Prop} (S : ZipSep2 z TI TO i1 i2 fp1 fp2) (D1 : Draws prog w A i1 fp1 n P1 St1) (D2 : Draws prog w A i2 fp2 n P2 St2)
    (hz : IsZs s.heap z TI TO .none false) (hTI : IsTupOf2 s.heap TI (.ref i1) (.ref i2)) (hTO : IsTupOf2 s.heap TO .none .none) (st1 : St1 0 s.heap) (st2 : St2 0 s.heap) (hn : 0 < n)
    (hQ : ∀ x y h' tk, P1 0 x → P2 0 y → IsZs h' z TI TO (rawInt s.heap.objs.size) false → St1 1 h' → St2 1 h' → IsTupOf2 h' s.heap.objs.size x y → s.heap.objs.size < h'.objs.size →
      (∀ c o, c ≠ z → c ≠ TO → c ≠ i1 → c ≠ i2 → s.heap.get? c = some o → h'.get? c = some o) → Q (.ref s.heap.objs.size) { s with heap := h', toks := tk }) :
    wpAny (model prog w) A (Builtin.«zip.__next__» ⟨[.ref z], []⟩) (fun fin s' => ∃ v, fin = .done (.ret v) ∧ Q v s') E s := by
  obtain ⟨hp, g, d, tk0, os⟩ := s
  show wpAny _ _ (field (.ref z) 2 >>= _) _ _ _
  refine wpAny_bind (wpAny_field hz rfl (x := .bool true) rfl ?_)
  show wpAny _ _ (field (.ref z) 3 >>= _) _ _ _
  refine wpAny_bind (wpAny_field hz rfl (x := .ref TI) rfl (wpAny_bind (wpAny_seqItems hTI rfl ?_)))
  show wpAny _ _ (Builtin.SmallTypes.ownedTupleIsFree (.ref z) >>= _) _ _ _
  refine wpAny_bind ?_
  unfold Builtin.SmallTypes.ownedTupleIsFree
  refine wpAny_bind (wpAny_field hz rfl (x := .none) rfl (wpAny_pure ?_))
  simp only [if_true]
  refine wpAny_bind (wpAny_rule (wpAny_bind (wpAny_field hz rfl (x := .ref TO) rfl ?_)))
  refine wpAny_bind (wpAny_setField_rec hz (by simp) fun g0 hz0 hs0 => ?_)
  replace hz0 : IsZs g0 z TI TO .ellipsis false := hz0
  replace hs0 : Heap.SameBut z hp g0 := hs0
  refine wpAny_bind ?_
  simp only [List.zipIdx_cons, List.zipIdx_nil, List.forIn_cons, List.forIn_nil]
  refine wpAny_bind (wpAny_bind (wpAny_onRaise ?_))
  show wpAny _ _ (Builtin.SmallTypes.nextOrEnd (.ref i1)) _ _ ⟨g0, g, d, tk0, os⟩
  refine nextOrEnd_item D1 hn (D1.over st1 hs0 S.zf1) fun x p1 tk1 hx sn1 hp1 => ?_
  replace hp1 : Heap.SameBut i1 g0 p1 := hp1
  have hU1 : IsTupOf2 p1 TO .none .none := hp1.extBut _ _ S.Ti1 (hs0.extBut _ _ S.TOz hTO)
  refine wpAny_bind (wpAny_seqItems (s := ⟨p1, g, d, tk1, os⟩) hU1 rfl (wpAny_bind (updateSeq_IsTupOf2 (s := ⟨p1, g, d, tk1, os⟩) hU1 fun g1 hT1 hs1 => ?_)))
  replace hT1 : IsTupOf2 g1 TO x .none := hT1
  replace hs1 : Heap.SameBut TO p1 g1 := hs1
  refine wpAny_bind (wpAny_letGo (wpAny_pure (wpAny_bind (wpAny_bind (wpAny_onRaise ?_)))))
  show wpAny _ _ (Builtin.SmallTypes.nextOrEnd (.ref i2)) _ _ ⟨g1, g, d, tk1, os⟩
  refine nextOrEnd_item D2 hn (D2.over (D2.over (D2.over st2 hs0 S.zf2) hp1 S.sep1_2) hs1 S.Tf2) fun y p2 tk2 hy sn2 hp2 => ?_
  replace hp2 : Heap.SameBut i2 g1 p2 := hp2
  have hU2 : IsTupOf2 p2 TO x .none := hp2.extBut _ _ S.Ti2 hT1
  refine wpAny_bind (wpAny_seqItems (s := ⟨p2, g, d, tk2, os⟩) hU2 rfl (wpAny_bind (updateSeq_IsTupOf2 (s := ⟨p2, g, d, tk2, os⟩) hU2 fun g2 hT2 hs2 => ?_)))
  replace hT2 : IsTupOf2 g2 TO x y := hT2
  replace hs2 : Heap.SameBut TO p2 g2 := hs2
  refine wpAny_bind (wpAny_letGo (wpAny_pure (wpAny_pure ?_)))
  refine wpAny_bind (wpAny_seqItems (s := ⟨g2, g, d, tk2, os⟩) hT2 rfl (wpAny_bind (wpAny_newTuple ?_)))
  have esz : g2.objs.size = hp.objs.size := by rw [hs2.1, hp2.1, hs1.1, hp1.1, hs0.1]
  have ez : IsZs g2 z TI TO .ellipsis false := hs2.extBut _ _ S.TOz.symm (hp2.extBut _ _ S.zi2 (hs1.extBut _ _ S.TOz.symm (hp1.extBut _ _ S.zi1 hz0)))
  have ek : ∀ c o, c ≠ z → c ≠ TO → c ≠ i1 → c ≠ i2 → hp.get? c = some o → g2.get? c = some o := fun c o cz cT c1 c2 e => hs2.extBut _ _ cT (hp2.extBut _ _ c2 (hs1.extBut _ _ cT (hp1.extBut _ _ c1 (hs0.extBut _ _ cz e))))
  have j1 : St1 1 g2 := D1.over (D1.over (D1.over sn1 hs1 S.Tf1) hp2 S.sep2_1) hs2 S.Tf1
  have j2 : St2 1 g2 := D2.over sn2 hs2 S.Tf2
  have zlt : z < g2.objs.size := Heap.lt_size ez
  show wpAny _ _ (Builtin.SmallTypes.ownedTupleHandOut (.ref z) (.ref g2.objs.size) >>= _) _ _ ⟨g2.push { cls := .type "tuple", data := .seq #[x, y] }, g, d, tk2, os⟩
  refine wpAny_bind ?_
  unfold Builtin.SmallTypes.ownedTupleHandOut
  have ez3 : IsZs (g2.push { cls := .type "tuple", data := .seq #[x, y] }) z TI TO .ellipsis false := Heap.get?_push_of_some _ ez
  refine wpAny_bind (wpAny_setField_rec ez3 (by simp) fun g3 hz3 hs3 => ?_)
  replace hz3 : IsZs g3 z TI TO (rawInt g2.objs.size) false := hz3
  refine wpAny_setField_rec hz3 (by simp) fun g4 hz4 hs4 => ?_
  replace hz4 : IsZs g4 z TI TO (rawInt g2.objs.size) false := hz4
  replace hs3 : Heap.SameBut z (g2.push { cls := .type "tuple", data := .seq #[x, y] }) g3 := hs3
  replace hs4 : Heap.SameBut z g3 g4 := hs4
  have up : ∀ c o, c ≠ z → g2.get? c = some o → g4.get? c = some o := fun c o c1 e => hs4.extBut _ _ c1 (hs3.extBut _ _ c1 (Heap.get?_push_of_some _ e))
  have hT4 : IsTupOf2 g4 g2.objs.size x y := hs4.extBut _ _ (Nat.ne_of_gt zlt) (hs3.extBut _ _ (Nat.ne_of_gt zlt) (Heap.get?_push_size _ rfl))
  have hlt4 : g2.objs.size < g4.objs.size := Heap.lt_size hT4
  refine wpAny_pure ⟨_, rfl, ?_⟩
  show Q (.ref g2.objs.size) ⟨g4, g, d, tk2, os⟩
  rw [esz] at hz4 hT4 hlt4 ⊢
  exact hQ x y g4 tk2 hx hy hz4 (D1.frame _ _ _ j1 fun b hb o e => up b o (fun q => S.zf1 (q ▸ hb)) e) (D2.frame _ _ _ j2 fun b hb o e => up b o (fun q => S.zf2 (q ▸ hb)) e) hT4 hlt4 fun c o cz cT c1 c2 e => up c o cz (ek c o cz cT c1 c2 e)
theorem zs_held {T : Addr} {f : Bool} {oT : Obj} {Q : Bool → Shared → Prop} (hz : IsZs s.heap z TI TO (rawInt T) f) (hT : s.heap.get? T = some oT)
    (h : ∀ h', IsZs h' z TI TO (rawInt T) true → Heap.SameBut z s.heap h' → Q false { s with heap := h' }) : wpAny (model prog w) A (Builtin.SmallTypes.ownedTupleIsFree (.ref z)) Q E s := by
  unfold Builtin.SmallTypes.ownedTupleIsFree
  refine wpAny_bind (wpAny_field hz rfl (x := rawInt T) rfl ?_)
  show wpAny _ _ (loadIfAlive ((T : Int).toNat) >>= _) _ _ _
  rw [Int.toNat_natCast]
  refine wpAny_bind (PySem.W.kdx_alive hT ?_)
  simp only [Option.isNone_some, Bool.false_eq_true, if_false]
  refine wpAny_bind (wpAny_field hz rfl (x := .bool f) rfl ?_)
  cases f with
  | true =>
    rw [if_neg (show ¬ ((Value.bool true != Value.bool true) = true) from Bool.false_ne_true)]
    exact wpAny_pure (h s.heap hz (Heap.SameBut.refl _ _))
  | false =>
    rw [if_pos (show (Value.bool false != Value.bool true) = true from rfl)]
    exact wpAny_bind (wpAny_setField_rec hz (by simp) fun h1 hz1 hs1 => wpAny_pure (h h1 hz1 hs1))
/-- a further pair: the one given out before is still there -/
theorem zs_next {T : Addr} {f : Bool} {oT : Obj} {Q : Value → Shared → Prop} (S : ZipSep2 z TI TO i1 i2 fp1 fp2) (D1 : Draws prog w A i1 fp1 n P1 St1) (D2 : Draws prog w A i2 fp2 n P2 St2)
    (hz : IsZs s.heap z TI TO (rawInt T) f) (hT : s.heap.get? T = some oT) (hTI : IsTupOf2 s.heap TI (.ref i1) (.ref i2)) (st1 : St1 i s.heap) (st2 : St2 i s.heap) (hi : i < n)
    (hQ : ∀ x y h' tk, P1 i x → P2 i y → IsZs h' z TI TO (rawInt T) true → St1 (i + 1) h' → St2 (i + 1) h' → IsTupOf2 h' s.heap.objs.size x y → s.heap.objs.size < h'.objs.size →
      (∀ c o, c ≠ z → c ≠ i1 → c ≠ i2 → s.heap.get? c = some o → h'.get? c = some o) → Q (.ref s.heap.objs.size) { s with heap := h', toks := tk }) :
    wpAny (model prog w) A (Builtin.«zip.__next__» ⟨[.ref z], []⟩) (fun fin s' => ∃ v, fin = .done (.ret v) ∧ Q v s') E s := by
  obtain ⟨hp, g, d, tk0, os⟩ := s
  show wpAny _ _ (field (.ref z) 2 >>= _) _ _ _
  refine wpAny_bind (wpAny_field hz rfl (x := .bool true) rfl ?_)
  show wpAny _ _ (field (.ref z) 3 >>= _) _ _ _
  refine wpAny_bind (wpAny_field hz rfl (x := .ref TI) rfl (wpAny_bind (wpAny_seqItems hTI rfl ?_)))
  show wpAny _ _ (Builtin.SmallTypes.ownedTupleIsFree (.ref z) >>= _) _ _ _
  refine wpAny_bind (zs_held hz hT fun g0 hz0 hs0 => ?_)
  replace hs0 : Heap.SameBut z hp g0 := hs0
  simp only [Bool.false_eq_true, if_false]
  refine wpAny_bind ?_
  rw [← Array.forIn_toList]
  simp only [List.forIn_cons, List.forIn_nil]
  refine wpAny_bind (wpAny_bind (wpAny_holding ?_))
  show wpAny _ _ (Builtin.SmallTypes.nextOrEnd (.ref i1)) _ _ ⟨g0, g, d, tk0, os⟩
  refine nextOrEnd_item D1 hi (D1.over st1 hs0 S.zf1) fun x p1 tk1 hx sn1 hp1 => ?_
  replace hp1 : Heap.SameBut i1 g0 p1 := hp1
  refine wpAny_pure (wpAny_bind (wpAny_bind (wpAny_holding ?_)))
  show wpAny _ _ (Builtin.SmallTypes.nextOrEnd (.ref i2)) _ _ ⟨p1, g, d, tk1, os⟩
  refine nextOrEnd_item D2 hi (D2.over (D2.over st2 hs0 S.zf2) hp1 S.sep1_2) fun y p2 tk2 hy sn2 hp2 => ?_
  replace hp2 : Heap.SameBut i2 p1 p2 := hp2
  refine wpAny_pure (wpAny_pure ?_)
  show wpAny _ _ (newTuple [x, y] >>= _) _ _ ⟨p2, g, d, tk2, os⟩
  refine wpAny_bind (wpAny_newTuple ?_)
  have esz : p2.objs.size = hp.objs.size := by rw [hp2.1, hp1.1, hs0.1]
  have ez : IsZs p2 z TI TO (rawInt T) true := hp2.extBut _ _ S.zi2 (hp1.extBut _ _ S.zi1 hz0)
  have ek : ∀ c o, c ≠ z → c ≠ i1 → c ≠ i2 → hp.get? c = some o → p2.get? c = some o := fun c o cz c1 c2 e => hp2.extBut _ _ c2 (hp1.extBut _ _ c1 (hs0.extBut _ _ cz e))
  have j1 : St1 (i + 1) p2 := D1.over sn1 hp2 S.sep2_1
  have gT : IsTupOf2 (p2.push { cls := .type "tuple", data := .seq #[x, y] }) p2.objs.size x y := Heap.get?_push_size _ rfl
  have glt : p2.objs.size < (p2.push { cls := .type "tuple", data := .seq #[x, y] }).objs.size := Heap.lt_size gT
  refine wpAny_pure ⟨_, rfl, ?_⟩
  show Q (.ref p2.objs.size) _
  rw [esz] at gT glt ⊢
  exact hQ x y _ tk2 hx hy (Heap.get?_push_of_some _ ez) (D1.frame _ _ _ j1 fun b _ o e => Heap.get?_push_of_some _ e) (D2.frame _ _ _ sn2 fun b _ o e => Heap.get?_push_of_some _ e) gT glt fun c o cz c1 c2 e => Heap.get?_push_of_some _ (ek c o cz c1 c2 e)
theorem zs_end {T : Addr} {f : Bool} {oT : Obj} {Q : PySem.Fin → Shared → Prop} (hh : A.handled = none) (S : ZipSep2 z TI TO i1 i2 fp1 fp2) (D1 : Draws prog w A i1 fp1 n P1 St1) (D2 : Draws prog w A i2 fp2 n P2 St2)
    (hz : IsZs s.heap z TI TO (rawInt T) f) (hT : s.heap.get? T = some oT) (hTI : IsTupOf2 s.heap TI (.ref i1) (.ref i2)) (st1 : St1 n s.heap) (st2 : St2 n s.heap)
    (hE : ∀ h' e, (∀ c o, c ≠ z → c ≠ i1 → c ≠ i2 → s.heap.get? c = some o → h'.get? c = some o) → (∃ o, h'.get? e = some o ∧ o.cls = .type "StopIteration") → E (.ref e) { s with heap := h' }) :
    wpAny (model prog w) A (Builtin.«zip.__next__» ⟨[.ref z], []⟩) Q E s := by
  obtain ⟨hp, g, d, tk0, os⟩ := s
  show wpAny _ _ (field (.ref z) 2 >>= _) _ _ _
  refine wpAny_bind (wpAny_field hz rfl (x := .bool true) rfl ?_)
  show wpAny _ _ (field (.ref z) 3 >>= _) _ _ _
  refine wpAny_bind (wpAny_field hz rfl (x := .ref TI) rfl (wpAny_bind (wpAny_seqItems hTI rfl ?_)))
  show wpAny _ _ (Builtin.SmallTypes.ownedTupleIsFree (.ref z) >>= _) _ _ _
  refine wpAny_bind (zs_held hz hT fun g0 hz0 hs0 => ?_)
  replace hs0 : Heap.SameBut z hp g0 := hs0
  simp only [Bool.false_eq_true, if_false]
  refine wpAny_bind ?_
  rw [← Array.forIn_toList]
  simp only [List.forIn_cons, List.forIn_nil]
  refine wpAny_bind (wpAny_bind (wpAny_holding ?_))
  show wpAny _ _ (Builtin.SmallTypes.nextOrEnd (.ref i1)) _ _ ⟨g0, g, d, tk0, os⟩
  refine nextOrEnd_end D1 (D1.over st1 hs0 S.zf1) fun p1 hp1 => ?_
  replace hp1 : Heap.ExtBut i1 g0 p1 := hp1
  refine wpAny_bind ?_
  show wpAny _ _ (forIn ((List.drop 1 [Value.ref i1, Value.ref i2]).zipIdx 1) PUnit.unit _ >>= _) _ _ _
  simp only [List.drop_succ_cons, List.drop_zero, List.zipIdx_cons, List.zipIdx_nil, List.forIn_cons, List.forIn_nil]
  have st2' : St2 n p1 := D2.frame _ _ _ (D2.over st2 hs0 S.zf2) fun b hb o e => hp1 b o (fun q => S.sep1_2 (q ▸ hb)) e
  refine wpAny_bind (wpAny_bind (wpAny_bind (nextOrEnd_end (s := ⟨p1, g, d, tk0, os⟩) D2 st2' fun p2 hp2 => ?_)))
  replace hp2 : Heap.ExtBut i2 p1 p2 := hp2
  simp only [Option.isSome_none, Bool.false_eq_true, if_false]
  refine wpAny_pure (wpAny_pure (wpAny_bind (wpAny_rule ?_)))
  unfold Builtin.SmallTypes.stopIteration
  refine wpAny_bind ?_
  simp only [newExc, newTuple]
  refine wpAny_bind (wpAny_newObj_type ?_ (by size_fits))
  refine wpAny_bind (m := firstArgMember _ _) (wpAny_of_eq (a := Value.none) (by first | rfl | (simp only [firstArgMember]; rfl)) ?_)
  refine wpAny_newObj_type ?_ (by size_fits)
  simp only [raiseNew]
  refine wpAny_bind (wpAny_handled ?_)
  first | rw [show A.in1.handled = none from hh] | rw [hh]
  refine wpAny_bind (wpAny_pure (wpAny_throw ?_))
  exact hE _ _ (fun c o cz c1 c2 e => Heap.get?_push_of_some _ (Heap.get?_push_of_some _ (hp2 c o c2 (hp1 c o c1 (hs0.extBut c o cz e))))) ⟨_, Heap.get?_push_size _ rfl, rfl⟩
end
end K24
end
section
set_option Elab.async false
set_option linter.all false
set_option maxRecDepth 100000
set_option maxHeartbeats 4000000
/-! list(zip(a, b, strict=True)) -/
namespace K24
open PySem PySem.Spec PyProof.Rows L2
theorem wpAny_else {α : Type} {M : Model} {A : Around} {E : Value → Shared → Prop} {s : Shared} {c : Prop} [d : Decidable c] {a b : Sem α} {Q : α → Shared → Prop} (hc : ¬ c) (h : wpAny M A b Q E s) : wpAny M A (if c then a else b) Q E s := by
  rw [if_neg hc]
  exact h
theorem zip_no_len : typeLookup (.type "zip") "__len__" = pure none := am_miss_of_fast (by decide +kernel)
theorem zip_no_hint : typeLookup (.type "zip") "__length_hint__" = pure none := am_miss_of_fast (by decide +kernel)
section
variable {prog : Program} {w : World} {A : Around} {E : Value → Shared → Prop} {s : Shared} {z TI TO i1 i2 : Addr} {fp1 fp2 : List Addr} {n i : Nat} {P1 P2 : Nat → Value → Prop} {St1 St2 : Nat → Heap → Prop}
theorem zs_iter {own : Value} {f : Bool} {Q : Value → Shared → Prop} (hz : IsZs s.heap z TI TO own f) (h : Q (.ref z) s) : wpAny (model prog w) A (pyIter (.ref z)) Q E s := by
  have hT : s.TypeIs (.ref z) "zip" := ⟨_, hz, rfl⟩
  refine wpAny_pyIter_slot hT F.slot_zip_iter (wpAny_call_entry F.slot_zip_iter hT F.entry_zip_iter ?_ (F.args_zip_iter_1 _))
  show wpAny _ _ (ret (.ref z)) _ _ s
  exact wpAny_pure ⟨_, rfl, "zip", _, hT, F.slot_zip_next.lookup, h⟩
theorem zs_hint {own : Value} {f : Bool} {Q : Bool → Shared → Prop} (hz : IsZs s.heap z TI TO own f) (h : Q true s) : wpAny (model prog w) A (Builtin.List.listLengthHint (.ref z)) Q E s := by
  have hT : s.TypeIs (.ref z) "zip" := ⟨_, hz, rfl⟩
  unfold Builtin.List.listLengthHint
  refine wpAny_bind (wpAny_specialOf hT zip_no_len ?_)
  refine wpAny_else (show ¬ (false = true) by decide) ?_
  refine wpAny_bind (wpAny_specialOf hT zip_no_hint ?_)
  exact wpAny_pure h
theorem zsN_first {Q : Option Value → Shared → Prop} (S : ZipSep2 z TI TO i1 i2 fp1 fp2) (D1 : Draws prog w A.in1 i1 fp1 n P1 St1) (D2 : Draws prog w A.in1 i2 fp2 n P2 St2)
    (hz : IsZs s.heap z TI TO .none false) (hTI : IsTupOf2 s.heap TI (.ref i1) (.ref i2)) (hTO : IsTupOf2 s.heap TO .none .none) (st1 : St1 0 s.heap) (st2 : St2 0 s.heap) (hn : 0 < n)
    (hQ : ∀ x y h' tk, P1 0 x → P2 0 y → IsZs h' z TI TO (rawInt s.heap.objs.size) false → St1 1 h' → St2 1 h' → IsTupOf2 h' s.heap.objs.size x y → s.heap.objs.size < h'.objs.size →
      (∀ c o, c ≠ z → c ≠ TO → c ≠ i1 → c ≠ i2 → s.heap.get? c = some o → h'.get? c = some o) → Q (some (.ref s.heap.objs.size)) { s with heap := h', toks := tk }) : wpAny (model prog w) A (pyNext (.ref z)) Q E s := by
  have hT : s.TypeIs (.ref z) "zip" := ⟨_, hz, rfl⟩
  unfold pyNext
  exact wpAny_bind (wpAny_attempt (wpAny_callSpecial?_slot (name := Str.ofString "__next__") hT F.slot_zip_next (wpAny_call_entry F.slot_zip_next hT F.entry_zip_next
    (zs_first S D1 D2 hz hTI hTO st1 st2 hn fun x y h' tk a1 a2 a3 a4 a5 a6 a7 a8 => wpAny_pure (hQ x y h' tk a1 a2 a3 a4 a5 a6 a7 a8)) (F.args_zip_next_1 _))))
theorem zsN_next {T : Addr} {f : Bool} {oT : Obj} {Q : Option Value → Shared → Prop} (S : ZipSep2 z TI TO i1 i2 fp1 fp2) (D1 : Draws prog w A.in1 i1 fp1 n P1 St1) (D2 : Draws prog w A.in1 i2 fp2 n P2 St2)
    (hz : IsZs s.heap z TI TO (rawInt T) f) (hT : s.heap.get? T = some oT) (hTI : IsTupOf2 s.heap TI (.ref i1) (.ref i2)) (st1 : St1 i s.heap) (st2 : St2 i s.heap) (hi : i < n)
    (hQ : ∀ x y h' tk, P1 i x → P2 i y → IsZs h' z TI TO (rawInt T) true → St1 (i + 1) h' → St2 (i + 1) h' → IsTupOf2 h' s.heap.objs.size x y → s.heap.objs.size < h'.objs.size →
      (∀ c o, c ≠ z → c ≠ i1 → c ≠ i2 → s.heap.get? c = some o → h'.get? c = some o) → Q (some (.ref s.heap.objs.size)) { s with heap := h', toks := tk }) : wpAny (model prog w) A (pyNext (.ref z)) Q E s := by
  have hTy : s.TypeIs (.ref z) "zip" := ⟨_, hz, rfl⟩
  unfold pyNext
  exact wpAny_bind (wpAny_attempt (wpAny_callSpecial?_slot (name := Str.ofString "__next__") hTy F.slot_zip_next (wpAny_call_entry F.slot_zip_next hTy F.entry_zip_next
    (zs_next S D1 D2 hz hT hTI st1 st2 hi fun x y h' tk a1 a2 a3 a4 a5 a6 a7 a8 => wpAny_pure (hQ x y h' tk a1 a2 a3 a4 a5 a6 a7 a8)) (F.args_zip_next_1 _))))
theorem zsN_end {T : Addr} {f : Bool} {oT : Obj} {Q : Option Value → Shared → Prop} (hh : A.handled = none) (S : ZipSep2 z TI TO i1 i2 fp1 fp2) (D1 : Draws prog w A.in1 i1 fp1 n P1 St1) (D2 : Draws prog w A.in1 i2 fp2 n P2 St2)
    (hz : IsZs s.heap z TI TO (rawInt T) f) (hT : s.heap.get? T = some oT) (hTI : IsTupOf2 s.heap TI (.ref i1) (.ref i2)) (st1 : St1 n s.heap) (st2 : St2 n s.heap)
    (hQ : ∀ h', (∀ c o, c ≠ z → c ≠ i1 → c ≠ i2 → s.heap.get? c = some o → h'.get? c = some o) → Q none { s with heap := h' }) : wpAny (model prog w) A (pyNext (.ref z)) Q E s := by
  have hTy : s.TypeIs (.ref z) "zip" := ⟨_, hz, rfl⟩
  unfold pyNext
  refine wpAny_bind (wpAny_attempt (wpAny_callSpecial?_slot (name := Str.ofString "__next__") hTy F.slot_zip_next (wpAny_call_entry F.slot_zip_next hTy F.entry_zip_next
    (zs_end hh S D1 D2 hz hT hTI st1 st2 fun h' e hk he => ?_) (F.args_zip_next_1 _))))
  obtain ⟨o, ho, hc⟩ := he
  exact wpAny_bind (wpAny_isInstance (T := "StopIteration") (b := true) ⟨o, ho, hc⟩ isSubtype_stop (wpAny_pure (hQ _ hk)))
end
/-- the pairs given out so far: new tuples, rising -/
structure ZP (P1 P2 : Nat → Value → Prop) (lo : Addr) (h : Heap) (as : List Addr) : Prop where
  rise : as.Pairwise (· < ·)
  above : ∀ a ∈ as, lo < a
  at_ : ∀ j a, as[j]? = some a → ∃ x y, P1 j x ∧ P2 j y ∧ IsTupOf2 h a x y
theorem ZP.keep {P1 P2 : Nat → Value → Prop} {lo : Addr} {h h' : Heap} {as : List Addr} (p : ZP P1 P2 lo h as) (k : ∀ a o, a ∈ as → h.get? a = some o → h'.get? a = some o) : ZP P1 P2 lo h' as :=
  ⟨p.rise, p.above, fun j a e => let ⟨x, y, a1, a2, a3⟩ := p.at_ j a e; ⟨x, y, a1, a2, k a _ (List.mem_of_getElem? e) a3⟩⟩
theorem ZP.snoc {P1 P2 : Nat → Value → Prop} {lo : Addr} {h : Heap} {as : List Addr} {T : Addr} {x y : Value} (p : ZP P1 P2 lo h as) (hT : ∀ a ∈ as, a < T) (hlo : lo < T) (h1 : P1 as.length x) (h2 : P2 as.length y) (h3 : IsTupOf2 h T x y) : ZP P1 P2 lo h (as ++ [T]) := by
  refine ⟨List.pairwise_append.mpr ⟨p.rise, List.pairwise_singleton _ _, fun a ha b hb => ?_⟩, fun a ha => ?_, fun j a e => ?_⟩
  · rw [List.mem_singleton.mp hb]
    exact hT a ha
  · rcases List.mem_append.mp ha with ha | ha
    · exact p.above a ha
    · rw [List.mem_singleton.mp ha]; exact hlo
  · rcases Nat.lt_trichotomy j as.length with hj | hj | hj
    · rw [List.getElem?_append_left hj] at e
      exact p.at_ j a e
    · subst hj
      have e2 : T = a := by simpa using e
      subst e2
      exact ⟨x, y, h1, h2, h3⟩
    · rw [List.getElem?_eq_none (by rw [List.length_append, List.length_singleton]; omega)] at e
      cases e
section
variable {prog : Program} {w : World} {A : Around} {s : Shared} {R : Result → Shared → Prop} {z TI TO i1 i2 Sx : Addr} {fp1 fp2 : List Addr} {n : Nat} {P1 P2 : Nat → Value → Prop} {St1 St2 : Nat → Heap → Prop}
/-- the strict zip's state behind i pairs -/
structure ZT (z TI TO i1 i2 : Addr) (St1 St2 : Nat → Heap → Prop) (i : Nat) (h : Heap) (as : List Addr) : Prop where
  ti : IsTupOf2 h TI (.ref i1) (.ref i2)
  own : (i = 0 ∧ IsZs h z TI TO .none false ∧ IsTupOf2 h TO .none .none) ∨ (0 < i ∧ ∃ T f, T ∈ as ∧ IsZs h z TI TO (rawInt T) f)
  st1 : St1 i h
  st2 : St2 i h
theorem zs_loop (hh : A.handled = none) (S : ZipSep2 z TI TO i1 i2 fp1 fp2) (D1 : Draws prog w A.in1.in1 i1 fp1 n P1 St1) (D2 : Draws prog w A.in1.in1 i2 fp2 n P2 St2) (hn0 : 0 < n) (hn : n ≤ sizeLine) (res : Value) {h1 : Heap}
    (out : ∀ b, b = z ∨ b = TI ∨ b = TO ∨ b = i1 ∨ b = i2 ∨ b ∈ fp1 ∨ b ∈ fp2 → b < Sx)
    (hR : ∀ h' tk acc c as, (∀ b o, b ≠ Sx → b ≠ z → b ≠ TO → b ≠ i1 → b ≠ i2 → h1.get? b = some o → h'.get? b = some o) → h'.get? Sx = some { cls := .type "list", dict := none, data := .seq acc c, slots := #[] } → as.length = n → ZP P1 P2 Sx h' as →
      acc.toList = as.map Value.ref → R (.ok (.ret res)) { s with heap := h', toks := tk }) :
    ∀ (k i : Nat) (h : Heap) (tk c : Nat) (acc : Array Value) (as : List Addr), n - i = k → i ≤ n → ZT z TI TO i1 i2 St1 St2 i h as → (∀ b o, b ≠ Sx → b ≠ z → b ≠ TO → b ≠ i1 → b ≠ i2 → h1.get? b = some o → h.get? b = some o) →
      h.get? Sx = some { cls := .type "list", dict := none, data := .seq acc c, slots := #[] } → acc.toList = as.map Value.ref → as.length = i → ZP P1 P2 Sx h as →
      codeAny (model prog w) A (.builtin "list.extend.loop" ⟨[.ref Sx, .ref z, res], []⟩) R { s with heap := h, toks := tk } := by
  have ltZ : z < Sx := out z (.inl rfl)
  have ltO : TO < Sx := out TO (.inr (.inr (.inl rfl)))
  have ltI : TI < Sx := out TI (.inr (.inl rfl))
  have lt1 : i1 < Sx := out i1 (.inr (.inr (.inr (.inl rfl))))
  have lt2 : i2 < Sx := out i2 (.inr (.inr (.inr (.inr (.inl rfl)))))
  have ne : ∀ {a b : Addr}, a < b → b ≠ a := fun h => Nat.ne_of_gt h
  intro k
  induction k with
  | zero =>
    intro i h tk c acc as hk hi hst hkeep hS hacc hal hP
    have e : i = n := by omega
    subst e
    refine codeAny_builtin PySem.F.entry_extend_loop ?_
    rw [Around.under_plainId PySem.F.plain_extend_loop _]
    show wpAny _ A.in1 (pyNext (.ref z) >>= _) _ _ _
    rcases hst.own with ⟨e0, _⟩ | ⟨_, T, f, hT, hz⟩
    · omega
    · obtain ⟨j, hj⟩ := List.mem_iff_getElem?.mp hT
      obtain ⟨x, y, _, _, hTo⟩ := hP.at_ j T hj
      refine wpAny_bind (zsN_end (s := { s with heap := h, toks := tk }) (A := A.in1) hh S D1 D2 hz hTo hst.ti hst.st1 hst.st2 fun h' kp => ?_)
      have far : ∀ a, Sx ≤ a → a ≠ z ∧ a ≠ i1 ∧ a ≠ i2 := fun a ha => ⟨ne (Nat.lt_of_lt_of_le ltZ ha), ne (Nat.lt_of_lt_of_le lt1 ha), ne (Nat.lt_of_lt_of_le lt2 ha)⟩
      obtain ⟨f1, f2, f3⟩ := far Sx (Nat.le_refl _)
      exact wpAny_pure (hR h' tk acc c as (fun b o a1 a2 a3 a4 a5 e => kp b o a2 a4 a5 (hkeep b o a1 a2 a3 a4 a5 e)) (kp Sx _ f1 f2 f3 hS) hal (hP.keep fun a o ha e => let ⟨g1, g2, g3⟩ := far a (Nat.le_of_lt (hP.above a ha)); kp a o g1 g2 g3 e) hacc)
  | succ k ih =>
    intro i h tk c acc as hk hi hst hkeep hS hacc hal hP
    have hlt : i < n := by omega
    have hsz : acc.size = i := by rw [← Array.length_toList, hacc, List.length_map, hal]
    have far : ∀ a, Sx ≤ a → a ≠ z ∧ a ≠ TO ∧ a ≠ i1 ∧ a ≠ i2 := fun a ha => ⟨ne (Nat.lt_of_lt_of_le ltZ ha), ne (Nat.lt_of_lt_of_le ltO ha), ne (Nat.lt_of_lt_of_le lt1 ha), ne (Nat.lt_of_lt_of_le lt2 ha)⟩
    obtain ⟨f1, f2, f3, f4⟩ := far Sx (Nat.le_refl _)
    have hSl : Sx < h.objs.size := Heap.lt_size hS
    have low : ∀ a ∈ as, a < h.objs.size := fun a ha => by
      obtain ⟨j, hj⟩ := List.mem_iff_getElem?.mp ha
      obtain ⟨x, y, _, _, hTo⟩ := hP.at_ j a hj
      exact Heap.lt_size hTo
    refine codeAny_builtin PySem.F.entry_extend_loop ?_
    rw [Around.under_plainId PySem.F.plain_extend_loop _]
    show wpAny _ A.in1 (pyNext (.ref z) >>= _) _ _ _
    -- whatever next has done, the rest is alike
    have go : ∀ (x y : Value) (h' : Heap) (tk' : Nat) (f : Bool) (T : Addr), P1 i x → P2 i y → (T ∈ as ∨ T = h.objs.size) → IsZs h' z TI TO (rawInt T) f → St1 (i + 1) h' → St2 (i + 1) h' → IsTupOf2 h' h.objs.size x y →
        (∀ b o, b ≠ z → b ≠ TO → b ≠ i1 → b ≠ i2 → h.get? b = some o → h'.get? b = some o) →
        wpAny (model prog w) A.in1 (updateSeq Sx (·.push (Value.ref h.objs.size)) >>= fun _ => again (.builtin "list.extend.loop" ⟨[.ref Sx, .ref z, res], []⟩))
          (fun fin s' => match fin with | .done f => R (.ok f) s' | .again c' => c'.quiet = true ∧ codeAny (model prog w) A c' R s') (fun e s' => R (.error e) s') { s with heap := h', toks := tk' } := by
      intro x y h' tk' f T hx hy hT hz s1 s2 hp kp
      have hS' := kp Sx _ f1 f2 f3 f4 hS
      have up : ∀ b o, b ≠ Sx → h'.get? b = some o → (h'.update Sx (Obj.mapSeq (·.push (Value.ref h.objs.size)))).get? b = some o := fun b o hb e => (Heap.get?_update_other _ _ (Ne.symm hb)).trans e
      refine wpAny_bind (wpAny_updateSeq hS' rfl (wpAny_pure ⟨plainId_quiet PySem.F.plain_extend_loop _, ih (i + 1) _ tk' _ (acc.push (Value.ref h.objs.size)) (as ++ [h.objs.size]) (by omega) hlt ⟨?_, .inr ⟨Nat.succ_pos _, T, f, ?_, up z _ (Nat.ne_of_lt ltZ) hz⟩, ?_, ?_⟩ ?_ (Heap.get?_update_self _ hS' rfl)
        (by rw [Array.toList_push, hacc, List.map_append]; rfl) (by rw [List.length_append, hal]; rfl) ?_⟩) (by rw [hsz]; omega) (by show (acc.push (Value.ref h.objs.size)).size ≤ sizeLine + 1; rw [Array.size_push, hsz]; omega))
      · exact up TI _ (Nat.ne_of_lt ltI) (kp TI _ S.TIz S.TITO S.TIi1 S.TIi2 hst.ti)
      · rcases hT with hT | hT
        · exact List.mem_append_left _ hT
        · exact List.mem_append_right _ (by rw [hT]; exact List.mem_singleton.mpr rfl)
      · exact D1.frame _ _ _ s1 fun b hb o e => up b o (Nat.ne_of_lt (out b (.inr (.inr (.inr (.inr (.inr (.inl hb)))))))) e
      · exact D2.frame _ _ _ s2 fun b hb o e => up b o (Nat.ne_of_lt (out b (.inr (.inr (.inr (.inr (.inr (.inr hb)))))))) e
      · exact fun b o a1 a2 a3 a4 a5 e => up b o a1 (kp b o a2 a3 a4 a5 (hkeep b o a1 a2 a3 a4 a5 e))
      · have hP2 := hP.keep (h' := h'.update Sx (Obj.mapSeq (·.push (Value.ref h.objs.size)))) fun a o ha e => by
          obtain ⟨g1, g2, g3, g4⟩ := far a (Nat.le_of_lt (hP.above a ha))
          exact up a o (ne (hP.above a ha)) (kp a o g1 g2 g3 g4 e)
        exact hP2.snoc low hSl (by rw [hal]; exact hx) (by rw [hal]; exact hy) (up _ _ (Nat.ne_of_gt hSl) hp)
    rcases hst.own with ⟨e0, hz, hTO⟩ | ⟨_, T, f, hT, hz⟩
    · subst e0
      exact wpAny_bind (zsN_first (s := { s with heap := h, toks := tk }) S D1 D2 hz hst.ti hTO hst.st1 hst.st2 hlt fun x y h' tk' a1 a2 a3 a4 a5 a6 _ a8 => go x y h' tk' false _ a1 a2 (.inr rfl) a3 a4 a5 a6 a8)
    · obtain ⟨j, hj⟩ := List.mem_iff_getElem?.mp hT
      obtain ⟨x0, y0, _, _, hTo⟩ := hP.at_ j T hj
      exact wpAny_bind (zsN_next (s := { s with heap := h, toks := tk }) S D1 D2 hz hTo hst.ti hst.st1 hst.st2 hlt fun x y h' tk' a1 a2 a3 a4 a5 a6 _ a8 => go x y h' tk' true T a1 a2 (.inl hT) a3 a4 a5 a6 fun b o g1 _ g3 g4 => a8 b o g1 g3 g4)
end
end K24
end
section
set_option Elab.async false
set_option linter.all false
set_option maxRecDepth 100000
set_option maxHeartbeats 4000000
/-! list(zip(a, b, strict=True)), the call; as a rule -/
namespace K24
open PySem PySem.Spec PyProof.Rows L2
section
variable {prog : Program} {w : World} {A : Around} {E : Value → Shared → Prop} {s : Shared} {z TI TO i1 i2 : Addr} {fp1 fp2 : List Addr} {n : Nat} {P1 P2 : Nat → Value → Prop} {St1 St2 : Nat → Heap → Prop}
theorem zs_list {Q : Value → Shared → Prop} (hh : A.handled = none) (S : ZipSep2 z TI TO i1 i2 fp1 fp2) (D1 : Draws prog w A.in1.in1.in1 i1 fp1 n P1 St1) (D2 : Draws prog w A.in1.in1.in1 i2 fp2 n P2 St2) (hn0 : 0 < n) (hn : n ≤ sizeLine)
    (out : ∀ b, b = z ∨ b = TI ∨ b = TO ∨ b = i1 ∨ b = i2 ∨ b ∈ fp1 ∨ b ∈ fp2 → b < s.heap.objs.size) (hz : IsZs s.heap z TI TO .none false) (hTI : IsTupOf2 s.heap TI (.ref i1) (.ref i2)) (hTO : IsTupOf2 s.heap TO .none .none) (st1 : St1 0 s.heap) (st2 : St2 0 s.heap)
    (hQ : ∀ h' tk acc c as, (∀ b o, b ≠ z → b ≠ TO → b ≠ i1 → b ≠ i2 → s.heap.get? b = some o → h'.get? b = some o) → h'.get? s.heap.objs.size = some { cls := .type "list", dict := none, data := .seq acc c, slots := #[] } → as.length = n → ZP P1 P2 s.heap.objs.size h' as →
      acc.toList = as.map Value.ref → Q (.ref s.heap.objs.size) { s with heap := h', toks := tk }) :
    wpAny (model prog w) A (call (.type "list") [.ref z]) Q E s := by
  have ltz : z < s.heap.objs.size := out z (.inl rfl)
  refine callType_codes (Q₁ := fun obj s1 => obj = .ref s.heap.objs.size ∧ s1 = { s with heap := s.heap.push { cls := .type "list", data := .seq #[] } }) PySem.F.called_list (PySem.F.typeCall_list_1 _) PySem.F.entry_list_init (code_list_new _ ⟨rfl, rfl⟩) fun obj s1 h1 => ?_
  obtain ⟨rfl, rfl⟩ := h1
  have hS : (s.heap.push { cls := .type "list", data := .seq #[] }).get? s.heap.objs.size = some { cls := .type "list", data := .seq #[] } := Heap.get?_push_size _ rfl
  refine ⟨⟨_, hS, rfl⟩, PySem.F.args_list_init_2 _ _, ?_⟩
  generalize hN : s.heap.objs.size = N at *
  show wpAny _ _ (do let old ← Builtin.List.listItems (.ref N); Builtin.List.listUpdate (.ref N) (fun _ => #[]); letGo old.toList.reverse; Builtin.List.listExtendWith (.ref N) (.ref z) .none) _ _ _
  refine wpAny_bind ?_
  unfold Builtin.List.listItems
  refine wpAny_bind (wpAny_seqItems hS rfl (wpAny_pure ?_))
  show wpAny _ _ (updateSeq N (fun _ => #[]) >>= fun _ => letGo (#[] : Array Value).toList.reverse >>= fun _ => Builtin.List.listExtendWith (.ref N) (.ref z) .none) _ _ _
  refine wpAny_bind (wpAny_updateSeq hS rfl (wpAny_bind (wpAny_letGo ?_)))
  have hS2 := Heap.get?_update_self (Obj.mapSeq (fun _ => (#[] : Array Value))) hS rfl
  have oth : ∀ b o, b ≠ N → s.heap.get? b = some o → ((s.heap.push { cls := .type "list", data := .seq #[] }).update N (Obj.mapSeq (fun _ => (#[] : Array Value)))).get? b = some o :=
    fun b o hb e => (Heap.get?_update_other _ _ (Ne.symm hb)).trans (Heap.get?_push_of_some _ e)
  generalize hg : (s.heap.push { cls := .type "list", data := .seq #[] }).update N (Obj.mapSeq (fun _ => (#[] : Array Value))) = g at hS2 oth
  have hz2 : IsZs g z TI TO .none false := oth z _ (Nat.ne_of_lt ltz) hz
  have key : ∀ (h : Heap) (c1 tk : Nat), (∀ b o, b ≠ N → g.get? b = some o → h.get? b = some o) → h.get? N = some { cls := .type "list", data := .seq #[] c1 } →
      codeAny (model prog w) A.in1 (.builtin "list.extend.loop" ⟨[.ref N, .ref z, .none], []⟩) (wants (fun r s2 => r = .none ∧ Q (.ref N) s2) E) { s with heap := h, toks := tk } := by
    intro h c1 tk hk hSh
    have up : ∀ b o, b < N → s.heap.get? b = some o → h.get? b = some o := fun b o hb e => hk b o (Nat.ne_of_lt hb) (oth b o (Nat.ne_of_lt hb) e)
    refine zs_loop (A := A.in1) (s := s) (h1 := s.heap) (show A.in1.handled = none from hh) S D1 D2 hn0 hn .none out (fun h' tk' acc c as kp hl e1 hp e2 => ?_) n 0 h tk c1 #[] [] (Nat.sub_zero _) (Nat.zero_le _)
      ⟨up TI _ (out TI (.inr (.inl rfl))) hTI, .inl ⟨rfl, up z _ ltz hz, up TO _ (out TO (.inr (.inr (.inl rfl)))) hTO⟩, D1.frame _ _ _ st1 fun b hb o e => up b o (out b (.inr (.inr (.inr (.inr (.inr (.inl hb))))))) e, D2.frame _ _ _ st2 fun b hb o e => up b o (out b (.inr (.inr (.inr (.inr (.inr (.inr hb))))))) e⟩
      (fun b o a1 _ _ _ _ e => hk b o a1 (oth b o a1 e)) hSh rfl rfl ⟨List.Pairwise.nil, (fun _ ha => nomatch ha), (fun j a hj => by simp at hj)⟩
    exact ⟨rfl, hQ h' tk' acc c as (fun b o a1 a2 a3 a4 e => kp b o (Nat.ne_of_lt (by rw [← hN]; exact Heap.lt_size e)) a1 a2 a3 a4 e) hl e1 hp e2⟩
  unfold Builtin.List.listExtendWith
  refine wpAny_bind (wpAny_typeOf (T := "zip") ⟨_, hz2, rfl⟩ ?_)
  have b1 : Builtin.List.listSameRef (.ref N) (.ref z) = false := by simp [Builtin.List.listSameRef, Nat.ne_of_gt ltz]
  have b2 : (Value.type "zip" == Value.type "list") = false := by decide
  have b3 : (Value.type "zip" == Value.type "tuple") = false := by decide
  simp only [b1, b2, b3, Bool.or_false, Bool.false_eq_true, if_false]
  refine wpAny_bind (zs_iter hz2 (wpAny_bind (wpAny_holding (zs_hint hz2 ?_))))
  refine wpAny_ite_split (fun _ => ?_) (fun hf => absurd (by simp) hf)
  refine wpAny_bind (wpAny_rule (wpAny_bind ?_))
  show wpAny _ _ (updateSeq N (·.push .none) >>= fun _ => updateSeq N (·.pop)) _ _ _
  refine wpAny_bind (wpAny_updateSeq hS2 rfl ?_)
  have hS3 := Heap.get?_update_self (Obj.mapSeq (·.push Value.none)) hS2 rfl
  refine wpAny_updateSeq (hz := by seq_fits) hS3 rfl ?_
  have hS4 := Heap.get?_update_self (Obj.mapSeq (·.pop)) hS3 rfl
  exact wpAny_pure ⟨plainId_quiet PySem.F.plain_extend_loop _, key _ _ _ (fun b o hb e => (Heap.get?_update_other _ _ (Ne.symm hb)).trans ((Heap.get?_update_other _ _ (Ne.symm hb)).trans e)) hS4⟩
end
end K24
end
section
set_option Elab.async false
set_option linter.all false
set_option maxRecDepth 100000
set_option maxHeartbeats 4000000
/-! list(zip(a, b, strict=True)) as a rule of the layer -/
namespace K24
open PySem PySem.Spec PyProof.Rows L2
section
variable {X : Cx} {pins : List (Addr × Obj)} {σ : L2.St} {H H' : Hp} {s : Shared} {h' : Heap} {t' : Nat}
/-- many new objects at once: H' is H at all that stood -/
theorem laid_all (I : Inv X pins σ H s) (k : ∀ b u, s.heap.get? b = some u → h'.get? b = some u) (old : ∀ b, b < s.heap.objs.size → H' b = H b) (new : ∀ b o, s.heap.objs.size ≤ b → H' b = some o → ObjOk X.prog X.w H' h' b o) : Inv X pins σ H' { s with heap := h', toks := t' } := by
  have lt : ∀ b u, H b = some u → b < s.heap.objs.size := fun b u e => (I.hok b u e).lt
  have up : ∀ b u, H b = some u → H' b = some u := fun b u e => (old b (lt b u e)).trans e
  refine I.step (g' := s.gens) (d' := s.drawn) (ch := []) (fun _ z => nomatch z) (fun b u _ _ _ e _ => k b u e) (fun b u _ _ _ e _ => ⟨u.slots, k b u e⟩) (fun b u _ e n => (old b (Heap.lt_size e)).trans n) (fun b u _ e => ⟨u, k b u e⟩)
    (fun b xs e => up b _ e) (fun b u v e => up b _ e) (fun b ps e => ⟨#[], by rw [up b _ e]; simp⟩) (fun m hm => hm.keeps k) (fun b u e => ?_) I.bare
  rcases Nat.lt_or_ge b s.heap.objs.size with hb | hb
  · rw [old b hb] at e
    exact (I.hok b u e).stay (fun c v _ q => k c v q) (fun c q => up c _ q) fun c xs q => up c _ q
  · exact new b u hb e
end
theorem callType_kw {M : Model} {A : Around} {E : Value → Shared → Prop} {s : Shared} {pos : Pos} {T : String} {args : List (Bool × Sem Value)} {keywords : List (Option Str × Sem Value)} {Q : Value → Shared → Prop} (hplain : args.any (·.1) = false) (hkw : keywords.any (·.1.isNone) = false)
    (h : wpAny M A (evalArgs (.type T) true args keywords) (fun a s1 => wpAny M A (call (.type T) a.pos a.kw) Q E s1) E s) : wpAny M A (callWith pos (.type T) [] args keywords) Q E s := by
  unfold callWith
  refine wpAny_bind (wpAny_holding (wpAny_mono h (fun a s1 h1 => wpAny_bind (wpAny_standAt ?_)) fun _ _ x => x))
  simp only [hplain, hkw, Bool.or_false]
  refine wpAny_bind (wpAny_pure ?_)
  exact wpAny_bind (wpAny_mono h1 (fun r s2 hr => wpAny_bind (wpAny_holding (wpAny_point (wpAny_pure hr)))) fun _ _ x => x)
theorem zip_apart (N a b : Nat) (ha : a < N) (hb : b < N) : ZipSep2 (N + 4) (N + 2) (N + 3) N (N + 1) [N, a] [N + 1, b] := by
  have nin : ∀ x y c : Nat, c ≠ x → c ≠ y → c ∉ [x, y] := fun x y c h1 h2 h => by
    rcases List.mem_cons.mp h with e | e
    · exact h1 e
    · exact h2 (List.mem_singleton.mp e)
  exact ⟨show (N + 2 : Nat) ≠ N + 4 by omega, show (N + 3 : Nat) ≠ N + 4 by omega, show (N + 2 : Nat) ≠ N + 3 by omega, show (N + 2 : Nat) ≠ N by omega, List.mem_cons_self, nin N a (N + 4) (by omega) (by omega), nin N a (N + 3) (by omega) (by omega),
    show (N + 2 : Nat) ≠ N + 1 by omega, List.mem_cons_self, nin (N + 1) b (N + 4) (by omega) (by omega), nin (N + 1) b (N + 3) (by omega) (by omega), nin (N + 1) b N (by omega) (by omega), nin N a (N + 1) (by omega) (by omega)⟩
theorem zip_below (N a b c : Nat) (ha : a < N) (hb : b < N) (h : c = N + 4 ∨ c = N + 2 ∨ c = N + 3 ∨ c = N ∨ c = N + 1 ∨ c ∈ [N, a] ∨ c ∈ [N + 1, b]) : c < N + 5 := by
  simp at h
  omega
theorem zip_old (N c : Nat) (h : c < N) : c ≠ N + 4 ∧ c ≠ N + 3 ∧ c ≠ N ∧ c ≠ N + 1 := by omega
/-- what a zip may draw from: a list, a tuple -/
def Src (h : Heap) (a : Addr) (its : Array Value) : Prop := h.IsList a its ∨ h.IsTuple a its
theorem Src.begins {h : Heap} {a : Addr} {its : Array Value} (r : Src h a its) : ∃ (o : Obj) (S : Heap → Prop) (St : Addr → Nat → Heap → Prop), Begins (.ref a) o S ∧ S h ∧ (∀ h1 it, S h1 → h1.get? it = some o → St it 0 h1) ∧
    ∀ (prog : Program) (w : World) (A : Around) (it : Addr), A.handled = none → a ≠ it → Draws prog w A it [it, a] its.size (fun i v => its[i]? = some v) (St it) := by
  rcases r with r | r
  · exact ⟨_, _, fun it i h => h.IsListIter it a i ∧ h.IsList a its, begins_list a its, r, fun h1 it k e => ⟨⟨_, e, rfl, rfl⟩, k⟩, fun prog w A it hh hne => Draws.list hh it a hne its⟩
  · exact ⟨_, _, fun it i h => h.IsTupleIter it a i ∧ h.IsTuple a its, begins_tuple a its, r, fun h1 it k e => ⟨⟨_, e, rfl, rfl⟩, k⟩, fun prog w A it hh hne => Draws.tuple hh it a hne its⟩
theorem Src.lt {h : Heap} {a : Addr} {its : Array Value} (r : Src h a its) : a < h.objs.size := by
  rcases r with ⟨o, e, _⟩ | ⟨o, e, _⟩ <;> exact Heap.lt_size e
theorem vals_refs : ∀ as : List Addr, Vals (as.map V.ref) (as.map Value.ref)
  | [] => .nil
  | _ :: r => .cons rfl (vals_refs r)
def tListZip (K : PySem.W.Frag) (ta : TA) : TE := fun σ H Q => ta σ H fun vs H1 => ∃ (a b : Addr) (xs ys : List V), vs = [.ref a, .ref b] ∧ ((SqL K H1 a xs ∧ SqL K H1 b ys) ∨ (SqT K H1 a xs ∧ SqT K H1 b ys)) ∧ xs.length = ys.length ∧ 0 < xs.length ∧
  ∀ (D : Addr) (as : List Addr) (H' : Hp), Same H1 H' → H1 D = none → H' D = some (.lst (as.map V.ref)) → as.length = xs.length → (∀ (j : Nat) (p : Addr), as[j]? = some p → H1 p = none ∧ ∃ x y, xs[j]? = some x ∧ ys[j]? = some y ∧ H' p = some (.tup [x, y])) → Q (.ref D) H'
theorem pe_listZip {X : Cx} {a b : Expr} {ta : TA} {p p2 q kp cp pos : Pos} {ck : Nat} (hc : X.calm = true) (hg : Gl X "list") (hm : X.mg "list" = none) (hg2 : Gl X "zip") (hm2 : X.mg "zip" = none) (ha : PA X [a, b] ta)
    (n1 : starEach [.Call (.Name "zip" p2) [a, b] [⟨some "strict", .Constant (.bool true) ck cp, kp⟩] q] X.env = (false, eval (.Call (.Name "zip" p2) [a, b] [⟨some "strict", .Constant (.bool true) ck cp, kp⟩] q) X.env) :: starEach [] X.env := by rfl)
    (n2 : backTo q (starEach [a, b] X.env) = (false, eval a X.env) :: backTo q (starEach [b] X.env) := by rfl) (n3 : (backTo q (starEach [a, b] X.env)).any (·.1) = false := by rfl) :
    PE X (.Call (.Name "list" p) [.Call (.Name "zip" p2) [a, b] [⟨some "strict", .Constant (.bool true) ck cp, kp⟩] q] [] pos) (tListZip X.K ta) := by
  refine ⟨fun pins s σ H Q I h => ?_⟩
  refine Call_ (ld_blt I hg hm boot_list ?_)
  refine PyProof.Rows.callWith_type1 (PyProof.Rows.args_cons ?_ n1) n1 rfl
  refine wpAny_Call_Name_kw (ld_blt I hg2 hm2 boot_zip ?_)
  refine callType_kw n3 rfl ?_
  rw [n2]
  refine PyProof.Rows.evalArgs_kwB rfl ?_
  rw [← n2]
  refine thn (ha.run q pins s σ H _ I h) fun us s1 ⟨vs, H1, I1, r1, q1⟩ => ?_
  have pk : PK X [⟨some "strict", .Constant (.bool true) ck cp, kp⟩] (tCons (tC (.bl true)) tNil) := pk_cons pe_bl pk_nil
  refine thn (pk.run q pins s1 σ H1 (fun zs H2 => zs = [.bl true] ∧ H2 = H1) I1 ⟨rfl, rfl⟩) fun ws s2 ⟨zs, H2, I2, rz, ez, eH⟩ => ?_
  subst ez eH
  obtain ⟨u1, rfl, e1⟩ := vals1 rz
  obtain rfl : u1 = Value.bool true := e1
  obtain ⟨a', b', xs, ys, rfl, hsrc, hlen, hpos, q1⟩ := q1
  obtain ⟨u1, u2, rfl, r1a, r1b⟩ := vals2 r1
  obtain rfl : u1 = Value.ref a' := r1a
  obtain rfl : u2 = Value.ref b' := r1b
  show wpAny _ _ (call (.type "zip") [.ref a', .ref b'] [(Str.ofString "strict", .bool true)]) _ _ s2
  -- the two sources
  obtain ⟨xi, yi, rvx, rvy, sx, sy, hz⟩ : ∃ xi yi : List Value, Vals xs xi ∧ Vals ys yi ∧ Src s2.heap a' xi.toArray ∧ Src s2.heap b' yi.toArray ∧ xs.length ≤ sizeLine := by
    rcases hsrc with ⟨h1, h2⟩ | ⟨h1, h2⟩
    · obtain ⟨i1, r1, p1, z1⟩ := I2.list h1
      obtain ⟨i2, r2, p2, z2⟩ := I2.list h2
      exact ⟨i1, i2, r1, r2, .inl p1.isList, .inl p2.isList, z1⟩
    · obtain ⟨i1, r1, p1, z1⟩ := I2.tuple h1
      obtain ⟨i2, r2, p2, z2⟩ := I2.tuple h2
      exact ⟨i1, i2, r1, r2, .inr p1, .inr p2, z1⟩
  obtain ⟨o1, S1, T1, B1, hS1, k1, d1⟩ := sx.begins
  obtain ⟨o2, S2, T2, B2, hS2, k2, d2⟩ := sy.begins
  have la := sx.lt
  have lb := sy.lt
  have lx : xi.toArray.size = xs.length := by rw [List.size_toArray, rvx.length]
  have ly : yi.toArray.size = xs.length := by rw [List.size_toArray, ← rvy.length, hlen]
  refine zs_begins B1 B2 hS1 hS2 fun h1 hz1 hTI hTO g1 g2 hsz kp => PyProof.Rows.args_nil ?_
  have e1 := d1 X.prog X.w X.A.in1.in1.in1 s2.heap.objs.size (I2.ok.hd hc) (Nat.ne_of_lt la)
  have e2 := d2 X.prog X.w X.A.in1.in1.in1 (s2.heap.objs.size + 1) (I2.ok.hd hc) (Nat.ne_of_lt (Nat.lt_succ_of_lt lb))
  rw [lx] at e1
  rw [ly] at e2
  refine zs_list (s := { s2 with heap := h1 }) (I2.ok.hd hc) (zip_apart _ a' b' la lb) e1 e2 hpos hz (fun c hcc => by show c < h1.objs.size; rw [hsz]; exact zip_below _ a' b' c la lb hcc) hz1 hTI hTO (k1 h1 _ (B1.keeps _ _ hS1 kp) g1) (k2 h1 _ (B2.keeps _ _ hS2 kp) g2) fun h2 tk acc c as kp2 hl hlen2 hp hacc => ?_
  replace hl : h2.get? h1.objs.size = some { cls := .type "list", dict := none, data := .seq acc c, slots := #[] } := hl
  replace hp : ZP (fun i v => xi.toArray[i]? = some v) (fun i v => yi.toArray[i]? = some v) h1.objs.size h2 as := hp
  have hN : s2.heap.objs.size ≤ h1.objs.size := by rw [hsz]; exact Nat.le_add_right _ _
  have keep : ∀ b o, s2.heap.get? b = some o → h2.get? b = some o := fun b o e => by
    obtain ⟨n1, n2, n3, n4⟩ := zip_old _ b (Heap.lt_size e)
    exact kp2 b o n1 n2 n3 n4 (kp b o e)
  -- the new heap
  have pick : ∀ p ∈ as, ∃ v : List V, ∃ j x y, as[j]? = some p ∧ xs[j]? = some x ∧ ys[j]? = some y ∧ v = [x, y] := fun p hpm => by
    obtain ⟨j, hj⟩ := List.mem_iff_getElem?.mp hpm
    have hj2 : j < xs.length := by rw [← hlen2]; exact (List.getElem?_eq_some_iff.mp hj).1
    exact ⟨_, j, xs[j], ys[j]'(by omega), hj, List.getElem?_eq_getElem hj2, List.getElem?_eq_getElem (by omega), rfl⟩
  have nd : as.Nodup := hp.rise.imp fun h => Nat.ne_of_lt h
  have hw : ∃ F : Addr → List V, ∀ (j : Nat) (p : Addr), as[j]? = some p → ∃ x y, xs[j]? = some x ∧ ys[j]? = some y ∧ F p = [x, y] := by
    refine ⟨fun p => if hpm : p ∈ as then Classical.choose (pick p hpm) else [], fun j p hj => ?_⟩
    have hpm : p ∈ as := List.mem_of_getElem? hj
    obtain ⟨j', x, y, g1, g2, g3, g4⟩ := Classical.choose_spec (pick p hpm)
    have ej : j' = j := nd_ix nd g1 hj
    subst ej
    exact ⟨x, y, g2, g3, (dif_pos hpm).trans g4⟩
  obtain ⟨F, hF⟩ := hw
  have hnew : ∀ p ∈ as, s2.heap.objs.size ≤ p ∧ p ≠ h1.objs.size := fun p hpm => ⟨Nat.le_trans hN (Nat.le_of_lt (hp.above p hpm)), Nat.ne_of_gt (hp.above p hpm)⟩
  have fresh : ∀ b, s2.heap.objs.size ≤ b → H2 b = none := fun b hb => I2.hok.fresh hb
  have J : Inv X pins σ (fun b => if b = h1.objs.size then some (.lst (as.map V.ref)) else if b ∈ as then some (.tup (F b)) else H2 b) { s2 with heap := h2, toks := tk } := by
    refine laid_all I2 keep (fun b hb => ?_) fun b o hb e => ?_
    · have n1 : b ≠ h1.objs.size := Nat.ne_of_lt (Nat.lt_of_lt_of_le hb hN)
      have n2 : b ∉ as := fun hm => Nat.lt_irrefl _ (Nat.lt_of_lt_of_le hb (hnew b hm).1)
      show (if b = h1.objs.size then _ else if b ∈ as then _ else H2 b) = H2 b
      rw [if_neg n1, if_neg n2]
    · have e : (if b = h1.objs.size then some (.lst (as.map V.ref)) else if b ∈ as then some (.tup (F b)) else H2 b) = some o := e
      by_cases n1 : b = h1.objs.size
      · rw [if_pos n1] at e
        cases e
        subst n1
        refine ⟨by rw [List.length_map, hlen2]; exact hz, as.map Value.ref, c, ?_, ?_⟩
        · exact vals_refs as
        · rw [hl, ← hacc]
      · rw [if_neg n1] at e
        by_cases n2 : b ∈ as
        · rw [if_pos n2] at e
          cases e
          obtain ⟨j, hj⟩ := List.mem_iff_getElem?.mp n2
          obtain ⟨x, y, f1, f2, f3⟩ := hF j b hj
          obtain ⟨u, v, p1, p2, p3⟩ := hp.at_ j b hj
          obtain ⟨u', hu', ru⟩ := rvx.get f1
          obtain ⟨v', hv', rv⟩ := rvy.get f2
          have eu : u = u' := by have z : xi.toArray[j]? = some u := p1; simp [hu'] at z; exact z.symm
          have ev : v = v' := by have z : yi.toArray[j]? = some v := p2; simp [hv'] at z; exact z.symm
          subst eu ev
          rw [f3]
          exact ⟨by show 2 ≤ sizeLine; decide, [u, v], .cons ru (.cons rv .nil), ⟨_, p3, rfl, _, rfl⟩⟩
        · rw [if_neg n2, fresh b hb] at e
          cases e
  refine ⟨.ref h1.objs.size, _, J, rfl, q1 h1.objs.size as _ (fun b o e => ?_) (fresh _ hN) (if_pos rfl) hlen2 fun j p hj => ?_⟩
  · have hb : b < s2.heap.objs.size := (I2.hok b o e).lt
    have n1 : b ≠ h1.objs.size := Nat.ne_of_lt (Nat.lt_of_lt_of_le hb hN)
    have n2 : b ∉ as := fun hm => Nat.lt_irrefl _ (Nat.lt_of_lt_of_le hb (hnew b hm).1)
    show (if b = h1.objs.size then _ else if b ∈ as then _ else H2 b) = some o
    rw [if_neg n1, if_neg n2]
    exact e
  · have hpm : p ∈ as := List.mem_of_getElem? hj
    obtain ⟨n1, n2⟩ := hnew p hpm
    obtain ⟨x, y, f1, f2, f3⟩ := hF j p hj
    refine ⟨fresh p n1, x, y, f1, f2, ?_⟩
    show (if p = h1.objs.size then _ else if p ∈ as then _ else H2 p) = _
    rw [if_neg n2, if_pos hpm, f3]
end K24
end
section
set_option Elab.async false
set_option linter.all false
set_option maxRecDepth 100000
set_option maxHeartbeats 2000000
/-! {e for x in xs for y in ys if ..} of whole numbers -/
namespace K24
open PySem PySem.Spec PyProof.Rows L2
/-- set.add of a whole number -/
theorem addI_ok {X : Cx} {pins : List (Addr × Obj)} {σ : L2.St} {H : Hp} {s : Shared} {E : Value → Shared → Prop} {D : Addr} {S : Int → Bool} {n : Nat} {k : Int} {u : Value} {Q : Value → Shared → Prop}
    (I : Inv X pins σ H s) (hD : H D = some (SetO X.w D S n)) (room : n + 1 < scanBound) (r : RelV (.int k) u)
    (h : ∀ s', Inv X pins σ (upd H D (SetO X.w D (fun j => S j || decide (j = k)) (if S k = true then n else n + 1))) s' → Q .none s') :
    wpAny (model X.prog X.w) X.A (call (.builtin "set.add") [.ref D, u]) Q E s := by
  obtain ⟨tk, rfl⟩ := r
  have R := setO_get I hD
  refine setR_add R room fun h' sb new => ?_
  have he : ∃ u, h'.get? D = some u := by
    have ⟨o, _, _, _, ho, _⟩ := new
    exact ⟨o, ho⟩
  exact h _ (I.write (e := D) (t' := s.toks + 1) (by rw [hD]; trivial) (.inl rfl) (fun b u hb hu => (sb.2 b hb).trans hu) he (setO_new new))
theorem sTurn2_out (elt t0 i0 t1 i1 : Expr) (ifs0 ifs1 : List Expr) (scope : Scope) (pos : Pos) (it acc : Value) (env : Env) :
    compTurn (.SetComp elt [⟨t0, i0, ifs0, 0⟩, ⟨t1, i1, ifs1, 0⟩] scope pos) 0 it acc env = (do
      standAt i0.pos
      match ← pyNext it with
      | none => pure (.done .next)
      | some v =>
        letOwnedTupleGo t0 it v
        assign t0 env v
        let mut ok := true
        for c in ifs0 do
          if ok then ok ← isTrue c env (eval c env)
        if ok then
          let x ← eval i1 env
          standAt i1.pos
          let x ← foldedSetIterable i1 env x
          let _ ← runOwn (.compStart (.SetComp elt [⟨t0, i0, ifs0, 0⟩, ⟨t1, i1, ifs1, 0⟩] scope pos) 1 (← holding [x] (pyIter x)) acc env) env
        again (.compLoop (.SetComp elt [⟨t0, i0, ifs0, 0⟩, ⟨t1, i1, ifs1, 0⟩] scope pos) 0 it acc env)) := by rfl
theorem sTurn2_in (elt t0 i0 t1 i1 : Expr) (ifs0 ifs1 : List Expr) (scope : Scope) (pos : Pos) (it acc : Value) (env : Env) :
    compTurn (.SetComp elt [⟨t0, i0, ifs0, 0⟩, ⟨t1, i1, ifs1, 0⟩] scope pos) 1 it acc env = (do
      standAt i1.pos
      match ← pyNext it with
      | none => pure (.done .next)
      | some v =>
        letOwnedTupleGo t1 it v
        assign t1 env v
        let mut ok := true
        for c in ifs1 do
          if ok then ok ← isTrue c env (eval c env)
        if ok then
          (do let v ← eval elt env; standAt elt.pos; let _ ← call (.builtin "set.add") [acc, v])
        again (.compLoop (.SetComp elt [⟨t0, i0, ifs0, 0⟩, ⟨t1, i1, ifs1, 0⟩] scope pos) 1 it acc env)) := by rfl

section
variable {prog : Program} {w : World} {A : Around} {R : Result → Shared → Prop} {s : Shared} {elt t0 i0 t1 i1 : Expr} {ifs0 ifs1 : List Expr} {scope : Scope} {pos : Pos} {it acc : Value} {env : Env}
/-- the loop of the first clause -/
theorem sLoop2_out (hs : ∀ x, foldedSetIterable i1 env x = pure x) (I : Nat → Shared → Prop)
    (turn : ∀ n s, I n s → wpAny (model prog w) A (pyNext it) (fun r s₁ => match r with
      | none => R (.ok .next) s₁
      | some v => wpAny (model prog w) A (letOwnedTupleGo t0 it v) (fun _ s₁' => wpAny (model prog w) A (assign t0 env v) (fun _ s₂ =>
          wpAny (model prog w) A (forIn ifs0 true fun c r => if r = true then do let ok ← isTrue c env (eval c env); pure (ForInStep.yield ok) else pure (ForInStep.yield r)) (fun ok s₃ =>
            if ok = true then wpAny (model prog w) A (eval i1 env) (fun x s₄ => wpAny (model prog w) A (pyIter x) (fun it1 s₅ =>
              codeAny (model prog w) A (.compStart (.SetComp elt [⟨t0, i0, ifs0, 0⟩, ⟨t1, i1, ifs1, 0⟩] scope pos) 1 it1 acc env) (fun r s' => match r with
                | .ok _ => ∃ m, m < n ∧ I m s'
                | .error _ => False) s₅) (notedBy (model prog w) A env fun e s' => R (.error e) s') s₄) (notedBy (model prog w) A env fun e s' => R (.error e) s') s₃
            else ∃ m, m < n ∧ I m s₃) (notedBy (model prog w) A env fun e s' => R (.error e) s') s₂) (notedBy (model prog w) A env fun e s' => R (.error e) s') s₁') (notedBy (model prog w) A env fun e s' => R (.error e) s') s₁) (notedBy (model prog w) A env fun e s' => R (.error e) s') s)
    (n : Nat) (h : I n s) :
    codeAny (model prog w) A (.compLoop (.SetComp elt [⟨t0, i0, ifs0, 0⟩, ⟨t1, i1, ifs1, 0⟩] scope pos) 0 it acc env) R s := by
  refine codeAny_loop rfl I (fun n s hI => ?_) n h
  show wpAny _ A ((compTurn (.SetComp elt [⟨t0, i0, ifs0, 0⟩, ⟨t1, i1, ifs1, 0⟩] scope pos) 0 it acc env).onRaise (fun x => do noteFrame x env; theTreesLotGoes x)) _ _ s
  refine wpAny_noted ?_
  rw [sTurn2_out]
  refine wpAny_bind (wpAny_standAt (wpAny_bind (wpAny_mono (turn n s hI) (fun r s₁ h₁ => ?_) fun _ _ h' => h')))
  cases r with
  | none => exact wpAny_pure h₁
  | some v =>
    refine wpAny_bind (wpAny_mono h₁ (fun _ s₁' h₁' => ?_) fun _ _ h' => h')
    refine wpAny_bind (wpAny_mono h₁' (fun _ s₂ h₂ => wpAny_bind (wpAny_mono h₂ (fun ok s₃ h₃ => ?_) fun _ _ h' => h')) fun _ _ h' => h')
    cases ok with
    | false => exact wpAny_pure ⟨rfl, h₃⟩
    | true =>
      refine wpAny_bind (wpAny_mono h₃ (fun x s₄ h₄ => ?_) fun _ _ h' => h')
      refine wpAny_bind (wpAny_standAt (wpAny_bind (wpAny_of_eq (hs x) (wpAny_bind (wpAny_holding (wpAny_mono h₄ (fun it1 s₅ h₅ => ?_) fun _ _ h' => h'))))))
      refine wpAny_bind (wpAny_runOwn ?_)
      rw [Around.mark_none]
      refine codeAny_mono h₅ fun r s' hr => ?_
      cases r with
      | ok f =>
        first
          | exact wpAny_pure ⟨rfl, hr⟩
          | exact wpAny_bind (wpAny_pure (wpAny_pure ⟨rfl, hr⟩))
      | error e => exact hr.elim
/-- the loop of the second -/
theorem sLoop2_in (I : Nat → Shared → Prop)
    (turn : ∀ n s, I n s → wpAny (model prog w) A (pyNext it) (fun r s₁ => match r with
      | none => R (.ok .next) s₁
      | some v => wpAny (model prog w) A (letOwnedTupleGo t1 it v) (fun _ s₁' => wpAny (model prog w) A (assign t1 env v) (fun _ s₂ =>
          wpAny (model prog w) A (forIn ifs1 true fun c r => if r = true then do let ok ← isTrue c env (eval c env); pure (ForInStep.yield ok) else pure (ForInStep.yield r)) (fun ok s₃ =>
            if ok = true then wpAny (model prog w) A (eval elt env) (fun x s₄ =>
              wpAny (model prog w) A (call (.builtin "set.add") [acc, x]) (fun _ s₅ => ∃ m, m < n ∧ I m s₅) (notedBy (model prog w) A env fun e s' => R (.error e) s') s₄) (notedBy (model prog w) A env fun e s' => R (.error e) s') s₃
            else ∃ m, m < n ∧ I m s₃) (notedBy (model prog w) A env fun e s' => R (.error e) s') s₂) (notedBy (model prog w) A env fun e s' => R (.error e) s') s₁') (notedBy (model prog w) A env fun e s' => R (.error e) s') s₁) (notedBy (model prog w) A env fun e s' => R (.error e) s') s)
    (n : Nat) (h : I n s) :
    codeAny (model prog w) A (.compLoop (.SetComp elt [⟨t0, i0, ifs0, 0⟩, ⟨t1, i1, ifs1, 0⟩] scope pos) 1 it acc env) R s := by
  refine codeAny_loop rfl I (fun n s hI => ?_) n h
  show wpAny _ A ((compTurn (.SetComp elt [⟨t0, i0, ifs0, 0⟩, ⟨t1, i1, ifs1, 0⟩] scope pos) 1 it acc env).onRaise (fun x => do noteFrame x env; theTreesLotGoes x)) _ _ s
  refine wpAny_noted ?_
  rw [sTurn2_in]
  refine wpAny_bind (wpAny_standAt (wpAny_bind (wpAny_mono (turn n s hI) (fun r s₁ h₁ => ?_) fun _ _ h' => h')))
  cases r with
  | none => exact wpAny_pure h₁
  | some v =>
    refine wpAny_bind (wpAny_mono h₁ (fun _ s₁' h₁' => ?_) fun _ _ h' => h')
    refine wpAny_bind (wpAny_mono h₁' (fun _ s₂ h₂ => wpAny_bind (wpAny_mono h₂ (fun ok s₃ h₃ => ?_) fun _ _ h' => h')) fun _ _ h' => h')
    cases ok with
    | false => exact wpAny_pure ⟨rfl, h₃⟩
    | true =>
      exact wpAny_bind (wpAny_bind (wpAny_mono h₃ (fun x s₄ h₄ => wpAny_bind (wpAny_standAt (wpAny_bind (wpAny_mono h₄ (fun _ s₅ h₅ => wpAny_pure (wpAny_pure ⟨rfl, h₅⟩)) fun _ _ h' => h')))) fun _ _ h' => h'))
/-- the second clause's start -/
theorem sStart1_ok (h0 : codeAny (model prog w) A (.compLoop (.SetComp elt [⟨t0, i0, ifs0, 0⟩, ⟨t1, i1, ifs1, 0⟩] scope pos) 1 it acc env) R s)
    (h : wpAny (model prog w) A (pyIter it) (fun it' s' => codeAny (model prog w) A (.compLoop (.SetComp elt [⟨t0, i0, ifs0, 0⟩, ⟨t1, i1, ifs1, 0⟩] scope pos) 1 it' acc env) R s')
      (notedBy (model prog w) A env fun x s' => R (.error x) s') s) :
    codeAny (model prog w) A (.compStart (.SetComp elt [⟨t0, i0, ifs0, 0⟩, ⟨t1, i1, ifs1, 0⟩] scope pos) 1 it acc env) R s := by
  refine codeAny_of_tree ?_
  show wpAny _ _ ((compStart (.SetComp elt [⟨t0, i0, ifs0, 0⟩, ⟨t1, i1, ifs1, 0⟩] scope pos) 1 it acc env).onRaise (fun x => do noteFrame x env; standAt theWindowsPlace)) _ _ s
  refine wpAny_notedAt ?_
  unfold compStart
  show wpAny _ _ (ask >>= _) _ _ s
  refine wpAny_bind (wpAny_askSetting (wpAny_ite ?_))
  split
  · first
      | exact wpAny_bind (wpAny_pure (wpAny_pure (And.intro rfl h0)))
      | exact wpAny_pure (And.intro rfl h0)
  · first
      | exact wpAny_bind (wpAny_rule (wpAny_bind (wpAny_standAt (wpAny_bind (wpAny_mono h (fun it' s' h' => wpAny_pure (And.intro rfl h')) fun _ _ x => x)))))
      | (refine wpAny_bind (wpAny_rule ?_); show wpAny _ _ (standAt i1.pos >>= _) _ _ s; exact wpAny_bind (wpAny_standAt (wpAny_bind (wpAny_mono h (fun it' s' h' => wpAny_pure (And.intro rfl h')) fun _ _ x => x))))
end


section
variable {X : Cx}
def tSc2 (w : World) (wi : TI) (g : TG) (tt : TT) (wi1 : TI) (g1 : TG) (tt1 : TT) (te : TE) (vs vs1 : List Nat) : TE := fun σ H Q => wi σ H fun J H1 => ∀ D, H1 D = none → ∃ W : Nat → Nat → Hp → Prop, (∃ m, W 0 m (upd H1 D (SetO w D (fun _ => false) 0))) ∧ ∀ i m H, W i m H →
  (J.stop i H ∧ Q (.ref D) H) ∨ (J.go i H ∧ ∃ Nx : Hp → Prop, (∀ H', Nx H' → ∃ m', m' < m ∧ W (i + 1) m' H') ∧ ∀ x H', J.yld i H x H' → g x (wipe σ vs) H' fun σ2 H2 => wipe σ2 vs = wipe σ vs ∧ tt σ2 H2 fun b H3 =>
    if b = true then wi1 σ2 H3 fun J1 H4 => ∃ W1 : Nat → Nat → Hp → Prop, (∃ m, W1 0 m H4) ∧ ∀ j k H, W1 j k H →
      (J1.stop j H ∧ Nx H) ∨ (J1.go j H ∧ ∃ Nx1 : Hp → Prop, (∀ H', Nx1 H' → ∃ k', k' < k ∧ W1 (j + 1) k' H') ∧ ∀ x H', J1.yld j H x H' → g1 x (wipe σ2 vs1) H' fun σ3 H5 => wipe σ3 vs1 = wipe σ2 vs1 ∧ tt1 σ3 H5 fun b H6 =>
        if b = true then te σ3 H6 fun y H7 => ∃ (c : Int) (S : Int → Bool) (n : Nat), y = .int c ∧ H7 D = some (SetO w D S n) ∧ n + 1 < scanBound ∧ Nx1 (upd H7 D (SetO w D (fun j => S j || decide (j = c)) (if S c = true then n else n + 1))) else Nx1 H6)
    else Nx H3)
theorem sc2_core {pins : List (Addr × Obj)} {s : Shared} {σ : L2.St} {H : Hp} {Q : VK} {elt tg iter tg1 iter1 : Expr} {ifs ifs1 : List Expr} {scope : Scope} {own : List (Str × Nat)} {vs1 : List Nat} {pos pos' : Pos} {wi wi1 : TI} {g g1 : TG} {tt tt1 : TT} {te : TE} {use : Option (Value → Sem Unit)} {Qf : Value → Shared → Prop}
    (hc : X.calm = true) (hN : X.N.Nodup) (I : Inv X pins σ H s) (hi : PI X tg iter wi) (ok : BlkOk X.N X.env.scope scope own) (hv : ∀ i ∈ vs1, i ∈ own.map (·.2))
    (hg : ∀ (s : Shared) (H : Hp) (C : Addr) (cl : List (Str × Addr)) (fp : List Addr), PG (X.blk s H scope (compEnvC scope cl C X.env) fp) tg g) (ht : ∀ (s : Shared) (H : Hp) (C : Addr) (cl : List (Str × Addr)) (fp : List Addr), PTs (X.blk s H scope (compEnvC scope cl C X.env) fp) ifs tt)
    (he : ∀ (s : Shared) (H : Hp) (C : Addr) (cl : List (Str × Addr)) (fp : List Addr), PE (X.blk s H scope (compEnvC scope cl C X.env) fp) elt te) (hs : ∀ x, foldedSetIterable iter X.env x = pure x)
    (hi1 : ∀ (s : Shared) (H : Hp) (C : Addr) (cl : List (Str × Addr)) (fp : List Addr), PI (X.blk s H scope (compEnvC scope cl C X.env) fp) tg1 iter1 wi1)
    (hg1 : ∀ (s : Shared) (H : Hp) (C : Addr) (cl : List (Str × Addr)) (fp : List Addr), PG (X.blk s H scope (compEnvC scope cl C X.env) fp) tg1 g1)
    (ht1 : ∀ (s : Shared) (H : Hp) (C : Addr) (cl : List (Str × Addr)) (fp : List Addr), PTs (X.blk s H scope (compEnvC scope cl C X.env) fp) ifs1 tt1)
    (hs1 : ∀ env x, foldedSetIterable iter1 env x = pure x)
    (h : tSc2 X.w wi g tt wi1 g1 tt1 te (own.map (·.2)) vs1 σ H Q)
    (hRR : ∀ D C s' m H', Inv X pins σ H' s' → Q (.ref D) H' → s'.heap.Ns C m → FpOk X pins H' C → compPost (model X.prog X.w) X.A X.xe use Qf (.ref D) C (.ok .next) s') :
    wpAny (model X.prog X.w) X.A (comprehension (.SetComp elt [⟨tg, iter, ifs, 0⟩, ⟨tg1, iter1, ifs1, 0⟩] scope pos) scope X.env pos' (newSet (.type "set")) false (eval iter X.env) use) Qf X.xe s := by
  have hfree : ∀ y ∈ scope.names, y.2 = .free → ∃ c, X.env.cells.lookup y.1 = some c := fun y hy e => by
    rcases ok.free y hy e with k | k
    · exact I.ok.has _ (.inl k)
    · exact I.ok.has _ (.inr k)
  refine wpAny_comprehension_free (use := use) rfl hs (closure_ok hfree) ok.kind (fun y hy e => by rw [ok.uniq y hy, e])
    (thn (hi.run pins s σ H _ I h) fun xv s1 hx => thn hx fun itv s2 h2 => ?_)
  obtain ⟨it, fp, tn, J, H2, e, I2, T, st2, f2, q⟩ := h2
  subst e
  refine PpSet.newSet_ok (newEnv_comp ?_)
  generalize hD : s2.heap.objs.size = D
  have hDn : H2 D = none := I2.hok.fresh (Nat.le_of_eq hD)
  obtain ⟨W, ⟨m0, w0⟩, turn⟩ := q D hDn
  -- the new list
  generalize hs3 : ({ s2 with heap := s2.heap.push { cls := .type "set", dict := none, data := .set #[] 0 (.fresh 0 0 (!X.w.params.followText "set-order")) } } : Shared) = s3
  have I3 : Inv X pins σ (upd H2 D (SetO X.w D (fun _ => false) 0)) s3 := by
    rw [← hs3]
    refine I2.laid (t' := s2.toks) (fun b o e => Heap.get?_push_of_some _ e) (Nat.le_of_eq hD) ?_
    rw [← hD]
    exact setO_new (setR_fresh X.w)
  have h3 : s3.heap = s2.heap.push { cls := .type "set", dict := none, data := .set #[] 0 (.fresh 0 0 (!X.w.params.followText "set-order")) } := by rw [← hs3]
  have sz : ∀ b ∈ fp, b < s2.heap.objs.size := fun b hb => by
    obtain ⟨o, e, _⟩ := T.obj _ _ st2 b hb
    exact Heap.lt_size e
  have f3 : ∀ b ∈ fp, FpOk X pins (upd H2 D (SetO X.w D (fun _ => false) 0)) b ∧ b < s3.heap.objs.size := fun b hb => by
    have hlt := sz b hb
    refine ⟨⟨?_, (f2 b hb).2⟩, by rw [h3, Heap.size_push]; exact Nat.lt_succ_of_lt hlt⟩
    rw [upd_ne (by rw [← hD]; exact Nat.ne_of_lt hlt)]
    exact (f2 b hb).1
  have st3 : tn 0 s3.heap := T.keep _ _ _ st2 fun b _ o e => by rw [h3]; exact Heap.get?_push_of_some _ e
  have I4 := block_start I3 ok hN f3
  have pg := hg s3 (upd H2 D (SetO X.w D (fun _ => false) 0)) s3.heap.objs.size (cellsFrom (s3.heap.objs.size + 1) scope.names (cloFrom X.env.cells scope.names [])) fp
  have pt := ht s3 (upd H2 D (SetO X.w D (fun _ => false) 0)) s3.heap.objs.size (cellsFrom (s3.heap.objs.size + 1) scope.names (cloFrom X.env.cells scope.names [])) fp
  have pe := he s3 (upd H2 D (SetO X.w D (fun _ => false) 0)) s3.heap.objs.size (cellsFrom (s3.heap.objs.size + 1) scope.names (cloFrom X.env.cells scope.names [])) fp
  have pi1 := hi1 s3 (upd H2 D (SetO X.w D (fun _ => false) 0)) s3.heap.objs.size (cellsFrom (s3.heap.objs.size + 1) scope.names (cloFrom X.env.cells scope.names [])) fp
  have pg1 := hg1 s3 (upd H2 D (SetO X.w D (fun _ => false) 0)) s3.heap.objs.size (cellsFrom (s3.heap.objs.size + 1) scope.names (cloFrom X.env.cells scope.names [])) fp
  have pt1 := ht1 s3 (upd H2 D (SetO X.w D (fun _ => false) 0)) s3.heap.objs.size (cellsFrom (s3.heap.objs.size + 1) scope.names (cloFrom X.env.cells scope.names [])) fp
  show codeAny _ _ (.compStart (.SetComp elt [⟨tg, iter, ifs, 0⟩, ⟨tg1, iter1, ifs1, 0⟩] scope pos) 0 (.ref it) (.ref D) (compEnvC scope (cellsFrom (s3.heap.objs.size + 1) scope.names (cloFrom X.env.cells scope.names [])) s3.heap.objs.size X.env)) (compPost (model X.prog X.w) X.A X.xe use Qf (.ref D) s3.heap.objs.size) { s3 with heap := pushCells (s3.heap.push { cls := .type "dict", data := .dict #[] }) scope.names }
  have nfp : ∀ b ∈ fp, (upd H2 D (SetO X.w D (fun _ => false) 0)) b = none := fun b hb => (f3 b hb).1.1
  generalize hce : compEnvC scope (cellsFrom (s3.heap.objs.size + 1) scope.names (cloFrom X.env.cells scope.names [])) s3.heap.objs.size X.env = ce at I4 pg pt pe pi1 pg1 pt1 ⊢
  have cL : ce.locals = s3.heap.objs.size := by subst hce; rfl
  generalize hH3 : upd H2 D (SetO X.w D (fun _ => false) 0) = H3 at I3 I4 pg pt pe pi1 pg1 pt1 w0 nfp f3
  generalize hs4 : ({ s3 with heap := pushCells (s3.heap.push { cls := .type "dict", data := .dict #[] }) scope.names } : Shared) = s4 at I4 ⊢
  have st4 : tn 0 s4.heap := T.keep _ _ _ st3 fun b _ o e => by rw [← hs4]; exact pushCells_keeps _ _ _ _ (Heap.get?_push_of_some _ e)
  have stat : ∀ {σ' : L2.St} {H' : Hp} {s' : Shared}, Inv (X.blk s3 H3 scope ce fp) [] σ' H' s' → (∀ b ∈ fp, H' b = none) → ∀ b ∈ fp, FpOk (X.blk s3 H3 scope ce fp) [] H' b := fun {σ' H' s'} I' hn b hb =>
    ⟨hn b hb, (I'.ok.exf b hb).1, I'.ok.exfs b hb, .inl hb, fun x c e => (I'.ok.exf b hb).2 x c e, fun p hp => absurd (show p ∈ ([] : List (Addr × Obj)) ++ [] from hp) (by simp)⟩
  have loop : codeAny (model X.prog X.w) X.A (.compLoop (.SetComp elt [⟨tg, iter, ifs, 0⟩, ⟨tg1, iter1, ifs1, 0⟩] scope pos) 0 (.ref it) (.ref D) ce) (compPost (model X.prog X.w) X.A X.xe use Qf (.ref D) s3.heap.objs.size) s4 := by
    refine sLoop2_out (hs1 ce) (fun n s' => ∃ i H', Inv (X.blk s3 H3 scope ce fp) [] (wipe σ (own.map (·.2))) H' s' ∧ tn i s'.heap ∧ (∀ b ∈ fp, H' b = none) ∧ W i n H') ?_ m0 ⟨0, H3, I4, st4, nfp, w0⟩
    rintro n s5 ⟨i, H5, I5, st5, n5, w5⟩
    rcases turn i n H5 w5 with ⟨stop, qq⟩ | ⟨go, Nx, hNx, step⟩
    · have td := T.done (X.blk s3 H3 scope ce fp) rfl rfl rfl hc i [] s5 _ H5 (fun _ _ => False) I5 (stat I5 n5) st5 stop
      refine thnF td fun r s6 ⟨hr, I6⟩ => ?_
      subst hr
      -- back in the def's context
      have I7 : Inv X pins σ H5 s6 := I3.call' (ch := fp) I6.os I6.base I6.hok I6.bare fun b hb => ⟨(f3 b hb).1.2.2.2.1, (f3 b hb).1.2.1, (f3 b hb).1.2.2.2.2.1, (f3 b hb).1.2.2.2.2.2⟩
      have nC : H5 s3.heap.objs.size = none := by
        have z : H5 ce.locals = none := I6.free
        rw [cL] at z
        exact z
      obtain ⟨m, hn, _⟩ := I6.loc
      have hn : s6.heap.Ns ce.locals m := hn
      rw [cL] at hn
      exact hRR D s3.heap.objs.size s6 m H5 I7 qq hn (I3.fpOk (Nat.le_refl _) nC)
    · have ti := T.item (X.blk s3 H3 scope ce fp) rfl rfl rfl hc i [] s5 _ H5 (fun _ _ => False) I5 (stat I5 n5) st5 go
      refine thnF ti fun r s6 ⟨u, hr, h6⟩ => ?_
      subst hr
      refine thnF h6 fun _ s7 ⟨x, H7, I7, r7, y7, st7, n7⟩ => ?_
      have I7' := I7.pinned (stat I7 n7) (T.obj _ _ st7)
      refine thnF (pg.run _ s7 _ H7 x u _ I7' r7 (step x H7 y7)) fun _ s8 ⟨σ8, H8, I8, hw8, q8⟩ => ?_
      refine thnF (pt.run _ s8 σ8 H8 _ I8 q8) fun b s9 ⟨H9, I9, q9⟩ => ?_
      -- the turn's end, from any slots that know what the block knew at its start
      have fin : ∀ {σ9 : L2.St} {s' : Shared} {H' : Hp}, Inv (X.blk s3 H3 scope ce fp) ([] ++ pinsAt fp s7.heap) σ9 H' s' → (wipe σ (own.map (·.2))).length = σ9.length → (∀ (j : Nat) v, (wipe σ (own.map (·.2)))[j]? = some (some v) → σ9[j]? = some (some v)) → Nx H' →
          ∃ m, m < n ∧ ∃ i H', Inv (X.blk s3 H3 scope ce fp) [] (wipe σ (own.map (·.2))) H' s' ∧ tn i s'.heap ∧ (∀ b ∈ fp, H' b = none) ∧ W i m H' := fun {σ9 s' H'} I' hl hk nx => by
        obtain ⟨m', hm, w'⟩ := hNx H' nx
        have pin' : ∀ b ∈ fp, ∀ o, s7.heap.get? b = some o → s'.heap.get? b = some o ∧ H' b = none := fun b hb o e =>
          let z := I'.pin (b, o) (List.mem_append_right _ (List.mem_append_right _ (mem_pinsAt hb e)))
          ⟨z.1, z.2.1⟩
        refine ⟨m', hm, i + 1, H', (I'.unpinned (pins := [])).weak hl hk, T.keep _ _ _ st7 fun b hb o e => (pin' b hb o e).1, fun b hb => ?_, w'⟩
        obtain ⟨o, e, _⟩ := T.obj _ _ st7 b hb
        exact (pin' b hb o e).2
      have hl8 : (wipe σ (own.map (·.2))).length = σ8.length := by rw [← hw8, wipe_length]
      have hk8 : ∀ (j : Nat) v, (wipe σ (own.map (·.2)))[j]? = some (some v) → σ8[j]? = some (some v) := fun j v e => by
        rw [← hw8] at e
        exact (wipe_some e).1
      have hk9 : ∀ (j : Nat) v, (wipe σ (own.map (·.2)))[j]? = some (some v) → (wipe σ8 vs1)[j]? = some (some v) := fun j v e => by
        rw [← hw8] at e
        obtain ⟨e1, e2⟩ := wipe_some e
        rw [wipe_out fun z => e2 (hv j z)]
        exact e1
      cases b with
      | false =>
        simp only [Bool.false_eq_true, if_false] at q9 ⊢
        exact fin I9 hl8 hk8 q9
      | true =>
        simp only [if_true] at q9 ⊢
        refine thnF (pi1.run _ s9 σ8 H9 _ I9 q9) fun xv s10 hx => thnF hx fun itv s11 h11 => ?_
        obtain ⟨it1, fp1, tn1, J1, H11, e1, I11, T1, st11, f11, W1, ⟨m1, w1⟩, turn1⟩ := h11
        subst e1
        -- the inner loop
        have stat1 : ∀ {H' : Hp}, (∀ b ∈ fp1, H' b = none) → ∀ b ∈ fp1, FpOk (X.blk s3 H3 scope ce fp) ([] ++ pinsAt fp s7.heap) H' b := fun hn b hb => ⟨hn b hb, (f11 b hb).2⟩
        have loop1 : codeAny (model X.prog X.w) X.A (.compLoop (.SetComp elt [⟨tg, iter, ifs, 0⟩, ⟨tg1, iter1, ifs1, 0⟩] scope pos) 1 (.ref it1) (.ref D) ce)
            (fun r s' => match r with
              | .ok _ => ∃ m, m < n ∧ ∃ i H', Inv (X.blk s3 H3 scope ce fp) [] (wipe σ (own.map (·.2))) H' s' ∧ tn i s'.heap ∧ (∀ b ∈ fp, H' b = none) ∧ W i m H'
              | .error _ => False) s11 := by
          refine sLoop2_in (fun k s' => ∃ j H', Inv (X.blk s3 H3 scope ce fp) ([] ++ pinsAt fp s7.heap) (wipe σ8 vs1) H' s' ∧ tn1 j s'.heap ∧ (∀ b ∈ fp1, H' b = none) ∧ W1 j k H') ?_ m1 ⟨0, H11, I11.weak (wipe_length _ _) (fun j v e => (wipe_some e).1), st11, fun b hb => (f11 b hb).1, w1⟩
          rintro k s12 ⟨j, H12, I12, st12, n12, w12⟩
          rcases turn1 j k H12 w12 with ⟨stop1, nx1⟩ | ⟨go1, Nx1, hNx1, step1⟩
          · refine thnF (T1.done (X.blk s3 H3 scope ce fp) rfl rfl rfl hc j _ s12 (wipe σ8 vs1) H12 (fun _ _ => False) I12 (stat1 n12) st12 stop1) fun r s13 ⟨hr, I13⟩ => ?_
            subst hr
            exact fin I13 (hl8.trans (wipe_length σ8 vs1).symm) hk9 nx1
          · refine thnF (T1.item (X.blk s3 H3 scope ce fp) rfl rfl rfl hc j _ s12 (wipe σ8 vs1) H12 (fun _ _ => False) I12 (stat1 n12) st12 go1) fun r s13 ⟨u1, hr, h13⟩ => ?_
            subst hr
            refine thnF h13 fun _ s14 ⟨x1, H14, I14, r14, y14, st14, n14⟩ => ?_
            have I14' := I14.pinned (stat1 n14) (T1.obj _ _ st14)
            refine thnF (pg1.run _ s14 (wipe σ8 vs1) H14 x1 u1 _ I14' r14 (step1 x1 H14 y14)) fun _ s15 ⟨σ15, H15, I15, hw15, q15⟩ => ?_
            refine thnF (pt1.run _ s15 σ15 H15 _ I15 q15) fun b1 s16 ⟨H16, I16, q16⟩ => ?_
            have fin1 : ∀ {s' : Shared} {H' : Hp}, Inv (X.blk s3 H3 scope ce fp) (([] ++ pinsAt fp s7.heap) ++ pinsAt fp1 s14.heap) σ15 H' s' → Nx1 H' → ∃ m, m < k ∧ ∃ j H', Inv (X.blk s3 H3 scope ce fp) ([] ++ pinsAt fp s7.heap) (wipe σ8 vs1) H' s' ∧ tn1 j s'.heap ∧ (∀ b ∈ fp1, H' b = none) ∧ W1 j m H' := fun {s' H'} I' nx => by
              obtain ⟨m', hm, w'⟩ := hNx1 H' nx
              have pin' : ∀ b ∈ fp1, ∀ o, s14.heap.get? b = some o → s'.heap.get? b = some o ∧ H' b = none := fun b hb o e =>
                let z := I'.pin (b, o) (List.mem_append_right _ (List.mem_append_right _ (mem_pinsAt hb e)))
                ⟨z.1, z.2.1⟩
              refine ⟨m', hm, j + 1, H', I'.unpinned.weak (by rw [← hw15, wipe_length]) (fun j v e => by rw [← hw15] at e; exact (wipe_some e).1), T1.keep _ _ _ st14 fun b hb o e => (pin' b hb o e).1, fun b hb => ?_, w'⟩
              obtain ⟨o, e, _⟩ := T1.obj _ _ st14 b hb
              exact (pin' b hb o e).2
            cases b1 with
            | false =>
              simp only [Bool.false_eq_true, if_false] at q16 ⊢
              exact fin1 I16 q16
            | true =>
              simp only [if_true] at q16 ⊢
              refine thnF (pe.run _ s16 σ15 H16 _ I16 q16) fun z s17 ⟨yv, H17, I17, r17, cb, S0, n0, ey, hD17, hz17, nx⟩ => ?_
              subst ey
              exact addI_ok (X := X.blk s3 H3 scope ce fp) I17 hD17 hz17 r17 fun s18 I18 => fin1 I18 nx
        exact sStart1_ok loop1 (T1.self X.A 0 _ _ _ st11 loop1)
  exact PpSet.codeAny_compStart_set loop (T.self X.A 0 _ _ _ st4 loop)
/-- as a value -/
theorem pe_sc2 {elt tg iter tg1 iter1 : Expr} {ifs ifs1 : List Expr} {scope : Scope} {own : List (Str × Nat)} {vs1 : List Nat} {pos : Pos} {wi wi1 : TI} {g g1 : TG} {tt tt1 : TT} {te : TE} (hc : X.calm = true) (hN : X.N.Nodup) (hi : PI X tg iter wi) (ok : BlkOk X.N X.env.scope scope own) (hv : ∀ i ∈ vs1, i ∈ own.map (·.2))
    (hg : ∀ (s : Shared) (H : Hp) (C : Addr) (cl : List (Str × Addr)) (fp : List Addr), PG (X.blk s H scope (compEnvC scope cl C X.env) fp) tg g) (ht : ∀ (s : Shared) (H : Hp) (C : Addr) (cl : List (Str × Addr)) (fp : List Addr), PTs (X.blk s H scope (compEnvC scope cl C X.env) fp) ifs tt)
    (hi1 : ∀ (s : Shared) (H : Hp) (C : Addr) (cl : List (Str × Addr)) (fp : List Addr), PI (X.blk s H scope (compEnvC scope cl C X.env) fp) tg1 iter1 wi1)
    (hg1 : ∀ (s : Shared) (H : Hp) (C : Addr) (cl : List (Str × Addr)) (fp : List Addr), PG (X.blk s H scope (compEnvC scope cl C X.env) fp) tg1 g1) (ht1 : ∀ (s : Shared) (H : Hp) (C : Addr) (cl : List (Str × Addr)) (fp : List Addr), PTs (X.blk s H scope (compEnvC scope cl C X.env) fp) ifs1 tt1)
    (he : ∀ (s : Shared) (H : Hp) (C : Addr) (cl : List (Str × Addr)) (fp : List Addr), PE (X.blk s H scope (compEnvC scope cl C X.env) fp) elt te) (hs : ∀ x, foldedSetIterable iter X.env x = pure x := by intro _; rfl) (hs1 : ∀ env x, foldedSetIterable iter1 env x = pure x := by intro _ _; rfl) :
    PE X (.SetComp elt [⟨tg, iter, ifs, 0⟩, ⟨tg1, iter1, ifs1, 0⟩] scope pos) (tSc2 X.w wi g tt wi1 g1 tt1 te (own.map (·.2)) vs1) := by
  refine ⟨fun pins s σ H Q I h => ?_⟩
  rw [PpSet.eval_SetComp]
  refine sc2_core hc hN I hi ok hv hg ht he hs hi1 hg1 ht1 hs1 h fun D C s' m H' I' q hn f => ⟨m, hn, fun h'' sb => ?_⟩
  obtain ⟨f0, f1, f2, f3, f4, f5⟩ := f
  exact ⟨.ref D, H', I'.turned (t' := s'.toks) (fun b o hb e => (sb.2 b hb).trans e) f0 f1 f3 f4 f5, rfl, q⟩
end
end K24
end
section
set_option Elab.async false
set_option linter.all false
set_option maxRecDepth 100000
set_option maxHeartbeats 2000000
namespace K24
open PySem PySem.Spec PyProof.Rows L2
/-! ### max(xs, default=d), xs a list of whole numbers -/
section
variable {prog : Program} {w : World} {A : Around} {E : Value → Shared → Prop} {s : Shared}
theorem max_dflt {l : Addr} {its : List Value} {ns : List Int} {d : Value} {Q : Value → Shared → Prop} (hh : A.handled = none) (hl : s.heap.IsList l its.toArray) (hi : IntsAre its ns)
    (h0 : ns = [] → ∀ h' tk, (∀ b o, s.heap.get? b = some o → h'.get? b = some o) → Q d { s with heap := h', toks := tk })
    (h : ∀ h' tk M t', (∀ b o, s.heap.get? b = some o → h'.get? b = some o) → M ∈ ns → (∀ a, a ∈ ns → a ≤ M) → Q (.int M t') { s with heap := h', toks := tk }) :
    wpAny (model prog w) A (call (.builtin "max") [.ref l] [(Str.ofString "default", d)]) Q E s := by
  obtain ⟨xs, e⟩ := hi.allInts.items
  have hn : numsOf (intItems xs).toList = ns := by rw [← e]; exact hi.numsOf
  rw [nums_intItems] at hn
  subst hn
  rw [e] at hl
  have hsz : (intItems xs).size = xs.size := by simp [intItems]
  refine call_max_walkD (PySem.W.iter_listW (A := A.in1) hh hl fun s₂ e W st hfp hw hk => ?_)
  refine ⟨_, _, _, _, _, _, _, s.heap, (fun i j => decide (numAt xs i > numAt xs j)), rfl, W, st, hfp, hw, hk, fun hz s' m => ?_, fun hp => ⟨fun i j vi vj s Q E _ hi hj q => CmpOf.ints_gt (numAt xs) (fun _ _ => intItems_at) i j vi vj s Q E hi hj q, fun v s' hP m => ?_⟩⟩
  · obtain ⟨h', tk, rfl, hk'⟩ := PySem.W.moved_old e rfl m
    refine h0 ?_ h' tk hk'
    rw [hsz] at hz
    have : xs = #[] := Array.eq_empty_of_size_eq_zero hz
    subst this
    rfl
  · obtain ⟨h', tk, rfl, hk'⟩ := PySem.W.moved_old e rfl m
    rw [hsz] at hP hp
    obtain ⟨t, rfl⟩ := intItems_at hP
    obtain ⟨h1, h2⟩ := argBest_gt (numAt xs) (xs.size - 1)
    refine h h' tk _ t hk' ?_ fun a ha => ?_
    · rw [numAt_eq]; exact PySem.getD_mem (by rw [List.length_map, Array.length_toList]; omega)
    · obtain ⟨j, hj, rfl⟩ := mem_getD ha
      rw [List.length_map, Array.length_toList] at hj
      rw [← numAt_eq]; exact h2 j (by omega)
end
section
variable {X : Cx}
def rMaxD (K : PySem.W.Frag) : List V → List V → Hp → VK → Prop := fun vs zs H Q => ∃ (a : Addr) (ns : List Int) (d : Int), vs = [V.ref a] ∧ zs = [.int d] ∧ SqL K H a (ns.map V.int) ∧
  ∀ m, (ns = [] → m = d) → (ns ≠ [] → m ∈ ns) → (∀ y, y ∈ ns → y ≤ m) → Q (.int m) H
theorem cr_maxD (hc : X.calm = true) : CallRK X (.builtin "max") [Str.ofString "default"] (rMaxD X.K) := by
  intro pins s σ H vs zs us ws Q I r rz h
  obtain ⟨a, ns, d, rfl, rfl, hs, q⟩ := h
  obtain ⟨its, rv, hl, _⟩ := I.list hs
  rw [Vals.ref1 r]
  obtain ⟨w1, rfl, t1, rfl⟩ := vals1 rz
  refine max_dflt (I.ok.hd hc) hl.isList rv.ints (fun e h' tk hk => ⟨.int d, H, I.kept hk, ⟨_, rfl⟩, q d (fun _ => rfl) (fun z => absurd e z) (fun y hy => by rw [e] at hy; cases hy)⟩)
    fun h' tk m t' hk h1 h2 => ⟨.int m, H, I.kept hk, ⟨_, rfl⟩, q m (fun e => by rw [e] at h1; cases h1) (fun _ => h1) h2⟩
/-! ### d.update(e), e another dict -/
def rDUpd : V → List V → Hp → VK → Prop := fun x vs H Q => ∃ (d e : Addr) (kvs more : List (Key × V)), x = .ref d ∧ vs = [.ref e] ∧ H d = some (.dK kvs) ∧ H e = some (.dK more) ∧ d ≠ e ∧ kvs.length + more.length ≤ sizeLine ∧
  Q .non (upd H d (.dK (mergeK kvs more)))
theorem d_update {pins : List (Addr × Obj)} {σ : L2.St} {H : Hp} {s : Shared} {d e : Addr} {kvs more : List (Key × V)} {A : Around} {E : Value → Shared → Prop} {Q : Value → Shared → Prop} (I : Inv X pins σ H s)
    (hd : H d = some (.dK kvs)) (he : H e = some (.dK more)) (ne : d ≠ e) (hz : kvs.length + more.length ≤ sizeLine) (h : ∀ s', Inv X pins σ (upd H d (.dK (mergeK kvs more))) s' → Q .none s') :
    wpAny (model X.prog X.w) A (call (.builtin "dict.update") [.ref d, .ref e]) Q E s := by
  obtain ⟨z1, s1, vs, rel, dd⟩ := dk_of I.hok hd
  obtain ⟨z2, s2, ms, rel2, de⟩ := dk_of I.hok he
  refine call_meetsIn PySem.F.slot_dict_update dd.typeIs PySem.F.entry_dict_update (PySem.F.args_dict_update_2 _ _) (meets_dict_update (mixKind X.prog X.w) d e ne s2)
    ⟨vs, ms, dd, de, (by rw [← rel.length, ← rel2.length]; exact hz), fun h' hm _ hs => ?_⟩
  have hl : (mergeK kvs more).length ≤ sizeLine := Nat.le_trans (length_mergeK _ _) hz
  have ht : ∃ u, h'.get? d = some u := by
    obtain ⟨o, _, _, g, _⟩ := hm
    exact ⟨o, g⟩
  exact h _ (I.write (e := d) (t' := s.toks) (by rw [hd]; trivial) (.inl rfl) (fun b u hb hu => (hs.2 b hb).trans hu) ht (dk_new hl s1 (KV.merge rel2 rel) hm))
def tDUpd (to ty : TE) : TE := fun σ H Q => to σ H fun x H1 => (∃ a, x = .ref a ∧ IsD H1 a) ∧ ty σ H1 fun y H2 => rDUpd x [y] H2 Q
theorem pe_dupd {o e : Expr} {apos cpos : Pos} {to ty : TE} (ho : PE X o to) (he : PE X e ty) (m : M1 X o "update" apos e cpos) : PE X (.Call (.Attribute o "update" apos) [e] [] cpos) (tDUpd to ty) := by
  refine ⟨fun pins s σ H Q I h => ?_⟩
  refine wpAny_Call_method_late m.base m.few m.line rfl (thn (ho.run pins s σ H _ I h) fun u s1 ⟨x, H1, I1, rx, d, q1⟩ => ?_)
  obtain ⟨a, ex, d⟩ := d
  subst ex
  obtain rfl : u = Value.ref a := rx
  obtain ⟨t1, t2, _⟩ := isD_at I1 d
  refine ⟨"dict", "dict.update", PySem.F.plainAttrs_dict, PySem.F.slot_dict_update, rfl, t1, t2, ?_⟩
  rw [m.trees]
  refine Calls.callWith_builtin rfl (Calls.evalArgs_plain (Calls.spliced_cons (thn (he.run pins s1 σ H1 _ I1 q1) fun iv s2 ⟨y, H2, I2, ry, q2⟩ => Calls.spliced_nil ?_)))
  obtain ⟨d', e', kvs, more, ex, ey, hd, he2, ne, hz, q⟩ := q2
  cases ex
  cases ey
  obtain rfl : iv = Value.ref e' := ry
  exact d_update I2 hd he2 ne hz fun s' I' => ⟨.non, _, I', rfl, q⟩
end
/-! ### dict(T), T a written dict of the top -/
theorem nodup_inr : ∀ {l : List Str}, l.Nodup → (l.map (fun x => (Sum.inr x : Key))).Nodup
  | [], _ => List.nodup_nil
  | a :: l, h => by
    rw [List.map_cons, List.nodup_cons]
    rw [List.nodup_cons] at h
    refine ⟨fun z => ?_, nodup_inr h.2⟩
    obtain ⟨b, hb, e⟩ := List.mem_map.mp z
    cases e
    exact h.1 hb
theorem kdict_of {K : PySem.W.Frag} {w : World} {P : Program} {a : Addr} {kvs : List (Str × He.Dv)} (h1 : He.dicW K a = some (He.keysIn w.params (kvs.map (·.1)))) (h2 : He.valsB K a kvs = true) (nd : (kvs.map (·.1)).Nodup) :
    (a == sysModules) = false ∧ ∃ vs : List (Key × Value), KV (kvs.map fun q => ((Sum.inr q.1 : Key), q.2.v K)) vs ∧ ∀ h : Heap, K.In h → h.DictOf (mixKind P w) a vs := by
  obtain ⟨es, n, D⟩ := He.dicW_ok h1
  refine ⟨D.low, ?_⟩
  have hk : es.toList.map He.keyOf = He.keysIn w.params (kvs.map (·.1)) := by
    unfold He.dicW at h1
    rw [D.at_] at h1
    have z : (decide ("dict" = "dict") && ((#[] : Array (Option Value)).isEmpty && !(a == sysModules))) = true := by rw [D.low]; rfl
    have h3 : (match decide ("dict" = "dict") && ((#[] : Array (Option Value)).isEmpty && !(a == sysModules)) with
      | true => some (es.toList.map He.keyOf)
      | false => none) = some (He.keysIn w.params (kvs.map (·.1))) := h1
    rw [z] at h3
    exact Option.some.inj h3
  -- by the entries, one by one
  have look : ∀ q ∈ kvs, ∃ u, PySem.W.nsIn K a q.1 = some (some u) ∧ RelV (q.2.v K) u := fun q hq => He.valsB_ok h2 hq
  have find : ∀ q ∈ kvs, ∃ u, findBy Value.isStrOf es q.1 = some u ∧ RelV (q.2.v K) u := fun q hq => by
    obtain ⟨u, e, r⟩ := look q hq
    exact ⟨u, PySem.W.find_K D.at_ e, r⟩
  have main : ∀ (pre l : List DictEntry) (ps ks : List (Str × He.Dv)), pre ++ l = es.toList → ps ++ ks = kvs → pre.map He.keyOf = He.keysIn w.params (ps.map (·.1)) → l.map He.keyOf = He.keysIn w.params (ks.map (·.1)) →
      ∃ vs : List (Key × Value), KV (ks.map fun q => ((Sum.inr q.1 : Key), q.2.v K)) vs ∧ Pairs (mixKind P w) l vs := by
    intro pre l
    induction l generalizing pre with
    | nil =>
      intro ps ks _ _ _ e
      cases ks with
      | nil => exact ⟨[], .nil, .nil⟩
      | cons => cases e
    | cons x l ih =>
      intro ps ks e1 e2 e3 e4
      cases ks with
      | nil => cases e4
      | cons q ks =>
        have e4' : He.keyOf x :: l.map He.keyOf = some (q.1, PyData.keyHash w.params q.1) :: He.keysIn w.params (ks.map (·.1)) := e4
        injection e4' with h5 h6
        obtain ⟨vs, r, p⟩ := ih (pre ++ [x]) (ps ++ [q]) ks (by rw [← e1]; simp) (by rw [← e2]; simp) (by rw [List.map_append, e3]; simp [He.keysIn, h5]) h6
        have hx : ∃ t, x.key = .str q.1 t := by
          unfold He.keyOf at h5
          split at h5
          · rename_i z t hz
            have h7 := (Prod.mk.inj (Option.some.inj h5)).1
            exact ⟨t, by rw [hz, h7]⟩
          · cases h5
        obtain ⟨t, hx⟩ := hx
        obtain ⟨u, fu, ru⟩ := find q (by rw [← e2]; simp)
        have hv : x.val = u := by
          obtain ⟨l0⟩ := es
          have e1' : pre ++ x :: l = l0 := e1
          subst e1'
          unfold findBy at fu
          rw [List.find?_toArray] at fu
          rw [List.find?_append] at fu
          have none : pre.find? (fun e => Value.isStrOf q.1 e.key) = none := by
            rw [List.find?_eq_none]
            intro d hd hs
            obtain ⟨t', ht'⟩ := Value.isStrOf_shape hs
            have hm : He.keyOf d ∈ pre.map He.keyOf := List.mem_map_of_mem hd
            rw [e3] at hm
            unfold He.keysIn at hm
            rw [List.mem_map] at hm
            obtain ⟨k, hk1, hk2⟩ := hm
            unfold He.keyOf at hk2
            rw [ht'] at hk2
            have hk3 : k = q.1 := (Prod.mk.inj (Option.some.inj hk2)).1
            rw [hk3] at hk1
            have nd' := nd
            rw [← e2, List.map_append, List.map_cons, List.nodup_append] at nd'
            exact nd'.2.2 _ hk1 _ (List.mem_cons_self ..) rfl
          rw [none] at fu
          have hit : (x :: l).find? (fun e => Value.isStrOf q.1 e.key) = some x := by
            rw [List.find?_cons_of_pos]
            rw [hx]
            exact (PySem.strKind_is P w q.1 t)
          rw [Option.none_or, hit] at fu
          exact Option.some.inj fu
        exact ⟨((Sum.inr q.1 : Key), u) :: vs, .cons ⟨rfl, ru⟩ r, .cons (by rw [hx]; exact mixKind_str P w q.1 t) hv p⟩
  obtain ⟨vs, r, p⟩ := main [] es.toList [] kvs rfl rfl rfl hk
  refine ⟨vs, r, fun h X => ⟨_, es, n, X _ _ D.at_, ⟨rfl, rfl, rfl⟩, rfl, fun e he => ?_, p, ?_⟩⟩
  · obtain ⟨x, t, e1, e2⟩ := D.lit.all e (Array.mem_toList_iff.mpr he)
    exact ⟨Sum.inr x, by rw [e1]; exact mixKind_str P w x t, e2⟩
  · rw [← KV.keys r, List.map_map]
    have : (List.map ((fun x => x.1) ∘ fun (q : Str × He.Dv) => ((Sum.inr q.1 : Key), q.2.v K)) kvs) = (kvs.map (·.1)).map (fun x => (Sum.inr x : Key)) := by rw [List.map_map]; rfl
    rw [this]
    exact nodup_inr nd
section
variable {X : Cx}
theorem call_dictK {a : Addr} {kvs : List (Str × He.Dv)} (h1 : He.dicW X.K a = some (He.keysIn X.w.params (kvs.map (·.1)))) (h2 : He.valsB X.K a kvs = true) (nd : (kvs.map (·.1)).Nodup) (hz : kvs.length ≤ sizeLine) :
    CallR X (.type "dict") (fun xs H Q => xs = [.ref a] ∧ ∀ p, H p = none → Q (.ref p) (upd H p (.dK (kvs.map fun q => ((Sum.inr q.1 : Key), q.2.v X.K))))) := by
  intro pins s σ H xs us Q I r q
  obtain ⟨ex, q⟩ := q
  subst ex
  obtain ⟨u, eu, rx⟩ := vals1 r
  subst eu
  cases rx
  obtain ⟨lo, vs, rel, dd⟩ := kdict_of (P := X.prog) h1 h2 nd
  have hl : (kvs.map fun q => ((Sum.inr q.1 : Key), q.2.v X.K)).length ≤ sizeLine := by rw [List.length_map]; exact hz
  refine kt_call_dict lo (dd _ I.kIn) (by rw [← rel.length]; exact hl) fun h' d' hs => ?_
  have hm : (s.heap.objs.size == sysModules) = false := beq_eq_false_iff_ne.mpr (Nat.ne_of_gt I.big)
  exact ⟨.ref s.heap.objs.size, upd H s.heap.objs.size (.dK _), I.laid (t' := s.toks) (fun b u e => (hs.2 b (Nat.ne_of_lt (Heap.lt_size e))).trans (Heap.get?_push_of_some _ e)) (Nat.le_refl _)
    (show ObjOk X.prog X.w _ _ _ (.dK _) from ⟨hl, hm, vs, rel, d'⟩), rfl, q _ (I.hok.fresh (Nat.le_refl _))⟩
end
end K24
end
section
set_option Elab.async false
set_option linter.all false
set_option maxRecDepth 100000
set_option maxHeartbeats 4000000
namespace K24
open PySem PySem.Spec PyProof.Rows L2
/-! ### sorted(t, key=lambda pair: (pair[1], pair[0])), t a tuple of pairs of whole numbers -/
abbrev lamA (pp : Pos) : Arguments := ⟨[], [⟨"pair", none, pp⟩], none, [], [], none, []⟩
abbrev lamB (q1 q2 q3 q4 q5 q6 q7 : Pos) : Expr := .Tuple [.Subscript (.Name "pair" q1) (.Constant (.int 1) 0 q2) q3, .Subscript (.Name "pair" q4) (.Constant (.int 0) 0 q5) q6] 0 q7
abbrev lamSc : Scope := ⟨.function, [("pair", .local)], false, false, []⟩
section
variable {prog : Program} {w : World} {A : Around} {s : Shared} {f c' t : Addr} {qual : Str} {pm ctv : Value} {pp q1 q2 q3 q4 q5 q6 q7 : Pos} {i j : Int} {a b : Tok}
theorem sub_pair {env : Env} {k : Int} {p q r : Pos} {m : Str → Option Value} {x : Value} {Q : Value → Shared → Prop} {E : Value → Shared → Prop} (hk : env.scope.kind = .function) (hl : env.kindOf "pair" = some .local) (hn : s.heap.Ns env.locals m) (hm : m "pair" = some (.ref t))
    (ht : s.heap.IsTuple t #[.int i a, .int j b]) (h0 : 0 ≤ k) (h1 : k < 2) (hx : (#[Value.int i a, Value.int j b])[k.toNat]? = some x) (h : Q x { s with toks := s.toks + 1 }) :
    wpAny (model prog w) A (eval (.Subscript (.Name "pair" p) (.Constant (.int k) 0 q) r) env) Q E s := by
  refine Subscript_ (wpAny_Name (wpAny_loadName_local hk hl hn hm (wpAny_Constant_int ?_)))
  have ht2 : IsTup ({ s with toks := s.toks + 1 } : Shared).heap t #[.int i a, .int j b] := ht
  refine subscriptTail_builtinR (x := x) ht2.typeIs slot_tuple_getitem.lookup (getItem_tuple (j := k.toNat) (Q := fun r s' => r = x ∧ Q r s') ht2 (by omega) (by omega) ?_ hx ⟨rfl, h⟩)
  have e : (#[Value.int i a, Value.int j b] : Array Value).size = 2 := rfl
  rw [e]
  have hk2 : k = 0 ∨ k = 1 := by omega
  rcases hk2 with rfl | rfl <;> rfl
theorem lam_pair (ho : s.heap.get? f = some (PySem.W.kla_obj "<lambda>" qual (lamA pp) (lamB q1 q2 q3 q4 q5 q6 q7) lamSc [] pm c' ctv)) (hcd : s.heap.CodeRec (.ref c') qual) (hroom : A.depth < recursionLimit) (lim : s.heap.NoLimit)
    (ht : s.heap.IsTuple t #[.int i a, .int j b]) : wpAny (model prog w) A (call (.ref f) [.ref t]) (PySem.W.KeyPure (.tuple [.int j, .int i]) s) (fun _ _ => False) s := by
  refine wpAny_call (PySem.W.kla_callFunE hroom ho rfl rfl rfl rfl hcd ?_)
  have eb : bindArgs (PySem.W.kla_fn "<lambda>" qual (lamA pp) (lamB q1 q2 q3 q4 q5 q6 q7) lamSc [] pm (.ref c') ctv) ⟨[Value.ref t], []⟩ = (pure [(("pair" : Str), Value.ref t)] : Sem (List (Str × Value))) := rfl
  rw [eb]
  refine wpAny_pure (wpAny_newFunctionEnv (fun x hx => ?_) (fun x hx => ?_) (fun h₁ hns hsb => ⟨lim.fresh _ hsb, ?_⟩) rfl)
  · rw [List.mem_singleton.mp hx]; exact fun z => by cases z
  · rw [List.mem_singleton.mp hx]; rfl
  have kp : ∀ b o, s.heap.get? b = some o → h₁.get? b = some o := fun b o e => hsb.extBut b o (Nat.ne_of_lt (Heap.lt_size e)) (Heap.get?_push_of_some _ e)
  obtain ⟨o, g1, g2, n, g3⟩ := ht
  have ht1 : h₁.IsTuple t #[.int i a, .int j b] := ⟨o, kp _ _ g1, g2, n, g3⟩
  refine PySem.W.kla_codeExpr ?_
  refine wpAny_Tuple_spliced (Calls.spliced_cons ?_)
  refine sub_pair rfl rfl hns rfl ht1 (by decide) (by decide) (x := .int j b) rfl ?_
  refine Calls.spliced_cons ?_
  refine sub_pair rfl rfl hns rfl ht1 (by decide) (by decide) (x := .int i a) rfl ?_
  refine Calls.spliced_nil ⟨by show 2 ≤ sizeLine; decide, ?_⟩
  refine ⟨_, _, rfl, fun b o e => Heap.get?_push_of_some _ (kp b o e), ?_⟩
  have := Reads.tuple (h := h₁.push { cls := .type "tuple", data := .seq [Value.int j b, Value.int i a].toArray }) (a := h₁.objs.size) (xs := [.int j, .int i]) (as := []) (Heap.get?_push_size _ rfl) rfl rfl (.cons (.int j b) (.cons (.int i a) .nil))
  exact this
end
section
variable {prog : Program} {w : World} {A : Around} {E : Value → Shared → Prop} {s : Shared}
theorem collect_tup {l : Addr} {vs : List Value} {Q : List Value → Shared → Prop} (hl : s.heap.IsTuple l vs.toArray)
    (h : ∀ h', (∀ b o, s.heap.get? b = some o → h'.get? b = some o) → s.heap.objs.size ≤ h'.objs.size → Q vs { s with heap := h' }) (hz : vs.length ≤ sizeLine) : wpAny (model prog w) A (collect (.ref l)) Q E s := by
  obtain ⟨o, ho, hc, n, hd⟩ := hl
  unfold collect
  refine wpAny_bind (wpAny_runValue (codeAny_builtin PySem.F.entry_proto_collect ?_))
  rw [Around.under_plainId PySem.F.plain_proto_collect _]
  show wpAny _ A.in1 (newList [] >>= fun l' => again (.builtin "list.__iadd__" ⟨[l', .ref l], []⟩)) _ _ s
  refine wpAny_bind (wpAny_newObj_type ?_)
  refine wpAny_pure ⟨plainId_quiet PySem.F.plain_list_iadd _, codeAny_builtin PySem.F.entry_list_iadd ?_⟩
  rw [Around.under_plainId PySem.F.plain_list_iadd _]
  show wpAny _ A.in1 (Builtin.List.listExtendWith (.ref s.heap.objs.size) (.ref l) (.ref s.heap.objs.size)) _ _ _
  have hS : (s.heap.push { cls := .type "list", data := .seq ([] : List Value).toArray }).get? s.heap.objs.size = some { cls := .type "list", data := .seq #[] 0 } := Heap.get?_push_size _ rfl
  have hS₂ := Heap.get?_update_self (Obj.mapSeq (· ++ vs.toArray)) hS rfl
  have fin' : wpAny (model prog w) A (match Value.ref s.heap.objs.size with
      | Value.ref a => do
        match (← load a).data with
          | Data.seq xs _ => pure xs.toList
          | _ => unsupported "internal:collect"
      | _ => unsupported "internal:collect") Q E { s with heap := (s.heap.push { cls := .type "list", data := .seq ([] : List Value).toArray }).update s.heap.objs.size (Obj.mapSeq (· ++ vs.toArray)) } := by
    show wpAny _ A (load s.heap.objs.size >>= _) _ _ _
    refine wpAny_bind (wpAny_load hS₂ (wpAny_pure ?_))
    have e : ((#[] : Array Value) ++ vs.toArray).toList = vs := by simp
    show Q ((#[] : Array Value) ++ vs.toArray).toList _
    rw [e]
    refine h _ (fun b o' hb => ?_) (by rw [Heap.size_update, Heap.size_push]; exact Nat.le_succ _)
    exact (Heap.get?_update_other _ _ (Nat.ne_of_gt (Heap.lt_size hb))).trans (Heap.get?_push_of_some _ hb)
  refine wpAny_mono (wpAny_extend_seq (hsz := by rw [List.size_toArray]; exact hz) (A := A) (R := fun r s' => r = .ok (.ret (.ref s.heap.objs.size)) ∧ s' = { s with heap := (s.heap.push { cls := .type "list", data := .seq ([] : List Value).toArray }).update s.heap.objs.size (Obj.mapSeq (· ++ vs.toArray)) })
    (s := { s with heap := s.heap.push { cls := .type "list", data := .seq ([] : List Value).toArray } }) _ l _ 0 (.inr rfl) hS (Heap.get?_push_of_some _ ho) hc hd ⟨rfl, rfl⟩) (fun fin s' hf => ?_) (fun e s' hf => ?_)
  · cases fin with
    | done f =>
      obtain ⟨e, rfl⟩ := hf
      cases e
      exact fin'
    | again c' => exact ⟨hf.1, codeAny_mono hf.2 fun r s'' hr => by obtain ⟨rfl, rfl⟩ := hr; exact fin'⟩
  · exact absurd hf.1 (by simp)
theorem sorted_of_sortT {l : Addr} {vs : List Value} {kw : List (Str × Value)} {Q : Value → Shared → Prop} (hl : s.heap.IsTuple l vs.toArray) (hL : vs.length ≤ sizeLine) (ha1 : argsOk "sorted" ⟨[.ref l], kw⟩) (ha2 : ∀ x, argsOk "list.sort" ⟨[.ref x], kw⟩)
    (body : ∀ (E' : Value → Shared → Prop) (h0 h1 : Heap) (a : Addr), (∀ b o, s.heap.get? b = some o → h0.get? b = some o) → s.heap.objs.size ≤ h0.objs.size → a = h0.objs.size → h1 = h0.push (seqObj "list" vs.toArray 0) →
      wpAny (model prog w) A.in1.in1 (Builtin.«list.sort» ⟨[.ref a], kw⟩) (fun f s' => f = .done (.ret .none) ∧ Q (.ref a) s') E' { s with heap := h1 }) :
    wpAny (model prog w) A (call (.builtin "sorted") [.ref l] kw) Q E s := by
  refine call_function_entry_kw kind_sorted plain_sorted entry_sorted ha1 ?_
  unfold Builtin.«sorted»
  refine wpAny_bind (m := checkCount "sorted" 1 1 _) (wpAny_pure ?_)
  refine wpAny_bind (collect_tup hl (fun h0 k0 z0 => ?_) hL)
  refine wpAny_bind (wpAny_newList ?_ hL)
  refine wpAny_bind (wpAny_holding (wpAny_call_entry_kw slot_list_sort ⟨_, Heap.get?_push_size _ rfl, rfl⟩ entry_list_sort ?body (ha2 _)))
  case body =>
    refine wpAny_mono (body _ h0 _ h0.objs.size k0 z0 rfl rfl) (fun f s' hf => ?_) fun _ _ e => e
    obtain ⟨rfl, hq⟩ := hf
    exact ⟨_, rfl, wpAny_pure ⟨_, rfl, hq⟩⟩
open PySem.W in
theorem sorted_keyT {β : Type} {vs : List Value} {bs : List β} {R : Value → β → Prop} {l : Addr} {f : Value} {kw : List (Str × Value)} {b : Bool} {Q : Value → Shared → Prop} (k : β → PyData) (hl : s.heap.IsTuple l vs.toArray) (e : EachIs R vs bs) (hal : AllAlike (bs.map k)) (hk : Sortable (bs.map k)) (hL : bs.length ≤ sizeLine)
    (hu : ∀ x, x ∈ bs → A.units + 2 + (k x).depth < cLine) (ha1 : argsOk "sorted" ⟨[.ref l], kw⟩) (ha2 : ∀ x, argsOk "list.sort" ⟨[.ref x], kw⟩) (ht : ∀ x, Builtin.«list.sort» ⟨[.ref x], kw⟩ = ksk_tree x f b)
    (turn : ∀ (v : Value) (x : β), R v x → x ∈ bs → ∀ (h : Heap) (tk : Nat), (∀ b o, s.heap.get? b = some o → h.get? b = some o) →
      wpAny (model prog w) A.in1.in1 (call f [v]) (KeyPure (k x) { s with heap := h, toks := tk }) (fun _ _ => False) { s with heap := h, toks := tk })
    (h : ∀ out c h' tk p, (∀ b o, s.heap.get? b = some o → h'.get? b = some o) → s.heap.objs.size ≤ p → h'.get? p = some (seqObj "list" (List.toArray out) c) → out.length = bs.length → EachIs R out (bs.mergeSort (dataLe b k)) →
      Q (.ref p) { s with heap := h', toks := tk }) :
    wpAny (model prog w) A (call (.builtin "sorted") [.ref l] kw) Q E s := by
  refine sorted_of_sortT hl (by rw [e.length]; exact hL) ha1 ha2 fun E' h0 h1 a k0 z0 ea e1 => ?_
  have ha : h1.get? a = some (seqObj "list" vs.toArray 0) := by rw [e1, ea]; exact Heap.get?_push_size _ rfl
  have k1 : ∀ b o, s.heap.get? b = some o → h1.get? b = some o := fun b o q => by rw [e1]; exact Heap.get?_push_of_some _ (k0 b o q)
  have hge : s.heap.objs.size ≤ a := by rw [ea]; exact z0
  have up : ∀ {g : Heap}, KeepsBut a h1 g → ∀ b o, s.heap.get? b = some o → g.get? b = some o := fun {g} kp b o q => kp b o (Nat.ne_of_lt (Nat.lt_of_lt_of_le (Heap.lt_size q) hge)) (k1 b o q)
  rw [ht]
  refine keyH_tree (kz := bs.map k) (s := { s with heap := h1 }) ha (by rw [List.length_map]; exact e.length.symm) (by rw [e.length]; exact hL) hal hk (bound_map (A := A.in1.in1) hu)
    (keyH_turns (s := { s with heap := h1 }) e fun v x hR hx h tk kp => turn v x hR hx h tk (up kp)) fun h' tk out c kp hD ko => ⟨rfl, ?_⟩
  exact h out c h' tk a (up kp) hge hD ((ko.length (by rw [List.length_map]; exact e.length.symm)).trans e.length) (keyedOut_each k ko e)
end
end K24
end
section
set_option Elab.async false
set_option linter.all false
set_option maxRecDepth 100000
set_option maxHeartbeats 4000000
namespace K24
open PySem PySem.Spec PyProof.Rows L2
/-- the objects as are pairs of whole numbers ps -/
def PairsAt (H : Hp) (as : List Addr) (ps : List (Int × Int)) : Prop := as.length = ps.length ∧ ∀ (j : Nat) (t : Addr) (q : Int × Int), as[j]? = some t → ps[j]? = some q → H t = some (.tup [.int q.1, .int q.2])
theorem PairsAt.tail {H : Hp} {a : Addr} {q : Int × Int} {as : List Addr} {ps : List (Int × Int)} (h : PairsAt H (a :: as) (q :: ps)) : PairsAt H as ps :=
  ⟨Nat.succ.inj h.1, fun j t r h1 h2 => h.2 (j + 1) t r (by simpa using h1) (by simpa using h2)⟩
theorem PairsAt.head {H : Hp} {a : Addr} {q : Int × Int} {as : List Addr} {ps : List (Int × Int)} (h : PairsAt H (a :: as) (q :: ps)) : H a = some (.tup [.int q.1, .int q.2]) := h.2 0 a q rfl rfl
def Ref2 (H : Hp) (v : Value) (q : Int × Int) : Prop := ∃ t : Addr, v = .ref t ∧ H t = some (.tup [.int q.1, .int q.2])
theorem each_of {H : Hp} : ∀ {as : List Addr} {ps : List (Int × Int)} {us : List Value}, PairsAt H as ps → Vals (as.map V.ref) us → PySem.W.EachIs (Ref2 H) us ps
  | [], [], _, _, r => by cases r; exact .nil
  | [], _ :: _, _, h, _ => by cases h.1
  | _ :: _, [], _, h, _ => by cases h.1
  | a :: as, q :: ps, _, h, r => by
    rw [List.map_cons] at r
    cases r with
    | cons h1 t => exact .cons ⟨a, h1, h.head⟩ (each_of h.tail t)
theorem of_each {H : Hp} : ∀ {us : List Value} {ps : List (Int × Int)}, PySem.W.EachIs (Ref2 H) us ps → ∃ bs : List Addr, Vals (bs.map V.ref) us ∧ PairsAt H bs ps
  | [], _, h => by cases h; exact ⟨[], .nil, rfl, fun j t q h1 _ => by simp at h1⟩
  | u :: us, _, h => by
    cases h with
    | cons h1 t =>
      obtain ⟨bs, r, p⟩ := of_each t
      obtain ⟨a, e, z⟩ := h1
      refine ⟨a :: bs, .cons e r, congrArg Nat.succ p.1, fun j t q e1 e2 => ?_⟩
      cases j with
      | zero =>
        cases e1
        cases e2
        exact z
      | succ j => exact p.2 j t q (by simpa using e1) (by simpa using e2)
def ltEq (p q : Int × Int) : Prop := p.2 < q.2 ∨ (p.2 = q.2 ∧ p.1 ≤ q.1)
def tSortLam (K : PySem.W.Frag) (T : List (Addr × Str)) (te : TE) : TE := fun σ H Q => te σ H fun x H1 => ∃ (a : Addr) (as : List Addr) (ps : List (Int × Int)), x = .ref a ∧ SqT K H1 a (as.map V.ref) ∧ PairsAt H1 as ps ∧ LamX.Tabs T H1 ∧
  ∀ H2 p bs qs, LamX.ExtN H1 H2 → LamX.Tabs T H2 → (∀ b o, H1 b = some o → (∀ ps, o ≠ .tbl ps) → b ≠ p) → H2 p = some (.lst (bs.map V.ref)) → qs.Perm ps → qs.Pairwise ltEq → PairsAt H2 bs qs → Q (.ref p) H2
section
variable {X : Cx}
theorem pe_sortLam {T : List (Addr × Str)} {c P : Addr} {e : Expr} {te : TE} {p pos lp kp pp q1 q2 q3 q4 q5 q6 q7 : Pos} {k : Nat} (hc : X.calm = true) (hr : Room k X.A) (hg : Gl X "sorted") (hm : X.mg "sorted" = none) (ha : PA X [e] (tCons te tNil))
    (TB : LamX.TabB X.base X.mg c P) (hcode : X.env.code = .ref c) (hmT : (P, X.env.qual ++ "<lambda>") ∈ T) (hu : ∀ p ∈ T, p.1 = P → p.2 = X.env.qual ++ "<lambda>")
    (he : backTo pos (starEach [e] X.env) = (false, eval e X.env) :: backTo pos (starEach [] X.env) := by rfl) (hpl : (backTo pos (starEach [e] X.env)).any (·.1) = false := by rfl) :
    PE X (.Call (.Name "sorted" p) [e] [⟨some "key", .Lambda (lamA pp) (lamB q1 q2 q3 q4 q5 q6 q7) lamSc lp, kp⟩] pos) (tSortLam X.K T te) := by
  refine ⟨fun pins s σ H Q I h => ?_⟩
  refine wpAny_Call_Name_kw (ld_blt I hg hm PyProof.Rows.boot_sorted ?_)
  have hA := ha.run pos pins s σ H (fun vs H1 => match vs with
    | [x] => ∃ (a : Addr) (as : List Addr) (ps : List (Int × Int)), x = V.ref a ∧ SqT X.K H1 a (as.map V.ref) ∧ PairsAt H1 as ps ∧ LamX.Tabs T H1 ∧
      ∀ H2 p bs qs, LamX.ExtN H1 H2 → LamX.Tabs T H2 → (∀ b o, H1 b = some o → (∀ ps, o ≠ .tbl ps) → b ≠ p) → H2 p = some (.lst (bs.map V.ref)) → qs.Perm ps → qs.Pairwise ltEq → PairsAt H2 bs qs → Q (.ref p) H2
    | _ => False) I h
  refine PyProof.Rows.callWith_kw (thn hA fun us s1 ⟨vs, H1, I1, r1, hq⟩ => ?_) he hpl
  obtain ⟨x, rfl⟩ : ∃ x, vs = [x] := by
    match vs, hq with
    | [x], _ => exact ⟨x, rfl⟩
  obtain ⟨a, as, ps, rfl, hS, hP, hT, q⟩ := hq
  obtain rfl := Vals.ref1 r1
  show wpAny _ _ (evalAll [(do let v ← eval (.Lambda (lamA pp) (lamB q1 q2 q3 q4 q5 q6 q7) lamSc lp) X.env; standAt pos; pure v)]) _ _ s1
  refine wpAny_evalAll_cons (wpAny_bind (LamX.lam_make2 (P := P) I1 TB hcode hmT hu hT rfl (fun y hy z => ?_) fun f c' pm ctv H2 s2 I2 hE hT2 hf hfn _ hco => wpAny_bind (wpAny_standAt (wpAny_pure ?_))))
  · rw [List.mem_singleton.mp hy] at z; cases z
  refine wpAny_evalAll_nil ?_
  show wpAny _ _ (call (.builtin "sorted") [.ref a] [(Str.ofString "key", .ref f)]) _ _ _
  have hS2 : SqT X.K H2 a (as.map V.ref) := by
    rcases hS with z | z
    · refine .inl ?_
      rcases z with z | ⟨o, z⟩
      · exact .inl (hE _ _ z (fun ps w => by cases w))
      · exact .inr ⟨o, hE _ _ z (fun ps w => by cases w)⟩
    · exact .inr z
  have hP2 : PairsAt H2 as ps := ⟨hP.1, fun j t r e1 e2 => hE _ _ (hP.2 j t r e1 e2) (fun ps => by intro w; cases w)⟩
  obtain ⟨its, rv, hl, hz⟩ := I2.tuple hS2
  have hcr : s2.heap.CodeRec (.ref c') (X.env.qual ++ "<lambda>") := by
    obtain ⟨oc, vs, t, z1, z2, z3⟩ := (I2.hok c' _ hco).1
    exact ⟨c', oc, vs, t, rfl, z1, z2, z3⟩
  have lim : s2.heap.NoLimit := I2.ok.mod.nolimit.keeps fun b o e => (I2.bs b o e).1
  have e0 := each_of hP2 rv
  have hlen : ps.length = its.length := by rw [← hP2.1, ← rv.length, List.length_map]
  refine sorted_keyT (b := false) (β := Int × Int) (fun p : Int × Int => .tuple [.int p.2, .int p.1]) hl e0 (PySem.W.AllAlike.of fun _ _ => by simp [PySem.W.alike, PySem.W.alikeAll]) (PySem.W.Sortable.tuples fun _ => ⟨_, _, rfl⟩) (by rw [hlen, ← rv.length]; exact hz) (fun p _ => ?_)
    (ksk_s1 _ _) (fun _ => ksk_l1 _ _) (fun _ => ksk_t1 _ _) (fun v p ⟨t, et, ht⟩ _ h tk kp => ?_) fun out c3 h' tk pp' kp hge hD hl3 eo => ?_
  · have hd : (PyData.tuple [.int p.2, .int p.1]).depth = 1 := by simp [PyData.depth, PyData.depthAll]
    have := hr.un
    omega
  · subst et
    obtain ⟨z, its2, rv2, o, g1, g2, n, g3⟩ := I2.hok t _ ht
    obtain ⟨u1, u2, rfl, ⟨t1, rfl⟩, ⟨t2, rfl⟩⟩ := vals2 rv2
    exact lam_pair (s := { s2 with heap := h, toks := tk }) (kp _ _ hf) (hcr.keeps kp) (by show X.A.depth < _; exact hr.depth) (lim.keeps kp) ⟨o, kp _ _ g1, g2, n, g3⟩
  · rw [PySem.W.dataLe_ii (β := Int × Int) (fun p => p.2) (fun p => p.1)] at eo
    obtain ⟨bs, rb, pb⟩ := of_each eo
    have hbl : (bs.map V.ref).length ≤ sizeLine := by
      rw [rb.length, hl3, hlen, ← rv.length]; exact hz
    have hn : H2 pp' = none := I2.hok.fresh hge
    refine ⟨.ref pp', upd H2 pp' (.lst (bs.map V.ref)), I2.laid (t' := tk) kp hge ⟨hbl, out, c3, rb, hD⟩, rfl, q _ _ bs (ps.mergeSort fun a b : Int × Int => decide (a.2 < b.2 ∨ a.2 = b.2 ∧ a.1 ≤ b.1)) (fun b o e n => ?_) ?_ (fun b o e n z => ?_) upd_same (List.mergeSort_perm _ _) ?_ ?_⟩
    · rw [upd_ne (ne_of_none (hE b o e n) hn)]
      exact hE b o e n
    · exact hT2.ext fun b o e => by rw [upd_ne (ne_of_none e hn)]; exact e
    · rw [z] at e
      have z2 := hE _ _ e n
      rw [hn] at z2
      cases z2
    · have hs := List.pairwise_mergeSort (le := fun a b : Int × Int => decide (a.2 < b.2 ∨ a.2 = b.2 ∧ a.1 ≤ b.1)) (fun a b c h1 h2 => by rw [decide_eq_true_eq] at *; omega) (fun a b => by rw [Bool.or_eq_true, decide_eq_true_eq, decide_eq_true_eq]; omega) ps
      exact hs.imp fun {a b} z => of_decide_eq_true (p := a.2 < b.2 ∨ a.2 = b.2 ∧ a.1 ≤ b.1) z
    · exact ⟨pb.1, fun j t r e1 e2 => by
        have z := pb.2 j t r e1 e2
        rw [upd_ne (ne_of_none z hn)]; exact z⟩
end
end K24
end
section
set_option Elab.async false
set_option linter.all false
set_option maxRecDepth 100000
set_option maxHeartbeats 2000000
namespace K24
open PySem PySem.Spec PyProof.Rows L2
/-! ### a sequence and an empty one: ==, != -/
def rEqE (K : PySem.W.Frag) : R2 := fun x y H Q => ∃ (a b : Addr) (xs : List V), x = .ref a ∧ y = .ref b ∧ ((SqL K H a xs ∧ SqL K H b []) ∨ (SqT K H a xs ∧ SqT K H b [])) ∧ Q (.bl xs.isEmpty) H
def rNeE (K : PySem.W.Frag) : R2 := fun x y H Q => ∃ (a b : Addr) (xs : List V), x = .ref a ∧ y = .ref b ∧ ((SqL K H a xs ∧ SqL K H b []) ∨ (SqT K H a xs ∧ SqT K H b [])) ∧ Q (.bl (!xs.isEmpty)) H
section
variable {X : Cx}
theorem vals_nil {us : List Value} (r : Vals [] us) : us = [] := by cases r; rfl
theorem tup_e {a : Nat} : ((List.range (min a 0)).all (fun _ => true) && (a == 0)) = decide (a = 0) := by
  rw [Nat.min_zero]; cases a <;> rfl
theorem op_eqE (hu : X.A.units < cLine) : OpR X (compareOp .Eq) (rEqE X.K) := by
  intro pins s σ H x y v u Q I rx ry h
  obtain ⟨a, b, xs, rfl, rfl, hs, q⟩ := h
  cases rx
  cases ry
  rcases hs with ⟨h1, h2⟩ | ⟨h1, h2⟩
  · obtain ⟨its, r1, p1, z1⟩ := I.list h1
    obtain ⟨it2, r2, p2, z2⟩ := I.list h2
    obtain rfl := vals_nil r2
    cases xs with
    | nil =>
      obtain rfl := vals_nil r1
      exact SeqAt.eq_listAt (e := fun _ => true) p1.isList p2.isList rfl hu (fun j h1 _ => absurd h1 (Nat.not_lt_zero _)) ⟨.bl true, H, I, rfl, q⟩
    | cons x xs =>
      refine SeqAt.eq_list_lengthsAt p1.isList p2.isList ?_ hu ⟨.bl false, H, I, rfl, q⟩
      rw [List.size_toArray, ← r1.length]; rfl
  · obtain ⟨its, r1, p1, z1⟩ := I.tuple h1
    obtain ⟨it2, r2, p2, z2⟩ := I.tuple h2
    obtain rfl := vals_nil r2
    refine SeqAt.eq_tupleAt (e := fun _ => true) p1 p2 hu (fun j _ h2 => absurd h2 (Nat.not_lt_zero _)) ⟨.bl xs.isEmpty, H, I, ?_, q⟩
    show Value.bool _ = Value.bool _
    rw [show (List.toArray ([] : List Value)).size = 0 from rfl, tup_e, List.size_toArray, ← r1.length]
    cases xs <;> rfl
theorem op_neE (hu : X.A.units < cLine) : OpR X (compareOp .NotEq) (rNeE X.K) := by
  intro pins s σ H x y v u Q I rx ry h
  obtain ⟨a, b, xs, rfl, rfl, hs, q⟩ := h
  cases rx
  cases ry
  rcases hs with ⟨h1, h2⟩ | ⟨h1, h2⟩
  · obtain ⟨its, r1, p1, z1⟩ := I.list h1
    obtain ⟨it2, r2, p2, z2⟩ := I.list h2
    obtain rfl := vals_nil r2
    cases xs with
    | nil =>
      obtain rfl := vals_nil r1
      exact SeqAt.RcNeAt.lists (e := fun _ => true) p1.isList p2.isList rfl hu (fun j h1 _ => absurd h1 (Nat.not_lt_zero _)) X.prog X.w _ _ ⟨.bl false, H, I, rfl, q⟩
    | cons x xs =>
      refine SeqAt.RcNeAt.lists_lengths p1.isList p2.isList ?_ hu X.prog X.w _ _ ⟨.bl true, H, I, rfl, q⟩
      rw [List.size_toArray, ← r1.length]; rfl
  · obtain ⟨its, r1, p1, z1⟩ := I.tuple h1
    obtain ⟨it2, r2, p2, z2⟩ := I.tuple h2
    obtain rfl := vals_nil r2
    refine SeqAt.RcNeAt.tuples (e := fun _ => true) p1 p2 hu (fun j _ h2 => absurd h2 (Nat.not_lt_zero _)) X.prog X.w _ _ ⟨.bl (!xs.isEmpty), H, I, ?_, q⟩
    show Value.bool _ = Value.bool _
    rw [show (List.toArray ([] : List Value)).size = 0 from rfl, tup_e, List.size_toArray, ← r1.length]
    cases xs <;> rfl
/-! ### an expression that is never reached -/
def tNevE : TE := fun _ _ _ => False
theorem pe_never {e : Expr} : PE X e tNevE := ⟨fun _ _ _ _ _ _ h => h.elim⟩
end
end K24
end
section
set_option Elab.async false
set_option linter.all false
set_option maxRecDepth 100000
set_option maxHeartbeats 2000000
namespace K24
open PySem PySem.Spec PyProof.Rows L2
/-! ### the same rules with the written part K by its name (within a comprehension the context's own K is not seen) -/
section
variable {X : Cx} {K : PySem.W.Frag}
theorem pg_tupK {es : List Expr} {k : Nat} {t : TGs} {n : Nat} {pos : Pos} (hK : X.K = K) (hc : X.calm = true) (h : PGs X es t) (hn : (assignEach es X.env).length = n := by rfl) (hst : (assignEach es X.env).findIdx? (·.1) = none := by rfl) : PG X (.Tuple es k pos) (gTup K n t) := by
  subst hK
  exact pg_tup hc h hn hst
theorem ix_tupK (hK : X.K = K) : IxR X (rIxT K) := by subst hK; exact ix_tup
theorem ix_listK (hK : X.K = K) : IxR X (rIxL K) := by subst hK; exact ix_list
theorem op_eqEK (hK : X.K = K) (hu : X.A.units < cLine) : OpR X (compareOp .Eq) (rEqE K) := by subst hK; exact op_eqE hu
theorem op_neEK (hK : X.K = K) (hu : X.A.units < cLine) : OpR X (compareOp .NotEq) (rNeE K) := by subst hK; exact op_neE hu
theorem pi_listK {tg l : Expr} {tl : TE} (hK : X.K = K) (hl : PE X l tl) : PI X tg l (iList K tl) := by subst hK; exact pi_list hl
theorem pi_tupK {tg l : Expr} {tl : TE} (hK : X.K = K) (hl : PE X l tl) : PI X tg l (iTup K tl) := by subst hK; exact pi_tup hl
def rLenS (K : PySem.W.Frag) : List V → Hp → VK → Prop := fun xs H Q => ∃ (p : Addr) (ys : List V), xs = [.ref p] ∧ (SqL K H p ys ∨ SqT K H p ys) ∧ Q (.int (ys.length : Nat)) H
theorem call_lenK (hK : X.K = K) : CallR X (.builtin "len") (rLenS K) := by subst hK; exact call_len_seq
end
end K24
end
section
set_option Elab.async false
set_option linter.all false
set_option maxRecDepth 100000
set_option maxHeartbeats 2000000
namespace K24
open PySem PySem.Spec PyProof.Rows L2
section
variable {X : Cx}
/-- y = {k: v for ..} on one line, y a local -/
theorem ps_setDc {i : Nat} {y : Str} {py : Pos} {kx vx tg iter : Expr} {ifs : List Expr} {scope : Scope} {own : List (Str × Nat)} {pos spos : Pos} {wi : TI} {g : TG} {tt : TT} {tk tv : TE} (hc : X.calm = true) (hN : X.N.Nodup) (hy : X.N[i]? = some y) (hyl : X.env.scope.names.lookup y = some .local)
    (hsw : swapsWith (.DictComp kx vx [⟨tg, iter, ifs, 0⟩] scope pos) (some (.Name y py)) spos.line X.env = pure true) (hi : PI X tg iter wi) (ok : BlkOk X.N X.env.scope scope own)
    (hg : ∀ (s : Shared) (H : Hp) (C : Addr) (cl : List (Str × Addr)) (fp : List Addr), PG (X.blk s H scope (compEnvC scope cl C X.env) fp) tg g) (ht : ∀ (s : Shared) (H : Hp) (C : Addr) (cl : List (Str × Addr)) (fp : List Addr), PTs (X.blk s H scope (compEnvC scope cl C X.env) fp) ifs tt)
    (hk : ∀ (s : Shared) (H : Hp) (C : Addr) (cl : List (Str × Addr)) (fp : List Addr), PE (X.blk s H scope (compEnvC scope cl C X.env) fp) kx tk)
    (he : ∀ (s : Shared) (H : Hp) (C : Addr) (cl : List (Str × Addr)) (fp : List Addr), PE (X.blk s H scope (compEnvC scope cl C X.env) fp) vx tv) (hs : ∀ x, foldedSetIterable iter X.env x = pure x := by intro _; rfl) :
    PS X (.Assign [.Name y py] (.DictComp kx vx [⟨tg, iter, ifs, 0⟩] scope pos) spos) (tAsg (tDc wi g tt tk tv (own.map (·.2))) (gName i)) := by
  refine ⟨fun pins s σ H D I h => ?_⟩
  rw [exec_Assign_Name_used _ _ _ _ hsw]
  refine wpAny_bind (wpAny_standAt (wpAny_bind ?_))
  show wpAny _ X.A (do let _ ← comprehension (.DictComp kx vx [⟨tg, iter, ifs, 0⟩] scope pos) scope X.env (firstIterPos [⟨tg, iter, ifs, 0⟩] pos) newDict false (eval iter X.env) (some (assign (.Name y py) X.env))) _ _ s
  have h : tDc wi g tt tk tv (own.map (·.2)) σ H (fun x H1 => gName i x σ H1 D.nx) := h
  refine wpAny_bind (thn (dc_core (Qf := fun _ s' => SP X pins D .next s') hc hN I hi ok hg ht hk he hs h fun L C s' m H' I' q hn f => ?_) fun _ s' hq => wpAny_pure (wpAny_pure hq))
  show wpAny _ _ (assign (.Name y py) X.env (.ref L)) _ _ _
  refine wpAny_assign_Name (store_ok2 (v := V.ref L) I' hN hy (.inl hyl) rfl (fun s2 I2 ⟨a, sb, ha⟩ => ?_) (.inr hyl))
  obtain ⟨f0, f1, f2, f3, f4, f5⟩ := f
  have haC : C ≠ a := by
    rcases ha with z | z
    · rw [z]; exact f1
    · exact fun e => f4 y a z e.symm
  refine ⟨m, hn.sameBut sb haC, fun h3 sb3 => ?_⟩
  exact ⟨_, H', I2.turned (t' := s2.toks) (fun b o hb e => (sb3.2 b hb).trans e) f0 f1 f3 f4 f5, q⟩
theorem sw_trueD {kx vx : Expr} {gs : List Comprehension} {scope : Scope} {pos py : Pos} {y : Str} {l : Nat} {env : Env} (hk : env.scope.kind = .function) (hy : env.scope.names.lookup y = some .local) (hl : (py.line == pos.line) = true)
    (ha : (scope.names.any fun (n, k) => n == y && (k == .local || k == .cell)) = false) : swapsWith (.DictComp kx vx gs scope pos) (some (.Name y py)) l env = pure true := by
  have ky : env.kindOf y = some .local := hy
  have hb : env.blockKind = .function := by unfold Env.blockKind; rw [hk]; rfl
  unfold swapsWith
  simp only [hb, ky, ha, Expr.pos, hl]
  rfl
end
end K24
end
section
set_option Elab.async false
set_option linter.all false
set_option maxRecDepth 100000
set_option maxHeartbeats 2000000
/-! what the top leaves, by names (printed by wip/gen_fa.py) -/
namespace K24
open PySem PySem.Spec PyProof.Rows L2
structure Wd (w : World) (K : PySem.W.Frag) (mg : Str → Option Value) : Prop where
  ex : ∃ h : Heap, K.In h ∧ h.Ns mainGlobals mg ∧ He.SaysX faL fnL tsL tfL exB w h K
section
variable {w : World} {K : PySem.W.Frag} {mg : Str → Option Value}
theorem g_is_whole (E : Wd w K mg) : mg "is_whole" = some (.ref (He.ga K "is_whole")) := by
  obtain ⟨h, X, G, c⟩ := E.ex
  exact He.glo_ok X G (c.t.d.fact 0 (f := .glo "is_whole") rfl)
theorem g_is_byte (E : Wd w K mg) : mg "is_byte" = some (.ref (He.ga K "is_byte")) := by
  obtain ⟨h, X, G, c⟩ := E.ex
  exact He.glo_ok X G (c.t.d.fact 1 (f := .glo "is_byte") rfl)
theorem g_is_flag (E : Wd w K mg) : mg "is_flag" = some (.ref (He.ga K "is_flag")) := by
  obtain ⟨h, X, G, c⟩ := E.ex
  exact He.glo_ok X G (c.t.d.fact 2 (f := .glo "is_flag") rfl)
theorem g_is_memory (E : Wd w K mg) : mg "is_memory" = some (.ref (He.ga K "is_memory")) := by
  obtain ⟨h, X, G, c⟩ := E.ex
  exact He.glo_ok X G (c.t.d.fact 3 (f := .glo "is_memory") rfl)
theorem g_area_wrong (E : Wd w K mg) : mg "area_wrong" = some (.ref (He.ga K "area_wrong")) := by
  obtain ⟨h, X, G, c⟩ := E.ex
  exact He.glo_ok X G (c.t.d.fact 4 (f := .glo "area_wrong") rfl)
theorem g_own_cells (E : Wd w K mg) : mg "own_cells" = some (.ref (He.ga K "own_cells")) := by
  obtain ⟨h, X, G, c⟩ := E.ex
  exact He.glo_ok X G (c.t.d.fact 5 (f := .glo "own_cells") rfl)
theorem g_own_size (E : Wd w K mg) : mg "own_size" = some (.ref (He.ga K "own_size")) := by
  obtain ⟨h, X, G, c⟩ := E.ex
  exact He.glo_ok X G (c.t.d.fact 6 (f := .glo "own_size") rfl)
theorem g_is_thing (E : Wd w K mg) : mg "is_thing" = some (.ref (He.ga K "is_thing")) := by
  obtain ⟨h, X, G, c⟩ := E.ex
  exact He.glo_ok X G (c.t.d.fact 7 (f := .glo "is_thing") rfl)
theorem g_form_of (E : Wd w K mg) : mg "form_of" = some (.ref (He.ga K "form_of")) := by
  obtain ⟨h, X, G, c⟩ := E.ex
  exact He.glo_ok X G (c.t.d.fact 8 (f := .glo "form_of") rfl)
theorem g_things_wrong (E : Wd w K mg) : mg "things_wrong" = some (.ref (He.ga K "things_wrong")) := by
  obtain ⟨h, X, G, c⟩ := E.ex
  exact He.glo_ok X G (c.t.d.fact 9 (f := .glo "things_wrong") rfl)
theorem g_step_wrong (E : Wd w K mg) : mg "step_wrong" = some (.ref (He.ga K "step_wrong")) := by
  obtain ⟨h, X, G, c⟩ := E.ex
  exact He.glo_ok X G (c.t.d.fact 10 (f := .glo "step_wrong") rfl)
theorem g_need_step (E : Wd w K mg) : mg "need_step" = some (.ref (He.ga K "need_step")) := by
  obtain ⟨h, X, G, c⟩ := E.ex
  exact He.glo_ok X G (c.t.d.fact 11 (f := .glo "need_step") rfl)
theorem g_list_wrong (E : Wd w K mg) : mg "list_wrong" = some (.ref (He.ga K "list_wrong")) := by
  obtain ⟨h, X, G, c⟩ := E.ex
  exact He.glo_ok X G (c.t.d.fact 12 (f := .glo "list_wrong") rfl)
theorem g_need_list (E : Wd w K mg) : mg "need_list" = some (.ref (He.ga K "need_list")) := by
  obtain ⟨h, X, G, c⟩ := E.ex
  exact He.glo_ok X G (c.t.d.fact 13 (f := .glo "need_list") rfl)
theorem g_all_touches (E : Wd w K mg) : mg "all_touches" = some (.ref (He.ga K "all_touches")) := by
  obtain ⟨h, X, G, c⟩ := E.ex
  exact He.glo_ok X G (c.t.d.fact 14 (f := .glo "all_touches") rfl)
theorem g_cells_by (E : Wd w K mg) : mg "cells_by" = some (.ref (He.ga K "cells_by")) := by
  obtain ⟨h, X, G, c⟩ := E.ex
  exact He.glo_ok X G (c.t.d.fact 15 (f := .glo "cells_by") rfl)
theorem g_reads_of (E : Wd w K mg) : mg "reads_of" = some (.ref (He.ga K "reads_of")) := by
  obtain ⟨h, X, G, c⟩ := E.ex
  exact He.glo_ok X G (c.t.d.fact 16 (f := .glo "reads_of") rfl)
theorem g_writes_of (E : Wd w K mg) : mg "writes_of" = some (.ref (He.ga K "writes_of")) := by
  obtain ⟨h, X, G, c⟩ := E.ex
  exact He.glo_ok X G (c.t.d.fact 17 (f := .glo "writes_of") rfl)
theorem g_ways_of (E : Wd w K mg) : mg "ways_of" = some (.ref (He.ga K "ways_of")) := by
  obtain ⟨h, X, G, c⟩ := E.ex
  exact He.glo_ok X G (c.t.d.fact 18 (f := .glo "ways_of") rfl)
theorem g_spread_of (E : Wd w K mg) : mg "spread_of" = some (.ref (He.ga K "spread_of")) := by
  obtain ⟨h, X, G, c⟩ := E.ex
  exact He.glo_ok X G (c.t.d.fact 19 (f := .glo "spread_of") rfl)
theorem g_needs (E : Wd w K mg) : mg "needs" = some (.ref (He.ga K "needs")) := by
  obtain ⟨h, X, G, c⟩ := E.ex
  exact He.glo_ok X G (c.t.d.fact 20 (f := .glo "needs") rfl)
theorem g_is_clear (E : Wd w K mg) : mg "is_clear" = some (.ref (He.ga K "is_clear")) := by
  obtain ⟨h, X, G, c⟩ := E.ex
  exact He.glo_ok X G (c.t.d.fact 21 (f := .glo "is_clear") rfl)
theorem g_are_spots (E : Wd w K mg) : mg "are_spots" = some (.ref (He.ga K "are_spots")) := by
  obtain ⟨h, X, G, c⟩ := E.ex
  exact He.glo_ok X G (c.t.d.fact 22 (f := .glo "are_spots") rfl)
theorem g_fenced (E : Wd w K mg) : mg "fenced" = some (.ref (He.ga K "fenced")) := by
  obtain ⟨h, X, G, c⟩ := E.ex
  exact He.glo_ok X G (c.t.d.fact 23 (f := .glo "fenced") rfl)
theorem g_least_spots (E : Wd w K mg) : mg "least_spots" = some (.ref (He.ga K "least_spots")) := by
  obtain ⟨h, X, G, c⟩ := E.ex
  exact He.glo_ok X G (c.t.d.fact 24 (f := .glo "least_spots") rfl)
theorem g_fewest (E : Wd w K mg) : mg "fewest" = some (.ref (He.ga K "fewest")) := by
  obtain ⟨h, X, G, c⟩ := E.ex
  exact He.glo_ok X G (c.t.d.fact 25 (f := .glo "fewest") rfl)
theorem g_area_cells (E : Wd w K mg) : mg "area_cells" = some (.ref (He.ga K "area_cells")) := by
  obtain ⟨h, X, G, c⟩ := E.ex
  exact He.glo_ok X G (c.t.d.fact 26 (f := .glo "area_cells") rfl)
theorem g_cells_touched (E : Wd w K mg) : mg "cells_touched" = some (.ref (He.ga K "cells_touched")) := by
  obtain ⟨h, X, G, c⟩ := E.ex
  exact He.glo_ok X G (c.t.d.fact 27 (f := .glo "cells_touched") rfl)
theorem g_do_step (E : Wd w K mg) : mg "do_step" = some (.ref (He.ga K "do_step")) := by
  obtain ⟨h, X, G, c⟩ := E.ex
  exact He.glo_ok X G (c.t.d.fact 28 (f := .glo "do_step") rfl)
theorem g_need_memory (E : Wd w K mg) : mg "need_memory" = some (.ref (He.ga K "need_memory")) := by
  obtain ⟨h, X, G, c⟩ := E.ex
  exact He.glo_ok X G (c.t.d.fact 29 (f := .glo "need_memory") rfl)
theorem g_need_inside (E : Wd w K mg) : mg "need_inside" = some (.ref (He.ga K "need_inside")) := by
  obtain ⟨h, X, G, c⟩ := E.ex
  exact He.glo_ok X G (c.t.d.fact 30 (f := .glo "need_inside") rfl)
theorem g_own_steps_done (E : Wd w K mg) : mg "own_steps_done" = some (.ref (He.ga K "own_steps_done")) := by
  obtain ⟨h, X, G, c⟩ := E.ex
  exact He.glo_ok X G (c.t.d.fact 31 (f := .glo "own_steps_done") rfl)
theorem g_list_done (E : Wd w K mg) : mg "list_done" = some (.ref (He.ga K "list_done")) := by
  obtain ⟨h, X, G, c⟩ := E.ex
  exact He.glo_ok X G (c.t.d.fact 32 (f := .glo "list_done") rfl)
theorem g__law_draws (E : Wd w K mg) : mg "_law_draws" = some (.ref (He.ga K "_law_draws")) := by
  obtain ⟨h, X, G, c⟩ := E.ex
  exact He.glo_ok X G (c.t.d.fact 33 (f := .glo "_law_draws") rfl)
theorem g__law_take (E : Wd w K mg) : mg "_law_take" = some (.ref (He.ga K "_law_take")) := by
  obtain ⟨h, X, G, c⟩ := E.ex
  exact He.glo_ok X G (c.t.d.fact 34 (f := .glo "_law_take") rfl)
theorem g__law_area (E : Wd w K mg) : mg "_law_area" = some (.ref (He.ga K "_law_area")) := by
  obtain ⟨h, X, G, c⟩ := E.ex
  exact He.glo_ok X G (c.t.d.fact 35 (f := .glo "_law_area") rfl)
theorem g__law_step (E : Wd w K mg) : mg "_law_step" = some (.ref (He.ga K "_law_step")) := by
  obtain ⟨h, X, G, c⟩ := E.ex
  exact He.glo_ok X G (c.t.d.fact 36 (f := .glo "_law_step") rfl)
theorem g__law_list (E : Wd w K mg) : mg "_law_list" = some (.ref (He.ga K "_law_list")) := by
  obtain ⟨h, X, G, c⟩ := E.ex
  exact He.glo_ok X G (c.t.d.fact 37 (f := .glo "_law_list") rfl)
theorem g__law_cells (E : Wd w K mg) : mg "_law_cells" = some (.ref (He.ga K "_law_cells")) := by
  obtain ⟨h, X, G, c⟩ := E.ex
  exact He.glo_ok X G (c.t.d.fact 38 (f := .glo "_law_cells") rfl)
theorem g__law_parts (E : Wd w K mg) : mg "_law_parts" = some (.ref (He.ga K "_law_parts")) := by
  obtain ⟨h, X, G, c⟩ := E.ex
  exact He.glo_ok X G (c.t.d.fact 39 (f := .glo "_law_parts") rfl)
theorem g__law_part (E : Wd w K mg) : mg "_law_part" = some (.ref (He.ga K "_law_part")) := by
  obtain ⟨h, X, G, c⟩ := E.ex
  exact He.glo_ok X G (c.t.d.fact 40 (f := .glo "_law_part") rfl)
theorem g__law_plainly (E : Wd w K mg) : mg "_law_plainly" = some (.ref (He.ga K "_law_plainly")) := by
  obtain ⟨h, X, G, c⟩ := E.ex
  exact He.glo_ok X G (c.t.d.fact 41 (f := .glo "_law_plainly") rfl)
theorem g__law_moved (E : Wd w K mg) : mg "_law_moved" = some (.ref (He.ga K "_law_moved")) := by
  obtain ⟨h, X, G, c⟩ := E.ex
  exact He.glo_ok X G (c.t.d.fact 42 (f := .glo "_law_moved") rfl)
theorem g_law (E : Wd w K mg) : mg "law" = some (.ref (He.ga K "law")) := by
  obtain ⟨h, X, G, c⟩ := E.ex
  exact He.glo_ok X G (c.t.d.fact 43 (f := .glo "law") rfl)
theorem g_Spread (E : Wd w K mg) : mg "Spread" = some (.ref (He.ga K "Spread")) := by
  obtain ⟨h, X, G, c⟩ := E.ex
  exact He.glo_ok X G (c.t.d.fact 44 (f := .glo "Spread") rfl)
theorem g_BARS (E : Wd w K mg) : mg "BARS" = some (.ref (He.ga K "BARS")) := by
  obtain ⟨h, X, G, c⟩ := E.ex
  exact He.glo_ok X G (c.t.d.fact 45 (f := .glo "BARS") rfl)
theorem g_FENCE_fences (E : Wd w K mg) : mg "FENCE_fences" = some (.ref (He.ga K "FENCE_fences")) := by
  obtain ⟨h, X, G, c⟩ := E.ex
  exact He.glo_ok X G (c.t.d.fact 46 (f := .glo "FENCE_fences") rfl)
theorem g_STEP_FORMS (E : Wd w K mg) : mg "STEP_FORMS" = some (.ref (He.ga K "STEP_FORMS")) := by
  obtain ⟨h, X, G, c⟩ := E.ex
  exact He.glo_ok X G (c.t.d.fact 47 (f := .glo "STEP_FORMS") rfl)
theorem n_all (E : Wd w K mg) : mg "all" = none := by
  obtain ⟨h, X, G, c⟩ := E.ex
  exact He.free_ok X G (c.t.d.fact 48 (f := .free "all") rfl)
theorem n_bool (E : Wd w K mg) : mg "bool" = none := by
  obtain ⟨h, X, G, c⟩ := E.ex
  exact He.free_ok X G (c.t.d.fact 49 (f := .free "bool") rfl)
theorem n_dict (E : Wd w K mg) : mg "dict" = none := by
  obtain ⟨h, X, G, c⟩ := E.ex
  exact He.free_ok X G (c.t.d.fact 50 (f := .free "dict") rfl)
theorem n_enumerate (E : Wd w K mg) : mg "enumerate" = none := by
  obtain ⟨h, X, G, c⟩ := E.ex
  exact He.free_ok X G (c.t.d.fact 51 (f := .free "enumerate") rfl)
theorem n_int (E : Wd w K mg) : mg "int" = none := by
  obtain ⟨h, X, G, c⟩ := E.ex
  exact He.free_ok X G (c.t.d.fact 52 (f := .free "int") rfl)
theorem n_isinstance (E : Wd w K mg) : mg "isinstance" = none := by
  obtain ⟨h, X, G, c⟩ := E.ex
  exact He.free_ok X G (c.t.d.fact 53 (f := .free "isinstance") rfl)
theorem n_len (E : Wd w K mg) : mg "len" = none := by
  obtain ⟨h, X, G, c⟩ := E.ex
  exact He.free_ok X G (c.t.d.fact 54 (f := .free "len") rfl)
theorem n_list (E : Wd w K mg) : mg "list" = none := by
  obtain ⟨h, X, G, c⟩ := E.ex
  exact He.free_ok X G (c.t.d.fact 55 (f := .free "list") rfl)
theorem n_max (E : Wd w K mg) : mg "max" = none := by
  obtain ⟨h, X, G, c⟩ := E.ex
  exact He.free_ok X G (c.t.d.fact 56 (f := .free "max") rfl)
theorem n_min (E : Wd w K mg) : mg "min" = none := by
  obtain ⟨h, X, G, c⟩ := E.ex
  exact He.free_ok X G (c.t.d.fact 57 (f := .free "min") rfl)
theorem n_range (E : Wd w K mg) : mg "range" = none := by
  obtain ⟨h, X, G, c⟩ := E.ex
  exact He.free_ok X G (c.t.d.fact 58 (f := .free "range") rfl)
theorem n_sorted (E : Wd w K mg) : mg "sorted" = none := by
  obtain ⟨h, X, G, c⟩ := E.ex
  exact He.free_ok X G (c.t.d.fact 59 (f := .free "sorted") rfl)
theorem n_str (E : Wd w K mg) : mg "str" = none := by
  obtain ⟨h, X, G, c⟩ := E.ex
  exact He.free_ok X G (c.t.d.fact 60 (f := .free "str") rfl)
theorem n_sum (E : Wd w K mg) : mg "sum" = none := by
  obtain ⟨h, X, G, c⟩ := E.ex
  exact He.free_ok X G (c.t.d.fact 61 (f := .free "sum") rfl)
theorem n_tuple (E : Wd w K mg) : mg "tuple" = none := by
  obtain ⟨h, X, G, c⟩ := E.ex
  exact He.free_ok X G (c.t.d.fact 62 (f := .free "tuple") rfl)
theorem n_zip (E : Wd w K mg) : mg "zip" = none := by
  obtain ⟨h, X, G, c⟩ := E.ex
  exact He.free_ok X G (c.t.d.fact 63 (f := .free "zip") rfl)
theorem i_MOST_CELLS (E : Wd w K mg) : ∃ u, mg "MOST_CELLS" = some u ∧ RelV (.int 1024) u := by
  obtain ⟨h, X, G, c⟩ := E.ex
  obtain ⟨t, e⟩ := He.int_ok X G (c.t.d.fact 64 (f := .int "MOST_CELLS" 1024) rfl)
  exact ⟨_, e, t, rfl⟩
theorem i_FLAGS (E : Wd w K mg) : ∃ u, mg "FLAGS" = some u ∧ RelV (.int 8) u := by
  obtain ⟨h, X, G, c⟩ := E.ex
  obtain ⟨t, e⟩ := He.int_ok X G (c.t.d.fact 65 (f := .int "FLAGS" 8) rfl)
  exact ⟨_, e, t, rfl⟩
theorem i_GREATEST_BYTE (E : Wd w K mg) : ∃ u, mg "GREATEST_BYTE" = some u ∧ RelV (.int 255) u := by
  obtain ⟨h, X, G, c⟩ := E.ex
  obtain ⟨t, e⟩ := He.int_ok X G (c.t.d.fact 66 (f := .int "GREATEST_BYTE" 255) rfl)
  exact ⟨_, e, t, rfl⟩
theorem i_MOST_AREA (E : Wd w K mg) : ∃ u, mg "MOST_AREA" = some u ∧ RelV (.int 256) u := by
  obtain ⟨h, X, G, c⟩ := E.ex
  obtain ⟨t, e⟩ := He.int_ok X G (c.t.d.fact 67 (f := .int "MOST_AREA" 256) rfl)
  exact ⟨_, e, t, rfl⟩
theorem i_MOST_STEPS (E : Wd w K mg) : ∃ u, mg "MOST_STEPS" = some u ∧ RelV (.int 64) u := by
  obtain ⟨h, X, G, c⟩ := E.ex
  obtain ⟨t, e⟩ := He.int_ok X G (c.t.d.fact 68 (f := .int "MOST_STEPS" 64) rfl)
  exact ⟨_, e, t, rfl⟩
theorem i_MOST_NOTED (E : Wd w K mg) : ∃ u, mg "MOST_NOTED" = some u ∧ RelV (.int 99) u := by
  obtain ⟨h, X, G, c⟩ := E.ex
  obtain ⟨t, e⟩ := He.int_ok X G (c.t.d.fact 69 (f := .int "MOST_NOTED" 99) rfl)
  exact ⟨_, e, t, rfl⟩
theorem i_BYTES (E : Wd w K mg) : ∃ u, mg "BYTES" = some u ∧ RelV (.int 256) u := by
  obtain ⟨h, X, G, c⟩ := E.ex
  obtain ⟨t, e⟩ := He.int_ok X G (c.t.d.fact 70 (f := .int "BYTES" 256) rfl)
  exact ⟨_, e, t, rfl⟩
theorem i_GREATEST_CELL (E : Wd w K mg) : ∃ u, mg "GREATEST_CELL" = some u ∧ RelV (.int 1023) u := by
  obtain ⟨h, X, G, c⟩ := E.ex
  obtain ⟨t, e⟩ := He.int_ok X G (c.t.d.fact 71 (f := .int "GREATEST_CELL" 1023) rfl)
  exact ⟨_, e, t, rfl⟩
theorem s_END (E : Wd w K mg) : ∃ u, mg "END" = some u ∧ RelV (.str "end") u := by
  obtain ⟨h, X, G, c⟩ := E.ex
  obtain ⟨t, e⟩ := He.str_ok X G (c.t.d.fact 72 (f := .str "END" "end") rfl)
  exact ⟨_, e, t, rfl⟩
theorem s_COPY_steps (E : Wd w K mg) : ∃ u, mg "COPY_steps" = some u ∧ RelV (.str "copy") u := by
  obtain ⟨h, X, G, c⟩ := E.ex
  obtain ⟨t, e⟩ := He.str_ok X G (c.t.d.fact 73 (f := .str "COPY_steps" "copy") rfl)
  exact ⟨_, e, t, rfl⟩
theorem s_FILL_steps (E : Wd w K mg) : ∃ u, mg "FILL_steps" = some u ∧ RelV (.str "fill") u := by
  obtain ⟨h, X, G, c⟩ := E.ex
  obtain ⟨t, e⟩ := He.str_ok X G (c.t.d.fact 74 (f := .str "FILL_steps" "fill") rfl)
  exact ⟨_, e, t, rfl⟩
theorem s_ADD_steps (E : Wd w K mg) : ∃ u, mg "ADD_steps" = some u ∧ RelV (.str "add") u := by
  obtain ⟨h, X, G, c⟩ := E.ex
  obtain ⟨t, e⟩ := He.str_ok X G (c.t.d.fact 75 (f := .str "ADD_steps" "add") rfl)
  exact ⟨_, e, t, rfl⟩
theorem s_NOTE (E : Wd w K mg) : ∃ u, mg "NOTE" = some u ∧ RelV (.str "note") u := by
  obtain ⟨h, X, G, c⟩ := E.ex
  obtain ⟨t, e⟩ := He.str_ok X G (c.t.d.fact 76 (f := .str "NOTE" "note") rfl)
  exact ⟨_, e, t, rfl⟩
theorem s_WAIT (E : Wd w K mg) : ∃ u, mg "WAIT" = some u ∧ RelV (.str "wait") u := by
  obtain ⟨h, X, G, c⟩ := E.ex
  obtain ⟨t, e⟩ := He.str_ok X G (c.t.d.fact 77 (f := .str "WAIT" "wait") rfl)
  exact ⟨_, e, t, rfl⟩
theorem s_FENCE_steps (E : Wd w K mg) : ∃ u, mg "FENCE_steps" = some u ∧ RelV (.str "fence") u := by
  obtain ⟨h, X, G, c⟩ := E.ex
  obtain ⟨t, e⟩ := He.str_ok X G (c.t.d.fact 78 (f := .str "FENCE_steps" "fence") rfl)
  exact ⟨_, e, t, rfl⟩
theorem s_READ_steps (E : Wd w K mg) : ∃ u, mg "READ_steps" = some u ∧ RelV (.str "r") u := by
  obtain ⟨h, X, G, c⟩ := E.ex
  obtain ⟨t, e⟩ := He.str_ok X G (c.t.d.fact 79 (f := .str "READ_steps" "r") rfl)
  exact ⟨_, e, t, rfl⟩
theorem s_WRITE_steps (E : Wd w K mg) : ∃ u, mg "WRITE_steps" = some u ∧ RelV (.str "w") u := by
  obtain ⟨h, X, G, c⟩ := E.ex
  obtain ⟨t, e⟩ := He.str_ok X G (c.t.d.fact 80 (f := .str "WRITE_steps" "w") rfl)
  exact ⟨_, e, t, rfl⟩
theorem s_SIZE (E : Wd w K mg) : ∃ u, mg "SIZE" = some u ∧ RelV (.str "size") u := by
  obtain ⟨h, X, G, c⟩ := E.ex
  obtain ⟨t, e⟩ := He.str_ok X G (c.t.d.fact 81 (f := .str "SIZE" "size") rfl)
  exact ⟨_, e, t, rfl⟩
theorem s_SKIP (E : Wd w K mg) : ∃ u, mg "SKIP" = some u ∧ RelV (.str "skip") u := by
  obtain ⟨h, X, G, c⟩ := E.ex
  obtain ⟨t, e⟩ := He.str_ok X G (c.t.d.fact 82 (f := .str "SKIP" "skip") rfl)
  exact ⟨_, e, t, rfl⟩
theorem s_COPY_plain (E : Wd w K mg) : ∃ u, mg "COPY_plain" = some u ∧ RelV (.str "copy") u := by
  obtain ⟨h, X, G, c⟩ := E.ex
  obtain ⟨t, e⟩ := He.str_ok X G (c.t.d.fact 83 (f := .str "COPY_plain" "copy") rfl)
  exact ⟨_, e, t, rfl⟩
theorem s_FILL_plain (E : Wd w K mg) : ∃ u, mg "FILL_plain" = some u ∧ RelV (.str "fill") u := by
  obtain ⟨h, X, G, c⟩ := E.ex
  obtain ⟨t, e⟩ := He.str_ok X G (c.t.d.fact 84 (f := .str "FILL_plain" "fill") rfl)
  exact ⟨_, e, t, rfl⟩
theorem s_ADD_plain (E : Wd w K mg) : ∃ u, mg "ADD_plain" = some u ∧ RelV (.str "add") u := by
  obtain ⟨h, X, G, c⟩ := E.ex
  obtain ⟨t, e⟩ := He.str_ok X G (c.t.d.fact 85 (f := .str "ADD_plain" "add") rfl)
  exact ⟨_, e, t, rfl⟩
theorem s_READ_plain (E : Wd w K mg) : ∃ u, mg "READ_plain" = some u ∧ RelV (.str "r") u := by
  obtain ⟨h, X, G, c⟩ := E.ex
  obtain ⟨t, e⟩ := He.str_ok X G (c.t.d.fact 86 (f := .str "READ_plain" "r") rfl)
  exact ⟨_, e, t, rfl⟩
theorem s_WRITE_plain (E : Wd w K mg) : ∃ u, mg "WRITE_plain" = some u ∧ RelV (.str "w") u := by
  obtain ⟨h, X, G, c⟩ := E.ex
  obtain ⟨t, e⟩ := He.str_ok X G (c.t.d.fact 87 (f := .str "WRITE_plain" "w") rfl)
  exact ⟨_, e, t, rfl⟩
theorem c_Spread (E : Wd w K mg) : Cls K (He.ga K "Spread") := by
  obtain ⟨h, X, G, c⟩ := E.ex
  exact He.cls_ok (c.t.d.fact 88 (f := .cls "Spread") rfl)
theorem k_Spread (E : Wd w K mg) : Mk K (He.ga K "Spread") (He.ma K (He.ga K "Spread") "__init__") := by
  obtain ⟨h, X, G, c⟩ := E.ex
  exact He.mkr_ok (c.t.d.fact 89 (f := .mkr "Spread") rfl)
theorem a_Spread_own_ways (E : Wd w K mg) : NoAttr K (He.ga K "Spread") "own_ways" := by
  obtain ⟨h, X, G, c⟩ := E.ex
  exact He.noat_ok (c.t.d.fact 90 (f := .noat "Spread" "own_ways") rfl)
theorem a_Spread_own_bars (E : Wd w K mg) : NoAttr K (He.ga K "Spread") "own_bars" := by
  obtain ⟨h, X, G, c⟩ := E.ex
  exact He.noat_ok (c.t.d.fact 91 (f := .noat "Spread" "own_bars") rfl)
theorem m_Spread_shared (E : Wd w K mg) : Meth K (He.ga K "Spread") "shared" (He.ma K (He.ga K "Spread") "shared") := by
  obtain ⟨h, X, G, c⟩ := E.ex
  exact He.meth_ok (c.t.d.fact 92 (f := .meth "Spread" "shared") rfl)
theorem m_Spread_barred (E : Wd w K mg) : Meth K (He.ga K "Spread") "barred" (He.ma K (He.ga K "Spread") "barred") := by
  obtain ⟨h, X, G, c⟩ := E.ex
  exact He.meth_ok (c.t.d.fact 93 (f := .meth "Spread" "barred") rfl)
theorem m_Spread_clashes (E : Wd w K mg) : Meth K (He.ga K "Spread") "clashes" (He.ma K (He.ga K "Spread") "clashes") := by
  obtain ⟨h, X, G, c⟩ := E.ex
  exact He.meth_ok (c.t.d.fact 94 (f := .meth "Spread" "clashes") rfl)
theorem m_Spread_all_needs (E : Wd w K mg) : Meth K (He.ga K "Spread") "all_needs" (He.ma K (He.ga K "Spread") "all_needs") := by
  obtain ⟨h, X, G, c⟩ := E.ex
  exact He.meth_ok (c.t.d.fact 95 (f := .meth "Spread" "all_needs") rfl)
theorem fIsWhole (E : Wd w K mg) : ∃ fd, FunD K "is_whole" "is_whole" (defArgs sIsWhole) (defBody sIsWhole) (defScope sIsWhole) [] [("least", .int 0), ("most", .int 1023)] (He.ga K "is_whole") fd := by
  obtain ⟨h, X, G, c⟩ := E.ex
  exact c.t.d.def_ 0 (d := dIsWhole) rfl
theorem fIsByte (E : Wd w K mg) : ∃ fd, FunD K "is_byte" "is_byte" (defArgs sIsByte) (defBody sIsByte) (defScope sIsByte) [] [] (He.ga K "is_byte") fd := by
  obtain ⟨h, X, G, c⟩ := E.ex
  exact c.t.d.def_ 1 (d := dIsByte) rfl
theorem fIsFlag (E : Wd w K mg) : ∃ fd, FunD K "is_flag" "is_flag" (defArgs sIsFlag) (defBody sIsFlag) (defScope sIsFlag) [] [] (He.ga K "is_flag") fd := by
  obtain ⟨h, X, G, c⟩ := E.ex
  exact c.t.d.def_ 2 (d := dIsFlag) rfl
theorem fIsMemory (E : Wd w K mg) : ∃ fd, FunD K "is_memory" "is_memory" (defArgs sIsMemory) (defBody sIsMemory) (defScope sIsMemory) [] [] (He.ga K "is_memory") fd := by
  obtain ⟨h, X, G, c⟩ := E.ex
  exact c.t.d.def_ 3 (d := dIsMemory) rfl
theorem fAreaWrong (E : Wd w K mg) : ∃ fd, FunD K "area_wrong" "area_wrong" (defArgs sAreaWrong) (defBody sAreaWrong) (defScope sAreaWrong) [] [] (He.ga K "area_wrong") fd := by
  obtain ⟨h, X, G, c⟩ := E.ex
  exact c.t.d.def_ 4 (d := dAreaWrong) rfl
theorem fOwnCells (E : Wd w K mg) : ∃ fd, FunD K "own_cells" "own_cells" (defArgs sOwnCells) (defBody sOwnCells) (defScope sOwnCells) [] [] (He.ga K "own_cells") fd := by
  obtain ⟨h, X, G, c⟩ := E.ex
  exact c.t.d.def_ 5 (d := dOwnCells) rfl
theorem fOwnSize (E : Wd w K mg) : ∃ fd, FunD K "own_size" "own_size" (defArgs sOwnSize) (defBody sOwnSize) (defScope sOwnSize) [] [] (He.ga K "own_size") fd := by
  obtain ⟨h, X, G, c⟩ := E.ex
  exact c.t.d.def_ 6 (d := dOwnSize) rfl
theorem fIsThing (E : Wd w K mg) : ∃ fd, FunD K "is_thing" "is_thing" (defArgs sIsThing) (defBody sIsThing) (defScope sIsThing) [] [] (He.ga K "is_thing") fd := by
  obtain ⟨h, X, G, c⟩ := E.ex
  exact c.t.d.def_ 7 (d := dIsThing) rfl
theorem fFormOf (E : Wd w K mg) : ∃ fd, FunD K "form_of" "form_of" (defArgs sFormOf) (defBody sFormOf) (defScope sFormOf) [] [] (He.ga K "form_of") fd := by
  obtain ⟨h, X, G, c⟩ := E.ex
  exact c.t.d.def_ 8 (d := dFormOf) rfl
theorem fThingsWrong (E : Wd w K mg) : ∃ fd, FunD K "things_wrong" "things_wrong" (defArgs sThingsWrong) (defBody sThingsWrong) (defScope sThingsWrong) [] [] (He.ga K "things_wrong") fd := by
  obtain ⟨h, X, G, c⟩ := E.ex
  exact c.t.d.def_ 9 (d := dThingsWrong) rfl
theorem fStepWrong (E : Wd w K mg) : ∃ fd, FunD K "step_wrong" "step_wrong" (defArgs sStepWrong) (defBody sStepWrong) (defScope sStepWrong) [] [] (He.ga K "step_wrong") fd := by
  obtain ⟨h, X, G, c⟩ := E.ex
  exact c.t.d.def_ 10 (d := dStepWrong) rfl
theorem fNeedStep (E : Wd w K mg) : ∃ fd, FunD K "need_step" "need_step" (defArgs sNeedStep) (defBody sNeedStep) (defScope sNeedStep) [] [] (He.ga K "need_step") fd := by
  obtain ⟨h, X, G, c⟩ := E.ex
  exact c.t.d.def_ 11 (d := dNeedStep) rfl
theorem fListWrong (E : Wd w K mg) : ∃ fd, FunD K "list_wrong" "list_wrong" (defArgs sListWrong) (defBody sListWrong) (defScope sListWrong) [] [] (He.ga K "list_wrong") fd := by
  obtain ⟨h, X, G, c⟩ := E.ex
  exact c.t.d.def_ 12 (d := dListWrong) rfl
theorem fNeedList (E : Wd w K mg) : ∃ fd, FunD K "need_list" "need_list" (defArgs sNeedList) (defBody sNeedList) (defScope sNeedList) [] [] (He.ga K "need_list") fd := by
  obtain ⟨h, X, G, c⟩ := E.ex
  exact c.t.d.def_ 13 (d := dNeedList) rfl
theorem fAllTouches (E : Wd w K mg) : ∃ fd, FunD K "all_touches" "all_touches" (defArgs sAllTouches) (defBody sAllTouches) (defScope sAllTouches) [] [] (He.ga K "all_touches") fd := by
  obtain ⟨h, X, G, c⟩ := E.ex
  exact c.t.d.def_ 14 (d := dAllTouches) rfl
theorem fCellsBy (E : Wd w K mg) : ∃ fd, FunD K "cells_by" "cells_by" (defArgs sCellsBy) (defBody sCellsBy) (defScope sCellsBy) [] [] (He.ga K "cells_by") fd := by
  obtain ⟨h, X, G, c⟩ := E.ex
  exact c.t.d.def_ 15 (d := dCellsBy) rfl
theorem fReadsOf (E : Wd w K mg) : ∃ fd, FunD K "reads_of" "reads_of" (defArgs sReadsOf) (defBody sReadsOf) (defScope sReadsOf) [] [] (He.ga K "reads_of") fd := by
  obtain ⟨h, X, G, c⟩ := E.ex
  exact c.t.d.def_ 16 (d := dReadsOf) rfl
theorem fWritesOf (E : Wd w K mg) : ∃ fd, FunD K "writes_of" "writes_of" (defArgs sWritesOf) (defBody sWritesOf) (defScope sWritesOf) [] [] (He.ga K "writes_of") fd := by
  obtain ⟨h, X, G, c⟩ := E.ex
  exact c.t.d.def_ 17 (d := dWritesOf) rfl
theorem fWaysOf (E : Wd w K mg) : ∃ fd, FunD K "ways_of" "ways_of" (defArgs sWaysOf) (defBody sWaysOf) (defScope sWaysOf) [] [] (He.ga K "ways_of") fd := by
  obtain ⟨h, X, G, c⟩ := E.ex
  exact c.t.d.def_ 18 (d := dWaysOf) rfl
theorem fSInit (E : Wd w K mg) : ∃ fd, FunD K "__init__" "Spread.__init__" (defArgs sSInit) (defBody sSInit) (defScope sSInit) [] [] (He.ma K (He.ga K "Spread") "__init__") fd := by
  obtain ⟨h, X, G, c⟩ := E.ex
  exact c.t.d.def_ 19 (d := dSInit) rfl
theorem fSShared (E : Wd w K mg) : ∃ fd, FunD K "shared" "Spread.shared" (defArgs sSShared) (defBody sSShared) (defScope sSShared) [] [] (He.ma K (He.ga K "Spread") "shared") fd := by
  obtain ⟨h, X, G, c⟩ := E.ex
  exact c.t.d.def_ 20 (d := dSShared) rfl
theorem fSBarred (E : Wd w K mg) : ∃ fd, FunD K "barred" "Spread.barred" (defArgs sSBarred) (defBody sSBarred) (defScope sSBarred) [] [] (He.ma K (He.ga K "Spread") "barred") fd := by
  obtain ⟨h, X, G, c⟩ := E.ex
  exact c.t.d.def_ 21 (d := dSBarred) rfl
theorem fSClashes (E : Wd w K mg) : ∃ fd, FunD K "clashes" "Spread.clashes" (defArgs sSClashes) (defBody sSClashes) (defScope sSClashes) [] [] (He.ma K (He.ga K "Spread") "clashes") fd := by
  obtain ⟨h, X, G, c⟩ := E.ex
  exact c.t.d.def_ 22 (d := dSClashes) rfl
theorem fSAllNeeds (E : Wd w K mg) : ∃ fd, FunD K "all_needs" "Spread.all_needs" (defArgs sSAllNeeds) (defBody sSAllNeeds) (defScope sSAllNeeds) [] [] (He.ma K (He.ga K "Spread") "all_needs") fd := by
  obtain ⟨h, X, G, c⟩ := E.ex
  exact c.t.d.def_ 23 (d := dSAllNeeds) rfl
theorem fSpreadOf (E : Wd w K mg) : ∃ fd, FunD K "spread_of" "spread_of" (defArgs sSpreadOf) (defBody sSpreadOf) (defScope sSpreadOf) [] [] (He.ga K "spread_of") fd := by
  obtain ⟨h, X, G, c⟩ := E.ex
  exact c.t.d.def_ 24 (d := dSpreadOf) rfl
theorem fNeeds (E : Wd w K mg) : ∃ fd, FunD K "needs" "needs" (defArgs sNeeds) (defBody sNeeds) (defScope sNeeds) [] [] (He.ga K "needs") fd := by
  obtain ⟨h, X, G, c⟩ := E.ex
  exact c.t.d.def_ 25 (d := dNeeds) rfl
theorem fIsClear (E : Wd w K mg) : ∃ fd, FunD K "is_clear" "is_clear" (defArgs sIsClear) (defBody sIsClear) (defScope sIsClear) [] [] (He.ga K "is_clear") fd := by
  obtain ⟨h, X, G, c⟩ := E.ex
  exact c.t.d.def_ 26 (d := dIsClear) rfl
theorem fAreSpots (E : Wd w K mg) : ∃ fd, FunD K "are_spots" "are_spots" (defArgs sAreSpots) (defBody sAreSpots) (defScope sAreSpots) [] [] (He.ga K "are_spots") fd := by
  obtain ⟨h, X, G, c⟩ := E.ex
  exact c.t.d.def_ 27 (d := dAreSpots) rfl
theorem fFenced (E : Wd w K mg) : ∃ fd, FunD K "fenced" "fenced" (defArgs sFenced) (defBody sFenced) (defScope sFenced) [] [] (He.ga K "fenced") fd := by
  obtain ⟨h, X, G, c⟩ := E.ex
  exact c.t.d.def_ 28 (d := dFenced) rfl
theorem fLeastSpots (E : Wd w K mg) : ∃ fd, FunD K "least_spots" "least_spots" (defArgs sLeastSpots) (defBody sLeastSpots) (defScope sLeastSpots) [] [] (He.ga K "least_spots") fd := by
  obtain ⟨h, X, G, c⟩ := E.ex
  exact c.t.d.def_ 29 (d := dLeastSpots) rfl
theorem fFewest (E : Wd w K mg) : ∃ fd, FunD K "fewest" "fewest" (defArgs sFewest) (defBody sFewest) (defScope sFewest) [] [] (He.ga K "fewest") fd := by
  obtain ⟨h, X, G, c⟩ := E.ex
  exact c.t.d.def_ 30 (d := dFewest) rfl
theorem fAreaCells (E : Wd w K mg) : ∃ fd, FunD K "area_cells" "area_cells" (defArgs sAreaCells) (defBody sAreaCells) (defScope sAreaCells) [] [] (He.ga K "area_cells") fd := by
  obtain ⟨h, X, G, c⟩ := E.ex
  exact c.t.d.def_ 31 (d := dAreaCells) rfl
theorem fCellsTouched (E : Wd w K mg) : ∃ fd, FunD K "cells_touched" "cells_touched" (defArgs sCellsTouched) (defBody sCellsTouched) (defScope sCellsTouched) [] [] (He.ga K "cells_touched") fd := by
  obtain ⟨h, X, G, c⟩ := E.ex
  exact c.t.d.def_ 32 (d := dCellsTouched) rfl
theorem fDoStep (E : Wd w K mg) : ∃ fd, FunD K "do_step" "do_step" (defArgs sDoStep) (defBody sDoStep) (defScope sDoStep) [] [] (He.ga K "do_step") fd := by
  obtain ⟨h, X, G, c⟩ := E.ex
  exact c.t.d.def_ 33 (d := dDoStep) rfl
theorem fNeedMemory (E : Wd w K mg) : ∃ fd, FunD K "need_memory" "need_memory" (defArgs sNeedMemory) (defBody sNeedMemory) (defScope sNeedMemory) [] [] (He.ga K "need_memory") fd := by
  obtain ⟨h, X, G, c⟩ := E.ex
  exact c.t.d.def_ 34 (d := dNeedMemory) rfl
theorem fNeedInside (E : Wd w K mg) : ∃ fd, FunD K "need_inside" "need_inside" (defArgs sNeedInside) (defBody sNeedInside) (defScope sNeedInside) [] [] (He.ga K "need_inside") fd := by
  obtain ⟨h, X, G, c⟩ := E.ex
  exact c.t.d.def_ 35 (d := dNeedInside) rfl
theorem fOwnStepsDone (E : Wd w K mg) : ∃ fd, FunD K "own_steps_done" "own_steps_done" (defArgs sOwnStepsDone) (defBody sOwnStepsDone) (defScope sOwnStepsDone) [] [] (He.ga K "own_steps_done") fd := by
  obtain ⟨h, X, G, c⟩ := E.ex
  exact c.t.d.def_ 36 (d := dOwnStepsDone) rfl
theorem fListDone (E : Wd w K mg) : ∃ fd, FunD K "list_done" "list_done" (defArgs sListDone) (defBody sListDone) (defScope sListDone) [] [] (He.ga K "list_done") fd := by
  obtain ⟨h, X, G, c⟩ := E.ex
  exact c.t.d.def_ 37 (d := dListDone) rfl
theorem fLawDraws (E : Wd w K mg) : ∃ fd, FunD K "_law_draws" "_law_draws" (defArgs sLawDraws) (defBody sLawDraws) (defScope sLawDraws) [] [] (He.ga K "_law_draws") fd := by
  obtain ⟨h, X, G, c⟩ := E.ex
  exact c.t.d.def_ 38 (d := dLawDraws) rfl
theorem fLawTake (E : Wd w K mg) : ∃ fd, FunD K "_law_take" "_law_take" (defArgs sLawTake) (defBody sLawTake) (defScope sLawTake) [] [] (He.ga K "_law_take") fd := by
  obtain ⟨h, X, G, c⟩ := E.ex
  exact c.t.d.def_ 39 (d := dLawTake) rfl
theorem fLawArea (E : Wd w K mg) : ∃ fd, FunD K "_law_area" "_law_area" (defArgs sLawArea) (defBody sLawArea) (defScope sLawArea) [] [] (He.ga K "_law_area") fd := by
  obtain ⟨h, X, G, c⟩ := E.ex
  exact c.t.d.def_ 40 (d := dLawArea) rfl
theorem fLawStep (E : Wd w K mg) : ∃ fd, FunD K "_law_step" "_law_step" (defArgs sLawStep) (defBody sLawStep) (defScope sLawStep) [] [] (He.ga K "_law_step") fd := by
  obtain ⟨h, X, G, c⟩ := E.ex
  exact c.t.d.def_ 41 (d := dLawStep) rfl
theorem fLawList (E : Wd w K mg) : ∃ fd, FunD K "_law_list" "_law_list" (defArgs sLawList) (defBody sLawList) (defScope sLawList) [] [] (He.ga K "_law_list") fd := by
  obtain ⟨h, X, G, c⟩ := E.ex
  exact c.t.d.def_ 42 (d := dLawList) rfl
theorem fLawCells (E : Wd w K mg) : ∃ fd, FunD K "_law_cells" "_law_cells" (defArgs sLawCells) (defBody sLawCells) (defScope sLawCells) [] [] (He.ga K "_law_cells") fd := by
  obtain ⟨h, X, G, c⟩ := E.ex
  exact c.t.d.def_ 43 (d := dLawCells) rfl
theorem fLawParts (E : Wd w K mg) : ∃ fd, FunD K "_law_parts" "_law_parts" (defArgs sLawParts) (defBody sLawParts) (defScope sLawParts) [] [] (He.ga K "_law_parts") fd := by
  obtain ⟨h, X, G, c⟩ := E.ex
  exact c.t.d.def_ 44 (d := dLawParts) rfl
theorem fLawPart (E : Wd w K mg) : ∃ fd, FunD K "_law_part" "_law_part" (defArgs sLawPart) (defBody sLawPart) (defScope sLawPart) [] [] (He.ga K "_law_part") fd := by
  obtain ⟨h, X, G, c⟩ := E.ex
  exact c.t.d.def_ 45 (d := dLawPart) rfl
theorem fLawPlainly (E : Wd w K mg) : ∃ fd, FunD K "_law_plainly" "_law_plainly" (defArgs sLawPlainly) (defBody sLawPlainly) (defScope sLawPlainly) [] [] (He.ga K "_law_plainly") fd := by
  obtain ⟨h, X, G, c⟩ := E.ex
  exact c.t.d.def_ 46 (d := dLawPlainly) rfl
theorem fLawMoved (E : Wd w K mg) : ∃ fd, FunD K "_law_moved" "_law_moved" (defArgs sLawMoved) (defBody sLawMoved) (defScope sLawMoved) [] [] (He.ga K "_law_moved") fd := by
  obtain ⟨h, X, G, c⟩ := E.ex
  exact c.t.d.def_ 47 (d := dLawMoved) rfl
theorem fLaw (E : Wd w K mg) : ∃ fd, FunD K "law" "law" (defArgs sLaw) (defBody sLaw) (defScope sLaw) [] [] (He.ga K "law") fd := by
  obtain ⟨h, X, G, c⟩ := E.ex
  exact c.t.d.def_ 48 (d := dLaw) rfl
theorem t_BARS (E : Wd w K mg) (H : Hp) : SqT K H (He.ga K "BARS") [.str "fence", .str "note"] := by
  obtain ⟨h, X, G, c⟩ := E.ex
  exact He.tupB_ok (He.ba c.more).1 H
theorem t_FENCE (E : Wd w K mg) (H : Hp) : SqT K H (He.ga K "FENCE_fences") [.str "fence"] := by
  obtain ⟨h, X, G, c⟩ := E.ex
  exact He.tupB_ok (He.ba (He.ba c.more).2).1 H
abbrev forms0 : List (Str × He.Dv) := [("copy", .str "AAS"), ("fill", .str "ABS"), ("add", .str "AC"), ("note", .str "F"), ("wait", .str "FN"), ("fence", .str "")]
theorem t_vals (E : Wd w K mg) : He.valsB K (He.ga K "STEP_FORMS") forms0 = true := by
  obtain ⟨h, X, G, c⟩ := E.ex
  exact (He.ba (He.ba c.more).2).2
theorem t_keys (E : Wd w K mg) : He.dicW K (He.ga K "STEP_FORMS") = some (He.keysIn w.params (forms0.map (·.1))) := by
  obtain ⟨h, X, G, c⟩ := E.ex
  have e : tsL.map (fun t => He.dicW K (t.1 K)) = tsL.map fun t => some (He.keysIn w.params t.2) := congrArg (fun z : He.AlT => z.2) c.t
  exact (List.cons.inj e).1
end
end K24
end
section
set_option Elab.async false
set_option linter.all false
set_option maxRecDepth 100000
set_option maxHeartbeats 2000000
namespace K24
open PySem PySem.Spec PyProof.Rows L2
/-! ### tuples stay -/
def Kt (H H' : Hp) : Prop := ∀ p xs, Rd H p (.tup xs) → Rd H' p (.tup xs)
theorem Kt.refl (H : Hp) : Kt H H := fun _ _ h => h
theorem Kt.trans {H H1 H2 : Hp} (a : Kt H H1) (b : Kt H1 H2) : Kt H H2 := fun p xs h => b p xs (a p xs h)
theorem Kt.same {H H' : Hp} (s : Same H H') : Kt H H' := fun p xs h => h.elim (fun z => .inl (s _ _ z)) fun ⟨o, z⟩ => .inr ⟨o, s _ _ z⟩
theorem Kt.upd {H : Hp} {a : Addr} {o u : HO} (h : H a = some o) (n : ∀ xs, o ≠ .tup xs) (n2 : ∀ q xs, o ≠ .frz q (.tup xs)) : Kt H (upd H a u) := fun p xs z => by
  rcases z with z | ⟨q, z⟩
  · by_cases e : p = a
    · rw [e, h] at z; exact absurd (Option.some.inj z) (n xs)
    · exact .inl (by rw [upd_ne e]; exact z)
  · by_cases e : p = a
    · rw [e, h] at z; exact absurd (Option.some.inj z) (n2 q xs)
    · exact .inr ⟨q, by rw [upd_ne e]; exact z⟩
theorem same_new {H : Hp} {a : Addr} {o : HO} (n : H a = none) : Same H (upd H a o) := fun b u e => by rw [upd_ne (ne_of_none e n)]; exact e
theorem Kt.sq {K : PySem.W.Frag} {H H' : Hp} {a : Addr} {xs : List V} (k : Kt H H') (h : SqT K H a xs) : SqT K H' a xs := h.elim (fun z => .inl (k _ _ z)) .inr
/-- two readings of one tuple -/
theorem sqT_det {K : PySem.W.Frag} {H : Hp} {a : Addr} {xs : List V} (h : H a = some (.tup xs)) : SqT K H a xs := .inl (.inl h)
/-! ### areas, steps, lists -/
def ArAt (K : PySem.W.Frag) (H : Hp) (p : Addr) (a : Area) : Prop := SqT K H p [.int a.start, .int a.count, .int a.rows, .int a.pitch]
def StAt (K : PySem.W.Frag) (H : Hp) (p : Addr) : Step → Prop
  | .copy f t k => ∃ pf pt : Addr, SqT K H p [.str "copy", .ref pf, .ref pt, .int k] ∧ ArAt K H pf f ∧ ArAt K H pt t
  | .fill t v k => ∃ pt : Addr, SqT K H p [.str "fill", .ref pt, .int v, .int k] ∧ ArAt K H pt t
  | .add f c => ∃ pf : Addr, SqT K H p [.str "add", .ref pf, .int c] ∧ ArAt K H pf f
  | .note g => SqT K H p [.str "note", .int g]
  | .wait g n => SqT K H p [.str "wait", .int g, .int n]
  | .fence => SqT K H p [.str "fence"]
/-- the objects as are the steps ss -/
def StsAt (K : PySem.W.Frag) (H : Hp) (as : List Addr) (ss : List Step) : Prop := as.length = ss.length ∧ ∀ (i : Nat) (a : Addr) (s : Step), as[i]? = some a → ss[i]? = some s → StAt K H a s
def LsAt (K : PySem.W.Frag) (H : Hp) (p : Addr) (ss : List Step) : Prop := ∃ as : List Addr, SqT K H p (as.map V.ref) ∧ StsAt K H as ss
theorem ArAt.kt {K : PySem.W.Frag} {H H' : Hp} {p : Addr} {a : Area} (k : Kt H H') (h : ArAt K H p a) : ArAt K H' p a := k.sq h
theorem StAt.kt {K : PySem.W.Frag} {H H' : Hp} {p : Addr} {s : Step} (k : Kt H H') (h : StAt K H p s) : StAt K H' p s := by
  cases s with
  | copy f t k' => obtain ⟨pf, pt, h1, h2, h3⟩ := h; exact ⟨pf, pt, k.sq h1, h2.kt k, h3.kt k⟩
  | fill t v k' => obtain ⟨pt, h1, h2⟩ := h; exact ⟨pt, k.sq h1, h2.kt k⟩
  | add f c => obtain ⟨pf, h1, h2⟩ := h; exact ⟨pf, k.sq h1, h2.kt k⟩
  | note g => exact k.sq h
  | wait g n => exact k.sq h
  | fence => exact k.sq h
theorem StsAt.kt {K : PySem.W.Frag} {H H' : Hp} {as : List Addr} {ss : List Step} (k : Kt H H') (h : StsAt K H as ss) : StsAt K H' as ss := ⟨h.1, fun i a s h1 h2 => (h.2 i a s h1 h2).kt k⟩
theorem LsAt.kt {K : PySem.W.Frag} {H H' : Hp} {p : Addr} {ss : List Step} (k : Kt H H') (h : LsAt K H p ss) : LsAt K H' p ss := by
  obtain ⟨as, h1, h2⟩ := h
  exact ⟨as, k.sq h1, h2.kt k⟩
theorem StsAt.get {K : PySem.W.Frag} {H : Hp} {as : List Addr} {ss : List Step} (h : StsAt K H as ss) {i : Nat} {a : Addr} (e : as[i]? = some a) : ∃ s, ss[i]? = some s ∧ StAt K H a s := by
  have hi : i < as.length := (List.getElem?_eq_some_iff.mp e).1
  have hs : i < ss.length := by rw [← h.1]; exact hi
  exact ⟨ss[i], List.getElem?_eq_getElem hs, h.2 i a _ e (List.getElem?_eq_getElem hs)⟩
theorem StsAt.ref {K : PySem.W.Frag} {H : Hp} {as : List Addr} {ss : List Step} (h : StsAt K H as ss) {i : Nat} {s : Step} (e : ss[i]? = some s) : ∃ a, as[i]? = some a ∧ StAt K H a s := by
  have hi : i < ss.length := (List.getElem?_eq_some_iff.mp e).1
  have hs : i < as.length := by rw [h.1]; exact hi
  exact ⟨as[i], List.getElem?_eq_getElem hs, h.2 i _ s (List.getElem?_eq_getElem hs) e⟩
theorem mapref_get {as : List Addr} {i : Nat} {v : V} (h : (as.map V.ref)[i]? = some v) : ∃ a, v = .ref a ∧ as[i]? = some a := by
  rw [List.getElem?_map] at h
  cases e : as[i]? with
  | none => rw [e] at h; cases h
  | some a => rw [e] at h; exact ⟨a, (Option.some.inj h).symm, rfl⟩
/-! ### isinstance -/
section
variable {K : PySem.W.Frag} {H : Hp} {Q : VK}
theorem kII : PySem.W.kitOne K (.type "int") (.type "int") = some true := kit_ty (by decide +kernel)
theorem kIB : PySem.W.kitOne K (.type "int") (.type "bool") = some false := kit_ty (by decide +kernel)
theorem kSS : PySem.W.kitOne K (.type "str") (.type "str") = some true := kit_ty (by decide +kernel)
theorem kTT : PySem.W.kitOne K (.type "tuple") (.type "tuple") = some true := kit_ty (by decide +kernel)
theorem ty_tup {a : Addr} {xs : List V} (s : SqT K H a xs) : TyX K H (.ref a) (.type "tuple") := by
  rcases s with (z | ⟨o, z⟩) | ⟨o, its, n, z, c, _⟩
  · exact .base (.tup z)
  · exact .fTuple z
  · exact .kTuple z c
end
end K24
end
section
set_option Elab.async false
set_option linter.all false
set_option maxRecDepth 100000
set_option maxHeartbeats 2000000
namespace K24
open PySem PySem.Spec PyProof.Rows L2 C8
/-- a def that is called with one value and keywords -/
structure CalW (P : Program) (w : World) (K : PySem.W.Frag) (mg : Str → Option Value) (base : Heap) (k : Nat) (x : Str) (sp : Sp) (n : Nat) (ks : List Str) (gV : List V → List V → List V) : Prop where
  ex : ∃ (f : Addr) (fd : FuncData) (ps : List Str) (g : List Value → List Value → List Value), FnOk P w K mg base C8.CX0 k f fd ps sp ∧ mg x = some (.ref f) ∧ PySem.W.keepIn K (.ref f) = true ∧ KBn K fd ps n ks g gV
section
variable {X : Cx} {k j n : Nat} {x : Str} {sp : Sp} {ks : List Str} {gV : List V → List V → List V} {p pos : Pos} {e : Expr} {es : List Expr} {kws : List Keyword} {t tk : TA}
theorem pe_ck (c : CalW X.prog X.w X.K X.mg X.base k x sp n ks gV) (hr : Room j X.A) (hk : k ≤ j) (hg : Gl X x) (ha : PA X (e :: es) t) (hkw : PK X kws tk) (hall : (backToKw pos (keywordEach kws X.env)).all (·.1.isSome) = true := by rfl)
    (hks : (backToKw pos (keywordEach kws X.env)).filterMap (·.1) = ks := by rfl)
    (hdb : (x == ("__debug__" : Str)) = false := by decide) (he : starEach (e :: es) X.env = (false, eval e X.env) :: starEach es X.env := by rfl)
    (hpl : ((backTo pos (starEach (e :: es) X.env)).any (·.1) || (backToKw pos (keywordEach kws X.env)).any (·.1.isNone)) = false := by rfl) :
    PE X (.Call (.Name x p) (e :: es) kws pos) (tCallN n ks.length sp gV C8.E0 t tk) := by
  obtain ⟨f, fd, ps, g, F, hm, kp, b⟩ := c.ex
  exact pe_callN F (hr.mono hk) hg hm kp b C8.pass0 ha hkw hall hks hdb he hpl
end
section
variable {P : Program} {w : World} {K : PySem.W.Frag} {mg : Str → Option Value} {base : Heap}
def inB (i lo hi : Int) : Bool := decide (lo ≤ i) && decide (i ≤ hi)
def spIsWhole : Sp := fun vs H Q _ => ∃ i lo hi : Int, vs = [.int i, .int lo, .int hi] ∧ Q (.bl (inB i lo hi)) H
theorem scIsWhole : FnScope ["thing", "least", "most"] ["thing", "least", "most"] (defScope sIsWhole) := ⟨rfl, rfl, rfl, by decide +kernel, rfl, by decide +kernel, by decide +kernel⟩
theorem fn_isWhole (E : Wd w K mg) {fd : FuncData} (F : FunD K "is_whole" "is_whole" (defArgs sIsWhole) (defBody sIsWhole) (defScope sIsWhole) [] [("least", .int 0), ("most", .int 1023)] (He.ga K "is_whole") fd) :
    FnOk P w K mg base C8.CX0 1 (He.ga K "is_whole") fd ["thing", "least", "most"] spIsWhole := by
  refine F.ok scIsWhole (fun vs H Q E h => ?_) (fun cdv A outer s H vs Q E' hr h => ⟨_, PSs.nox (pss_one (ps_ret
    (pe_and (pe_callB call_isi (by rfl) (n_isinstance E) PyProof.Rows.boot_isinstance (pa_cons (pv 0) (pa_cons (pe_bltn (by rfl) (n_int E) (by decide +kernel) (v := .ty "int") (u := .type "int") rfl) pa_nil)))
      (pe_and (pe_not (pe_callB call_isi (by rfl) (n_isinstance E) PyProof.Rows.boot_isinstance (pa_cons (pv 0) (pa_cons (pe_bltn (by rfl) (n_bool E) (by decide +kernel) (v := .ty "bool") (u := .type "bool") rfl) pa_nil))))
        (pe_one (pe_chain op_le op_le (pv 1) (pv 0) (pv 2))))))), ?_⟩)
  · obtain ⟨i, lo, hi, rfl, _⟩ := h
    rfl
  · obtain ⟨i, lo, hi, rfl, hQ⟩ := h
    refine ⟨_, rfl, _, _, _, _, true, rfl, .ty "int", .base (.int i), kII, true, rfl, iteT ?_⟩
    refine ⟨_, rfl, _, _, _, _, false, rfl, .ty "bool", .base (.int i), kIB, false, rfl, true, rfl, iteT ?_⟩
    refine ⟨_, rfl, _, rfl, _, _, rfl, rfl, _, rfl, ?_⟩
    refine ite2 (fun h => ⟨_, rfl, _, _, rfl, rfl, ?_⟩) (fun h => ?_)
    · rw [show inB i lo hi = decide (i ≤ hi) by unfold inB; rw [h]; rfl] at hQ
      exact hQ
    · have e : decide (lo ≤ i) = false := by simpa using h
      rw [show inB i lo hi = false by unfold inB; rw [e]; rfl] at hQ
      exact hQ
theorem cal_IsWhole1 (E : Wd w K mg) : CalW P w K mg base 1 "is_whole" spIsWhole 1 ["most"] (fun vs zs => vs ++ [.int 0] ++ zs) := by
  obtain ⟨fd, F⟩ := fIsWhole E
  obtain ⟨mv, B⟩ := F.kbinds0 (ps := ["thing", "least", "most"]) 1 ["most"] [("least", .int 0)] (fun us mv ws => us ++ mv ++ ws) (by intro z; cases z) (by intro q hq; rw [List.mem_singleton.mp hq]; exact List.mem_cons_self ..) (fun r1 r2 r3 => (r1.append r2).append r3)
    (fun D doc pm an cdv ct us mv ws h1 h2 h3 => match us, mv, ws, h1, h2, h3 with
      | [u], [m], [z], _, _, _ => ⟨_, _, _, _, _, _, rfl, rfl, rfl⟩)
  exact ⟨_, fd, _, _, fn_isWhole E F, g_is_whole E, F.kp, B⟩
theorem cal_IsWhole2 (E : Wd w K mg) : CalW P w K mg base 1 "is_whole" spIsWhole 1 ["least", "most"] (fun vs zs => vs ++ zs) := by
  obtain ⟨fd, F⟩ := fIsWhole E
  obtain ⟨mv, B⟩ := F.kbinds0 (ps := ["thing", "least", "most"]) 1 ["least", "most"] [] (fun us mv ws => us ++ ws) (by intro z; cases z) (by intro q hq; cases hq) (fun r1 r2 r3 => r1.append r3)
    (fun D doc pm an cdv ct us mv ws h1 h2 h3 => match us, mv, ws, h1, h2, h3 with
      | [u], [], [z, y], _, _, _ => rfl)
  exact ⟨_, fd, _, _, fn_isWhole E F, g_is_whole E, F.kp, B⟩
theorem iteDT {c A B : Prop} [Decidable c] (hc : c) (h : A) : if decide c = true then A else B := by
  rw [decide_eq_true hc]; exact iteT h
theorem iteDF {c A B : Prop} [Decidable c] (hc : ¬ c) (h : B) : if decide c = true then A else B := by
  rw [decide_eq_false hc]; exact iteF h
theorem iteNT {c A B : Prop} [Decidable c] (hc : ¬ c) (h : A) : if (!decide c) = true then A else B := by
  rw [decide_eq_false hc]; exact iteT h
/-! ### walks, once for all kinds of turns -/
theorem it_gen {J : It} {n : Nat} {G : Hp → Prop} {Y : Nat → Hp → V → Hp → Prop} (w : Walk J n G Y) {Step : (Hp → Prop) → V → Hp → Prop} {H0 : Hp} {Qd : Hp → Prop} (Pv : Nat → Hp → Prop) (h0 : Pv 0 H0) (hG : ∀ i H, i ≤ n → Pv i H → G H)
    (hs : ∀ i x H H', i < n → Pv i H → Y i H x H' → Step (Pv (i + 1)) x H') (hd : ∀ H, Pv n H → Qd H) :
    ∃ W : Nat → Nat → Hp → Prop, (∃ m, W 0 m H0) ∧ ∀ i m H, W i m H →
      (J.stop i H ∧ Qd H) ∨ (J.go i H ∧ ∃ Nx : Hp → Prop, (∀ H', Nx H' → ∃ m', m' < m ∧ W (i + 1) m' H') ∧ ∀ x H', J.yld i H x H' → Step Nx x H') := by
  refine ⟨fun i m H => m = n - i ∧ i ≤ n ∧ Pv i H, ⟨n, by simp, Nat.zero_le _, h0⟩, ?_⟩
  rintro i m H ⟨rfl, hi, p⟩
  have q := hG i H hi p
  by_cases hlt : i < n
  · exact .inr ⟨w.goes i H hlt q, Pv (i + 1), fun H' p' => ⟨n - (i + 1), by omega, rfl, hlt, p'⟩, fun x H' y => hs i x H H' hlt p (w.yields i H x H' hlt q y)⟩
  · have e : i = n := by omega
    subst e
    exact .inl ⟨w.stops H q, hd H p⟩
def nums (l : List Nat) : List V := l.map fun (c : Nat) => V.int (c : Int)
/-! ### is_byte, is_flag, is_memory -/
def spIsByte : Sp := fun vs H Q _ => ∃ i : Int, vs = [.int i] ∧ Q (.bl (inB i 0 255)) H
abbrev NIsByte : List Str := ["thing"]
theorem scIsByte : FnScope NIsByte ["thing"] (defScope sIsByte) := ⟨rfl, rfl, rfl, by decide +kernel, rfl, by decide +kernel, by decide +kernel⟩
theorem cal_IsByte (E : Wd w K mg) : C8.Cal P w K mg base 2 "is_byte" spIsByte [] := by
  obtain ⟨fd, F⟩ := fIsByte E
  refine ⟨_, fd, ["thing"], [], F.ok scIsByte (fun vs H Q E h => ?_) (fun cdv A outer s H vs Q E' hr h => ⟨_, PSs.nox (pss_one (ps_ret (pe_ck (cal_IsWhole1 E) hr (by decide) (by rfl) (pa_cons (pv 0) pa_nil) (pk_cons (pe_gc (by rfl) (i_GREATEST_BYTE E)) pk_nil)))), ?_⟩), g_is_byte E, F.kp, F.bindsN (fun _ _ _ _ _ _ us hl => match us, hl with | [_], _ => rfl), .nil⟩
  · obtain ⟨i, rfl, _⟩ := h; rfl
  · obtain ⟨i, rfl, hQ⟩ := h
    exact ⟨_, rfl, rfl, rfl, i, 0, 255, rfl, hQ⟩
def spIsFlag : Sp := fun vs H Q _ => ∃ i : Int, vs = [.int i] ∧ Q (.bl (inB i 0 7)) H
abbrev NIsFlag : List Str := ["thing"]
theorem scIsFlag : FnScope NIsFlag ["thing"] (defScope sIsFlag) := ⟨rfl, rfl, rfl, by decide +kernel, rfl, by decide +kernel, by decide +kernel⟩
theorem cal_IsFlag (E : Wd w K mg) : C8.Cal P w K mg base 2 "is_flag" spIsFlag [] := by
  obtain ⟨fd, F⟩ := fIsFlag E
  refine ⟨_, fd, ["thing"], [], F.ok scIsFlag (fun vs H Q E h => ?_) (fun cdv A outer s H vs Q E' hr h => ⟨_, PSs.nox (pss_one (ps_ret (pe_ck (cal_IsWhole1 E) hr (by decide) (by rfl) (pa_cons (pv 0) pa_nil) (pk_cons (pe_op op_sub (pe_gc (by rfl) (i_FLAGS E)) pe_int) pk_nil)))), ?_⟩), g_is_flag E, F.kp, F.bindsN (fun _ _ _ _ _ _ us hl => match us, hl with | [_], _ => rfl), .nil⟩
  · obtain ⟨i, rfl, _⟩ := h; rfl
  · obtain ⟨i, rfl, hQ⟩ := h
    exact ⟨_, rfl, _, _, rfl, rfl, rfl, rfl, i, 0, 7, rfl, hQ⟩
def MemOk (m : Mem) : Prop := ∀ x ∈ m, 0 ≤ x ∧ x ≤ 255
def spIsMemory (K : PySem.W.Frag) : Sp := fun vs H Q _ => ∃ (p : Addr) (m : Mem), vs = [.ref p] ∧ SqT K H p (m.map V.int) ∧ 1 ≤ m.length ∧ m.length ≤ 1024 ∧ MemOk m ∧ ∀ H', Same H H' → Q (.bl true) H'
abbrev NIsMemory : List Str := ["thing", "one"]
theorem scIsMemory : FnScope NIsMemory ["thing"] (defScope sIsMemory) := ⟨rfl, rfl, rfl, by decide +kernel, rfl, by decide +kernel, by decide +kernel⟩
theorem cal_IsMemory (E : Wd w K mg) : C8.Cal P w K mg base 3 "is_memory" (spIsMemory K) [] := by
  obtain ⟨fd, F⟩ := fIsMemory E
  refine ⟨_, fd, ["thing"], [], F.ok scIsMemory (fun vs H Q E h => ?_) (fun cdv A outer s H vs Q E' hr h => ⟨_, PSs.nox (pss_cons (ps_if (PW.pt (pw_or (pt_not (pt_val (pe_callB call_isi (by rfl) (n_isinstance E) (by decide +kernel) (pa_cons (pv 0) (pa_cons (pe_bltn (by rfl) (n_tuple E) (by decide +kernel) (v := .ty "tuple") (u := .type "tuple") rfl) pa_nil))))) (pw_or1 (pt_not (pt_chain op_le op_le pe_int (pe_callB call_len_seq (by rfl) (n_len E) (by decide +kernel) (pa_cons (pv 0) pa_nil)) (pe_gc (by rfl) (i_MOST_CELLS E))))))) (pss_one (ps_ret pe_bl)) pss_nil)
      (pss_one (ps_ret (pe_callB (cr_all rfl) (by rfl) (n_all E) (by decide +kernel) (pa_cons (pe_lc (own := [("one", 1)]) (by rfl) scIsMemory.nd (pi_tup (pv 0)) (blkOk_by (own := [("one", 1)]) (N := NIsMemory) (sc := defScope sIsMemory) (by decide +kernel)) (fun _ _ _ _ _ => (pg_name (i := 1) scIsMemory.nd rfl (Or.inl rfl))) (fun _ _ _ _ _ => pts_nil) (fun _ _ _ _ _ => (C8.pe_c (cal_IsByte E) hr (by decide) (by rfl) (pa_cons (pv 1) pa_nil)))) pa_nil))))), ?_⟩), g_is_memory E, F.kp, F.bindsN (fun _ _ _ _ _ _ us hl => match us, hl with | [_], _ => rfl), .nil⟩
  · obtain ⟨i, m, rfl, _⟩ := h; rfl
  · obtain ⟨p, m, rfl, hS, h1, h2, hm, hQ⟩ := h
    refine ⟨_, rfl, _, _, _, _, true, rfl, .ty "tuple", ty_tup hS, kTT, _, rfl, iteF ?_⟩
    have e : (m.map V.int).length = m.length := List.length_map _
    refine ⟨_, rfl, _, _, rfl, .inr hS, _, _, rfl, rfl, _, rfl, iteDT (by rw [e]; omega) ⟨_, _, rfl, rfl, _, rfl, iteNS (by rw [e]; omega) ?_⟩⟩
    refine ⟨_, rfl, p, rfl, ⟨_, hS⟩, fun D hD => ?_⟩
    refine it_gen (walk_tup (K := K) (a := p) (xs := m.map V.int)) (fun i H1 => Same H H1 ∧ H1 D = some (.lst (((m.take i).map fun _ => true).map V.bl))) ⟨same_new hD, upd_same⟩ (fun i H1 _ q => (Kt.same q.1).sq hS) (fun i x H1 H2 hi q y => ?_) (fun H1 q => ?_)
    · obtain ⟨q1, q2⟩ := q
      obtain ⟨rfl, hx⟩ := y
      rw [List.getElem?_map] at hx
      have hi' : i < m.length := by rw [e] at hi; exact hi
      rw [List.getElem?_eq_getElem hi'] at hx
      cases hx
      have hmi := hm m[i] (List.getElem_mem hi')
      refine ⟨rfl, _, rfl, _, rfl, _, q2, ?_, ?_, ?_⟩
      · rw [List.length_map, List.length_map, List.length_take, sizeLine_eq]; omega
      · intro b o hb
        rw [upd_ne (ne_of_none hb hD)]; exact q1 b o hb
      · rw [upd_same, show inB m[i] 0 255 = true by unfold inB; rw [decide_eq_true hmi.1, decide_eq_true hmi.2]; rfl]
        rw [List.take_add_one, List.getElem?_eq_getElem hi', List.map_append, List.map_append]
        rfl
    · refine ⟨_, _, rfl, .of q.2, ?_⟩
      have z : (((m.take (m.map V.int).length).map fun _ => true).all id) = true := by rw [List.all_eq_true]; intro b hb; obtain ⟨_, _, rfl⟩ := List.mem_map.mp hb; rfl
      rw [z]
      exact hQ _ q.1
end
end K24
end
section
set_option Elab.async false
set_option linter.all false
set_option maxRecDepth 100000
set_option maxHeartbeats 2000000
namespace K24
open PySem PySem.Spec PyProof.Rows L2 C8
section
variable {P : Program} {w : World} {K : PySem.W.Frag} {mg : Str → Option Value} {base : Heap}
theorem nums_app (a b : List Nat) : nums (a ++ b) = nums a ++ nums b := List.map_append
theorem nums_len (a : List Nat) : (nums a).length = a.length := List.length_map _
theorem nums_ints (a : List Nat) : nums a = (a.map fun (c : Nat) => (c : Int)).map V.int := by unfold nums; rw [List.map_map]; rfl
def Area.row (a : Area) (r : Nat) : List Nat := (List.range a.count).map fun k => a.start + r * a.pitch + k
theorem Area.cells_eq (a : Area) : a.cells = (List.range a.rows).flatMap a.row := rfl
theorem flat_succ (f : Nat → List Nat) (i : Nat) : (List.range (i + 1)).flatMap f = (List.range i).flatMap f ++ f i := by rw [List.range_succ, List.flatMap_append]; simp
theorem map_succ (f : Nat → Nat) (i : Nat) : (List.range (i + 1)).map f = (List.range i).map f ++ [f i] := by rw [List.range_succ, List.map_append]; rfl
theorem flat_le (f : Nat → List Nat) (n m : Nat) (hf : ∀ i, (f i).length = m) : ((List.range n).flatMap f).length = n * m := by
  rw [flat_len f m _ (fun x _ => hf x), List.length_range]
theorem Area.row_len (a : Area) (r : Nat) : (a.row r).length = a.count := by unfold Area.row; rw [List.length_map, List.length_range]
/-- small enough for the rules -/
structure Area.Sm (a : Area) : Prop where
  s : a.start ≤ 64
  c : a.count ≤ 64
  r : a.rows ≤ 3
  p : a.pitch ≤ 64
theorem Area.Ok.sm {top : Nat} {a : Area} (h : a.Ok top) (ht : top ≤ 64) : a.Sm := by
  obtain ⟨h1, h2, h3⟩ := h.bounds
  have h4 := h.rows3
  exact ⟨by omega, by omega, by omega, by omega⟩
/-! ### own_cells -/
def spOwnCells (K : PySem.W.Frag) : Sp := fun vs H Q _ => ∃ (p : Addr) (a : Area), vs = [.ref p] ∧ ArAt K H p a ∧ a.Sm ∧ ∀ H' t, Same H H' → H t = none → H' t = some (.tup (nums a.cells)) → Q (.ref t) H'
abbrev NOwnCells : List Str := ["area", "start", "count", "rows", "pitch", "row", "spot"]
theorem scOwnCells : FnScope NOwnCells ["area"] (defScope sOwnCells) := ⟨rfl, rfl, rfl, by decide +kernel, rfl, by decide +kernel, by decide +kernel⟩
theorem cal_OwnCells (E : Wd w K mg) : C8.Cal P w K mg base 1 "own_cells" (spOwnCells K) [] := by
  obtain ⟨fd, F⟩ := fOwnCells E
  refine ⟨_, fd, ["area"], [], F.ok scOwnCells (fun vs H Q E h => ?_) (fun cdv A outer s H vs Q E' hr h => ⟨_, PSs.nox (pss_cons (ps_asg (pv 0) (pg_tup (by rfl) (pgs_cons (pg_name (i := 1) scOwnCells.nd rfl (Or.inr rfl)) (pgs_cons (pg_name (i := 2) scOwnCells.nd rfl (Or.inr rfl)) (pgs_cons (pg_name (i := 3) scOwnCells.nd rfl (Or.inl rfl)) (pgs_cons (pg_name (i := 4) scOwnCells.nd rfl (Or.inr rfl)) pgs_nil))))))
      (pss_one (ps_ret (pe_callTy call_tuple_of (by rfl) (n_tuple E) (by decide +kernel) (pa_cons (pe_lc2 (own := [("row", 5), ("spot", 6)]) (vs1 := [6]) (by rfl) scOwnCells.nd (pi_range1 (by rfl) (n_range E) (pa_cons (pv 3) pa_nil)) (blkOk_by (own := [("row", 5), ("spot", 6)]) (N := NOwnCells) (sc := defScope sOwnCells) (by decide +kernel)) (by decide) (fun _ _ _ _ _ => (pg_name (i := 5) scOwnCells.nd rfl (Or.inl rfl))) (fun _ _ _ _ _ => pts_nil) (fun _ _ _ _ _ => (pi_range1 (by rfl) (n_range E) (pa_cons (pv 2) pa_nil))) (fun _ _ _ _ _ => (pg_name (i := 6) scOwnCells.nd rfl (Or.inl rfl))) (fun _ _ _ _ _ => pts_nil) (fun _ _ _ _ _ => (pe_op op_add (pe_op op_add (pv 1) (pe_op op_mul (pv 5) (pv 4))) (pv 6)))) pa_nil))))), ?_⟩), g_own_cells E, F.kp, F.bindsN (fun _ _ _ _ _ _ us hl => match us, hl with | [_], _ => rfl), .nil⟩
  · obtain ⟨i, m, rfl, _⟩ := h; rfl
  · obtain ⟨p, a, rfl, hA, hs, hQ⟩ := h
    have hr3 := hs.r
    have hc3 := hs.c
    refine ⟨_, rfl, p, _, rfl, hA, rfl, _, _, rfl, _, _, rfl, _, _, rfl, _, _, rfl, rfl, ?_⟩
    refine ⟨_, rfl, _, rfl, by omega, by omega, fun D hD => ?_⟩
    refine it_gen walk_range (fun i H1 => Same H H1 ∧ H1 D = some (.lst (nums ((List.range i).flatMap a.row)))) ⟨same_new hD, upd_same⟩ (fun _ _ _ _ => trivial) (fun i x H1 H2 hi q y => ?_) (fun H1 q => ?_)
    · obtain ⟨q1, q2⟩ := q
      obtain ⟨rfl, rfl⟩ := y
      refine ⟨rfl, _, rfl, _, rfl, by omega, by omega, ?_⟩
      refine it_gen walk_range (fun j H1 => Same H H1 ∧ H1 D = some (.lst (nums ((List.range i).flatMap a.row ++ (List.range j).map fun k => a.start + i * a.pitch + k)))) ⟨q1, by rw [q2]; simp⟩ (fun _ _ _ _ => trivial) (fun j x H1 H2 hj q y => ?_) (fun H1 q => ?_)
      · obtain ⟨q1, q2⟩ := q
        obtain ⟨rfl, rfl⟩ := y
        refine ⟨rfl, _, rfl, _, rfl, _, rfl, _, _, rfl, rfl, .inl ⟨by omega, by omega⟩, _, _, rfl, rfl, _, rfl, _, _, rfl, rfl, _, q2, ?_, ?_, ?_⟩
        · rw [nums_len, List.length_append, flat_le _ _ _ a.row_len, List.length_map, List.length_range, sizeLine_eq]
          have : i * a.count ≤ 3 * 64 := Nat.mul_le_mul (by omega) (by omega)
          omega
        · exact fun b o hb => by rw [upd_ne (ne_of_none hb hD)]; exact q1 b o hb
        · rw [upd_same, map_succ, ← List.append_assoc, nums_app (_ ++ _)]
          congr 3
          show [V.int _] = [V.int _]
          congr 2
          push_cast
          rw [Int.zero_add, Int.zero_add]
      · refine ⟨q.1, ?_⟩
        rw [q.2, flat_succ]
        have : ((a.count : Int).toNat) = a.count := by omega
        rw [this]; rfl
    · refine ⟨_, _, rfl, .inl ⟨.of q.2, fun l hl => hQ _ _ (fun b o hb => ?_) (q.1.free hl) ?_⟩⟩
      · rw [upd_ne (ne_of_none (q.1 b o hb) hl)]; exact q.1 b o hb
      · rw [upd_same]
        have : ((a.rows : Int).toNat) = a.rows := by omega
        rw [this]; rfl
/-! ### own_size -/
def spOwnSize (K : PySem.W.Frag) : Sp := fun vs H Q _ => ∃ (p : Addr) (a : Area), vs = [.ref p] ∧ ArAt K H p a ∧ a.Sm ∧ Q (.int (a.size : Nat)) H
abbrev NOwnSize : List Str := ["area", "start", "count", "rows", "pitch"]
theorem scOwnSize : FnScope NOwnSize ["area"] (defScope sOwnSize) := ⟨rfl, rfl, rfl, by decide +kernel, rfl, by decide +kernel, by decide +kernel⟩
theorem cal_OwnSize (E : Wd w K mg) : C8.Cal P w K mg base 1 "own_size" (spOwnSize K) [] := by
  obtain ⟨fd, F⟩ := fOwnSize E
  refine ⟨_, fd, ["area"], [], F.ok scOwnSize (fun vs H Q E h => ?_) (fun cdv A outer s H vs Q E' hr h => ⟨_, PSs.nox (pss_cons (ps_asg (pv 0) (pg_tup (by rfl) (pgs_cons (pg_name (i := 1) scOwnSize.nd rfl (Or.inl rfl)) (pgs_cons (pg_name (i := 2) scOwnSize.nd rfl (Or.inl rfl)) (pgs_cons (pg_name (i := 3) scOwnSize.nd rfl (Or.inl rfl)) (pgs_cons (pg_name (i := 4) scOwnSize.nd rfl (Or.inl rfl)) pgs_nil))))))
      (pss_one (ps_ret (pe_op op_mul (pv 2) (pv 3))))), ?_⟩), g_own_size E, F.kp, F.bindsN (fun _ _ _ _ _ _ us hl => match us, hl with | [_], _ => rfl), .nil⟩
  · obtain ⟨i, m, rfl, _⟩ := h; rfl
  · obtain ⟨p, a, rfl, hA, hs, hQ⟩ := h
    refine ⟨_, rfl, p, _, rfl, hA, rfl, _, _, rfl, _, _, rfl, _, _, rfl, _, _, rfl, rfl, ?_⟩
    refine ⟨_, rfl, _, rfl, _, _, rfl, rfl, .inl ⟨by omega, by have := hs.c; omega⟩, ?_⟩
    have e : ((a.count : Int) * (a.rows : Int)) = ((a.size : Nat) : Int) := by unfold Area.size; push_cast; rfl
    show Q (.int ((a.count : Int) * (a.rows : Int))) H
    rw [e]; exact hQ
end
end K24
end
section
set_option Elab.async false
set_option linter.all false
set_option maxRecDepth 100000
set_option maxHeartbeats 2000000
namespace K24
open PySem PySem.Spec PyProof.Rows L2 C8
section
variable {P : Program} {w : World} {K : PySem.W.Frag} {mg : Str → Option Value} {base : Heap}
/-! ### area_wrong -/
def spAreaWrong (K : PySem.W.Frag) : Sp := fun vs H Q _ => ∃ (p : Addr) (a : Area) (top : Nat), vs = [.ref p] ∧ ArAt K H p a ∧ a.Ok top ∧ top ≤ 64 ∧ ∀ H' t, Same H H' → H t = none → H' t = some (.lst []) → Q (.ref t) H'
abbrev NAreaWrong : List Str := ["thing", "bounds", "number", "least", "most", "start", "count", "rows", "pitch", "is_beyond"]
theorem scAreaWrong : FnScope NAreaWrong ["thing"] (defScope sAreaWrong) := ⟨rfl, rfl, rfl, by decide +kernel, rfl, by decide +kernel, by decide +kernel⟩
theorem cal_AreaWrong (E : Wd w K mg) : C8.Cal P w K mg base 2 "area_wrong" (spAreaWrong K) [] := by
  obtain ⟨fd, F⟩ := fAreaWrong E
  refine ⟨_, fd, ["thing"], [], F.ok scAreaWrong (fun vs H Q E h => ?_) (fun cdv A outer s H vs Q E' hr h => ⟨_, PSs.nox (pss_cons (ps_if (PW.pt (pw_or (pt_not (pt_val (pe_callB call_isi (by rfl) (n_isinstance E) (by decide +kernel) (pa_cons (pv 0) (pa_cons (pe_bltn (by rfl) (n_tuple E) (by decide +kernel) (v := .ty "tuple") (u := .type "tuple") rfl) pa_nil))))) (pw_or1 (pt_cmpR op_ne (pe_callB call_len_seq (by rfl) (n_len E) (by decide +kernel) (pa_cons (pv 0) pa_nil)) pe_int (nomark _))))) (pss_one (ps_ret (pe_lst (pa_cons pe_non pa_nil)))) pss_nil)
      (pss_cons (ps_set (i := 1) scAreaWrong.nd rfl (.inl rfl) (pe_tup (pa_cons (pe_tup (pa_cons pe_int (pa_cons (pe_gc (by rfl) (i_GREATEST_CELL E)) pa_nil))) (pa_cons (pe_tup (pa_cons pe_int (pa_cons (pe_gc (by rfl) (i_MOST_AREA E)) pa_nil))) (pa_cons (pe_tup (pa_cons pe_int (pa_cons (pe_gc (by rfl) (i_MOST_AREA E)) pa_nil))) (pa_cons (pe_tup (pa_cons pe_int (pa_cons (pe_gc (by rfl) (i_GREATEST_CELL E)) pa_nil))) pa_nil))))))
      (pss_cons (ps_for PassesOwn.never rfl (pi_enumT (by rfl) (n_enumerate E) (pa_cons (pv 1) pa_nil)) (pg_tup (by rfl) (pgs_cons (pg_name (i := 2) scAreaWrong.nd rfl (Or.inl rfl)) (pgs_cons (pg_tup (by rfl) (pgs_cons (pg_name (i := 3) scAreaWrong.nd rfl (Or.inl rfl)) (pgs_cons (pg_name (i := 4) scAreaWrong.nd rfl (Or.inl rfl)) pgs_nil))) pgs_nil))) (pss_one (ps_if (pt_not (pt_val (pe_ck (cal_IsWhole2 E) hr (by decide) (by rfl) (pa_cons (pe_ix ix_tup (pv 0) (pv 2) (fun _ _ => rfl)) pa_nil) (pk_cons (pv 3) (pk_cons (pv 4) pk_nil))))) (pss_one (ps_ret (pe_lst (pa_cons (pv 2) pa_nil)))) pss_nil)))
      (pss_cons (ps_asg (pv 0) (pg_tup (by rfl) (pgs_cons (pg_name (i := 5) scAreaWrong.nd rfl (Or.inl rfl)) (pgs_cons (pg_name (i := 6) scAreaWrong.nd rfl (Or.inl rfl)) (pgs_cons (pg_name (i := 7) scAreaWrong.nd rfl (Or.inl rfl)) (pgs_cons (pg_name (i := 8) scAreaWrong.nd rfl (Or.inl rfl)) pgs_nil))))))
      (pss_cons (ps_if (PW.pt (pw_or (pt_cmpR op_lt (pv 8) (pv 6) (nomark _)) (pw_or1 (PW.pt (pw_and (pt_cmpR op_eq (pv 7) pe_int (nomark _)) (pw_and1 (pt_cmpR op_ne (pv 8) (pv 6) (nomark _)))))))) (pss_one (ps_ret (pe_lst (pa_cons pe_int pa_nil)))) pss_nil)
      (pss_cons (ps_set (i := 9) scAreaWrong.nd rfl (.inl rfl) (pe_cmpR op_gt (pe_op op_add (pe_op op_add (pv 5) (pe_op op_mul (pe_op op_sub (pv 7) pe_int) (pv 8))) (pv 6)) (pe_gc (by rfl) (i_MOST_CELLS E)) (nomark _)))
      (pss_one (ps_ret (pe_ifExp (PW.pt (pw_or (pt_val (pv 9)) (pw_or1 (pt_cmpR op_gt (pe_op op_mul (pv 7) (pv 6)) (pe_gc (by rfl) (i_MOST_AREA E)) (nomark _))))) (pe_lst (pa_cons (pe_gc (by rfl) (s_END E)) pa_nil)) (pe_lst pa_nil)))))))))), ?_⟩), g_area_wrong E, F.kp, F.bindsN (fun _ _ _ _ _ _ us hl => match us, hl with | [_], _ => rfl), .nil⟩
  · obtain ⟨i, m, t, rfl, _⟩ := h; rfl
  · obtain ⟨p, a, top, rfl, hA, ho, ht, hQ⟩ := h
    have hs := ho.sm ht
    have hb := ho.bounds
    obtain ⟨hs1, hs2, hs3, hs4⟩ := hs
    have hr3 := ho.rows3
    have hc1 := ho.count1
    have hp1 := ho.pitch1
    have hpl := ho.plain
    have hwi := ho.within
    have e4 : (4 : Int) = 4 := rfl
    refine ⟨_, rfl, _, _, _, _, true, rfl, .ty "tuple", ty_tup hA, kTT, _, rfl, ?_⟩
    refine iteF ⟨_, rfl, _, _, rfl, .inr hA, rfl, _, rfl, iteNS rfl ?_⟩
    refine ⟨by show 2 ≤ sizeLine; decide, fun t0 h0 => ⟨by show 2 ≤ sizeLine; decide, fun t1 h1 => ⟨by show 2 ≤ sizeLine; decide, fun t2 h2 => ⟨by show 2 ≤ sizeLine; decide, fun t3 h3 => ⟨by show 4 ≤ sizeLine; decide, fun tb hb4 => ?_⟩⟩⟩⟩⟩
    have hfin : ∃ H5, Same H H5 ∧ H5 t0 = some (.tup [.int 0, .int 1023]) ∧ H5 t1 = some (.tup [.int 1, .int 256]) ∧ H5 t2 = some (.tup [.int 1, .int 256]) ∧ H5 t3 = some (.tup [.int 1, .int 1023]) ∧ H5 tb = some (.tup [.ref t0, .ref t1, .ref t2, .ref t3]) ∧
        H5 = upd (upd (upd (upd (upd H t0 (.tup [.int 0, .int 1023])) t1 (.tup [.int 1, .int 256])) t2 (.tup [.int 1, .int 256])) t3 (.tup [.int 1, .int 1023])) tb (.tup [.ref t0, .ref t1, .ref t2, .ref t3]) := by
      have s1 := same_new (o := HO.tup [.int 0, .int 1023]) h0
      have s2 := same_new (o := HO.tup [.int 1, .int 256]) h1
      have s3 := same_new (o := HO.tup [.int 1, .int 256]) h2
      have s4 := same_new (o := HO.tup [.int 1, .int 1023]) h3
      have s5 := same_new (o := HO.tup [.ref t0, .ref t1, .ref t2, .ref t3]) hb4
      exact ⟨_, s1.trans (s2.trans (s3.trans (s4.trans s5))), (s2.trans (s3.trans (s4.trans s5))) _ _ upd_same, (s3.trans (s4.trans s5)) _ _ upd_same, (s4.trans s5) _ _ upd_same, s5 _ _ upd_same, upd_same, rfl⟩
    obtain ⟨H5, s5, g0, g1, g2, g3, gb, e5⟩ := hfin
    rw [← e5]
    clear e5 hb4 h3 h2 h1 h0
    refine ⟨_, rfl, tb, _, rfl, .of gb, ?_⟩
    refine for_it walk_enumT (fun i σ H1 => (∃ x2 x3 x4 : Option V, σ = [some (.ref p), some (.ref tb), x2, x3, x4, none, none, none, none, none]) ∧ Same H5 H1) ⟨⟨_, _, _, rfl⟩, Same.refl _⟩ (fun i σ H1 _ q => (Kt.same q.2).sq (.of gb)) (fun i x σ H1 H2 hi q y => ?_) (fun σ H1 q => ?_)
    · obtain ⟨⟨x2, x3, x4, rfl⟩, q⟩ := q
      obtain ⟨T, x, rfl, hT, rfl, hx⟩ := y
      have sm : Same H1 (upd H1 T (.tup [.int (i : Nat), x])) := same_new hT
      have hA2 : SqT K (upd H1 T (.tup [.int (i : Nat), x])) p [.int a.start, .int a.count, .int a.rows, .int a.pitch] := (Kt.same (s5.trans (q.trans sm))).sq hA
      have hi4 : i = 0 ∨ i = 1 ∨ i = 2 ∨ i = 3 := by simp only [List.length_cons, List.length_nil] at hi; omega
      rcases hi4 with rfl | rfl | rfl | rfl
      · cases hx
        refine ⟨T, _, rfl, .of upd_same, rfl, _, _, rfl, _, _, rfl, ⟨t0, _, rfl, .of (sm _ _ (q _ _ g0)), rfl, _, _, rfl, _, _, rfl, rfl, rfl, ?_⟩⟩
        refine ⟨_, rfl, _, rfl, p, _, _, _, rfl, rfl, hA2, atI_nat (j := 0) rfl, _, rfl, _, rfl, rfl, rfl, _, 0, 1023, rfl, true, ?_, iteF ⟨⟨_, _, _, rfl⟩, q.trans sm⟩⟩
        rw [show inB _ 0 1023 = true from Bool.and_eq_true_iff.mpr ⟨decide_eq_true (by omega), decide_eq_true (by omega)⟩]
      · cases hx
        refine ⟨T, _, rfl, .of upd_same, rfl, _, _, rfl, _, _, rfl, ⟨t1, _, rfl, .of (sm _ _ (q _ _ g1)), rfl, _, _, rfl, _, _, rfl, rfl, rfl, ?_⟩⟩
        refine ⟨_, rfl, _, rfl, p, _, _, _, rfl, rfl, hA2, atI_nat (j := 1) rfl, _, rfl, _, rfl, rfl, rfl, _, 1, 256, rfl, true, ?_, iteF ⟨⟨_, _, _, rfl⟩, q.trans sm⟩⟩
        rw [show inB _ 1 256 = true from Bool.and_eq_true_iff.mpr ⟨decide_eq_true (by omega), decide_eq_true (by omega)⟩]
      · cases hx
        refine ⟨T, _, rfl, .of upd_same, rfl, _, _, rfl, _, _, rfl, ⟨t2, _, rfl, .of (sm _ _ (q _ _ g2)), rfl, _, _, rfl, _, _, rfl, rfl, rfl, ?_⟩⟩
        refine ⟨_, rfl, _, rfl, p, _, _, _, rfl, rfl, hA2, atI_nat (j := 2) rfl, _, rfl, _, rfl, rfl, rfl, _, 1, 256, rfl, true, ?_, iteF ⟨⟨_, _, _, rfl⟩, q.trans sm⟩⟩
        rw [show inB _ 1 256 = true from Bool.and_eq_true_iff.mpr ⟨decide_eq_true (by omega), decide_eq_true (by omega)⟩]
      · cases hx
        refine ⟨T, _, rfl, .of upd_same, rfl, _, _, rfl, _, _, rfl, ⟨t3, _, rfl, .of (sm _ _ (q _ _ g3)), rfl, _, _, rfl, _, _, rfl, rfl, rfl, ?_⟩⟩
        refine ⟨_, rfl, _, rfl, p, _, _, _, rfl, rfl, hA2, atI_nat (j := 3) rfl, _, rfl, _, rfl, rfl, rfl, _, 1, 1023, rfl, true, ?_, iteF ⟨⟨_, _, _, rfl⟩, q.trans sm⟩⟩
        rw [show inB _ 1 1023 = true from Bool.and_eq_true_iff.mpr ⟨decide_eq_true (by omega), decide_eq_true (by omega)⟩]
    · obtain ⟨⟨x2, x3, x4, rfl⟩, q⟩ := q
      have hA2 := (Kt.same (s5.trans q)).sq hA
      refine ⟨_, rfl, p, _, rfl, hA2, rfl, _, _, rfl, _, _, rfl, _, _, rfl, _, _, rfl, rfl, ?_⟩
      refine ⟨_, rfl, _, rfl, _, _, rfl, rfl, _, rfl, iteDF (by omega) ?_⟩
      refine ⟨_, rfl, rfl, _, rfl, ?_⟩
      have tail : ((a.start : Int) + ((a.rows : Int) - 1) * (a.pitch : Int) + (a.count : Int) ≤ 1024) ∧ ((a.rows : Int) * (a.count : Int) ≤ 256) := by
        rcases hr3 with e | e | e <;> rw [e] at hwi ⊢ <;> constructor <;> (try simp only [Nat.sub_self, Nat.zero_mul] at hwi) <;> omega
      obtain ⟨tl1, tl2⟩ := tail
      by_cases e1 : a.rows = 1
      · refine iteDT (by rw [e1]; rfl) ⟨_, rfl, _, rfl, rfl, _, rfl, iteNS (by rw [hpl e1]) ?_⟩
        exact ⟨_, rfl, _, rfl, _, _, rfl, rfl, _, rfl, _, _, rfl, rfl, .inl ⟨by omega, by omega⟩, _, _, rfl, rfl, _, rfl, _, _, rfl, rfl, _, _, rfl, rfl,
          _, rfl, _, rfl, iteDF (by omega) ⟨_, rfl, _, rfl, _, _, rfl, rfl, .inl ⟨by omega, by omega⟩, _, _, rfl, rfl, _, rfl, iteDF (by omega) ⟨by show 0 ≤ sizeLine; decide, fun l hl => hQ _ _ (s5.trans (q.trans (same_new hl))) ((s5.trans q).free hl) upd_same⟩⟩⟩
      · refine iteDF (fun z => e1 (by have z2 : (a.rows : Int) = 1 := V.int.inj z; omega)) ?_
        exact ⟨_, rfl, _, rfl, _, _, rfl, rfl, _, rfl, _, _, rfl, rfl, .inl ⟨by omega, by omega⟩, _, _, rfl, rfl, _, rfl, _, _, rfl, rfl, _, _, rfl, rfl,
          _, rfl, _, rfl, iteDF (by omega) ⟨_, rfl, _, rfl, _, _, rfl, rfl, .inl ⟨by omega, by omega⟩, _, _, rfl, rfl, _, rfl, iteDF (by omega) ⟨by show 0 ≤ sizeLine; decide, fun l hl => hQ _ _ (s5.trans (q.trans (same_new hl))) ((s5.trans q).free hl) upd_same⟩⟩⟩
end
end K24
end
section
set_option Elab.async false
set_option linter.all false
set_option maxRecDepth 100000
set_option maxHeartbeats 2000000
namespace K24
open PySem PySem.Spec PyProof.Rows L2 C8
section
variable {P : Program} {w : World} {K : PySem.W.Frag} {mg : Str → Option Value} {base : Heap}
def IntIn (x : V) (lo hi : Int) : Prop := ∃ i : Int, x = .int i ∧ lo ≤ i ∧ i ≤ hi
theorem inB_true {i lo hi : Int} (h1 : lo ≤ i) (h2 : i ≤ hi) : inB i lo hi = true := Bool.and_eq_true_iff.mpr ⟨decide_eq_true h1, decide_eq_true h2⟩
def ThOk (K : PySem.W.Frag) (H : Hp) (x : V) (k : Str) : Prop :=
  (k = "A" ∧ ∃ (p : Addr) (a : Area) (top : Nat), x = .ref p ∧ ArAt K H p a ∧ a.Ok top ∧ top ≤ 64) ∨ (k = "B" ∧ IntIn x 0 255) ∨ (k = "C" ∧ IntIn x 0 1023) ∨ (k = "F" ∧ IntIn x 0 7) ∨ (k = "N" ∧ IntIn x 1 99) ∨ k = "S"
def spIsThing (K : PySem.W.Frag) : Sp := fun vs H Q _ => ∃ (x : V) (k : Str), vs = [x, .str k] ∧ ThOk K H x k ∧ ∀ H', Same H H' → Q (.bl true) H'
abbrev NIsThing : List Str := ["thing", "kind"]
theorem scIsThing : FnScope NIsThing ["thing", "kind"] (defScope sIsThing) := ⟨rfl, rfl, rfl, by decide +kernel, rfl, by decide +kernel, by decide +kernel⟩
theorem cal_IsThing (E : Wd w K mg) : C8.Cal P w K mg base 3 "is_thing" (spIsThing K) [] := by
  obtain ⟨fd, F⟩ := fIsThing E
  refine ⟨_, fd, ["thing", "kind"], [], F.ok scIsThing (fun vs H Q E h => ?_) (fun cdv A outer s H vs Q E' hr h => ⟨_, PSs.nox (pss_cons (ps_if (pt_cmpR op_eq (pv 1) pe_str (nomark _)) (pss_one (ps_ret (pe_cmpR (op_eqE hr.units0) (C8.pe_c (cal_AreaWrong E) hr (by decide) (by rfl) (pa_cons (pv 0) pa_nil)) (pe_lst pa_nil) (nomark _)))) pss_nil)
      (pss_cons (ps_if (pt_cmpR op_eq (pv 1) pe_str (nomark _)) (pss_one (ps_ret (C8.pe_c (cal_IsByte E) hr (by decide) (by rfl) (pa_cons (pv 0) pa_nil)))) pss_nil)
      (pss_cons (ps_if (pt_cmpR op_eq (pv 1) pe_str (nomark _)) (pss_one (ps_ret (pe_ck (cal_IsWhole1 E) hr (by decide) (by rfl) (pa_cons (pv 0) pa_nil) (pk_cons (pe_gc (by rfl) (i_GREATEST_CELL E)) pk_nil)))) pss_nil)
      (pss_cons (ps_if (pt_cmpR op_eq (pv 1) pe_str (nomark _)) (pss_one (ps_ret (C8.pe_c (cal_IsFlag E) hr (by decide) (by rfl) (pa_cons (pv 0) pa_nil)))) pss_nil)
      (pss_cons (ps_if (pt_cmpR op_eq (pv 1) pe_str (nomark _)) (pss_one (ps_ret (pe_ck (cal_IsWhole1 E) hr (by decide) (by rfl) (pa_cons (pv 0) pa_nil) (pk_cons pe_int pk_nil)))) pss_nil)
      (pss_cons (ps_if (pt_cmpR op_eq (pv 1) pe_str (nomark _)) (pss_one (ps_ret (pe_ck (cal_IsWhole2 E) hr (by decide) (by rfl) (pa_cons (pv 0) pa_nil) (pk_cons pe_int (pk_cons (pe_gc (by rfl) (i_MOST_NOTED E)) pk_nil))))) pss_nil)
      (pss_one (ps_ret (pe_or (pe_cmpR op_eq (pv 1) pe_str (nomark _)) (pe_one pe_never)))))))))), ?_⟩), g_is_thing E, F.kp, F.bindsN (fun _ _ _ _ _ _ us hl => match us, hl with | [_, _], _ => rfl), .nil⟩
  · obtain ⟨x, k, rfl, _⟩ := h; rfl
  · obtain ⟨x, k, rfl, ht, hQ⟩ := h
    rcases ht with ⟨rfl, p, a, top, rfl, h1, h2, h3⟩ | ⟨rfl, i, rfl, h1, h2⟩ | ⟨rfl, i, rfl, h1, h2⟩ | ⟨rfl, i, rfl, h1, h2⟩ | ⟨rfl, i, rfl, h1, h2⟩ | rfl
    · refine ⟨_, rfl, rfl, _, rfl, iteDT rfl ⟨_, rfl, p, a, top, rfl, h1, h2, h3, fun H' t hs hn hl => ⟨by show 0 ≤ sizeLine; decide, fun l hl2 => ⟨_, _, _, rfl, rfl, .inl ⟨.of (same_new hl2 _ _ hl), .of upd_same⟩, hQ _ (hs.trans (same_new hl2))⟩⟩⟩⟩
    · refine ⟨_, rfl, rfl, _, rfl, iteDF (by decide +kernel) ⟨_, rfl, rfl, _, rfl, iteDT rfl ⟨_, rfl, _, rfl, ?_⟩⟩⟩
      rw [inB_true h1 h2]; exact hQ _ (Same.refl _)
    · refine ⟨_, rfl, rfl, _, rfl, iteDF (by decide +kernel) ⟨_, rfl, rfl, _, rfl, iteDF (by decide +kernel) ⟨_, rfl, rfl, _, rfl, iteDT rfl ⟨_, rfl, rfl, rfl, _, 0, 1023, rfl, ?_⟩⟩⟩⟩
      rw [inB_true h1 h2]; exact hQ _ (Same.refl _)
    · refine ⟨_, rfl, rfl, _, rfl, iteDF (by decide +kernel) ⟨_, rfl, rfl, _, rfl, iteDF (by decide +kernel) ⟨_, rfl, rfl, _, rfl, iteDF (by decide +kernel) ⟨_, rfl, rfl, _, rfl, iteDT rfl ⟨_, rfl, _, rfl, ?_⟩⟩⟩⟩⟩
      rw [inB_true h1 h2]; exact hQ _ (Same.refl _)
    · refine ⟨_, rfl, rfl, _, rfl, iteDF (by decide +kernel) ⟨_, rfl, rfl, _, rfl, iteDF (by decide +kernel) ⟨_, rfl, rfl, _, rfl, iteDF (by decide +kernel) ⟨_, rfl, rfl, _, rfl, iteDF (by decide +kernel) ⟨_, rfl, rfl, _, rfl, iteDF (by decide +kernel) ⟨_, rfl, rfl, _, rfl, iteDT rfl ⟨_, rfl, rfl, rfl, _, 1, 99, rfl, ?_⟩⟩⟩⟩⟩⟩⟩
      rw [inB_true h1 h2]; exact hQ _ (Same.refl _)
    · refine ⟨_, rfl, rfl, _, rfl, iteDF (by decide +kernel) ⟨_, rfl, rfl, _, rfl, iteDF (by decide +kernel) ⟨_, rfl, rfl, _, rfl, iteDF (by decide +kernel) ⟨_, rfl, rfl, _, rfl, iteDF (by decide +kernel) ⟨_, rfl, rfl, _, rfl, iteDF (by decide +kernel) ⟨_, rfl, rfl, _, rfl, iteDF (by decide +kernel) ⟨_, rfl, rfl, _, rfl, iteDT rfl (hQ _ (Same.refl _))⟩⟩⟩⟩⟩⟩⟩
abbrev formsV (K : PySem.W.Frag) : List (Key × V) := forms0.map fun q => ((Sum.inr q.1 : Key), q.2.v K)
def spFormOf (K : PySem.W.Frag) : Sp := fun vs H Q _ => ∃ (p d : Addr) (z ks : Str) (xs : List V), vs = [.ref p, .ref d] ∧ SqT K H p (.str z :: xs) ∧ H d = some (.dK (formsV K)) ∧ valV (formsV K) (Sum.inr z) = some (.str ks) ∧ xs.length = ks.length ∧ ks.length ≤ 10 ∧
  ∀ H' t, Same H H' → H t = none → H' t = some (.lst [.str ks]) → Q (.ref t) H'
abbrev NFormOf : List Str := ["thing", "forms", "kinds"]
theorem scFormOf : FnScope NFormOf ["thing", "forms"] (defScope sFormOf) := ⟨rfl, rfl, rfl, by decide +kernel, rfl, by decide +kernel, by decide +kernel⟩
theorem cal_FormOf (E : Wd w K mg) : C8.Cal P w K mg base 1 "form_of" (spFormOf K) [] := by
  obtain ⟨fd, F⟩ := fFormOf E
  refine ⟨_, fd, ["thing", "forms"], [], F.ok scFormOf (fun vs H Q E h => ?_) (fun cdv A outer s H vs Q E' hr h => ⟨_, PSs.nox (pss_cons (ps_if (PW.pt (pw_or (pt_not (pt_val (pe_callB call_isi (by rfl) (n_isinstance E) (by decide +kernel) (pa_cons (pv 0) (pa_cons (pe_bltn (by rfl) (n_tuple E) (by decide +kernel) (v := .ty "tuple") (u := .type "tuple") rfl) pa_nil))))) (pw_or (pt_cmpR (op_eqE hr.units0) (pv 0) (pe_tup pa_nil) (nomark _)) (pw_or (pt_not (pt_val (pe_callB call_isi (by rfl) (n_isinstance E) (by decide +kernel) (pa_cons (pe_ix ix_tup (pv 0) pe_int (fun _ _ => rfl)) (pa_cons (pe_bltn (by rfl) (n_str E) (by decide +kernel) (v := .ty "str") (u := .type "str") rfl) pa_nil))))) (pw_or1 (pt_cmp (pc_dnotin (hu_of hr) (pe_ix ix_tup (pv 0) pe_int (fun _ _ => rfl)) (pv 1)))))))) (pss_one (ps_ret (pe_lst pa_nil))) pss_nil)
      (pss_cons (ps_set (i := 2) scFormOf.nd rfl (.inl rfl) (pe_dget (hu_of hr) (pv 1) (pe_ix ix_tup (pv 0) pe_int (fun _ _ => rfl)) (fun _ _ => rfl)))
      (pss_one (ps_ret (pe_ifExp (pt_cmpR op_eq (pe_callB call_len_seq (by rfl) (n_len E) (by decide +kernel) (pa_cons (pv 0) pa_nil)) (pe_op op_add (pe_callB call_len_str (by rfl) (n_len E) (by decide +kernel) (pa_cons (pv 2) pa_nil)) pe_int) (nomark _)) (pe_lst (pa_cons (pv 2) pa_nil)) (pe_lst pa_nil)))))), ?_⟩), g_form_of E, F.kp, F.bindsN (fun _ _ _ _ _ _ us hl => match us, hl with | [_, _], _ => rfl), .nil⟩
  · obtain ⟨p, d, z, ks, xs, rfl, _⟩ := h; rfl
  · obtain ⟨p, d, z, ks, xs, rfl, hS, hd, hv, hl, hk, hQ⟩ := h
    refine ⟨_, rfl, _, _, _, _, true, rfl, .ty "tuple", ty_tup hS, kTT, _, rfl, iteF ?_⟩
    refine ⟨_, rfl, by show 0 ≤ sizeLine; decide, fun t0 h0 => ⟨_, _, _, rfl, rfl, .inr ⟨(Kt.same (same_new h0)).sq hS, .of upd_same⟩, _, rfl, iteF ?_⟩⟩
    have hS1 := (Kt.same (same_new (o := HO.tup []) h0)).sq hS
    refine ⟨_, rfl, p, _, _, _, rfl, rfl, hS1, atI_nat (j := 0) rfl, _, _, _, _, true, rfl, .ty "str", .base (.str z), kSS, _, rfl, iteF ?_⟩
    have hd1 : (upd H t0 (HO.tup [])) d = some (.dK (formsV K)) := same_new h0 _ _ hd
    have hg : DGet (upd H t0 (HO.tup [])) d (.str z) (some (.str ks)) := hv ▸ DGet.k (k := Sum.inr z) hd1
    refine ⟨_, rfl, p, _, _, _, rfl, rfl, hS1, atI_nat (j := 0) rfl, _, rfl, d, _, rfl, hg, _, rfl, iteF ?_⟩
    refine ⟨_, rfl, _, rfl, p, _, _, _, rfl, rfl, hS1, atI_nat (j := 0) rfl, d, _, rfl, hg, ?_⟩
    refine ⟨_, rfl, _, _, rfl, .inr hS1, _, rfl, _, rfl, by rw [sizeLine_eq]; omega, _, _, rfl, rfl, rfl, _, rfl, iteDT ?_ ⟨_, rfl, by show 1 ≤ sizeLine; decide, fun l hl2 => hQ _ _ ((same_new h0).trans (same_new hl2)) ((same_new h0).free hl2) upd_same⟩⟩
    rw [List.length_cons, hl]; rfl
/-! ### things_wrong -/
def spThingsWrong (K : PySem.W.Frag) : Sp := fun vs H Q _ => ∃ (p : Addr) (ks : Str) (xs : List V), vs = [.ref p, .str ks] ∧ SqT K H p xs ∧ (∀ (i c : Nat), ks.cps[i]? = some c → ∃ x, xs[i + 1]? = some x ∧ ThOk K H x ⟨#[c]⟩) ∧
  ∀ H' t, Same H H' → H t = none → H' t = some (.lst []) → Q (.ref t) H'
theorem ThOk.same {K : PySem.W.Frag} {H H' : Hp} {x : V} {k : Str} (s : Same H H') (h : ThOk K H x k) : ThOk K H' x k := by
  rcases h with ⟨e, p, a, top, e1, h1, h2, h3⟩ | h
  · exact .inl ⟨e, p, a, top, e1, h1.kt (Kt.same s), h2, h3⟩
  · exact .inr h
abbrev NThingsWrong : List Str := ["thing", "kinds", "number", "kind"]
theorem scThingsWrong : FnScope NThingsWrong ["thing", "kinds"] (defScope sThingsWrong) := ⟨rfl, rfl, rfl, by decide +kernel, rfl, by decide +kernel, by decide +kernel⟩
theorem cal_ThingsWrong (E : Wd w K mg) : C8.Cal P w K mg base 4 "things_wrong" (spThingsWrong K) [] := by
  obtain ⟨fd, F⟩ := fThingsWrong E
  refine ⟨_, fd, ["thing", "kinds"], [], F.ok scThingsWrong (fun vs H Q E h => ?_) (fun cdv A outer s H vs Q E' hr h => ⟨_, PSs.nox (pss_one (ps_ret (pe_slice sl_list (pe_lc (own := [("number", 2), ("kind", 3)]) (by rfl) scThingsWrong.nd (pi_enumS (by rfl) (n_enumerate E) (pa_cons (pv 1) pa_nil)) (blkOk_by (own := [("number", 2), ("kind", 3)]) (N := NThingsWrong) (sc := defScope sThingsWrong) (by decide +kernel)) (fun _ _ _ _ _ => (pg_tupK (K := K) (n := 2) rfl rfl (pgs_cons (pg_name (i := 2) scThingsWrong.nd rfl (Or.inl rfl)) (pgs_cons (pg_name (i := 3) scThingsWrong.nd rfl (Or.inl rfl)) pgs_nil)))) (fun _ _ _ _ _ => (pts_one (pt_not (pt_val (C8.pe_c (cal_IsThing E) hr (by decide) (by rfl) (pa_cons (pe_ix (ix_tupK (K := K) rfl) (pv 0) (pe_op op_add (pv 2) pe_int) (fun _ _ => rfl)) (pa_cons (pv 3) pa_nil))))))) (fun _ _ _ _ _ => (pe_op op_add (pv 2) pe_int))) po_none (po_some pe_int)))), ?_⟩), g_things_wrong E, F.kp, F.bindsN (fun _ _ _ _ _ _ us hl => match us, hl with | [_, _], _ => rfl), .nil⟩
  · obtain ⟨p, ks, xs, rfl, _⟩ := h; rfl
  · obtain ⟨p, ks, xs, rfl, hS, hk, hQ⟩ := h
    refine ⟨_, rfl, _, rfl, fun D hD => ?_⟩
    refine it_gen walk_enumS (fun i H1 => Same H H1 ∧ H1 D = some (.lst [])) ⟨same_new hD, upd_same⟩ (fun _ _ _ _ => trivial) (fun i x H1 H2 hi q y => ?_) (fun H1 q => ?_)
    · obtain ⟨q1, q2⟩ := q
      obtain ⟨T, c, rfl, hT, rfl, hc⟩ := y
      have s2 := q1.trans (same_new (o := HO.tup [.int (i : Nat), .str ⟨#[c]⟩]) hT)
      obtain ⟨x, hx, ho⟩ := hk i c hc
      refine ⟨T, _, rfl, .of upd_same, rfl, _, _, rfl, _, _, rfl, rfl, rfl, ?_⟩
      refine ⟨_, rfl, _, rfl, _, _, rfl, rfl, p, xs, _, _, rfl, rfl, (Kt.same s2).sq hS, atI_nat (j := i + 1) hx, _, rfl, x, _, rfl, ho.same s2, fun H3 s3 => ⟨true, rfl, s2.trans s3, s3 _ _ (same_new hT _ _ q2)⟩⟩
    · refine ⟨_, rfl, D, [], rfl, .of q.2, fun t ht => hQ _ _ (q.1.trans (same_new ht)) (q.1.free ht) upd_same⟩
/-! ### step_wrong -/
theorem st_form {top : Nat} {K : PySem.W.Frag} {H : Hp} {p : Addr} {s : Step} (h : StAt K H p s) (ho : s.Ok top) (ht : top ≤ 64) : ∃ (z ks : Str) (xs : List V), SqT K H p (.str z :: xs) ∧ valV (formsV K) (Sum.inr z) = some (.str ks) ∧ xs.length = ks.length ∧ ks.length ≤ 10 ∧
    ∀ (i c : Nat), ks.cps[i]? = some c → ∃ x, (V.str z :: xs)[i + 1]? = some x ∧ ThOk K H x ⟨#[c]⟩ := by
  cases s with
  | copy f t k =>
    obtain ⟨pf, pt, h1, h2, h3⟩ := h
    obtain ⟨o1, o2, o3, o4⟩ := ho
    refine ⟨"copy", "AAS", _, h1, rfl, rfl, by decide, fun i c e => ?_⟩
    have hi : i < 3 := (Array.getElem?_eq_some_iff.mp e).1
    rcases (show i = 0 ∨ i = 1 ∨ i = 2 by omega) with rfl | rfl | rfl <;> cases e
    · exact ⟨_, rfl, .inl ⟨rfl, pf, f, top, rfl, h2, o1, ht⟩⟩
    · exact ⟨_, rfl, .inl ⟨rfl, pt, t, top, rfl, h3, o2, ht⟩⟩
    · exact ⟨_, rfl, .inr (.inr (.inr (.inr (.inr rfl))))⟩
  | fill t v k =>
    obtain ⟨pt, h1, h2⟩ := h
    obtain ⟨o1, o2, o3, o4⟩ := ho
    refine ⟨"fill", "ABS", _, h1, rfl, rfl, by decide, fun i c e => ?_⟩
    have hi : i < 3 := (Array.getElem?_eq_some_iff.mp e).1
    rcases (show i = 0 ∨ i = 1 ∨ i = 2 by omega) with rfl | rfl | rfl <;> cases e
    · exact ⟨_, rfl, .inl ⟨rfl, pt, t, top, rfl, h2, o1, ht⟩⟩
    · exact ⟨_, rfl, .inr (.inl ⟨rfl, v, rfl, o2, by omega⟩)⟩
    · exact ⟨_, rfl, .inr (.inr (.inr (.inr (.inr rfl))))⟩
  | add f c0 =>
    obtain ⟨pt, h1, h2⟩ := h
    obtain ⟨o1, o2⟩ := ho
    refine ⟨"add", "AC", _, h1, rfl, rfl, by decide, fun i c e => ?_⟩
    have hi : i < 2 := (Array.getElem?_eq_some_iff.mp e).1
    rcases (show i = 0 ∨ i = 1 by omega) with rfl | rfl <;> cases e
    · exact ⟨_, rfl, .inl ⟨rfl, pt, f, top, rfl, h2, o1, ht⟩⟩
    · exact ⟨_, rfl, .inr (.inr (.inl ⟨rfl, c0, rfl, by omega, by omega⟩))⟩
  | note g =>
    refine ⟨"note", "F", _, h, rfl, rfl, by decide, fun i c e => ?_⟩
    have hi : i < 1 := (Array.getElem?_eq_some_iff.mp e).1
    have ho : g < 8 := ho
    obtain rfl : i = 0 := by omega
    cases e
    exact ⟨_, rfl, .inr (.inr (.inr (.inl ⟨rfl, g, rfl, by omega, by omega⟩)))⟩
  | wait g n =>
    obtain ⟨o1, o2, o3⟩ := ho
    refine ⟨"wait", "FN", _, h, rfl, rfl, by decide, fun i c e => ?_⟩
    have hi : i < 2 := (Array.getElem?_eq_some_iff.mp e).1
    rcases (show i = 0 ∨ i = 1 by omega) with rfl | rfl <;> cases e
    · exact ⟨_, rfl, .inr (.inr (.inr (.inl ⟨rfl, g, rfl, by omega, by omega⟩)))⟩
    · exact ⟨_, rfl, .inr (.inr (.inr (.inr (.inl ⟨rfl, n, rfl, by omega, by omega⟩))))⟩
  | fence =>
    refine ⟨"fence", "", _, h, rfl, rfl, by decide, fun i c e => ?_⟩
    have hi : i < 0 := (Array.getElem?_eq_some_iff.mp e).1
    omega
def spStepWrong (K : PySem.W.Frag) : Sp := fun vs H Q _ => ∃ (p : Addr) (s : Step) (top : Nat), vs = [.ref p] ∧ StAt K H p s ∧ s.Ok top ∧ top ≤ 64 ∧ ∀ H' t, Same H H' → H t = none → H' t = some (.lst []) → Q (.ref t) H'
abbrev NStepWrong : List Str := ["thing", "kinds", "wrong"]
theorem scStepWrong : FnScope NStepWrong ["thing"] (defScope sStepWrong) := ⟨rfl, rfl, rfl, by decide +kernel, rfl, by decide +kernel, by decide +kernel⟩
theorem cal_StepWrong (E : Wd w K mg) : C8.Cal P w K mg base 5 "step_wrong" (spStepWrong K) [] := by
  obtain ⟨fd, F⟩ := fStepWrong E
  refine ⟨_, fd, ["thing"], [], F.ok scStepWrong (fun vs H Q E h => ?_) (fun cdv A outer s H vs Q E' hr h => ⟨_, PSs.nox (pss_cons (ps_for PassesOwn.never rfl (pi_list (C8.pe_c (cal_FormOf E) hr (by decide) (by rfl) (pa_cons (pv 0) (pa_cons (pe_callTy (call_dictK (t_keys E) (t_vals E) (by decide +kernel) (by decide)) (by rfl) (n_dict E) (by decide +kernel) (pa_cons (pe_glob (by rfl) (g_STEP_FORMS E) (v := .ref (He.ga K "STEP_FORMS")) rfl) pa_nil)) pa_nil)))) (pg_name (i := 1) scStepWrong.nd rfl (Or.inl rfl)) (pss_cons (ps_set (i := 2) scStepWrong.nd rfl (.inl rfl) (C8.pe_c (cal_ThingsWrong E) hr (by decide) (by rfl) (pa_cons (pv 0) (pa_cons (pv 1) pa_nil))))
      (pss_cons (ps_if (PW.pt (pw_or (pt_cmpR (op_neE hr.units0) (pv 2) (pe_lst pa_nil) (nomark _)) (pw_or1 (pt_cmpR op_notIn_seq (pe_ix ix_tup (pv 0) pe_int (fun _ _ => rfl)) (pe_tup (pa_cons (pe_gc (by rfl) (s_COPY_steps E)) (pa_cons (pe_gc (by rfl) (s_FILL_steps E)) pa_nil))) (by rfl))))) (pss_one (ps_ret (pv 2))) pss_nil)
      (pss_cons (ps_if (PW.pt (pw_and (pt_cmpR op_eq (pe_ix ix_tup (pv 0) pe_int (fun _ _ => rfl)) (pe_gc (by rfl) (s_COPY_steps E)) (nomark _)) (pw_and1 (pt_cmpR op_ne (C8.pe_c (cal_OwnSize E) hr (by decide) (by rfl) (pa_cons (pe_ix ix_tup (pv 0) pe_int (fun _ _ => rfl)) pa_nil)) (C8.pe_c (cal_OwnSize E) hr (by decide) (by rfl) (pa_cons (pe_ix ix_tup (pv 0) pe_int (fun _ _ => rfl)) pa_nil)) (nomark _))))) (pss_one (ps_ret (pe_lst (pa_cons (pe_gc (by rfl) (s_SIZE E)) pa_nil)))) pss_nil)
      (pss_one (ps_ret (pe_ifExp (pt_val (pe_ck (cal_IsWhole1 E) hr (by decide) (by rfl) (pa_cons (pe_ix ix_tup (pv 0) pe_int (fun _ _ => rfl)) pa_nil) (pk_cons (pe_op op_sub (C8.pe_c (cal_OwnSize E) hr (by decide) (by rfl) (pa_cons (pe_ix ix_tup (pv 0) pe_int (fun _ _ => rfl)) pa_nil)) pe_int) pk_nil))) (pe_lst pa_nil) (pe_lst (pa_cons (pe_gc (by rfl) (s_SKIP E)) pa_nil)))))))))
      (pss_one (ps_ret (pe_lst (pa_cons pe_non pa_nil))))), ?_⟩), g_step_wrong E, F.kp, F.bindsN (fun _ _ _ _ _ _ us hl => match us, hl with | [_], _ => rfl), .nil⟩
  · obtain ⟨p, s, top, rfl, _⟩ := h; rfl
  · obtain ⟨p, st, top, rfl, hS, ho, ht, hQ⟩ := h
    obtain ⟨z, ks, xs, f1, f2, f3, f4, f5⟩ := st_form hS ho ht
    refine ⟨_, rfl, rfl, fun d hd => ⟨p, d, z, ks, xs, rfl, (Kt.same (same_new hd)).sq f1, upd_same, f2, f3, f4, fun H1 t1 s1 n1 l1 => ⟨t1, rfl, ⟨_, .of l1⟩, ?_⟩⟩⟩
    have s01 : Same H H1 := (same_new hd).trans s1
    refine for_it (walk_list (K := K) (a := t1) (xs := [V.str ks])) (fun i σ H2 => i = 0 ∧ σ = [some (.ref p), none, none] ∧ H2 = H1) ⟨rfl, rfl, rfl⟩ (fun i σ H2 _ q => by rw [q.2.2]; exact .of l1) (fun i x σ H2 H3 hi q y => ?_) (fun σ H2 q => absurd q.1 (Nat.succ_ne_zero 0))
    obtain ⟨rfl, rfl, rfl⟩ := q
    obtain ⟨rfl, hx⟩ := y
    cases hx
    refine ⟨_, rfl, _, rfl, p, ks, _, rfl, (Kt.same s01).sq f1, (fun i c e => (f5 i c e).imp fun x q => ⟨q.1, q.2.same s01⟩), fun H4 t2 s2 n2 l2 => ⟨_, rfl, by show 0 ≤ sizeLine; decide, fun t3 h3 => ⟨t2, t3, [], rfl, rfl, .inl ⟨.of (same_new h3 _ _ l2), .of upd_same⟩, _, rfl, iteF ?_⟩⟩⟩
    have s05 : Same H (upd H4 t3 (.lst [])) := s01.trans (s2.trans (same_new h3))
    have l5 : (upd H4 t3 (.lst [])) t2 = some (.lst []) := same_new h3 _ _ l2
    have n5 : H t2 = none := s01.free n2
    generalize upd H4 t3 (HO.lst []) = H5 at s05 l5 ⊢
    have k05 := Kt.same s05
    cases st with
    | copy f t k =>
      obtain ⟨pf, pt, h1, h2, h3⟩ := hS
      obtain ⟨o1, o2, o3, o4⟩ := ho
      refine ⟨_, rfl, p, _, _, _, rfl, rfl, k05.sq h1, atI_nat (j := 0) rfl, by show 2 ≤ sizeLine; decide, fun t4 h4 => ⟨t4, _, rfl, .inr (.of upd_same), rfl, rfl, _, rfl, iteF ?_⟩⟩
      have s06 := s05.trans (same_new (o := HO.tup [.str "copy", .str "fill"]) h4)
      have k06 := Kt.same s06
      have sf := o1.sm ht
      have st' := o2.sm ht
      have pos := o1.size_pos
      refine ⟨_, rfl, p, _, _, _, rfl, rfl, k06.sq h1, atI_nat (j := 0) rfl, rfl, _, rfl, iteDT rfl ⟨_, rfl, p, _, _, _, rfl, rfl, k06.sq h1, atI_nat (j := 1) rfl, pf, f, rfl, h2.kt k06, sf, ?_⟩⟩
      refine ⟨_, rfl, p, _, _, _, rfl, rfl, k06.sq h1, atI_nat (j := 2) rfl, pt, t, rfl, h3.kt k06, st', rfl, _, rfl, iteNS (by rw [o3]) ?_⟩
      refine ⟨_, rfl, p, _, _, _, rfl, rfl, k06.sq h1, atI_nat (j := 3) rfl, ⟨_, rfl, p, _, _, _, rfl, rfl, k06.sq h1, atI_nat (j := 1) rfl, pf, f, rfl, h2.kt k06, sf, _, _, rfl, rfl, rfl, rfl, (k : Int), 0, (f.size : Int) - 1, rfl, _, rfl, ?_⟩⟩
      rw [inB_true (by omega) (by omega)]
      exact ⟨by show 0 ≤ sizeLine; decide, fun l hl => hQ _ _ (s06.trans (same_new hl)) (s06.free hl) upd_same⟩
    | fill t v k =>
      obtain ⟨pt, h1, h2⟩ := hS
      obtain ⟨o1, o2, o3, o4⟩ := ho
      refine ⟨_, rfl, p, _, _, _, rfl, rfl, k05.sq h1, atI_nat (j := 0) rfl, by show 2 ≤ sizeLine; decide, fun t4 h4 => ⟨t4, _, rfl, .inr (.of upd_same), rfl, rfl, _, rfl, iteF ?_⟩⟩
      have s06 := s05.trans (same_new (o := HO.tup [.str "copy", .str "fill"]) h4)
      have k06 := Kt.same s06
      have st' := o1.sm ht
      have pos := o1.size_pos
      refine ⟨_, rfl, p, _, _, _, rfl, rfl, k06.sq h1, atI_nat (j := 0) rfl, rfl, _, rfl, iteDF (by decide +kernel) ?_⟩
      refine ⟨_, rfl, p, _, _, _, rfl, rfl, k06.sq h1, atI_nat (j := 3) rfl, ⟨_, rfl, p, _, _, _, rfl, rfl, k06.sq h1, atI_nat (j := 1) rfl, pt, t, rfl, h2.kt k06, st', _, _, rfl, rfl, rfl, rfl, (k : Int), 0, (t.size : Int) - 1, rfl, _, rfl, ?_⟩⟩
      rw [inB_true (by omega) (by omega)]
      exact ⟨by show 0 ≤ sizeLine; decide, fun l hl => hQ _ _ (s06.trans (same_new hl)) (s06.free hl) upd_same⟩
    | add f c0 =>
      obtain ⟨pf, h1, h2⟩ := hS
      refine ⟨_, rfl, p, _, _, _, rfl, rfl, k05.sq h1, atI_nat (j := 0) rfl, by show 2 ≤ sizeLine; decide, fun t4 h4 => ⟨t4, _, rfl, .inr (.of upd_same), rfl, rfl, _, rfl, iteT ⟨_, rfl, ?_⟩⟩⟩
      exact hQ _ _ (s05.trans (same_new h4)) n5 (same_new h4 _ _ l5)
    | note g =>
      have h1 := hS
      dsimp only [StAt] at h1
      refine ⟨_, rfl, p, _, _, _, rfl, rfl, k05.sq h1, atI_nat (j := 0) rfl, by show 2 ≤ sizeLine; decide, fun t4 h4 => ⟨t4, _, rfl, .inr (.of upd_same), rfl, rfl, _, rfl, iteT ⟨_, rfl, ?_⟩⟩⟩
      exact hQ _ _ (s05.trans (same_new h4)) n5 (same_new h4 _ _ l5)
    | wait g n =>
      have h1 := hS
      dsimp only [StAt] at h1
      refine ⟨_, rfl, p, _, _, _, rfl, rfl, k05.sq h1, atI_nat (j := 0) rfl, by show 2 ≤ sizeLine; decide, fun t4 h4 => ⟨t4, _, rfl, .inr (.of upd_same), rfl, rfl, _, rfl, iteT ⟨_, rfl, ?_⟩⟩⟩
      exact hQ _ _ (s05.trans (same_new h4)) n5 (same_new h4 _ _ l5)
    | fence =>
      have h1 := hS
      dsimp only [StAt] at h1
      refine ⟨_, rfl, p, _, _, _, rfl, rfl, k05.sq h1, atI_nat (j := 0) rfl, by show 2 ≤ sizeLine; decide, fun t4 h4 => ⟨t4, _, rfl, .inr (.of upd_same), rfl, rfl, _, rfl, iteT ⟨_, rfl, ?_⟩⟩⟩
      exact hQ _ _ (s05.trans (same_new h4)) n5 (same_new h4 _ _ l5)
end
end K24
end
section
set_option Elab.async false
set_option linter.all false
set_option maxRecDepth 100000
set_option maxHeartbeats 2000000
namespace K24
open PySem PySem.Spec PyProof.Rows L2 C8
section
variable {P : Program} {w : World} {K : PySem.W.Frag} {mg : Str → Option Value} {base : Heap}
/-! ### need_step -/
def spNeedStep (K : PySem.W.Frag) : Sp := fun vs H Q _ => ∃ (p : Addr) (s : Step) (top : Nat), vs = [.ref p] ∧ StAt K H p s ∧ s.Ok top ∧ top ≤ 64 ∧ ∀ H', Same H H' → Q .non H'
abbrev NNeedStep : List Str := ["thing", "place"]
theorem scNeedStep : FnScope NNeedStep ["thing"] (defScope sNeedStep) := ⟨rfl, rfl, rfl, by decide +kernel, rfl, by decide +kernel, by decide +kernel⟩
theorem cal_NeedStep (E : Wd w K mg) : C8.Cal P w K mg base 6 "need_step" (spNeedStep K) [] := by
  obtain ⟨fd, F⟩ := fNeedStep E
  refine ⟨_, fd, ["thing"], [], F.ok scNeedStep (fun vs H Q E h => ?_) (fun cdv A outer s H vs Q E' hr h => ⟨_, PSs.nox (pss_one (ps_for PassesOwn.never rfl (pi_list (C8.pe_c (cal_StepWrong E) hr (by decide) (by rfl) (pa_cons (pv 0) pa_nil))) (pg_name (i := 1) scNeedStep.nd rfl (Or.inl rfl)) (pss_one ps_never))), ?_⟩), g_need_step E, F.kp, F.bindsN (fun _ _ _ _ _ _ us hl => match us, hl with | [_], _ => rfl), .nil⟩
  · obtain ⟨p, s, top, rfl, _⟩ := h; rfl
  · obtain ⟨p, st, top, rfl, hS, ho, ht, hQ⟩ := h
    refine ⟨_, rfl, p, st, top, rfl, hS, ho, ht, fun H1 t1 s1 n1 l1 => ⟨t1, rfl, ⟨_, .of l1⟩, ?_⟩⟩
    exact for_it (walk_list (K := K) (a := t1) (xs := [])) (fun i σ H2 => H2 = H1) rfl (fun i σ H2 _ q => by rw [q]; exact .of l1) (fun i x σ H2 H3 hi q y => absurd hi (Nat.not_lt_zero _)) (fun σ H2 q => by rw [q]; exact hQ _ s1)
def AllOk (top : Nat) (ss : List Step) : Prop := ∀ s ∈ ss, s.Ok top
/-! ### list_wrong -/
def spListWrong (K : PySem.W.Frag) : Sp := fun vs H Q _ => ∃ (p : Addr) (ss : List Step) (top : Nat), vs = [.ref p] ∧ LsAt K H p ss ∧ AllOk top ss ∧ top ≤ 64 ∧ 1 ≤ ss.length ∧ ss.length ≤ 64 ∧ ∀ H' t, Same H H' → H t = none → H' t = some (.lst []) → Q (.ref t) H'
abbrev NListWrong : List Str := ["thing", "number", "step"]
theorem scListWrong : FnScope NListWrong ["thing"] (defScope sListWrong) := ⟨rfl, rfl, rfl, by decide +kernel, rfl, by decide +kernel, by decide +kernel⟩
theorem cal_ListWrong (E : Wd w K mg) : C8.Cal P w K mg base 6 "list_wrong" (spListWrong K) [] := by
  obtain ⟨fd, F⟩ := fListWrong E
  refine ⟨_, fd, ["thing"], [], F.ok scListWrong (fun vs H Q E h => ?_) (fun cdv A outer s H vs Q E' hr h => ⟨_, PSs.nox (pss_cons (ps_if (PW.pt (pw_or (pt_not (pt_val (pe_callB call_isi (by rfl) (n_isinstance E) (by decide +kernel) (pa_cons (pv 0) (pa_cons (pe_bltn (by rfl) (n_tuple E) (by decide +kernel) (v := .ty "tuple") (u := .type "tuple") rfl) pa_nil))))) (pw_or1 (pt_not (pt_chain op_le op_le pe_int (pe_callB call_len_seq (by rfl) (n_len E) (by decide +kernel) (pa_cons (pv 0) pa_nil)) (pe_gc (by rfl) (i_MOST_STEPS E))))))) (pss_one (ps_ret (pe_lst (pa_cons pe_non pa_nil)))) pss_nil)
      (pss_one (ps_ret (pe_slice sl_list (pe_lc (own := [("number", 1), ("step", 2)]) (by rfl) scListWrong.nd (pi_enumT (by rfl) (n_enumerate E) (pa_cons (pv 0) pa_nil)) (blkOk_by (own := [("number", 1), ("step", 2)]) (N := NListWrong) (sc := defScope sListWrong) (by decide +kernel)) (fun _ _ _ _ _ => (pg_tupK (K := K) (n := 2) rfl rfl (pgs_cons (pg_name (i := 1) scListWrong.nd rfl (Or.inl rfl)) (pgs_cons (pg_name (i := 2) scListWrong.nd rfl (Or.inl rfl)) pgs_nil)))) (fun _ _ _ _ _ => (pts_one (pt_cmpR (op_neEK (K := K) rfl hr.units0) (C8.pe_c (cal_StepWrong E) hr (by decide) (by rfl) (pa_cons (pv 2) pa_nil)) (pe_lst pa_nil) (nomark _)))) (fun _ _ _ _ _ => (pv 1))) po_none (po_some pe_int))))), ?_⟩), g_list_wrong E, F.kp, F.bindsN (fun _ _ _ _ _ _ us hl => match us, hl with | [_], _ => rfl), .nil⟩
  · obtain ⟨p, s, top, rfl, _⟩ := h; rfl
  · obtain ⟨p, ss, top, rfl, ⟨as, hS, hA⟩, ho, ht, hl1, hl2, hQ⟩ := h
    have e : (as.map V.ref).length = ss.length := by rw [List.length_map]; exact hA.1
    refine ⟨_, rfl, _, _, _, _, true, rfl, .ty "tuple", ty_tup hS, kTT, _, rfl, iteF ?_⟩
    refine ⟨_, rfl, _, _, rfl, .inr hS, _, _, rfl, rfl, _, rfl, iteDT (by rw [e]; omega) ⟨_, _, rfl, rfl, _, rfl, iteNS (by rw [e]; omega) ?_⟩⟩
    refine ⟨_, rfl, p, _, rfl, hS, fun D hD => ?_⟩
    refine it_gen walk_enumT (fun i H1 => Same H H1 ∧ H1 D = some (.lst [])) ⟨same_new hD, upd_same⟩ (fun i H1 _ q => (Kt.same q.1).sq hS) (fun i x H1 H2 hi q y => ?_) (fun H1 q => ?_)
    · obtain ⟨q1, q2⟩ := q
      obtain ⟨T, x, rfl, hT, rfl, hx⟩ := y
      obtain ⟨a, rfl, ha⟩ := mapref_get hx
      obtain ⟨st, hs, hSt⟩ := hA.get ha
      have s2 := q1.trans (same_new (o := HO.tup [.int (i : Nat), .ref a]) hT)
      refine ⟨T, _, rfl, .of upd_same, rfl, _, _, rfl, _, _, rfl, rfl, rfl, ?_⟩
      refine ⟨_, rfl, a, st, top, rfl, hSt.kt (Kt.same s2), ho st (List.mem_of_getElem? hs), ht, fun H3 t3 s3 n3 l3 => ⟨by show 0 ≤ sizeLine; decide, fun l hl => ⟨t3, l, [], rfl, rfl, .inl ⟨.of (same_new hl _ _ l3), .of upd_same⟩, false, rfl, ?_⟩⟩⟩
      have s4 := s3.trans (same_new (o := HO.lst []) hl)
      exact ⟨s2.trans s4, s4 _ _ (same_new hT _ _ q2)⟩
    · refine ⟨_, rfl, D, [], rfl, .of q.2, fun t ht => hQ _ _ (q.1.trans (same_new ht)) (q.1.free ht) upd_same⟩
/-! ### need_list -/
def spNeedList (K : PySem.W.Frag) : Sp := fun vs H Q _ => ∃ (p : Addr) (ss : List Step) (top : Nat), vs = [.ref p] ∧ LsAt K H p ss ∧ AllOk top ss ∧ top ≤ 64 ∧ 1 ≤ ss.length ∧ ss.length ≤ 64 ∧ ∀ H', Same H H' → Q .non H'
abbrev NNeedList : List Str := ["thing", "place"]
theorem scNeedList : FnScope NNeedList ["thing"] (defScope sNeedList) := ⟨rfl, rfl, rfl, by decide +kernel, rfl, by decide +kernel, by decide +kernel⟩
theorem cal_NeedList (E : Wd w K mg) : C8.Cal P w K mg base 7 "need_list" (spNeedList K) [] := by
  obtain ⟨fd, F⟩ := fNeedList E
  refine ⟨_, fd, ["thing"], [], F.ok scNeedList (fun vs H Q E h => ?_) (fun cdv A outer s H vs Q E' hr h => ⟨_, PSs.nox (pss_one (ps_for PassesOwn.never rfl (pi_list (C8.pe_c (cal_ListWrong E) hr (by decide) (by rfl) (pa_cons (pv 0) pa_nil))) (pg_name (i := 1) scNeedList.nd rfl (Or.inl rfl)) (pss_one ps_never))), ?_⟩), g_need_list E, F.kp, F.bindsN (fun _ _ _ _ _ _ us hl => match us, hl with | [_], _ => rfl), .nil⟩
  · obtain ⟨p, s, top, rfl, _⟩ := h; rfl
  · obtain ⟨p, ss, top, rfl, hS, ho, ht, hl1, hl2, hQ⟩ := h
    refine ⟨_, rfl, p, ss, top, rfl, hS, ho, ht, hl1, hl2, fun H1 t1 s1 n1 l1 => ⟨t1, rfl, ⟨_, .of l1⟩, ?_⟩⟩
    exact for_it (walk_list (K := K) (a := t1) (xs := [])) (fun i σ H2 => H2 = H1) rfl (fun i σ H2 _ q => by rw [q]; exact .of l1) (fun i x σ H2 H3 hi q y => absurd hi (Nat.not_lt_zero _)) (fun σ H2 q => by rw [q]; exact hQ _ s1)
end
end K24
end
section
set_option Elab.async false
set_option linter.all false
set_option maxRecDepth 100000
set_option maxHeartbeats 2000000
namespace K24
open PySem PySem.Spec PyProof.Rows L2 C8
theorem cut_from {xs : List V} {k : Nat} (h : k ≤ xs.length) : cutV xs (some (k : Int)) none = xs.drop k := by
  unfold cutV
  rw [HT.sIx_nat, HT.sIx_none, Nat.min_eq_left h, List.take_of_length_le (by rw [List.length_drop]; exact Nat.le_refl _)]
theorem cut_to {xs : List V} {k : Nat} : cutV xs none (some (k : Int)) = xs.take k := by
  unfold cutV
  rw [HT.sIx_none, HT.sIx_nat, List.drop_zero, Nat.sub_zero]
  rcases Nat.le_total k xs.length with h | h
  · rw [Nat.min_eq_left h]
  · rw [Nat.min_eq_right h, List.take_of_length_le h, List.take_of_length_le (Nat.le_refl _)]
/-- t[lo:hi], whole or not -/
def rSlU (K : PySem.W.Frag) : V → Option Int → Option Int → Hp → VK → Prop := fun x lo hi H Q => ∃ a xs, x = .ref a ∧ SqT K H a xs ∧ ∀ p H', Same H H' → SqT K H' p (cutV xs lo hi) → Q (.ref p) H'
theorem sl_tupU {X : Cx} : SlR X (rSlU X.K) := by
  intro pins s σ H x v vl vu lo hi sl Q I rx hs pl pu h
  obtain ⟨a, xs, rfl, hx, q⟩ := h
  refine sl_tupA pins s σ H _ v vl vu lo hi sl Q I rx hs pl pu ⟨a, xs, rfl, hx, fun hw => q a H (Same.refl _) ?_, fun _ p np => q p _ (same_new np) (.of upd_same)⟩
  have e : cutV xs lo hi = xs := by
    unfold cutV
    rw [hw.1, hw.2, List.drop_zero, Nat.sub_zero, List.take_of_length_le (Nat.le_refl _)]
  rw [e]; exact hx
def wayS (b : Bool) : Str := if b = true then "w" else "r"
/-- the tuple at a holds the pairs of l -/
def TchAt (H : Hp) (a : Addr) (l : List Tch) : Prop := ∃ bs : List Addr, H a = some (.tup (bs.map V.ref)) ∧ bs.length = l.length ∧ ∀ (j : Nat) (b : Addr) (q : Tch), bs[j]? = some b → l[j]? = some q → H b = some (.tup [.str (wayS q.1), .int (q.2 : Nat)])
theorem TchAt.same {H H' : Hp} {a : Addr} {l : List Tch} (s : Same H H') (h : TchAt H a l) : TchAt H' a l := by
  obtain ⟨bs, h1, h2, h3⟩ := h
  exact ⟨bs, s _ _ h1, h2, fun j b q e1 e2 => s _ _ (h3 j b q e1 e2)⟩
theorem TchAt.one {H : Hp} {a b : Addr} {q : Tch} (h1 : H a = some (.tup [.ref b])) (h2 : H b = some (.tup [.str (wayS q.1), .int (q.2 : Nat)])) : TchAt H a [q] :=
  ⟨[b], h1, rfl, fun j b' q' e1 e2 => by
    cases j with
    | zero => cases e1; cases e2; exact h2
    | succ j => simp at e1⟩
theorem TchAt.two {H : Hp} {a b c : Addr} {q r : Tch} (h1 : H a = some (.tup [.ref b, .ref c])) (h2 : H b = some (.tup [.str (wayS q.1), .int (q.2 : Nat)])) (h3 : H c = some (.tup [.str (wayS r.1), .int (r.2 : Nat)])) : TchAt H a [q, r] :=
  ⟨[b, c], h1, rfl, fun j b' q' e1 e2 => by
    match j, e1, e2 with
    | 0, e1, e2 => cases e1; cases e2; exact h2
    | 1, e1, e2 => cases e1; cases e2; exact h3
    | j + 2, e1, _ => simp at e1⟩
theorem TchAt.nil {H : Hp} {a : Addr} (h1 : H a = some (.tup [])) : TchAt H a [] := ⟨[], h1, rfl, fun j b' q' e1 e2 => by simp at e1⟩
/-- tracked tuples stay -/
def Kq (H H' : Hp) : Prop := ∀ b xs, H b = some (.tup xs) → H' b = some (.tup xs)
theorem Kq.same {H H' : Hp} (s : Same H H') : Kq H H' := fun b xs e => s _ _ e
theorem Kq.upd {H : Hp} {a : Addr} {xs : List V} {u : HO} (h : H a = some (.lst xs)) : Kq H (upd H a u) := fun b ys e => by
  rw [upd_ne]
  · exact e
  · intro z; rw [z, h] at e; cases e
theorem TchAt.kq {H H' : Hp} {a : Addr} {l : List Tch} (s : Kq H H') (h : TchAt H a l) : TchAt H' a l := by
  obtain ⟨bs, h1, h2, h3⟩ := h
  exact ⟨bs, s _ _ h1, h2, fun j b q e1 e2 => s _ _ (h3 j b q e1 e2)⟩
def ChAt (H : Hp) (as : List Addr) (ts : List (List Tch)) : Prop := as.length = ts.length ∧ ∀ (i : Nat) (a : Addr) (l : List Tch), as[i]? = some a → ts[i]? = some l → TchAt H a l
theorem ChAt.same {H H' : Hp} {as : List Addr} {ts : List (List Tch)} (s : Same H H') (h : ChAt H as ts) : ChAt H' as ts := ⟨h.1, fun i a l e1 e2 => (h.2 i a l e1 e2).same s⟩
theorem ChAt.nil {H : Hp} : ChAt H [] [] := ⟨rfl, fun i a l e1 _ => by simp at e1⟩
theorem ChAt.snoc {H : Hp} {as : List Addr} {ts : List (List Tch)} {a : Addr} {l : List Tch} (h : ChAt H as ts) (g : TchAt H a l) : ChAt H (as ++ [a]) (ts ++ [l]) := by
  refine ⟨by rw [List.length_append, List.length_append, h.1]; rfl, fun i b m e1 e2 => ?_⟩
  rcases Nat.lt_or_ge i as.length with hi | hi
  · rw [List.getElem?_append_left hi] at e1
    rw [List.getElem?_append_left (by rw [← h.1]; exact hi)] at e2
    exact h.2 i b m e1 e2
  · rw [List.getElem?_append_right hi] at e1
    rw [List.getElem?_append_right (by rw [← h.1]; exact hi)] at e2
    rw [← h.1] at e2
    cases hk : i - as.length with
    | zero =>
      rw [hk] at e1 e2
      cases e1; cases e2
      exact g
    | succ k => rw [hk] at e1; simp at e1
theorem ChAt.kq {H H' : Hp} {as : List Addr} {ts : List (List Tch)} (s : Kq H H') (h : ChAt H as ts) : ChAt H' as ts := ⟨h.1, fun i a l e1 e2 => (h.2 i a l e1 e2).kq s⟩
theorem take_snoc {α : Type} {ts : List α} {i : Nat} {l : α} (e : ts[i]? = some l) : ts.take (i + 1) = ts.take i ++ [l] := by rw [List.take_add_one, e]; rfl
theorem ch_step {Hb H2 H5 : Hp} {R : Addr} {bs : List Addr} {ts : List (List Tch)} {i : Nat} {l : List Tch} {tc : Addr} (nR : Hb R = none) (q1 : Same Hb H2) (q3 : ChAt H2 bs (ts.take i)) (e : ts[i]? = some l) (s : Same H2 H5) (g : TchAt H5 tc l) (gR : H2 R = some (.lst (bs.map V.ref))) :
    Same Hb (upd H5 R (.lst (bs.map V.ref ++ [.ref tc]))) ∧ ∃ bs' : List Addr, (upd H5 R (.lst (bs.map V.ref ++ [.ref tc]))) R = some (.lst (bs'.map V.ref)) ∧ ChAt (upd H5 R (.lst (bs.map V.ref ++ [.ref tc]))) bs' (ts.take (i + 1)) := by
  have k : Kq H5 (upd H5 R (.lst (bs.map V.ref ++ [.ref tc]))) := Kq.upd (s _ _ gR)
  refine ⟨fun b o hb => ?_, bs ++ [tc], by rw [upd_same, List.map_append]; rfl, ?_⟩
  · rw [upd_ne (ne_of_none hb nR)]; exact s _ _ (q1 _ _ hb)
  · rw [take_snoc e]
    exact ((q3.same s).kq k).snoc (g.kq k)
section
variable {P : Program} {w : World} {K : PySem.W.Frag} {mg : Str → Option Value} {base : Heap}
def spAllTouches (K : PySem.W.Frag) : Sp := fun vs H Q _ => ∃ (p : Addr) (s : Step) (top : Nat), vs = [.ref p] ∧ StAt K H p s ∧ s.Ok top ∧ top ≤ 64 ∧ ∀ H' t as, Same H H' → H t = none → H' t = some (.lst (as.map V.ref)) → ChAt H' as s.touches → Q (.ref t) H'
abbrev NAllTouches : List Str := ["step", "pairs", "cell", "far"]
theorem scAllTouches : FnScope NAllTouches ["step"] (defScope sAllTouches) := ⟨rfl, rfl, rfl, by decide +kernel, rfl, by decide +kernel, by decide +kernel⟩
theorem cal_AllTouches (E : Wd w K mg) : C8.Cal P w K mg base 2 "all_touches" (spAllTouches K) [] := by
  obtain ⟨fd, F⟩ := fAllTouches E
  refine ⟨_, fd, ["step"], [], F.ok scAllTouches (fun vs H Q E h => ?_) (fun cdv A outer s H vs Q E' hr h => ⟨_, PSs.nox (pss_cons (ps_if (pt_cmpR op_eq (pe_ix ix_tup (pv 0) pe_int (fun _ _ => rfl)) (pe_gc (by rfl) (s_COPY_steps E)) (nomark _)) (pss_cons (ps_set (i := 1) scAllTouches.nd rfl (.inl rfl) (pe_slice sl_list (pe_listZip rfl (by rfl) (n_list E) (by rfl) (n_zip E) (pa_cons (C8.pe_c (cal_OwnCells E) hr (by decide) (by rfl) (pa_cons (pe_ix ix_tup (pv 0) pe_int (fun _ _ => rfl)) pa_nil)) (pa_cons (C8.pe_c (cal_OwnCells E) hr (by decide) (by rfl) (pa_cons (pe_ix ix_tup (pv 0) pe_int (fun _ _ => rfl)) pa_nil)) pa_nil))) (po_some (pe_ix ix_tup (pv 0) pe_int (fun _ _ => rfl))) po_none))
      (pss_one (ps_ret (pe_lc (own := [("cell", 2), ("far", 3)]) (by rfl) scAllTouches.nd (pi_list (pv 1)) (blkOk_by (own := [("cell", 2), ("far", 3)]) (N := NAllTouches) (sc := defScope sAllTouches) (by decide +kernel)) (fun _ _ _ _ _ => (pg_tupK (K := K) (n := 2) rfl rfl (pgs_cons (pg_name (i := 2) scAllTouches.nd rfl (Or.inl rfl)) (pgs_cons (pg_name (i := 3) scAllTouches.nd rfl (Or.inl rfl)) pgs_nil)))) (fun _ _ _ _ _ => pts_nil) (fun _ _ _ _ _ => (pe_tup (pa_cons (pe_tup (pa_cons (pe_gc (by rfl) (s_READ_steps E)) (pa_cons (pv 2) pa_nil))) (pa_cons (pe_tup (pa_cons (pe_gc (by rfl) (s_WRITE_steps E)) (pa_cons (pv 3) pa_nil))) pa_nil)))))))) pss_nil)
      (pss_cons (ps_if (pt_cmpR op_eq (pe_ix ix_tup (pv 0) pe_int (fun _ _ => rfl)) (pe_gc (by rfl) (s_FILL_steps E)) (nomark _)) (pss_one (ps_ret (pe_lc (own := [("cell", 2)]) (by rfl) scAllTouches.nd (pi_tup (pe_slice sl_tupU (C8.pe_c (cal_OwnCells E) hr (by decide) (by rfl) (pa_cons (pe_ix ix_tup (pv 0) pe_int (fun _ _ => rfl)) pa_nil)) (po_some (pe_ix ix_tup (pv 0) pe_int (fun _ _ => rfl))) po_none)) (blkOk_by (own := [("cell", 2)]) (N := NAllTouches) (sc := defScope sAllTouches) (by decide +kernel)) (fun _ _ _ _ _ => (pg_name (i := 2) scAllTouches.nd rfl (Or.inl rfl))) (fun _ _ _ _ _ => pts_nil) (fun _ _ _ _ _ => (pe_tup (pa_cons (pe_tup (pa_cons (pe_gc (by rfl) (s_WRITE_steps E)) (pa_cons (pv 2) pa_nil))) pa_nil)))))) pss_nil)
      (pss_cons (ps_if (pt_cmpR op_eq (pe_ix ix_tup (pv 0) pe_int (fun _ _ => rfl)) (pe_gc (by rfl) (s_ADD_steps E)) (nomark _)) (pss_one (ps_ret (pe_op op_cat (pe_lc (own := [("cell", 2)]) (by rfl) scAllTouches.nd (pi_tup (C8.pe_c (cal_OwnCells E) hr (by decide) (by rfl) (pa_cons (pe_ix ix_tup (pv 0) pe_int (fun _ _ => rfl)) pa_nil))) (blkOk_by (own := [("cell", 2)]) (N := NAllTouches) (sc := defScope sAllTouches) (by decide +kernel)) (fun _ _ _ _ _ => (pg_name (i := 2) scAllTouches.nd rfl (Or.inl rfl))) (fun _ _ _ _ _ => pts_nil) (fun _ _ _ _ _ => (pe_tup (pa_cons (pe_tup (pa_cons (pe_gc (by rfl) (s_READ_steps E)) (pa_cons (pv 2) pa_nil))) pa_nil)))) (pe_lst (pa_cons (pe_tup (pa_cons (pe_tup (pa_cons (pe_gc (by rfl) (s_WRITE_steps E)) (pa_cons (pe_ix ix_tup (pv 0) pe_int (fun _ _ => rfl)) pa_nil))) pa_nil)) pa_nil))))) pss_nil)
      (pss_one (ps_ret (pe_lst (pa_cons (pe_tup pa_nil) pa_nil))))))), ?_⟩), g_all_touches E, F.kp, F.bindsN (fun _ _ _ _ _ _ us hl => match us, hl with | [_], _ => rfl), .nil⟩
  · obtain ⟨p, s, top, rfl, _⟩ := h; rfl
  · obtain ⟨p, st, top, rfl, hS, ho, ht, hQ⟩ := h
    cases st with
    | copy f t k =>
      obtain ⟨pf, pt, h1, h2, h3⟩ := hS
      obtain ⟨o1, o2, o3, o4⟩ := ho
      have sf := o1.sm ht
      have st' := o2.sm ht
      have pos := o1.size_pos
      refine ⟨_, rfl, p, _, _, _, rfl, rfl, h1, atI_nat (j := 0) rfl, rfl, _, rfl, iteDT rfl ?_⟩
      refine ⟨_, rfl, p, _, _, _, rfl, rfl, h1, atI_nat (j := 1) rfl, pf, f, rfl, h2, sf, fun H1 t1 s1 n1 l1 => ?_⟩
      refine ⟨_, rfl, p, _, _, _, rfl, rfl, (Kt.same s1).sq h1, atI_nat (j := 2) rfl, pt, t, rfl, h3.kt (Kt.same s1), st', fun H2 t2 s2 n2 l2 => ?_⟩
      refine ⟨t1, t2, _, _, rfl, .inr ⟨.of (s2 _ _ l1), .of l2⟩, by rw [nums_len, nums_len, Area.cells_length, Area.cells_length, o3], by rw [nums_len, Area.cells_length]; omega, fun D as H3 s3 n3 l3 ha hp => ?_⟩
      have s13 := s1.trans (s2.trans s3)
      refine ⟨_, rfl, p, _, _, _, rfl, rfl, (Kt.same s13).sq h1, atI_nat (j := 3) rfl, _, rfl, D, _, rfl, .of l3, fun L nL => ?_⟩
      have hz : (f.cells.zip t.cells).length = f.size := by rw [List.length_zip, Area.cells_length, Area.cells_length, ← o3, Nat.min_self]
      have ha' : as.length = f.size := by rw [ha, nums_len, Area.cells_length]
      rw [cut_from (by rw [List.length_map, ha']; omega)]
      have s4 := same_new (o := HO.lst ((as.map V.ref).drop k)) nL
      have s14 := s13.trans s4
      refine ⟨_, rfl, L, rfl, ⟨_, .of upd_same⟩, fun R nR => ?_⟩
      have e5 : ((as.map V.ref).drop k).length = ((f.cells.zip t.cells).drop k).length := by rw [List.length_drop, List.length_drop, List.length_map, ha', hz]
      refine it_gen (walk_list (K := K) (a := L) (xs := (as.map V.ref).drop k)) (fun i H1 => Same (upd H3 L (HO.lst ((as.map V.ref).drop k))) H1 ∧ ∃ bs, H1 R = some (.lst (bs.map V.ref)) ∧ ChAt H1 bs ((Step.copy f t k).touches.take i)) ⟨same_new nR, [], upd_same, .nil⟩ (fun i H1 _ q => .of (q.1 _ _ upd_same)) (fun i x H1 H2 hi q y => ?_) (fun H1 q => ?_)
      · obtain ⟨q1, bs, q2, q3⟩ := q
        obtain ⟨rfl, hx⟩ := y
        rw [List.getElem?_drop, ] at hx
        obtain ⟨a, rfl, hxa⟩ := mapref_get hx
        obtain ⟨na, x, y, hx1, hy1, hp1⟩ := hp _ a hxa
        have hi2 : i < ((f.cells.zip t.cells).drop k).length := by rw [← e5]; exact hi
        obtain ⟨c, d, hcd⟩ : ∃ c d, ((f.cells.zip t.cells).drop k)[i]? = some (c, d) := ⟨_, _, List.getElem?_eq_getElem hi2⟩
        have hcd2 := hcd
        rw [List.getElem?_drop, List.getElem?_zip_eq_some] at hcd2
        obtain ⟨hc1, hd1⟩ := hcd2
        have ex : x = .int (c : Nat) := by
          unfold nums at hx1
          rw [List.getElem?_map, hc1] at hx1
          exact (Option.some.inj hx1).symm
        have ey : y = .int (d : Nat) := by
          unfold nums at hy1
          rw [List.getElem?_map, hd1] at hy1
          exact (Option.some.inj hy1).symm
        subst ex ey
        have hp2 := q1 _ _ (s4 _ _ hp1)
        refine ⟨a, _, rfl, .of hp2, rfl, _, _, rfl, _, _, rfl, rfl, rfl, ?_⟩
        have htl : (Step.copy f t k).touches[i]? = some [(false, c), (true, d)] := by
          show (((f.cells.zip t.cells).drop k).map _)[i]? = _
          rw [List.getElem?_map, hcd]; rfl
        refine ⟨_, rfl, by show 2 ≤ sizeLine; decide, fun ta nta => ⟨_, rfl, by show 2 ≤ sizeLine; decide, fun tb ntb => ⟨by show 2 ≤ sizeLine; decide, fun tc ntc => ?_⟩⟩⟩
        have sa := same_new (o := HO.tup [.str "r", .int (c : Nat)]) nta
        have sb := same_new (o := HO.tup [.str "w", .int (d : Nat)]) ntb
        have sc := same_new (o := HO.tup [.ref ta, .ref tb]) ntc
        refine ⟨_, sc _ _ (sb _ _ (sa _ _ q2)), ?_, ch_step nR q1 q3 htl (sa.trans (sb.trans sc)) (.two upd_same (sc _ _ (sb _ _ upd_same)) (sc _ _ upd_same)) q2⟩
        rw [List.length_map, q3.1, List.length_take, sizeLine_eq]
        rw [e5, List.length_drop, hz] at hi
        have : f.size ≤ 64 := Nat.le_trans o1.size_le ht
        omega
      · obtain ⟨q1, bs, q2, q3⟩ := q
        rw [List.take_of_length_le (by rw [e5]; exact Nat.le_of_eq (by simp [Step.touches]))] at q3
        exact hQ _ _ bs (s14.trans q1) (s14.free nR) q2 q3
    | fill t v k =>
      obtain ⟨pt, h1, h2⟩ := hS
      obtain ⟨o1, o2, o3, o4⟩ := ho
      have st' := o1.sm ht
      refine ⟨_, rfl, p, _, _, _, rfl, rfl, h1, atI_nat (j := 0) rfl, rfl, _, rfl, iteDF (by decide +kernel) ?_⟩
      refine ⟨_, rfl, p, _, _, _, rfl, rfl, h1, atI_nat (j := 0) rfl, rfl, _, rfl, iteDT rfl ?_⟩
      refine ⟨_, rfl, p, _, _, _, rfl, rfl, h1, atI_nat (j := 1) rfl, pt, t, rfl, h2, st', fun H1 t1 s1 n1 l1 => ?_⟩
      have hl : (nums t.cells).length = t.size := by rw [nums_len, Area.cells_length]
      refine ⟨_, rfl, p, _, _, _, rfl, rfl, (Kt.same s1).sq h1, atI_nat (j := 3) rfl, _, rfl, t1, _, rfl, .of l1, fun L H2 s2 hL => ?_⟩
      rw [cut_from (by rw [hl]; omega)] at hL
      have s12 := s1.trans s2
      refine ⟨L, rfl, ⟨_, hL⟩, fun R nR => ?_⟩
      have e5 : ((nums t.cells).drop k).length = (t.cells.drop k).length := by rw [List.length_drop, List.length_drop, nums_len]
      refine it_gen (walk_tup (K := K) (a := L) (xs := (nums t.cells).drop k)) (fun i H1 => Same H2 H1 ∧ ∃ bs, H1 R = some (.lst (bs.map V.ref)) ∧ ChAt H1 bs ((Step.fill t v k).touches.take i)) ⟨same_new nR, [], upd_same, .nil⟩ (fun i H1 _ q => (Kt.same q.1).sq hL) (fun i x H1 H3 hi q y => ?_) (fun H1 q => ?_)
      · obtain ⟨q1, bs, q2, q3⟩ := q
        obtain ⟨rfl, hx⟩ := y
        have hi2 : i < (t.cells.drop k).length := by rw [← e5]; exact hi
        have hc : (t.cells.drop k)[i]? = some (t.cells.drop k)[i] := List.getElem?_eq_getElem hi2
        generalize (t.cells.drop k)[i] = c at hc
        have ex : x = .int (c : Nat) := by
          unfold nums at hx
          rw [← List.map_drop, List.getElem?_map, hc] at hx
          exact (Option.some.inj hx).symm
        subst ex
        have htl : (Step.fill t v k).touches[i]? = some [(true, c)] := by
          show ((t.cells.drop k).map _)[i]? = _
          rw [List.getElem?_map, hc]; rfl
        refine ⟨rfl, _, rfl, by show 2 ≤ sizeLine; decide, fun ta nta => ⟨by show 1 ≤ sizeLine; decide, fun tc ntc => ?_⟩⟩
        have sa := same_new (o := HO.tup [.str "w", .int (c : Nat)]) nta
        have sc := same_new (o := HO.tup [.ref ta]) ntc
        refine ⟨_, sc _ _ (sa _ _ q2), ?_, ch_step nR q1 q3 htl (sa.trans sc) (.one upd_same (sc _ _ upd_same)) q2⟩
        rw [List.length_map, q3.1, List.length_take, sizeLine_eq]
        rw [List.length_drop, hl] at hi
        have : t.size ≤ 64 := Nat.le_trans o1.size_le ht
        omega
      · obtain ⟨q1, bs, q2, q3⟩ := q
        rw [List.take_of_length_le (by rw [e5]; exact Nat.le_of_eq (by simp [Step.touches]))] at q3
        exact hQ _ _ bs (s12.trans q1) (s12.free nR) q2 q3
    | add f c0 =>
      obtain ⟨pt, h1, h2⟩ := hS
      obtain ⟨o1, o2⟩ := ho
      have st' := o1.sm ht
      refine ⟨_, rfl, p, _, _, _, rfl, rfl, h1, atI_nat (j := 0) rfl, rfl, _, rfl, iteDF (by decide +kernel) ?_⟩
      refine ⟨_, rfl, p, _, _, _, rfl, rfl, h1, atI_nat (j := 0) rfl, rfl, _, rfl, iteDF (by decide +kernel) ?_⟩
      refine ⟨_, rfl, p, _, _, _, rfl, rfl, h1, atI_nat (j := 0) rfl, rfl, _, rfl, iteDT rfl ?_⟩
      refine ⟨_, rfl, p, _, _, _, rfl, rfl, h1, atI_nat (j := 1) rfl, pt, f, rfl, h2, st', fun H1 t1 s1 n1 l1 => ?_⟩
      have hl : (nums f.cells).length = f.size := by rw [nums_len, Area.cells_length]
      refine ⟨t1, rfl, ⟨_, .of l1⟩, fun R nR => ?_⟩
      refine it_gen (walk_tup (K := K) (a := t1) (xs := nums f.cells)) (fun i H2 => Same H1 H2 ∧ ∃ bs, H2 R = some (.lst (bs.map V.ref)) ∧ ChAt H2 bs ((f.cells.map fun c => [(false, c)]).take i)) ⟨same_new nR, [], upd_same, .nil⟩ (fun i H2 _ q => .of (q.1 _ _ l1)) (fun i x H2 H3 hi q y => ?_) (fun H2 q => ?_)
      · obtain ⟨q1, bs, q2, q3⟩ := q
        obtain ⟨rfl, hx⟩ := y
        have hi2 : i < f.cells.length := by rw [hl] at hi; rw [Area.cells_length]; exact hi
        have hc : f.cells[i]? = some f.cells[i] := List.getElem?_eq_getElem hi2
        generalize f.cells[i] = c at hc
        have ex : x = .int (c : Nat) := by
          unfold nums at hx
          rw [List.getElem?_map, hc] at hx
          exact (Option.some.inj hx).symm
        subst ex
        have htl : (f.cells.map fun c => [(false, c)])[i]? = some [(false, c)] := by
          rw [List.getElem?_map, hc]; rfl
        refine ⟨rfl, _, rfl, by show 2 ≤ sizeLine; decide, fun ta nta => ⟨by show 1 ≤ sizeLine; decide, fun tc ntc => ?_⟩⟩
        have sa := same_new (o := HO.tup [.str "r", .int (c : Nat)]) nta
        have sc := same_new (o := HO.tup [.ref ta]) ntc
        refine ⟨_, sc _ _ (sa _ _ q2), ?_, ch_step nR q1 q3 htl (sa.trans sc) (.one upd_same (sc _ _ upd_same)) q2⟩
        rw [List.length_map, q3.1, List.length_take, sizeLine_eq]
        rw [hl] at hi
        have : f.size ≤ 64 := Nat.le_trans o1.size_le ht
        omega
      · obtain ⟨q1, bs, q2, q3⟩ := q
        rw [List.take_of_length_le (by rw [hl, List.length_map, Area.cells_length]; exact Nat.le_refl _)] at q3
        have s12 := s1.trans q1
        refine ⟨_, rfl, p, _, _, _, rfl, rfl, (Kt.same s12).sq h1, atI_nat (j := 2) rfl, by show 2 ≤ sizeLine; decide, fun ta nta => ⟨by show 1 ≤ sizeLine; decide, fun tc ntc => ⟨by show 1 ≤ sizeLine; decide, fun td ntd => ?_⟩⟩⟩
        have sa := same_new (o := HO.tup [.str "w", .int (c0 : Nat)]) nta
        have sc := same_new (o := HO.tup [.ref ta]) ntc
        have sd := same_new (o := HO.lst [.ref tc]) ntd
        refine ⟨R, td, _, _, rfl, rfl, sd _ _ (sc _ _ (sa _ _ q2)), upd_same, ?_, fun z nz => ?_⟩
        · rw [List.length_map, q3.1, List.length_map, Area.cells_length, sizeLine_eq]
          have : f.size ≤ 64 := Nat.le_trans o1.size_le ht
          simp only [List.length_cons, List.length_nil]
          omega
        · have sz := same_new (o := HO.lst (bs.map V.ref ++ [.ref tc])) nz
          have s2z := sa.trans (sc.trans (sd.trans sz))
          refine hQ _ _ (bs ++ [tc]) (s12.trans s2z) ((s12.trans (sa.trans (sc.trans sd))).free nz) (by rw [upd_same, List.map_append]; rfl) ?_
          exact (q3.same s2z).snoc (.one (sz _ _ (sd _ _ upd_same)) (sz _ _ (sd _ _ (sc _ _ upd_same))))
    | note g =>
      dsimp only [StAt] at hS
      refine ⟨_, rfl, p, _, _, _, rfl, rfl, hS, atI_nat (j := 0) rfl, rfl, _, rfl, iteDF (by decide +kernel) ?_⟩
      refine ⟨_, rfl, p, _, _, _, rfl, rfl, hS, atI_nat (j := 0) rfl, rfl, _, rfl, iteDF (by decide +kernel) ?_⟩
      refine ⟨_, rfl, p, _, _, _, rfl, rfl, hS, atI_nat (j := 0) rfl, rfl, _, rfl, iteDF (by decide +kernel) ?_⟩
      refine ⟨by show 0 ≤ sizeLine; decide, fun ta nta => ⟨by show 1 ≤ sizeLine; decide, fun l nl => ?_⟩⟩
      have sa := same_new (o := HO.tup []) nta
      have sl := same_new (o := HO.lst [.ref ta]) nl
      exact hQ _ _ [ta] (sa.trans sl) (sa.free nl) upd_same (ChAt.nil.snoc (.nil (sl _ _ upd_same)))
    | wait g n =>
      dsimp only [StAt] at hS
      refine ⟨_, rfl, p, _, _, _, rfl, rfl, hS, atI_nat (j := 0) rfl, rfl, _, rfl, iteDF (by decide +kernel) ?_⟩
      refine ⟨_, rfl, p, _, _, _, rfl, rfl, hS, atI_nat (j := 0) rfl, rfl, _, rfl, iteDF (by decide +kernel) ?_⟩
      refine ⟨_, rfl, p, _, _, _, rfl, rfl, hS, atI_nat (j := 0) rfl, rfl, _, rfl, iteDF (by decide +kernel) ?_⟩
      refine ⟨by show 0 ≤ sizeLine; decide, fun ta nta => ⟨by show 1 ≤ sizeLine; decide, fun l nl => ?_⟩⟩
      have sa := same_new (o := HO.tup []) nta
      have sl := same_new (o := HO.lst [.ref ta]) nl
      exact hQ _ _ [ta] (sa.trans sl) (sa.free nl) upd_same (ChAt.nil.snoc (.nil (sl _ _ upd_same)))
    | fence =>
      dsimp only [StAt] at hS
      refine ⟨_, rfl, p, _, _, _, rfl, rfl, hS, atI_nat (j := 0) rfl, rfl, _, rfl, iteDF (by decide +kernel) ?_⟩
      refine ⟨_, rfl, p, _, _, _, rfl, rfl, hS, atI_nat (j := 0) rfl, rfl, _, rfl, iteDF (by decide +kernel) ?_⟩
      refine ⟨_, rfl, p, _, _, _, rfl, rfl, hS, atI_nat (j := 0) rfl, rfl, _, rfl, iteDF (by decide +kernel) ?_⟩
      refine ⟨by show 0 ≤ sizeLine; decide, fun ta nta => ⟨by show 1 ≤ sizeLine; decide, fun l nl => ?_⟩⟩
      have sa := same_new (o := HO.tup []) nta
      have sl := same_new (o := HO.lst [.ref ta]) nl
      exact hQ _ _ [ta] (sa.trans sl) (sa.free nl) upd_same (ChAt.nil.snoc (.nil (sl _ _ upd_same)))
end
end K24
end
section
set_option Elab.async false
set_option linter.all false
set_option maxRecDepth 100000
set_option maxHeartbeats 2000000
namespace K24
open PySem PySem.Spec PyProof.Rows L2 C8
section
variable {P : Program} {w : World} {K : PySem.W.Frag} {mg : Str → Option Value} {base : Heap}
/-- the set at D holds the numbers of L -/
def SetIs (w : World) (H : Hp) (D : Addr) (L : List Nat) : Prop := ∃ (S : Int → Bool) (n : Nat), H D = some (SetO w D S n) ∧ n = cntL L ∧ (∀ j : Int, S j = true ↔ ∃ c ∈ L, j = ((c : Nat) : Int)) ∧ ∀ c ∈ L, c < 40
theorem SetIs.new {w : World} {H : Hp} {D : Addr} : SetIs w (upd H D (SetO w D (fun _ => false) 0)) D [] :=
  ⟨_, 0, upd_same, by decide +kernel, fun j => ⟨fun z => Bool.noConfusion z, fun z => by obtain ⟨c, hc, _⟩ := z; cases hc⟩, fun c z => by cases z⟩
theorem SetIs.same {w : World} {H H' : Hp} {D : Addr} {L : List Nat} (s : Same H H') (h : SetIs w H D L) : SetIs w H' D L := by
  obtain ⟨S, n, h1, h2⟩ := h
  exact ⟨S, n, s _ _ h1, h2⟩
theorem SetIs.add {w : World} {H : Hp} {D : Addr} {L : List Nat} {c : Nat} (h : SetIs w H D L) (hc : c < 40) : ∃ (S : Int → Bool) (n : Nat), H D = some (SetO w D S n) ∧ n + 1 < scanBound ∧
    SetIs w (upd H D (SetO w D (fun j => S j || decide (j = ((c : Nat) : Int))) (if S ((c : Nat) : Int) = true then n else n + 1))) D (L ++ [c]) := by
  obtain ⟨S, n, h1, h2, h3, h4⟩ := h
  refine ⟨S, n, h1, ?_, _, _, upd_same, ?_, fun j => ?_, fun d hd => ?_⟩
  · have := cnt_le L
    rw [h2]
    show cntL L + 1 < 4096
    omega
  · by_cases hm : c ∈ L
    · rw [if_pos ((h3 _).mpr ⟨c, hm, rfl⟩), h2, cnt_old hm]
    · rw [if_neg, h2, cnt_new hm hc]
      intro z
      obtain ⟨d, hd, e⟩ := (h3 _).mp z
      have e' : c = d := by omega
      exact hm (e' ▸ hd)
  · rw [Bool.or_eq_true, decide_eq_true_eq, h3]
    constructor
    · rintro (⟨d, hd, e⟩ | e)
      · exact ⟨d, List.mem_append_left _ hd, e⟩
      · exact ⟨c, List.mem_append_right _ (List.mem_singleton.mpr rfl), e⟩
    · rintro ⟨d, hd, e⟩
      rcases List.mem_append.mp hd with hd | hd
      · exact .inl ⟨d, hd, e⟩
      · rw [List.mem_singleton.mp hd] at e; exact .inr e
  · rcases List.mem_append.mp hd with hd | hd
    · exact h4 d hd
    · rw [List.mem_singleton.mp hd]; exact hc
def spCellsBy (K : PySem.W.Frag) : Sp := fun vs H Q _ => ∃ (p : Addr) (s : Step) (top : Nat) (b : Bool), vs = [.ref p, .str (wayS b)] ∧ StAt K H p s ∧ s.Ok top ∧ top ≤ 40 ∧
  ∀ H' t ns, Same H H' → H t = none → H' t = some (.tup (nums ns)) → ns.Pairwise (· < ·) → (∀ c, c ∈ ns ↔ c ∈ s.own b) → ns.length ≤ 40 → Q (.ref t) H'
theorem Same.setK {H H' : Hp} {D : Addr} {o : HO} {w : World} {L : List Nat} (s : Same H H') : Kq H H' := fun b xs e => s _ _ e
theorem kq_set {w : World} {H : Hp} {D : Addr} {S : Int → Bool} {n : Nat} {o : HO} (h : H D = some (SetO w D S n)) : Kq H (upd H D o) := fun b ys e => by
  rw [upd_ne]
  · exact e
  · intro z; rw [z, h] at e; unfold SetO at e; cases e
theorem wayS_inj {a b : Bool} (h : wayS a = wayS b) : a = b := by
  cases a <;> cases b <;> first | rfl | exact absurd h (by decide +kernel)
abbrev NCellsBy : List Str := ["step", "way", "touches", "own", "cell"]
theorem scCellsBy : FnScope NCellsBy ["step", "way"] (defScope sCellsBy) := ⟨rfl, rfl, rfl, by decide +kernel, rfl, by decide +kernel, by decide +kernel⟩
theorem cal_CellsBy (E : Wd w K mg) : C8.Cal P w K mg base 3 "cells_by" (spCellsBy K) [] := by
  obtain ⟨fd, F⟩ := fCellsBy E
  refine ⟨_, fd, ["step", "way"], [], F.ok scCellsBy (fun vs H Q E h => ?_) (fun cdv A outer s H vs Q E' hr h => ⟨_, PSs.nox (pss_one (ps_ret (pe_callTy call_tuple_of (by rfl) (n_tuple E) (by decide +kernel) (pa_cons (pe_callB (cr_sortedSet rfl) (by rfl) (n_sorted E) (by decide +kernel) (pa_cons (pe_sc2 (own := [("touches", 2), ("own", 3), ("cell", 4)]) (vs1 := [3, 4]) (by rfl) scCellsBy.nd (pi_list (C8.pe_c (cal_AllTouches E) hr (by decide) (by rfl) (pa_cons (pv 0) pa_nil))) (blkOk_by (own := [("touches", 2), ("own", 3), ("cell", 4)]) (N := NCellsBy) (sc := defScope sCellsBy) (by decide +kernel)) (by decide) (fun _ _ _ _ _ => (pg_name (i := 2) scCellsBy.nd rfl (Or.inl rfl))) (fun _ _ _ _ _ => pts_nil) (fun _ _ _ _ _ => (pi_tupK (K := K) rfl (pv 2))) (fun _ _ _ _ _ => (pg_tupK (K := K) (n := 2) rfl rfl (pgs_cons (pg_name (i := 3) scCellsBy.nd rfl (Or.inl rfl)) (pgs_cons (pg_name (i := 4) scCellsBy.nd rfl (Or.inl rfl)) pgs_nil)))) (fun _ _ _ _ _ => (pts_one (pt_cmpR op_eq (pv 3) (pv 1) (nomark _)))) (fun _ _ _ _ _ => (pv 4))) pa_nil)) pa_nil)))), ?_⟩), g_cells_by E, F.kp, F.bindsN (fun _ _ _ _ _ _ us hl => match us, hl with | [_, _], _ => rfl), .nil⟩
  · obtain ⟨p, s, top, b, rfl, _⟩ := h; rfl
  · obtain ⟨p, st, top, b, rfl, hS, ho, ht, hQ⟩ := h
    refine ⟨_, rfl, p, st, top, rfl, hS, ho, by omega, fun H1 t1 as s1 n1 l1 hc => ⟨t1, rfl, ⟨_, .of l1⟩, fun D hD => ?_⟩⟩
    have el : (as.map V.ref).length = st.touches.length := by rw [List.length_map]; exact hc.1
    refine it_gen (walk_list (K := K) (a := t1) (xs := as.map V.ref)) (fun i H2 => (Same H1 H2 ∧ ∃ L, SetIs w H2 D L ∧ ∀ c, c ∈ L ↔ ∃ l ∈ st.touches.take i, (b, c) ∈ l)) ⟨same_new hD, [], .new, fun c => by simp⟩ (fun i H2 _ q => .of (q.1 _ _ l1)) (fun i x H2 H3 hi q y => ?_) (fun H2 q => ?_)
    · obtain ⟨q1, L, q2, q3⟩ := q
      obtain ⟨rfl, hx⟩ := y
      obtain ⟨a, rfl, hxa⟩ := mapref_get hx
      have hi2 : i < st.touches.length := by rw [← el]; exact hi
      have hl : st.touches[i]? = some st.touches[i] := List.getElem?_eq_getElem hi2
      generalize hle : st.touches[i] = l at hl
      have hml : l ∈ st.touches := List.mem_of_getElem? hl
      obtain ⟨bs, g1, g2, g3⟩ := hc.2 i a l hxa hl
      have eb : (bs.map V.ref).length = l.length := by rw [List.length_map]; exact g2
      refine ⟨rfl, _, rfl, a, rfl, ⟨_, .of (q1 _ _ g1)⟩, ?_⟩
      refine it_gen (walk_tup (K := K) (a := a) (xs := bs.map V.ref)) (fun j H4 => (Same H1 H4 ∧ ∃ L, SetIs w H4 D L ∧ ∀ c, c ∈ L ↔ (∃ l ∈ st.touches.take i, (b, c) ∈ l) ∨ (b, c) ∈ l.take j)) ⟨q1, L, q2, fun c => by simp [q3]⟩ (fun j H4 _ q => ?_) (fun j x H4 H5 hj q y => ?_) (fun H4 q => ?_)
      · exact .of (q.1 _ _ g1)
      · obtain ⟨q1, L, q2, q3⟩ := q
        obtain ⟨rfl, hx⟩ := y
        obtain ⟨bb, rfl, hxb⟩ := mapref_get hx
        have hj2 : j < l.length := by rw [← eb]; exact hj
        have hlj : l[j]? = some l[j] := List.getElem?_eq_getElem hj2
        generalize l[j] = tq at hlj
        obtain ⟨wy, c⟩ := tq
        have hbb := q1 _ _ (g3 j bb _ hxb hlj)
        refine ⟨bb, _, rfl, .of hbb, rfl, _, _, rfl, _, _, rfl, rfl, rfl, ?_⟩
        refine ⟨_, rfl, _, rfl, rfl, _, rfl, ?_⟩
        by_cases e : wy = b
        · subst e
          refine iteDT rfl ?_
          have hcm : c ∈ st.own wy := by rw [← st.touch_own]; exact ⟨l, hml, List.mem_of_getElem? hlj⟩
          have hc40 : c < 40 := Nat.lt_of_lt_of_le (ho.own_lt wy c hcm) ht
          obtain ⟨S, n, z1, z2, z3⟩ := q2.add hc40
          refine ⟨_, rfl, (c : Nat), S, n, rfl, z1, z2, fun b' o hb => ?_, _, z3, fun d => ?_⟩
          · rw [upd_ne (ne_of_none hb hD)]; exact q1 _ _ hb
          · rw [List.mem_append, q3, List.mem_singleton, take_snoc hlj, List.mem_append, List.mem_singleton]
            constructor
            · rintro ((z | z) | rfl)
              · exact .inl z
              · exact .inr (.inl z)
              · exact .inr (.inr rfl)
            · rintro (z | z | z)
              · exact .inl (.inl z)
              · exact .inl (.inr z)
              · cases z; exact .inr rfl
        · refine iteDF (fun z => e (wayS_inj (V.str.inj z))) ⟨q1, L, q2, fun d => ?_⟩
          rw [q3, take_snoc hlj, List.mem_append, List.mem_singleton]
          constructor
          · rintro (z | z)
            · exact .inl z
            · exact .inr (.inl z)
          · rintro (z | z | z)
            · exact .inl z
            · exact .inr z
            · cases z; exact absurd rfl e
      · obtain ⟨q1, L, q2, q3⟩ := q
        refine ⟨q1, L, q2, fun d => ?_⟩
        rw [q3, eb, List.take_of_length_le (Nat.le_refl _), take_snoc hl]
        constructor
        · rintro (⟨l', h1, h2⟩ | h)
          · exact ⟨l', List.mem_append_left _ h1, h2⟩
          · exact ⟨l, List.mem_append_right _ (List.mem_singleton.mpr rfl), h⟩
        · rintro ⟨l', h1, h2⟩
          rcases List.mem_append.mp h1 with h1 | h1
          · exact .inl ⟨l', h1, h2⟩
          · rw [List.mem_singleton.mp h1] at h2; exact .inr h2
    · obtain ⟨q1, L, ⟨S, n, z1, z2, z3, z4⟩, q3⟩ := q
      rw [el, List.take_of_length_le (Nat.le_refl _)] at q3
      have := cnt_le L
      refine ⟨D, S, n, rfl, z1, by omega, fun ns T hp hm hn nT => ?_⟩
      have sT := same_new (o := HO.lst (ns.map V.int)) nT
      refine ⟨T, _, rfl, .inl ⟨.of upd_same, fun t nt => ?_⟩⟩
      have st2 := same_new (o := HO.tup (ns.map V.int)) nt
      have hnn : ∀ k ∈ ns, 0 ≤ k := fun k hk => by
        obtain ⟨c, _, e⟩ := (z3 k).mp ((hm k).mp hk)
        omega
      have en : ns.map V.int = nums (ns.map Int.toNat) := by
        unfold nums
        rw [List.map_map]
        refine List.map_congr_left fun k hk => ?_
        show V.int k = V.int ((k.toNat : Nat) : Int)
        rw [Int.toNat_of_nonneg (hnn k hk)]
      refine hQ _ _ (ns.map Int.toNat) (s1.trans (q1.trans (sT.trans st2))) ((s1.trans (q1.trans sT)).free nt) (by rw [upd_same, en]) ?_ (fun c => ?_) ?_
      · rw [List.pairwise_map]
        refine List.Pairwise.imp_of_mem (fun {a b} ha hb h => ?_) hp
        have h1 := hnn a ha
        have h2 := hnn b hb
        omega
      · rw [← st.touch_own, ← q3]
        constructor
        · intro hc
          obtain ⟨k, hk, rfl⟩ := List.mem_map.mp hc
          obtain ⟨d, hd, e⟩ := (z3 k).mp ((hm k).mp hk)
          rw [e]; exact hd
        · intro hc
          have := (hm ((c : Nat) : Int)).mpr ((z3 _).mpr ⟨c, hc, rfl⟩)
          exact List.mem_map.mpr ⟨_, this, rfl⟩
      · rw [List.length_map, hn]; omega
/-! ### reads_of, writes_of -/
def spReadsOf (K : PySem.W.Frag) (b : Bool) : Sp := fun vs H Q _ => ∃ (p : Addr) (s : Step) (top : Nat), vs = [.ref p] ∧ StAt K H p s ∧ s.Ok top ∧ top ≤ 40 ∧
  ∀ H' t ns, Same H H' → H t = none → H' t = some (.tup (nums ns)) → ns.Pairwise (· < ·) → (∀ c, c ∈ ns ↔ c ∈ s.own b) → ns.length ≤ 40 → Q (.ref t) H'
abbrev NReadsOf : List Str := ["step"]
theorem scReadsOf : FnScope NReadsOf ["step"] (defScope sReadsOf) := ⟨rfl, rfl, rfl, by decide +kernel, rfl, by decide +kernel, by decide +kernel⟩
theorem cal_ReadsOf (E : Wd w K mg) : C8.Cal P w K mg base 7 "reads_of" (spReadsOf K false) [] := by
  obtain ⟨fd, F⟩ := fReadsOf E
  refine ⟨_, fd, ["step"], [], F.ok scReadsOf (fun vs H Q E h => ?_) (fun cdv A outer s H vs Q E' hr h => ⟨_, PSs.nox (pss_cons (ps_expr (C8.pe_c (cal_NeedStep E) hr (by decide) (by rfl) (pa_cons (pv 0) pa_nil)))
      (pss_one (ps_ret (C8.pe_c (cal_CellsBy E) hr (by decide) (by rfl) (pa_cons (pv 0) (pa_cons (pe_gc (by rfl) (s_READ_steps E)) pa_nil)))))), ?_⟩), g_reads_of E, F.kp, F.bindsN (fun _ _ _ _ _ _ us hl => match us, hl with | [_], _ => rfl), .nil⟩
  · obtain ⟨p, s, top, rfl, _⟩ := h; rfl
  · obtain ⟨p, st, top, rfl, hS, ho, ht, hQ⟩ := h
    refine ⟨_, rfl, p, st, top, rfl, hS, ho, by omega, fun H1 s1 => ?_⟩
    exact ⟨_, rfl, p, st, top, false, rfl, hS.kt (Kt.same s1), ho, ht, fun H2 t ns s2 n2 l2 h1 h2 h3 => hQ _ _ ns (s1.trans s2) (s1.free n2) l2 h1 h2 h3⟩
abbrev NWritesOf : List Str := ["step"]
theorem scWritesOf : FnScope NWritesOf ["step"] (defScope sWritesOf) := ⟨rfl, rfl, rfl, by decide +kernel, rfl, by decide +kernel, by decide +kernel⟩
theorem cal_WritesOf (E : Wd w K mg) : C8.Cal P w K mg base 7 "writes_of" (spReadsOf K true) [] := by
  obtain ⟨fd, F⟩ := fWritesOf E
  refine ⟨_, fd, ["step"], [], F.ok scWritesOf (fun vs H Q E h => ?_) (fun cdv A outer s H vs Q E' hr h => ⟨_, PSs.nox (pss_cons (ps_expr (C8.pe_c (cal_NeedStep E) hr (by decide) (by rfl) (pa_cons (pv 0) pa_nil)))
      (pss_one (ps_ret (C8.pe_c (cal_CellsBy E) hr (by decide) (by rfl) (pa_cons (pv 0) (pa_cons (pe_gc (by rfl) (s_WRITE_steps E)) pa_nil)))))), ?_⟩), g_writes_of E, F.kp, F.bindsN (fun _ _ _ _ _ _ us hl => match us, hl with | [_], _ => rfl), .nil⟩
  · obtain ⟨p, s, top, rfl, _⟩ := h; rfl
  · obtain ⟨p, st, top, rfl, hS, ho, ht, hQ⟩ := h
    refine ⟨_, rfl, p, st, top, rfl, hS, ho, by omega, fun H1 s1 => ?_⟩
    exact ⟨_, rfl, p, st, top, true, rfl, hS.kt (Kt.same s1), ho, ht, fun H2 t ns s2 n2 l2 h1 h2 h3 => hQ _ _ ns (s1.trans s2) (s1.free n2) l2 h1 h2 h3⟩
end
end K24
end
section
set_option Elab.async false
set_option linter.all false
set_option maxRecDepth 100000
set_option maxHeartbeats 2000000
namespace K24
open PySem PySem.Spec PyProof.Rows L2 C8
/-- kvs: the numbers of L, each with b -/
def KvB (kvs : List (Key × V)) (b : Bool) (L : List Nat) : Prop := (∀ q ∈ kvs, (∃ c : Nat, q.1 = Sum.inl ((c : Nat) : Int)) ∧ q.2 = .bl b) ∧ (∀ c : Nat, valV kvs (Sum.inl ((c : Nat) : Int)) = if c ∈ L then some (.bl b) else none) ∧ kvs.length ≤ L.length
theorem KvB.nil {b : Bool} : KvB [] b [] := And.intro (fun q h => absurd h (List.not_mem_nil)) (And.intro (fun c => rfl) (Nat.le_refl _))
theorem KvB.put {kvs : List (Key × V)} {b : Bool} {L : List Nat} (h : KvB kvs b L) (c : Nat) : KvB (putK kvs (Sum.inl ((c : Nat) : Int)) (.bl b)) b (L ++ [c]) := by
  obtain ⟨h1, h2, h3⟩ := h
  refine ⟨fun q hq => ?_, fun d => ?_, ?_⟩
  · unfold putK at hq
    split at hq
    · obtain ⟨r, hr, rfl⟩ := List.mem_map.mp hq
      split
      · exact ⟨(h1 r hr).1, rfl⟩
      · exact h1 r hr
    · rcases List.mem_append.mp hq with hq | hq
      · exact h1 q hq
      · rw [List.mem_singleton.mp hq]; exact ⟨⟨c, rfl⟩, rfl⟩
  · rw [valV_put, h2]
    by_cases e : d = c
    · subst e; rw [if_pos rfl, if_pos (List.mem_append_right _ (List.mem_singleton.mpr rfl))]
    · rw [if_neg (fun z => e (by have z2 := Sum.inl.inj z; omega))]
      have : d ∈ L ++ [c] ↔ d ∈ L := by simp [e]
      simp only [this]
  · have := length_putK kvs (Sum.inl ((c : Nat) : Int)) (.bl b)
    rw [List.length_append]
    simp only [List.length_cons, List.length_nil]
    omega
theorem merge_val : ∀ (more kvs : List (Key × V)) (b : Bool), (∀ q ∈ more, q.2 = .bl b) → ∀ j, valV (mergeK kvs more) j = if (valV more j).isSome = true then some (.bl b) else valV kvs j
  | [], kvs, b, _, j => by simp [mergeK, valV]
  | q :: more, kvs, b, h, j => by
    have ih := merge_val more (putK kvs q.1 q.2) b (fun r hr => h r (List.mem_cons_of_mem _ hr)) j
    show valV (mergeK (putK kvs q.1 q.2) more) j = _
    rw [ih, valV_put, h q (List.mem_cons_self ..)]
    by_cases e : q.1 = j
    · rw [valV_pos e, if_pos e.symm]
      simp
    · rw [valV_neg e, if_neg (c := j = q.1) (fun z => e z.symm)]
theorem mergeK_mem : ∀ (more kvs : List (Key × V)) (Pq : Key → Prop), (∀ q ∈ more, Pq q.1) → (∀ q ∈ kvs, Pq q.1) → ∀ q ∈ mergeK kvs more, Pq q.1
  | [], kvs, Pq, _, h => h
  | r :: more, kvs, Pq, h1, h2 => by
    refine mergeK_mem more (putK kvs r.1 r.2) Pq (fun q hq => h1 q (List.mem_cons_of_mem _ hq)) fun q hq => ?_
    unfold putK at hq
    split at hq
    · obtain ⟨s, hs, rfl⟩ := List.mem_map.mp hq
      split
      · exact h2 s hs
      · exact h2 s hs
    · rcases List.mem_append.mp hq with hq | hq
      · exact h2 q hq
      · rw [List.mem_singleton.mp hq]; exact h1 r (List.mem_cons_self ..)
/-- the dict at d: how s touches each cell -/
def WayAt (H : Hp) (d : Addr) (s : Step) : Prop := ∃ kvs : List (Key × V), H d = some (.dK kvs) ∧ (∀ q ∈ kvs, ∃ c : Nat, q.1 = Sum.inl ((c : Nat) : Int)) ∧
  (∀ c : Nat, valV kvs (Sum.inl ((c : Nat) : Int)) = if c ∈ s.wrs then some (.bl true) else if c ∈ s.rds then some (.bl false) else none) ∧ kvs.length ≤ 80
theorem WayAt.same {H H' : Hp} {d : Addr} {s : Step} (e : Same H H') (h : WayAt H d s) : WayAt H' d s := by
  obtain ⟨kvs, h1, h2⟩ := h
  exact ⟨kvs, e _ _ h1, h2⟩
section
variable {P : Program} {w : World} {K : PySem.W.Frag} {mg : Str → Option Value} {base : Heap}
def spWaysOf (K : PySem.W.Frag) : Sp := fun vs H Q _ => ∃ (p : Addr) (s : Step) (top : Nat), vs = [.ref p] ∧ StAt K H p s ∧ s.Ok top ∧ top ≤ 40 ∧ ∀ H' d, Same H H' → H d = none → WayAt H' d s → Q (.ref d) H'
abbrev NWaysOf : List Str := ["step", "cell", "found"]
theorem scWaysOf : FnScope NWaysOf ["step"] (defScope sWaysOf) := ⟨rfl, rfl, rfl, by decide +kernel, rfl, by decide +kernel, by decide +kernel⟩
theorem cal_WaysOf (E : Wd w K mg) : C8.Cal P w K mg base 8 "ways_of" (spWaysOf K) [] := by
  obtain ⟨fd, F⟩ := fWaysOf E
  refine ⟨_, fd, ["step"], [], F.ok scWaysOf (fun vs H Q E h => ?_) (fun cdv A outer s H vs Q E' hr h => ⟨_, PSs.nox (pss_cons (ps_setDc (i := 2) (own := [("cell", 1)]) (by rfl) scWaysOf.nd rfl rfl (sw_trueD rfl rfl rfl (by decide +kernel)) (pi_tup (C8.pe_c (cal_ReadsOf E) hr (by decide) (by rfl) (pa_cons (pv 0) pa_nil))) (blkOk_by (own := [("cell", 1)]) (N := NWaysOf) (sc := defScope sWaysOf) (by decide +kernel)) (fun _ _ _ _ _ => (pg_name (i := 1) scWaysOf.nd rfl (Or.inl rfl))) (fun _ _ _ _ _ => pts_nil) (fun _ _ _ _ _ => (pv 1)) (fun _ _ _ _ _ => pe_bl))
      (pss_cons (ps_expr (pe_dupd (pv 2) (pe_dc (own := [("cell", 1)]) (by rfl) scWaysOf.nd (pi_tup (C8.pe_c (cal_WritesOf E) hr (by decide) (by rfl) (pa_cons (pv 0) pa_nil))) (blkOk_by (own := [("cell", 1)]) (N := NWaysOf) (sc := defScope sWaysOf) (by decide +kernel)) (fun _ _ _ _ _ => (pg_name (i := 1) scWaysOf.nd rfl (Or.inl rfl))) (fun _ _ _ _ _ => pts_nil) (fun _ _ _ _ _ => (pv 1)) (fun _ _ _ _ _ => pe_bl)) ⟨rfl, rfl, rfl, rfl⟩))
      (pss_one (ps_ret (pv 2))))), ?_⟩), g_ways_of E, F.kp, F.bindsN (fun _ _ _ _ _ _ us hl => match us, hl with | [_], _ => rfl), .nil⟩
  · obtain ⟨p, s, top, rfl, _⟩ := h; rfl
  · obtain ⟨p, st, top, rfl, hS, ho, ht, hQ⟩ := h
    refine ⟨_, rfl, p, st, top, rfl, hS, ho, ht, fun H1 t1 ns s1 n1 l1 hp1 hm1 hl1 => ⟨t1, rfl, ⟨_, .of l1⟩, fun D hD => ?_⟩⟩
    refine it_gen (walk_tup (K := K) (a := t1) (xs := nums ns)) (fun i H2 => Same H1 H2 ∧ ∃ kvs, H2 D = some (.dK kvs) ∧ KvB kvs false (ns.take i)) ⟨same_new hD, [], upd_same, .nil⟩ (fun i H2 _ q => .of (q.1 _ _ l1)) (fun i x H2 H3 hi q y => ?_) (fun H2 q => ?_)
    · obtain ⟨q1, kvs, q2, q3⟩ := q
      obtain ⟨rfl, hx⟩ := y
      have hi2 : i < ns.length := by rw [nums_len] at hi; exact hi
      have hc : ns[i]? = some ns[i] := List.getElem?_eq_getElem hi2
      generalize ns[i] = c at hc
      have ex : x = .int (c : Nat) := by
        unfold nums at hx
        rw [List.getElem?_map, hc] at hx
        exact (Option.some.inj hx).symm
      subst ex
      have hle := q3.2.2
      rw [List.length_take] at hle
      refine ⟨rfl, _, rfl, kvs, Sum.inl ((c : Nat) : Int), rfl, q2, by rw [sizeLine_eq]; omega, fun b o hb => ?_, _, upd_same, ?_⟩
      · rw [upd_ne (ne_of_none hb hD)]; exact q1 _ _ hb
      · rw [take_snoc hc]; exact q3.put c
    · obtain ⟨q1, kvs, q2, q3⟩ := q
      rw [nums_len, List.take_of_length_le (Nat.le_refl _)] at q3
      have s2 := s1.trans q1
      refine ⟨_, rfl, ⟨D, rfl, .inl ⟨kvs, .inl q2⟩⟩, ?_⟩
      refine ⟨_, rfl, p, st, top, rfl, hS.kt (Kt.same s2), ho, ht, fun H3 t2 ms s3 n3 l3 hp2 hm2 hl2 => ⟨t2, rfl, ⟨_, .of l3⟩, fun D2 hD2 => ?_⟩⟩
      refine it_gen (walk_tup (K := K) (a := t2) (xs := nums ms)) (fun i H4 => Same H3 H4 ∧ ∃ kvs, H4 D2 = some (.dK kvs) ∧ KvB kvs true (ms.take i)) ⟨same_new hD2, [], upd_same, .nil⟩ (fun i H2 _ q => .of (q.1 _ _ l3)) (fun i x H2' H4 hi q y => ?_) (fun H4 q => ?_)
      · obtain ⟨q1, kvs, q2, q3⟩ := q
        obtain ⟨rfl, hx⟩ := y
        have hi2 : i < ms.length := by rw [nums_len] at hi; exact hi
        have hc : ms[i]? = some ms[i] := List.getElem?_eq_getElem hi2
        generalize ms[i] = c at hc
        have ex : x = .int (c : Nat) := by
          unfold nums at hx
          rw [List.getElem?_map, hc] at hx
          exact (Option.some.inj hx).symm
        subst ex
        have hle := q3.2.2
        rw [List.length_take] at hle
        refine ⟨rfl, _, rfl, kvs, Sum.inl ((c : Nat) : Int), rfl, q2, by rw [sizeLine_eq]; omega, fun b o hb => ?_, _, upd_same, ?_⟩
        · rw [upd_ne (ne_of_none hb hD2)]; exact q1 _ _ hb
        · rw [take_snoc hc]; exact q3.put c
      · obtain ⟨r1, more, r2, r3⟩ := q
        rw [nums_len, List.take_of_length_le (Nat.le_refl _)] at r3
        have hD3 : H3 D = some (.dK kvs) := s3 _ _ q2
        have hne : D ≠ D2 := ne_of_none hD3 hD2
        have hz1 := q3.2.2
        have hz2 := r3.2.2
        refine ⟨D, D2, kvs, more, rfl, rfl, r1 _ _ hD3, r2, hne, by rw [sizeLine_eq]; omega, _, rfl, hQ _ _ (fun b o hb => ?_) (s1.free hD) ?_⟩
        · rw [upd_ne (ne_of_none hb (s1.free hD))]; exact r1 _ _ (s3 _ _ (s2 _ _ hb))
        · refine ⟨_, upd_same, mergeK_mem more kvs (fun k => ∃ c : Nat, k = Sum.inl ((c : Nat) : Int)) (fun q hq => (r3.1 q hq).1) (fun q hq => (q3.1 q hq).1), fun c => ?_, ?_⟩
          · rw [merge_val more kvs true (fun q hq => (r3.1 q hq).2), r3.2.1, q3.2.1]
            have e1 : c ∈ ms ↔ c ∈ st.wrs := hm2 c
            have e2 : c ∈ ns ↔ c ∈ st.rds := hm1 c
            simp only [e1, e2]
            by_cases z : c ∈ st.wrs
            · simp [z]
            · simp [z]
          · have := length_mergeK more kvs
            omega
end
end K24
end
section
set_option Elab.async false
set_option linter.all false
set_option maxRecDepth 100000
set_option maxHeartbeats 2000000
namespace K24
open PySem PySem.Spec PyProof.Rows L2 C8
theorem WayAt.upd {H : Hp} {m d : Addr} {xs : List V} {u : HO} {s : Step} (hm : H m = some (.lst xs)) (h : WayAt H d s) : WayAt (upd H m u) d s := by
  obtain ⟨kvs, h1, h2⟩ := h
  refine ⟨kvs, ?_, h2⟩
  rw [upd_ne]
  · exact h1
  · intro z; rw [z, hm] at h1; cases h1
theorem WayAt.updI {H : Hp} {x C dx d : Addr} {fs : List (Str × V)} {u : HO} {s : Step} (hx : H x = some (.ins C dx fs)) (h : WayAt H d s) : WayAt (L2.upd H x u) d s := by
  obtain ⟨kvs, h1, h2⟩ := h
  refine ⟨kvs, ?_, h2⟩
  rw [upd_ne]
  · exact h1
  · intro z; rw [z, hx] at h1; cases h1
def Step.word : Step → Str
  | .copy _ _ _ => "copy"
  | .fill _ _ _ => "fill"
  | .add _ _ => "add"
  | .note _ => "note"
  | .wait _ _ => "wait"
  | .fence => "fence"
theorem st_word {K : PySem.W.Frag} {H : Hp} {p : Addr} {s : Step} (h : StAt K H p s) : ∃ xs, SqT K H p (.str s.word :: xs) := by
  cases s with
  | copy f t k => obtain ⟨_, _, h1, _⟩ := h; exact ⟨_, h1⟩
  | fill t v k => obtain ⟨_, h1, _⟩ := h; exact ⟨_, h1⟩
  | add f c => obtain ⟨_, h1, _⟩ := h; exact ⟨_, h1⟩
  | note g => exact ⟨_, h⟩
  | wait g n => exact ⟨_, h⟩
  | fence => exact ⟨_, h⟩
theorem word_bar (s : Step) : inV (.str s.word) [.str "fence", .str "note"] = s.bar := by
  cases s <;> rfl
def barV (ss : List Step) (n : Nat) : List V := (List.range (n + 1)).map fun i => V.int ((nbars ss i : Nat) : Int)
theorem barV_last (ss : List Step) (n : Nat) : barV ss n = ((List.range n).map fun i => V.int ((nbars ss i : Nat) : Int)) ++ [V.int ((nbars ss n : Nat) : Int)] := by
  unfold barV; rw [List.range_succ, List.map_append]; rfl
theorem barV_succ (ss : List Step) (n : Nat) : barV ss (n + 1) = barV ss n ++ [V.int ((nbars ss (n + 1) : Nat) : Int)] := barV_last ss (n + 1)
theorem barV_len (ss : List Step) (n : Nat) : (barV ss n).length = n + 1 := by unfold barV; rw [List.length_map, List.length_range]
theorem barV_get {ss : List Step} {n i : Nat} (h : i ≤ n) : (barV ss n)[i]? = some (V.int ((nbars ss i : Nat) : Int)) := by
  unfold barV
  rw [List.getElem?_map, List.getElem?_range (by omega)]; rfl
theorem kt_but {H H' : Hp} {x C dx : Addr} {fs : List (Str × V)} (hx : H x = some (.ins C dx fs)) (f : ∀ b o, H b = some o → b ≠ x → H' b = some o) : Kt H H' := fun p xs z => by
  rcases z with z | ⟨o, z⟩
  · exact .inl (f _ _ z (fun e => by rw [e, hx] at z; cases z))
  · exact .inr ⟨o, f _ _ z (fun e => by rw [e, hx] at z; cases z)⟩
section
variable {P : Program} {w : World} {K : PySem.W.Frag} {mg : Str → Option Value} {base : Heap}
/-- the Spread of ss at x -/
def SprAt (K : PySem.W.Frag) (H : Hp) (x : Addr) (ss : List Step) : Prop := ∃ (dx l m : Addr) (ds : List Addr), H x = some (.ins (He.ga K "Spread") dx [("own_ways", .ref l), ("own_bars", .ref m)]) ∧ H l = some (.lst (ds.map V.ref)) ∧ ds.length = ss.length ∧
  (∀ (i : Nat) (d : Addr) (s : Step), ds[i]? = some d → ss[i]? = some s → WayAt H d s) ∧ H m = some (.lst (barV ss ss.length))
theorem SprAt.same {H H' : Hp} {x : Addr} {ss : List Step} (e : Same H H') (h : SprAt K H x ss) : SprAt K H' x ss := by
  obtain ⟨dx, l, m, ds, h1, h2, h3, h4, h5⟩ := h
  exact ⟨dx, l, m, ds, e _ _ h1, e _ _ h2, h3, fun i d s a b => (h4 i d s a b).same e, e _ _ h5⟩
def spSInit (K : PySem.W.Frag) : Sp := fun vs H Q _ => ∃ (x p dx : Addr) (ss : List Step) (top : Nat), vs = [.ref x, .ref p] ∧ H x = some (.ins (He.ga K "Spread") dx []) ∧ LsAt K H p ss ∧ AllOk top ss ∧ top ≤ 40 ∧ ss.length ≤ 64 ∧
  ∀ H', (∀ b o, H b = some o → b ≠ x → H' b = some o) → SprAt K H' x ss → Q .non H'
abbrev NSInit : List Str := ["self", "steps", "step"]
theorem scSInit : FnScope NSInit ["self", "steps"] (defScope sSInit) := ⟨rfl, rfl, rfl, by decide +kernel, rfl, by decide +kernel, by decide +kernel⟩
theorem mak_Spread (E : Wd w K mg) : C8.Mak P w K mg base 9 "Spread" (He.ga K "Spread") (spSInit K) [] := by
  obtain ⟨fd, F⟩ := fSInit E
  refine ⟨_, fd, ["self", "steps"], [], k_Spread E, F.ok scSInit (fun vs H Q E h => ?_) (fun cdv A outer s H vs Q E' hr h => ⟨_, PSs.nox (pss_cons (ps_fld (pv 0) (pe_lc (own := [("step", 2)]) (by rfl) scSInit.nd (pi_tup (pv 1)) (blkOk_by (own := [("step", 2)]) (N := NSInit) (sc := defScope sSInit) (by decide +kernel)) (fun _ _ _ _ _ => (pg_name (i := 2) scSInit.nd rfl (Or.inl rfl))) (fun _ _ _ _ _ => pts_nil) (fun _ _ _ _ _ => (C8.pe_c (cal_WaysOf E) hr (by decide) (by rfl) (pa_cons (pv 2) pa_nil)))) rfl)
      (pss_cons (ps_fld (pv 0) (pe_lst (pa_cons pe_int pa_nil)) rfl)
      (pss_one (ps_for PassesOwn.never rfl (pi_tup (pv 1)) (pg_name (i := 2) scSInit.nd rfl (Or.inl rfl)) (pss_one (ps_expr (pe_bm PySem.F.plainAttrs_list PySem.F.slot_list_append PySem.F.type_list_append mt_append (pe_fld (pv 0) rfl) (pa_cons (pe_op op_add (pe_ix ix_list (pe_fld (pv 0) rfl) (pe_un un_neg pe_int) (fun _ _ => rfl)) (pe_callTy call_int1 (by rfl) (n_int E) (by decide +kernel) (pa_cons (pe_cmpR op_in_seq (pe_ix ix_tup (pv 2) pe_int (fun _ _ => rfl)) (pe_glob (by rfl) (g_BARS E) (v := .ref (He.ga K "BARS")) rfl) (by rfl)) pa_nil))) pa_nil)))))))), ?_⟩), g_Spread E, F.bindsN (fun _ _ _ _ _ _ us hl => match us, hl with | [_, _], _ => rfl), .nil⟩
  · obtain ⟨x, p, dx, ss, top, rfl, _⟩ := h; rfl
  · obtain ⟨x, p, dx, ss, top, rfl, hx, ⟨as, hS, hA⟩, ho, ht, hl, hQ⟩ := h
    have e : (as.map V.ref).length = ss.length := by rw [List.length_map]; exact hA.1
    refine ⟨_, rfl, p, rfl, ⟨_, hS⟩, fun D hD => ?_⟩
    refine it_gen (walk_tup (K := K) (a := p) (xs := as.map V.ref)) (fun i H1 => Same H H1 ∧ ∃ ds : List Addr, H1 D = some (.lst (ds.map V.ref)) ∧ ds.length = i ∧ ∀ (j : Nat) (d : Addr) (s : Step), ds[j]? = some d → ss[j]? = some s → WayAt H1 d s) ⟨same_new hD, [], upd_same, rfl, fun j d s h => by simp at h⟩ (fun i H1 _ q => (Kt.same q.1).sq hS) (fun i x' H1 H2 hi q y => ?_) (fun H1 q => ?_)
    · obtain ⟨q1, ds, q2, q3, q4⟩ := q
      obtain ⟨rfl, hx'⟩ := y
      obtain ⟨a, rfl, ha⟩ := mapref_get hx'
      obtain ⟨st, hs, hSt⟩ := hA.get ha
      refine ⟨rfl, _, rfl, a, st, top, rfl, hSt.kt (Kt.same q1), ho st (List.mem_of_getElem? hs), ht, fun H3 d s3 n3 w3 => ⟨_, s3 _ _ q2, by rw [List.length_map, q3, sizeLine_eq]; rw [e] at hi; omega, fun b o hb => ?_, ds ++ [d], by rw [upd_same, List.map_append]; rfl, by rw [List.length_append, q3]; rfl, fun j d' s' e1 e2 => ?_⟩⟩
      · rw [upd_ne (ne_of_none hb hD)]; exact s3 _ _ (q1 _ _ hb)
      · rcases Nat.lt_or_ge j ds.length with hj | hj
        · rw [List.getElem?_append_left hj] at e1
          exact ((q4 j d' s' e1 e2).same s3).upd (s3 _ _ q2)
        · rw [List.getElem?_append_right hj] at e1
          have : j - ds.length = 0 := by
            rcases Nat.eq_zero_or_pos (j - ds.length) with z | z
            · exact z
            · rw [List.getElem?_eq_none (by simp; omega)] at e1; cases e1
          rw [this] at e1
          cases e1
          have ej : j = i := by omega
          subst ej
          rw [hs] at e2
          cases e2
          exact w3.upd (s3 _ _ q2)
    · obtain ⟨q1, ds, q2, q3, q4⟩ := q
      have hx1 := q1 _ _ hx
      refine ⟨_, rfl, x, _, dx, _, rfl, hx1, c_Spread E, a_Spread_own_ways E, by decide, ?_⟩
      refine ⟨by show 1 ≤ sizeLine; decide, fun m hm => ⟨_, rfl, x, _, dx, _, rfl, same_new hm _ _ upd_same, c_Spread E, a_Spread_own_bars E, by show 1 < 1000; decide, ?_⟩⟩
      have hD1 : D ≠ x := fun z => by rw [z, hx1] at q2; cases q2
      have hmx : m ≠ x := fun z => by rw [z, upd_same] at hm; cases hm
      have hm1 : H1 m = none := by rw [upd_ne hmx] at hm; exact hm
      have hmD : m ≠ D := fun z => by rw [z, q2] at hm1; cases hm1
      have fr : ∀ b o, H1 b = some o → b ≠ x → upd (upd (upd H1 x (.ins (He.ga K "Spread") dx (putF "own_ways" (.ref D) []))) m (.lst [.int 0])) x (.ins (He.ga K "Spread") dx (putF "own_bars" (.ref m) (putF "own_ways" (.ref D) []))) b = some o := fun b o hb hn => by
        rw [upd_ne hn, upd_ne (ne_of_none hb hm1), upd_ne hn]; exact hb
      have w4 : ∀ (j : Nat) (d : Addr) (s : Step), ds[j]? = some d → ss[j]? = some s → WayAt (upd (upd (upd H1 x (.ins (He.ga K "Spread") dx (putF "own_ways" (.ref D) []))) m (.lst [.int 0])) x (.ins (He.ga K "Spread") dx (putF "own_bars" (.ref m) (putF "own_ways" (.ref D) [])))) d s := fun j d s e1 e2 => by
        obtain ⟨kvs, z1, z2⟩ := q4 j d s e1 e2
        exact ⟨kvs, fr _ _ z1 (fun z => by rw [z, hx1] at z1; cases z1), z2⟩
      have x4 : (upd (upd (upd H1 x (.ins (He.ga K "Spread") dx (putF "own_ways" (.ref D) []))) m (.lst [.int 0])) x (.ins (He.ga K "Spread") dx (putF "own_bars" (.ref m) (putF "own_ways" (.ref D) [])))) x = some (.ins (He.ga K "Spread") dx [("own_ways", .ref D), ("own_bars", .ref m)]) := by rw [upd_same]; rfl
      have m4 : (upd (upd (upd H1 x (.ins (He.ga K "Spread") dx (putF "own_ways" (.ref D) []))) m (.lst [.int 0])) x (.ins (He.ga K "Spread") dx (putF "own_bars" (.ref m) (putF "own_ways" (.ref D) [])))) m = some (.lst [.int 0]) := by rw [upd_ne hmx, upd_same]
      have d4 := fr _ _ q2 hD1
      have f4 : ∀ b o, H b = some o → b ≠ x → upd (upd (upd H1 x (.ins (He.ga K "Spread") dx (putF "own_ways" (.ref D) []))) m (.lst [.int 0])) x (.ins (He.ga K "Spread") dx (putF "own_bars" (.ref m) (putF "own_ways" (.ref D) []))) b = some o := fun b o hb hn => fr _ _ (q1 _ _ hb) hn
      have hmH : H m = none := q1.free hm1
      refine ⟨_, rfl, p, rfl, ⟨_, (kt_but hx f4).sq hS⟩, ?_⟩
      generalize upd (upd (upd H1 x (HO.ins (He.ga K "Spread") dx (putF "own_ways" (V.ref D) []))) m (HO.lst [V.int 0])) x (HO.ins (He.ga K "Spread") dx (putF "own_bars" (V.ref m) (putF "own_ways" (V.ref D) []))) = H4 at f4 w4 x4 m4 d4 ⊢
      refine for_it (walk_tup (K := K) (a := p) (xs := as.map V.ref)) (fun i σ H5 => (∃ x2, σ = [some (.ref x), some (.ref p), x2]) ∧ (∀ b o, H b = some o → b ≠ x → H5 b = some o) ∧ H5 x = some (.ins (He.ga K "Spread") dx [("own_ways", .ref D), ("own_bars", .ref m)]) ∧ H5 D = some (.lst (ds.map V.ref)) ∧
          (∀ (j : Nat) (d : Addr) (s : Step), ds[j]? = some d → ss[j]? = some s → WayAt H5 d s) ∧ H5 m = some (.lst (barV ss i))) ⟨⟨_, rfl⟩, f4, x4, d4, w4, m4⟩ (fun i σ H5 _ q => (kt_but hx q.2.1).sq hS) (fun i x' σ H5 H6 hi q y => ?_) (fun σ H5 q => ?_)
      · obtain ⟨⟨x2, rfl⟩, f5, x5, d5, w5, m5⟩ := q
        obtain ⟨rfl, hx'⟩ := y
        obtain ⟨a, rfl, ha⟩ := mapref_get hx'
        obtain ⟨st, hs, hSt⟩ := hA.get ha
        obtain ⟨rest, hw⟩ := st_word (hSt.kt (kt_but hx f5))
        have hbl : (barV ss i).length = i + 1 := barV_len ss i
        have hi2 : i < ss.length := by rw [← e]; exact hi
        have m5' := m5
        refine ⟨_, rfl, x, _, _, _, _, rfl, x5, c_Spread E, a_Spread_own_bars E, rfl, .inl ⟨rfl, _, .of m5⟩, ?_⟩
        refine ⟨_, rfl, x, _, _, _, _, rfl, x5, c_Spread E, a_Spread_own_bars E, rfl, _, rfl, m, _, _, _, rfl, rfl, .of m5, by rw [barV_last]; exact atI_last _ _, ?_⟩
        refine ⟨_, rfl, a, _, _, _, rfl, rfl, hw, atI_nat (j := 0) rfl, He.ga K "BARS", _, rfl, .inr (t_BARS E _), rfl, rfl, ?_⟩
        refine .inr ⟨_, rfl, _, _, rfl, rfl, m, _, _, rfl, rfl, m5, by rw [hbl, sizeLine_eq]; omega, ?_⟩
        have ev : barV ss i ++ [V.int (((nbars ss i : Nat) : Int) + (if inV (.str st.word) [.str "fence", .str "note"] = true then 1 else 0))] = barV ss (i + 1) := by
          rw [barV_succ, nbars_succ hs, word_bar]
          congr 2
          cases st.bar <;> rfl
        have hxm : x ≠ m := fun z => hmx z.symm
        have hDm : D ≠ m := fun z => hmD z.symm
        refine ⟨⟨_, rfl⟩, fun b o hb hn => ?_, ?_, ?_, fun j d s e1 e2 => (w5 j d s e1 e2).upd m5, ?_⟩
        · rw [upd_ne (ne_of_none hb hmH)]; exact f5 b o hb hn
        · rw [upd_ne hxm]; exact x5
        · rw [upd_ne hDm]; exact d5
        · rw [upd_same]; exact congrArg (fun z => some (HO.lst z)) ev
      · obtain ⟨_, f5, x5, d5, w5, m5⟩ := q
        rw [e] at m5
        exact hQ _ f5 ⟨dx, D, m, ds, x5, d5, by rw [q3, e], w5, m5⟩
end
end K24
end
section
set_option Elab.async false
set_option linter.all false
set_option maxRecDepth 100000
set_option maxHeartbeats 2000000
namespace K24
open PySem PySem.Spec PyProof.Rows L2 C8
abbrev inlN (c : Nat) : Key := Sum.inl ((c : Nat) : Int)
def GoodK (k1 k2 : List (Key × V)) (k : Key) : Prop := (valV k2 k).isSome = true ∧ (valV k1 k = some (.bl true) ∨ valV k2 k = some (.bl true))
theorem wv_true {P Q : Prop} [Decidable P] [Decidable Q] : (if P then some (V.bl true) else if Q then some (.bl false) else none) = some (.bl true) ↔ P := by
  by_cases h : P
  · simp [h]
  · by_cases h2 : Q <;> simp [h, h2]
theorem wv_some {P Q : Prop} [Decidable P] [Decidable Q] : (if P then some (V.bl true) else if Q then some (.bl false) else none).isSome = true ↔ P ∨ Q := by
  by_cases h : P
  · simp [h]
  · by_cases h2 : Q <;> simp [h, h2]
theorem good_clash {k1 k2 : List (Key × V)} {s t : Step} (h1 : ∀ q ∈ k1, ∃ c : Nat, q.1 = inlN c) (g1 : ∀ c : Nat, valV k1 (inlN c) = if c ∈ s.wrs then some (.bl true) else if c ∈ s.rds then some (.bl false) else none)
    (g2 : ∀ c : Nat, valV k2 (inlN c) = if c ∈ t.wrs then some (.bl true) else if c ∈ t.rds then some (.bl false) else none) : (∃ q ∈ k1, GoodK k1 k2 q.1) ↔ Clash s t := by
  constructor
  · rintro ⟨q, hq, e1, e2⟩
    obtain ⟨c, hc⟩ := h1 q hq
    have hs : (valV k1 q.1).isSome = true := by rw [← valV_any, List.any_eq_true]; exact ⟨q, hq, by simp⟩
    rw [hc, g1, wv_some] at hs
    rw [hc, g2, wv_some] at e1
    rw [hc, g1, g2, wv_true, wv_true] at e2
    rcases e2 with e2 | e2
    · exact ⟨c, .inl ⟨e2, e1.symm⟩⟩
    · exact ⟨c, .inr ⟨e2, hs.symm⟩⟩
  · rintro ⟨c, hc⟩
    have hk : (valV k1 (inlN c)).isSome = true := by
      rw [g1, wv_some]
      rcases hc with ⟨h, _⟩ | ⟨_, h⟩
      · exact .inl h
      · exact h.symm
    rw [← valV_any, List.any_eq_true] at hk
    obtain ⟨q, hq, e⟩ := hk
    have e := of_decide_eq_true e
    refine ⟨q, hq, ?_, ?_⟩
    · rw [e, g2, wv_some]
      rcases hc with ⟨_, h⟩ | ⟨h, _⟩
      · exact h.symm
      · exact .inl h
    · rw [e, g1, g2, wv_true, wv_true]
      exact hc.imp (fun h => h.1) (fun h => h.1)
section
variable {P : Program} {w : World} {K : PySem.W.Frag} {mg : Str → Option Value} {base : Heap}
def spSShared (K : PySem.W.Frag) : Sp := fun vs H Q _ => ∃ (x : Addr) (ss : List Step) (i j : Nat) (s t : Step), vs = [.ref x, .int (i : Nat), .int (j : Nat)] ∧ SprAt K H x ss ∧ ss[i]? = some s ∧ ss[j]? = some t ∧
  ∀ H' q (ns : List Int), Same H H' → H q = none → H' q = some (.lst (ns.map V.int)) → (ns = [] ↔ ¬ Clash s t) → Q (.ref q) H'
abbrev NSShared : List Str := ["self", "one", "other", "first", "second", "cell"]
theorem scSShared : FnScope NSShared ["self", "one", "other"] (defScope sSShared) := ⟨rfl, rfl, rfl, by decide +kernel, rfl, by decide +kernel, by decide +kernel⟩
theorem met_shared (E : Wd w K mg) : C8.Met P w K mg base 1 (He.ga K "Spread") "shared" (spSShared K) [] := by
  obtain ⟨fd, F⟩ := fSShared E
  refine ⟨_, fd, ["self", "one", "other"], [], c_Spread E, m_Spread_shared E, F.ok scSShared (fun vs H Q E h => ?_) (fun cdv A outer s H vs Q E' hr h => ⟨_, PSs.nox (pss_cons (ps_asg (pe_tup (pa_cons (pe_ix ix_list (pe_fld (pv 0) rfl) (pv 1) (fun _ _ => rfl)) (pa_cons (pe_ix ix_list (pe_fld (pv 0) rfl) (pv 2) (fun _ _ => rfl)) pa_nil))) (pg_tup (by rfl) (pgs_cons (pg_name (i := 3) scSShared.nd rfl (Or.inr rfl)) (pgs_cons (pg_name (i := 4) scSShared.nd rfl (Or.inr rfl)) pgs_nil))))
      (pss_one (ps_ret (pe_callB cr_sortedI (by rfl) (n_sorted E) (by decide +kernel) (pa_cons (pe_lock (pe_lc (own := [("cell", 5)]) (by rfl) scSShared.nd (pi_keys (pv 3)) (blkOk_by (own := [("cell", 5)]) (N := NSShared) (sc := defScope sSShared) (by decide +kernel)) (fun _ _ _ _ _ => (pg_name (i := 5) scSShared.nd rfl (Or.inl rfl))) (fun _ _ _ _ _ => (pts_one (PW.pt (pw_and (pt_cmp (pc_din (hu_of hr) (pv 5) (pv 4))) (pw_and1 (PW.pt (pw_or (pt_val (pe_dget (hu_of hr) (pv 3) (pv 5) (fun _ _ => rfl))) (pw_or1 (pt_val (pe_dget (hu_of hr) (pv 4) (pv 5) (fun _ _ => rfl))))))))))) (fun _ _ _ _ _ => (pv 5)))) pa_nil))))), ?_⟩), F.bindsN (fun _ _ _ _ _ _ us hl => match us, hl with | [_, _, _], _ => rfl), .nil⟩
  · obtain ⟨x, ss, i, j, s, t, rfl, _⟩ := h; rfl
  · obtain ⟨x, ss, i, j, st, tt, rfl, ⟨dx, l, m, ds, hx, hl, hn, hw, hm⟩, hi, hj, hQ⟩ := h
    have hi2 : i < ds.length := by rw [hn]; exact (List.getElem?_eq_some_iff.mp hi).1
    have hj2 : j < ds.length := by rw [hn]; exact (List.getElem?_eq_some_iff.mp hj).1
    have ei : ds[i]? = some ds[i] := List.getElem?_eq_getElem hi2
    have ej : ds[j]? = some ds[j] := List.getElem?_eq_getElem hj2
    generalize ds[i] = d1 at ei
    generalize ds[j] = d2 at ej
    obtain ⟨k1, w1, h1, g1, z1⟩ := hw i d1 st ei hi
    obtain ⟨k2, w2, h2, g2, z2⟩ := hw j d2 tt ej hj
    have ei' : (ds.map V.ref)[i]? = some (.ref d1) := by rw [List.getElem?_map, ei]; rfl
    have ej' : (ds.map V.ref)[j]? = some (.ref d2) := by rw [List.getElem?_map, ej]; rfl
    refine ⟨_, rfl, x, _, _, _, _, rfl, hx, c_Spread E, a_Spread_own_ways E, rfl, _, rfl, l, _, _, _, rfl, rfl, .of hl, atI_nat ei', ?_⟩
    refine ⟨_, rfl, x, _, _, _, _, rfl, hx, c_Spread E, a_Spread_own_ways E, rfl, _, rfl, l, _, _, _, rfl, rfl, .of hl, atI_nat ej', by show 2 ≤ sizeLine; decide, fun tp htp => ?_⟩
    refine ⟨tp, _, rfl, .of upd_same, rfl, _, _, rfl, _, _, rfl, rfl, ?_⟩
    have s1 := same_new (o := HO.tup [.ref d1, .ref d2]) htp
    refine ⟨d1, .dK k1, s1 _ _ w1, trivial, fun od => ⟨_, rfl, d1, od, rfl, .inl ⟨k1, upd_same, fun D hD => ?_⟩⟩⟩
    have hf1 : upd (upd H tp (HO.tup [V.ref d1, V.ref d2])) d1 (HO.frz od (HO.dK k1)) d1 = some (HO.frz od (HO.dK k1)) := upd_same
    have fb : ∀ b o, upd H tp (HO.tup [V.ref d1, V.ref d2]) b = some o → b ≠ d1 → upd (upd H tp (HO.tup [V.ref d1, V.ref d2])) d1 (HO.frz od (HO.dK k1)) b = some o := fun b o hb hn => by rw [upd_ne hn]; exact hb
    have rd2 : Rd (upd (upd H tp (HO.tup [V.ref d1, V.ref d2])) d1 (HO.frz od (HO.dK k1))) d2 (.dK k2) := by
      by_cases e : d2 = d1
      · have e3 : k2 = k1 := by
          rw [e, w1] at w2
          cases w2; rfl
        rw [e, e3]
        exact .inr ⟨od, upd_same⟩
      · exact .inl (fb _ _ (s1 _ _ w2) e)
    generalize upd (upd H tp (HO.tup [V.ref d1, V.ref d2])) d1 (HO.frz od (HO.dK k1)) = Hf at hf1 fb rd2 hD ⊢
    refine it_gen walk_keys (fun i H2 => Same Hf H2 ∧ ∃ L : List Int, H2 D = some (.lst (L.map V.int)) ∧ (L = [] ↔ ∀ q ∈ k1.take i, ¬ GoodK k1 k2 q.1) ∧ L.length ≤ i) ⟨same_new hD, [], upd_same, by simp, Nat.le_refl _⟩ (fun i H2 _ q => q.1 _ _ hf1) (fun i x' H2 H3 hi q y => ?_) (fun H2 q => ?_)
    · obtain ⟨q1, L, q2, q3, q4⟩ := q
      obtain ⟨rfl, k, v, hk, rfl⟩ := y
      obtain ⟨c, hc⟩ := h1 _ (List.mem_of_getElem? hk)
      have hc : k = inlN c := hc
      subst hc
      have rd1 : DGet H3 d1 (.int (c : Nat)) (valV k1 (inlN c)) := .inl ⟨k1, inlN c, .inr ⟨od, q1 _ _ hf1⟩, rfl, rfl⟩
      have rdd : DGet H3 d2 (.int (c : Nat)) (valV k2 (inlN c)) := .inl ⟨k2, inlN c, rd2.imp (fun z => q1 _ _ z) (fun ⟨o, z⟩ => ⟨o, q1 _ _ z⟩), rfl, rfl⟩
      have rej : ¬ GoodK k1 k2 (inlN c) → (Same Hf H3 ∧ ∃ L : List Int, H3 D = some (.lst (L.map V.int)) ∧ (L = [] ↔ ∀ q ∈ k1.take (i + 1), ¬ GoodK k1 k2 q.1) ∧ L.length ≤ i + 1) := fun ng => by
        refine ⟨q1, L, q2, ?_, by omega⟩
        rw [q3, take_snoc hk]
        constructor
        · intro h q hq
          rcases List.mem_append.mp hq with hq | hq
          · exact h q hq
          · rw [List.mem_singleton.mp hq]; exact ng
        · intro h q hq
          exact h q (List.mem_append_left _ hq)
      have acc : GoodK k1 k2 (inlN c) → (∃ acc, H3 D = some (.lst acc) ∧ acc.length < sizeLine ∧ (Same Hf (upd H3 D (.lst (acc ++ [.int (c : Nat)]))) ∧ ∃ L : List Int, (upd H3 D (.lst (acc ++ [.int (c : Nat)]))) D = some (.lst (L.map V.int)) ∧ (L = [] ↔ ∀ q ∈ k1.take (i + 1), ¬ GoodK k1 k2 q.1) ∧ L.length ≤ i + 1)) := fun g => by
        refine ⟨_, q2, by rw [List.length_map, sizeLine_eq]; omega, fun b o hb => ?_, L ++ [((c : Nat) : Int)], by rw [upd_same, List.map_append]; rfl, ?_, by rw [List.length_append]; simp only [List.length_cons, List.length_nil]; omega⟩
        · rw [upd_ne (ne_of_none hb hD)]; exact q1 _ _ hb
        · constructor
          · intro z; simp at z
          · intro h
            exact absurd g (h (inlN c, v) (by rw [take_snoc hk]; exact List.mem_append_right _ (List.mem_singleton.mpr rfl)))
      have hk1 : (valV k1 (inlN c)).isSome = true := by rw [← valV_any, List.any_eq_true]; exact ⟨_, List.mem_of_getElem? hk, by simp⟩
      obtain ⟨b1, eb1⟩ : ∃ b1, valV k1 (inlN c) = some (.bl b1) := by
        rw [g1] at hk1 ⊢
        by_cases z : c ∈ st.wrs
        · exact ⟨true, by simp [z]⟩
        · by_cases z2 : c ∈ st.rds
          · exact ⟨false, by simp [z, z2]⟩
          · simp [z, z2] at hk1
      rw [eb1] at rd1
      refine ⟨rfl, _, rfl, _, rfl, d2, _, rfl, rdd, _, rfl, ?_⟩
      cases e2 : valV k2 (inlN c) with
      | none =>
        refine rej (fun g => ?_)
        have := g.1
        rw [e2] at this
        cases this
      | some v2 =>
        obtain ⟨b2, eb2⟩ : ∃ b2, v2 = .bl b2 := by
          rw [g2] at e2
          by_cases z : c ∈ tt.wrs
          · exact ⟨true, by simp [z] at e2; exact e2.symm⟩
          · by_cases z2 : c ∈ tt.rds
            · exact ⟨false, by simp [z, z2] at e2; exact e2.symm⟩
            · simp [z, z2] at e2
        subst eb2
        rw [e2] at rdd
        refine ⟨_, rfl, _, rfl, d1, _, rfl, rd1, _, rfl, ?_⟩
        cases b1 with
        | true => exact ⟨_, rfl, acc ⟨by rw [e2]; rfl, .inl eb1⟩⟩
        | false =>
          refine ⟨_, rfl, _, rfl, d2, _, rfl, rdd, _, rfl, ?_⟩
          cases b2 with
          | true => exact ⟨_, rfl, acc ⟨by rw [e2]; rfl, .inr e2⟩⟩
          | false => exact rej (fun g => by rcases g.2 with z | z <;> simp_all)
    · obtain ⟨q1, L, q2, q3, q4⟩ := q
      have hDd : D ≠ d1 := fun z => by rw [z, hf1] at hD; cases hD
      have sf : Same H (upd H2 d1 (.dK k1)) := fun b o hb => by
        by_cases e : b = d1
        · rw [e, w1] at hb; cases hb; rw [e]; exact upd_same
        · rw [upd_ne e]; exact q1 _ _ (fb _ _ (s1 _ _ hb) e)
      refine ⟨q1 _ _ hf1, D, L, rfl, .of (by rw [upd_ne hDd]; exact q2), fun ns q hp hs nq => hQ _ _ ns (sf.trans (same_new nq)) (sf.free nq) upd_same ?_⟩
      rw [List.take_of_length_le (Nat.le_refl _)] at q3
      have en : ns = [] ↔ L = [] := ⟨fun z => List.eq_nil_of_length_eq_zero (by rw [← hp.length_eq, z]; rfl), fun z => List.eq_nil_of_length_eq_zero (by rw [hp.length_eq, z]; rfl)⟩
      rw [en, q3, ← good_clash h1 g1 g2]
      constructor
      · rintro h ⟨q, hq, g⟩; exact h q hq g
      · intro h q hq g; exact h ⟨q, hq, g⟩
/-! ### barred -/
def spSBarred (K : PySem.W.Frag) : Sp := fun vs H Q _ => ∃ (x : Addr) (ss : List Step) (i j : Nat), vs = [.ref x, .int (i : Nat), .int (j : Nat)] ∧ SprAt K H x ss ∧ i < ss.length ∧ j ≤ ss.length ∧ Q (.bl (decide (nbars ss (i + 1) < nbars ss j))) H
abbrev NSBarred : List Str := ["self", "one", "other"]
theorem scSBarred : FnScope NSBarred ["self", "one", "other"] (defScope sSBarred) := ⟨rfl, rfl, rfl, by decide +kernel, rfl, by decide +kernel, by decide +kernel⟩
theorem met_barred (E : Wd w K mg) : C8.Met P w K mg base 1 (He.ga K "Spread") "barred" (spSBarred K) [] := by
  obtain ⟨fd, F⟩ := fSBarred E
  refine ⟨_, fd, ["self", "one", "other"], [], c_Spread E, m_Spread_barred E, F.ok scSBarred (fun vs H Q E h => ?_) (fun cdv A outer s H vs Q E' hr h => ⟨_, PSs.nox (pss_one (ps_ret (pe_cmpR op_gt (pe_ix ix_list (pe_fld (pv 0) rfl) (pv 2) (fun _ _ => rfl)) (pe_ix ix_list (pe_fld (pv 0) rfl) (pe_op op_add (pv 1) pe_int) (fun _ _ => rfl)) (nomark _)))), ?_⟩), F.bindsN (fun _ _ _ _ _ _ us hl => match us, hl with | [_, _, _], _ => rfl), .nil⟩
  · obtain ⟨x, ss, i, j, rfl, _⟩ := h; rfl
  · obtain ⟨x, ss, i, j, rfl, ⟨dx, l, m, ds, hx, hl, hn, hw, hm⟩, hi, hj, hQ⟩ := h
    refine ⟨_, rfl, x, _, _, _, _, rfl, hx, c_Spread E, a_Spread_own_bars E, rfl, _, rfl, m, _, _, _, rfl, rfl, .of hm, atI_nat (barV_get hj), ?_⟩
    refine ⟨_, rfl, x, _, _, _, _, rfl, hx, c_Spread E, a_Spread_own_bars E, rfl, _, rfl, _, _, rfl, rfl, m, _, _, _, rfl, rfl, .of hm, atI_nat (j := i + 1) (barV_get (by omega)), ?_⟩
    refine ⟨_, _, rfl, rfl, ?_⟩
    have e : decide (((nbars ss (i + 1) : Nat) : Int) < ((nbars ss j : Nat) : Int)) = decide (nbars ss (i + 1) < nbars ss j) := by rw [decide_eq_decide]; omega
    show Q (.bl (decide (((nbars ss (i + 1) : Nat) : Int) < ((nbars ss j : Nat) : Int)))) H
    rw [e]; exact hQ
end
end K24
end
section
set_option Elab.async false
set_option linter.all false
set_option maxRecDepth 100000
set_option maxHeartbeats 2000000
namespace K24
open PySem PySem.Spec PyProof.Rows L2 C8
/-- the objects as are the pairs ps -/
def PrsAt (H : Hp) (as : List Addr) (ps : List (Nat × Nat)) : Prop := as.length = ps.length ∧ ∀ (k : Nat) (a : Addr) (p : Nat × Nat), as[k]? = some a → ps[k]? = some p → H a = some (.tup [.int (p.1 : Nat), .int (p.2 : Nat)])
theorem PrsAt.kq {H H' : Hp} {as : List Addr} {ps : List (Nat × Nat)} (s : Kq H H') (h : PrsAt H as ps) : PrsAt H' as ps := ⟨h.1, fun k a p e1 e2 => s _ _ (h.2 k a p e1 e2)⟩
theorem PrsAt.same {H H' : Hp} {as : List Addr} {ps : List (Nat × Nat)} (s : Same H H') (h : PrsAt H as ps) : PrsAt H' as ps := h.kq (Kq.same s)
theorem PrsAt.nil {H : Hp} : PrsAt H [] [] := ⟨rfl, fun k a p e => by simp at e⟩
theorem PrsAt.snoc {H : Hp} {as : List Addr} {ps : List (Nat × Nat)} {a : Addr} {p : Nat × Nat} (h : PrsAt H as ps) (g : H a = some (.tup [.int (p.1 : Nat), .int (p.2 : Nat)])) : PrsAt H (as ++ [a]) (ps ++ [p]) := by
  refine ⟨by rw [List.length_append, List.length_append, h.1]; rfl, fun i b m e1 e2 => ?_⟩
  rcases Nat.lt_or_ge i as.length with hi | hi
  · rw [List.getElem?_append_left hi] at e1
    rw [List.getElem?_append_left (by rw [← h.1]; exact hi)] at e2
    exact h.2 i b m e1 e2
  · rw [List.getElem?_append_right hi] at e1
    rw [List.getElem?_append_right (by rw [← h.1]; exact hi)] at e2
    rw [← h.1] at e2
    cases hk : i - as.length with
    | zero =>
      rw [hk] at e1 e2
      cases e1; cases e2
      exact g
    | succ k => rw [hk] at e1; simp at e1
def ClashAt (ss : List Step) (i j : Nat) : Prop := ∃ s t, ss[i]? = some s ∧ ss[j]? = some t ∧ Clash s t
section
variable {P : Program} {w : World} {K : PySem.W.Frag} {mg : Str → Option Value} {base : Heap}
def spSClashes (K : PySem.W.Frag) : Sp := fun vs H Q _ => ∃ (x : Addr) (ss : List Step), vs = [.ref x] ∧ SprAt K H x ss ∧ ss.length ≤ 64 ∧
  ∀ H' q as ps, Same H H' → H q = none → H' q = some (.lst (as.map V.ref)) → PrsAt H' as ps → (∀ i j, (i, j) ∈ ps ↔ i < j ∧ ClashAt ss i j) → ps.length ≤ 5000 → Q (.ref q) H'
abbrev NSClashes : List Str := ["self", "many", "one", "other"]
theorem scSClashes : FnScope NSClashes ["self"] (defScope sSClashes) := ⟨rfl, rfl, rfl, by decide +kernel, rfl, by decide +kernel, by decide +kernel⟩
theorem met_clashes (E : Wd w K mg) : C8.Met P w K mg base 2 (He.ga K "Spread") "clashes" (spSClashes K) [] := by
  obtain ⟨fd, F⟩ := fSClashes E
  refine ⟨_, fd, ["self"], [], c_Spread E, m_Spread_clashes E, F.ok scSClashes (fun vs H Q E h => ?_) (fun cdv A outer s H vs Q E' hr h => ⟨_, PSs.nox (pss_cons (ps_set (i := 1) scSClashes.nd rfl (.inr rfl) (pe_callB call_len_seq (by rfl) (n_len E) (by decide +kernel) (pa_cons (pe_fld (pv 0) rfl) pa_nil)))
      (pss_one (ps_ret (pe_lc2 (own := [("one", 2), ("other", 3)]) (vs1 := [3]) (by rfl) scSClashes.nd (pi_range1 (by rfl) (n_range E) (pa_cons (pv 1) pa_nil)) (blkOk_by (own := [("one", 2), ("other", 3)]) (N := NSClashes) (sc := defScope sSClashes) (by decide +kernel)) (by decide) (fun _ _ _ _ _ => (pg_name (i := 2) scSClashes.nd rfl (Or.inl rfl))) (fun _ _ _ _ _ => pts_nil) (fun _ _ _ _ _ => (pi_range2 (by rfl) (n_range E) (pa_cons (pe_op op_add (pv 2) pe_int) (pa_cons (pv 1) pa_nil)))) (fun _ _ _ _ _ => (pg_name (i := 3) scSClashes.nd rfl (Or.inl rfl))) (fun _ _ _ _ _ => (pts_one (pt_cmpR (op_neEK (K := K) rfl hr.units0) (C8.pe_mt (met_shared E) hr (by decide) (pv 0) (pa_cons (pv 2) (pa_cons (pv 3) pa_nil))) (pe_lst pa_nil) (nomark _)))) (fun _ _ _ _ _ => (pe_tup (pa_cons (pv 2) (pa_cons (pv 3) pa_nil)))))))), ?_⟩), F.bindsN (fun _ _ _ _ _ _ us hl => match us, hl with | [_], _ => rfl), .nil⟩
  · obtain ⟨x, ss, rfl, _⟩ := h; rfl
  · obtain ⟨x, ss, rfl, hX, hz, hQ⟩ := h
    have hX0 := hX
    obtain ⟨dx, l, m, ds, hx, hl, hn, hw, hm⟩ := hX
    have el : (ds.map V.ref).length = ss.length := by rw [List.length_map]; exact hn
    refine ⟨_, rfl, x, _, _, _, _, rfl, hx, c_Spread E, a_Spread_own_ways E, rfl, l, _, rfl, .inl (.of hl), ?_⟩
    rw [el]
    refine ⟨_, rfl, _, rfl, by omega, by omega, fun D hD => ?_⟩
    refine it_gen (walk_range (lo := 0) (n := ((ss.length : Nat) : Int).toNat)) (fun i H2 => Same H H2 ∧ ∃ as ps, H2 D = some (.lst (as.map V.ref)) ∧ PrsAt H2 as ps ∧ (∀ a b, (a, b) ∈ ps ↔ a < i ∧ a < b ∧ ClashAt ss a b) ∧ ps.length ≤ i * 64) ⟨same_new hD, [], [], upd_same, .nil, by simp, by simp⟩ (fun _ _ _ _ => trivial) (fun i x' H2 H3 hi q y => ?_) (fun H2 q => ?_)
    · obtain ⟨q1, as, ps, q2, q3, q4, q5⟩ := q
      obtain ⟨rfl, hx'⟩ := y
      have ex : x' = .int ((i : Nat) : Int) := by rw [hx']; show V.int (0 + _) = _; rw [Int.zero_add]
      subst ex
      clear hx'
      have hi2 : i < ss.length := by omega
      have gi : ss[i]? = some ss[i] := List.getElem?_eq_getElem hi2
      generalize ss[i] = st at gi
      refine ⟨rfl, _, rfl, _, _, rfl, rfl, _, rfl, _, _, rfl, ⟨by omega, by omega, by omega, by omega⟩, ?_⟩
      refine it_gen (walk_range (lo := ((i : Nat) : Int) + 1) (n := (((ss.length : Nat) : Int) - (((i : Nat) : Int) + 1)).toNat)) (fun k H4 => Same H H4 ∧ ∃ as ps, H4 D = some (.lst (as.map V.ref)) ∧ PrsAt H4 as ps ∧ (∀ a b, (a, b) ∈ ps ↔ (a < i ∧ a < b ∧ ClashAt ss a b) ∨ (a = i ∧ i < b ∧ b < i + 1 + k ∧ ClashAt ss a b)) ∧ ps.length ≤ i * 64 + k)
        ⟨q1, as, ps, q2, q3, fun a b => (q4 a b).trans ⟨Or.inl, fun h => h.elim id (fun h => absurd h.2.2.1 (by have := h.2.1; omega))⟩, q5⟩ (fun _ _ _ _ => trivial) (fun k x' H4 H5 hk q y => ?_) (fun H4 q => ?_)
      · obtain ⟨q1, as, ps, q2, q3, q4, q5⟩ := q
        obtain ⟨rfl, hx'⟩ := y
        have ex : x' = .int ((i + 1 + k : Nat) : Int) := by rw [hx']; push_cast; rfl
        subst ex
        clear hx'
        have hj2 : i + 1 + k < ss.length := by omega
        have gj : ss[i + 1 + k]? = some ss[i + 1 + k] := List.getElem?_eq_getElem hj2
        generalize ss[i + 1 + k] = tt at gj
        have hxs := q1 _ _ hx
        refine ⟨rfl, _, rfl, x, _, _, rfl, hxs, rfl, _, rfl, _, rfl, x, ss, i, i + 1 + k, st, tt, rfl, hX0.same q1, gi, gj, fun H6 q ns s6 n6 l6 hcl => ?_⟩
        refine ⟨by show 0 ≤ sizeLine; decide, fun z nz => ⟨q, z, ns.map V.int, rfl, rfl, .inl ⟨.of (same_new nz _ _ l6), .of upd_same⟩, _, rfl, ?_⟩⟩
        have s7 := s6.trans (same_new (o := HO.lst []) nz)
        have old : ∀ a b, (a = i ∧ i < b ∧ b < i + 1 + (k + 1) ∧ ClashAt ss a b) ↔ (a = i ∧ i < b ∧ b < i + 1 + k ∧ ClashAt ss a b) ∨ (a = i ∧ b = i + 1 + k ∧ ClashAt ss a b) := fun a b => by
          constructor
          · rintro ⟨h1, h2, h3, h4⟩
            by_cases e : b = i + 1 + k
            · exact .inr ⟨h1, e, h4⟩
            · exact .inl ⟨h1, h2, by omega, h4⟩
          · rintro (⟨h1, h2, h3, h4⟩ | ⟨h1, h2, h4⟩)
            · exact ⟨h1, h2, by omega, h4⟩
            · exact ⟨h1, by omega, by omega, h4⟩
        cases ns with
        | nil =>
          have hnc : ¬ Clash st tt := hcl.mp rfl
          refine ⟨q1.trans s7, as, ps, s7 _ _ q2, q3.same s7, fun a b => ?_, by omega⟩
          rw [q4, old]
          constructor
          · rintro (h | h)
            · exact .inl h
            · exact .inr (.inl h)
          · rintro (h | h | ⟨h1, h2, s, t, e1, e2, e3⟩)
            · exact .inl h
            · exact .inr h
            · rw [h1, gi] at e1; rw [h2, gj] at e2
              cases e1; cases e2
              exact absurd e3 hnc
        | cons n0 ns0 =>
          have hc : Clash st tt := Classical.byContradiction fun z => List.cons_ne_nil _ _ (hcl.mpr z)
          refine ⟨_, rfl, _, rfl, by show 2 ≤ sizeLine; decide, fun T nT => ?_⟩
          have s8 := same_new (o := HO.tup [.int ((i : Nat) : Int), .int ((i + 1 + k : Nat) : Int)]) nT
          have s58 := s7.trans s8
          have q2' := s58 _ _ q2
          have hal : as.length = ps.length := q3.1
          refine ⟨_, q2', by rw [List.length_map, hal, sizeLine_eq]; omega, fun b o hb => ?_, as ++ [T], ps ++ [(i, i + 1 + k)], by rw [upd_same, List.map_append]; rfl, ?_, fun a b => ?_, by rw [List.length_append]; simp only [List.length_cons, List.length_nil]; omega⟩
          · rw [upd_ne (ne_of_none hb hD)]; exact s58 _ _ (q1 _ _ hb)
          · exact ((q3.same s58).kq (Kq.upd q2')).snoc (Kq.upd q2' _ _ upd_same)
          · rw [List.mem_append, List.mem_singleton, q4, old]
            constructor
            · rintro ((h | h) | h)
              · exact .inl h
              · exact .inr (.inl h)
              · cases h
                exact .inr (.inr ⟨rfl, rfl, st, tt, gi, gj, hc⟩)
            · rintro (h | h | ⟨h1, h2, _⟩)
              · exact .inl (.inl h)
              · exact .inl (.inr h)
              · rw [h1, h2]; exact .inr rfl
      · obtain ⟨q1, as, ps, q2, q3, q4, q5⟩ := q
        refine ⟨q1, as, ps, q2, q3, fun a b => ?_, by omega⟩
        rw [q4]
        constructor
        · rintro (⟨h1, h2⟩ | ⟨h1, h2, h3, h4⟩)
          · exact ⟨by omega, h2⟩
          · exact ⟨by omega, by omega, h4⟩
        · rintro ⟨h1, h2, h3⟩
          by_cases e : a < i
          · exact .inl ⟨e, h2, h3⟩
          · have h4 := h3
            obtain ⟨s, t, e1, e2, _⟩ := h4
            have := (List.getElem?_eq_some_iff.mp e2).1
            exact .inr ⟨by omega, by omega, by omega, h3⟩
    · obtain ⟨q1, as, ps, q2, q3, q4, q5⟩ := q
      have hlen : ps.length ≤ 5000 := by
        have e9 : ((ss.length : Nat) : Int).toNat = ss.length := by omega
        rw [e9] at q5
        omega
      refine hQ _ _ as ps q1 hD q2 q3 (fun i j => ?_) hlen
      rw [q4]
      constructor
      · rintro ⟨_, h⟩; exact h
      · intro h
        refine ⟨?_, h⟩
        obtain ⟨_, s, t, e, _⟩ := h
        have := (List.getElem?_eq_some_iff.mp e).1
        omega
end
end K24
end
section
set_option Elab.async false
set_option linter.all false
set_option maxRecDepth 100000
set_option maxHeartbeats 2000000
namespace K24
open PySem PySem.Spec PyProof.Rows L2 C8
theorem clashAt_needs {ss : List Step} {ps : List (Nat × Nat)} (h : ∀ i j, (i, j) ∈ ps ↔ (i < j ∧ ClashAt ss i j) ∧ ¬ Barred ss i j) : Needs ss ps := fun i j => by rw [h]; exact and_assoc
section
variable {P : Program} {w : World} {K : PySem.W.Frag} {mg : Str → Option Value} {base : Heap}
def spSAllNeeds (K : PySem.W.Frag) : Sp := fun vs H Q _ => ∃ (x : Addr) (ss : List Step), vs = [.ref x] ∧ SprAt K H x ss ∧ ss.length ≤ 64 ∧
  ∀ H' q as ps, Same H H' → H q = none → H' q = some (.lst (as.map V.ref)) → PrsAt H' as ps → Needs ss ps → ps.length ≤ 5000 → Q (.ref q) H'
abbrev NSAllNeeds : List Str := ["self", "one", "other"]
theorem scSAllNeeds : FnScope NSAllNeeds ["self"] (defScope sSAllNeeds) := ⟨rfl, rfl, rfl, by decide +kernel, rfl, by decide +kernel, by decide +kernel⟩
theorem met_all_needs (E : Wd w K mg) : C8.Met P w K mg base 3 (He.ga K "Spread") "all_needs" (spSAllNeeds K) [] := by
  obtain ⟨fd, F⟩ := fSAllNeeds E
  refine ⟨_, fd, ["self"], [], c_Spread E, m_Spread_all_needs E, F.ok scSAllNeeds (fun vs H Q E h => ?_) (fun cdv A outer s H vs Q E' hr h => ⟨_, PSs.nox (pss_one (ps_ret (pe_lc (own := [("one", 1), ("other", 2)]) (by rfl) scSAllNeeds.nd (pi_list (C8.pe_mt0 (met_clashes E) hr (by decide) (pv 0))) (blkOk_by (own := [("one", 1), ("other", 2)]) (N := NSAllNeeds) (sc := defScope sSAllNeeds) (by decide +kernel)) (fun _ _ _ _ _ => (pg_tupK (K := K) (n := 2) rfl rfl (pgs_cons (pg_name (i := 1) scSAllNeeds.nd rfl (Or.inl rfl)) (pgs_cons (pg_name (i := 2) scSAllNeeds.nd rfl (Or.inl rfl)) pgs_nil)))) (fun _ _ _ _ _ => (pts_one (pt_not (pt_val (C8.pe_mt (met_barred E) hr (by decide) (pv 0) (pa_cons (pv 1) (pa_cons (pv 2) pa_nil))))))) (fun _ _ _ _ _ => (pe_tup (pa_cons (pv 1) (pa_cons (pv 2) pa_nil))))))), ?_⟩), F.bindsN (fun _ _ _ _ _ _ us hl => match us, hl with | [_], _ => rfl), .nil⟩
  · obtain ⟨x, ss, rfl, _⟩ := h; rfl
  · obtain ⟨x, ss, rfl, hX, hz, hQ⟩ := h
    have hX0 := hX
    obtain ⟨dx, l, m, ds, hx, hl, hn, hw, hm⟩ := hX
    refine ⟨_, rfl, x, _, _, rfl, hx, rfl, x, ss, rfl, hX0, hz, fun H1 L as ps s1 n1 l1 hp hc hlen => ⟨L, rfl, ⟨_, .of l1⟩, fun D hD => ?_⟩⟩
    have el : (as.map V.ref).length = ps.length := by rw [List.length_map]; exact hp.1
    refine it_gen (walk_list (K := K) (a := L) (xs := as.map V.ref)) (fun i H2 => Same H1 H2 ∧ ∃ bs qs, H2 D = some (.lst (bs.map V.ref)) ∧ PrsAt H2 bs qs ∧ (∀ a b, (a, b) ∈ qs ↔ (a, b) ∈ ps.take i ∧ ¬ Barred ss a b) ∧ qs.length ≤ i) ⟨same_new hD, [], [], upd_same, .nil, by simp, Nat.le_refl _⟩ (fun i H2 _ q => .of (q.1 _ _ l1)) (fun i x' H2 H3 hi q y => ?_) (fun H2 q => ?_)
    · obtain ⟨q1, bs, qs, q2, q3, q4, q5⟩ := q
      obtain ⟨rfl, hx'⟩ := y
      obtain ⟨a, rfl, hxa⟩ := mapref_get hx'
      have hi2 : i < ps.length := by rw [← el]; exact hi
      have gp : ps[i]? = some ps[i] := List.getElem?_eq_getElem hi2
      generalize ps[i] = pr at gp
      obtain ⟨u, v⟩ := pr
      have ha := q1 _ _ (hp.2 i a _ hxa gp)
      obtain ⟨huv, s, t, e1, e2, hcl⟩ := (hc u v).mp (List.mem_of_getElem? gp)
      have hu := (List.getElem?_eq_some_iff.mp e1).1
      have hv := (List.getElem?_eq_some_iff.mp e2).1
      have s02 := s1.trans q1
      refine ⟨a, _, rfl, .of ha, rfl, _, _, rfl, _, _, rfl, rfl, rfl, ?_⟩
      refine ⟨_, rfl, x, _, _, rfl, s02 _ _ hx, rfl, _, rfl, _, rfl, x, ss, u, v, rfl, hX0.same s02, hu, Nat.le_of_lt hv, _, rfl, ?_⟩
      have hbar := nbars_barred (ss := ss) huv (Nat.le_of_lt hv)
      by_cases hb : nbars ss (u + 1) < nbars ss v
      · rw [decide_eq_true hb]
        refine ⟨q1, bs, qs, q2, q3, fun c d => ?_, by omega⟩
        rw [q4, take_snoc gp, List.mem_append, List.mem_singleton]
        constructor
        · rintro ⟨h1, h2⟩; exact ⟨.inl h1, h2⟩
        · rintro ⟨h1 | h1, h2⟩
          · exact ⟨h1, h2⟩
          · cases h1; exact absurd (hbar.mp hb) h2
      · rw [decide_eq_false hb]
        refine ⟨_, rfl, _, rfl, by show 2 ≤ sizeLine; decide, fun T nT => ?_⟩
        have s8 := same_new (o := HO.tup [.int ((u : Nat) : Int), .int ((v : Nat) : Int)]) nT
        have q2' := s8 _ _ q2
        have hal : bs.length = qs.length := q3.1
        refine ⟨_, q2', by rw [List.length_map, hal, sizeLine_eq]; omega, fun b o hb' => ?_, bs ++ [T], qs ++ [(u, v)], by rw [upd_same, List.map_append]; rfl, ?_, fun c d => ?_, by rw [List.length_append]; simp only [List.length_cons, List.length_nil]; omega⟩
        · rw [upd_ne (ne_of_none hb' hD)]; exact s8 _ _ (q1 _ _ hb')
        · exact ((q3.same s8).kq (Kq.upd q2')).snoc (Kq.upd q2' _ _ upd_same)
        · rw [List.mem_append, List.mem_singleton, q4, take_snoc gp, List.mem_append, List.mem_singleton]
          constructor
          · rintro (⟨h1, h2⟩ | h1)
            · exact ⟨.inl h1, h2⟩
            · cases h1; exact ⟨.inr rfl, fun z => hb (hbar.mpr z)⟩
          · rintro ⟨h1 | h1, h2⟩
            · exact .inl ⟨h1, h2⟩
            · exact .inr h1
    · obtain ⟨q1, bs, qs, q2, q3, q4, q5⟩ := q
      rw [el, List.take_of_length_le (Nat.le_refl _)] at q4
      refine hQ _ _ bs qs (s1.trans q1) (s1.free hD) q2 q3 (clashAt_needs fun i j => ?_) (by rw [el] at q5; omega)
      rw [q4, hc]
/-! ### spread_of, needs, is_clear -/
def spSpreadOf (K : PySem.W.Frag) : Sp := fun vs H Q _ => ∃ (p : Addr) (ss : List Step) (top : Nat), vs = [.ref p] ∧ LsAt K H p ss ∧ AllOk top ss ∧ top ≤ 40 ∧ 1 ≤ ss.length ∧ ss.length ≤ 64 ∧ ∀ H' x, Same H H' → SprAt K H' x ss → Q (.ref x) H'
abbrev NSpreadOf : List Str := ["steps"]
theorem scSpreadOf : FnScope NSpreadOf ["steps"] (defScope sSpreadOf) := ⟨rfl, rfl, rfl, by decide +kernel, rfl, by decide +kernel, by decide +kernel⟩
theorem cal_SpreadOf (E : Wd w K mg) : C8.Cal P w K mg base 11 "spread_of" (spSpreadOf K) [] := by
  obtain ⟨fd, F⟩ := fSpreadOf E
  refine ⟨_, fd, ["steps"], [], F.ok scSpreadOf (fun vs H Q E h => ?_) (fun cdv A outer s H vs Q E' hr h => ⟨_, PSs.nox (pss_cons (ps_expr (C8.pe_c (cal_NeedList E) hr (by decide) (by rfl) (pa_cons (pv 0) pa_nil)))
      (pss_one (ps_ret (C8.pe_mk (mak_Spread E) hr (by decide) (by rfl) (pa_cons (pv 0) pa_nil))))), ?_⟩), g_spread_of E, F.kp, F.bindsN (fun _ _ _ _ _ _ us hl => match us, hl with | [_], _ => rfl), .nil⟩
  · obtain ⟨p, ss, top, rfl, _⟩ := h; rfl
  · obtain ⟨p, ss, top, rfl, hS, ho, ht, hl1, hl2, hQ⟩ := h
    refine ⟨_, rfl, p, ss, top, rfl, hS, ho, by omega, hl1, hl2, fun H1 s1 => ?_⟩
    refine ⟨_, rfl, fun x dx nx nd ne => ?_⟩
    have nx1 : upd H1 dx (.own x) x = none := by rw [upd_ne (Ne.symm ne)]; exact nx
    have s2 := (same_new (o := HO.own x) nd).trans (same_new (o := HO.ins (He.ga K "Spread") dx []) nx1)
    refine ⟨x, p, dx, ss, top, rfl, upd_same, hS.kt (Kt.same (s1.trans s2)), ho, ht, hl2, fun H' f hX => ⟨rfl, hQ _ _ (fun b o hb => ?_) hX⟩⟩
    have hb1 := s1 _ _ hb
    exact f _ _ (s2 _ _ hb1) (fun z => by rw [z, nx] at hb1; cases hb1)
def spNeeds (K : PySem.W.Frag) : Sp := fun vs H Q _ => ∃ (p : Addr) (ss : List Step) (top : Nat), vs = [.ref p] ∧ LsAt K H p ss ∧ AllOk top ss ∧ top ≤ 40 ∧ 1 ≤ ss.length ∧ ss.length ≤ 64 ∧
  ∀ H' t as ps, Same H H' → H t = none → H' t = some (.tup (as.map V.ref)) → PrsAt H' as ps → Needs ss ps → ps.length ≤ 5000 → Q (.ref t) H'
abbrev NNeeds : List Str := ["steps"]
theorem scNeeds : FnScope NNeeds ["steps"] (defScope sNeeds) := ⟨rfl, rfl, rfl, by decide +kernel, rfl, by decide +kernel, by decide +kernel⟩
theorem cal_Needs (E : Wd w K mg) : C8.Cal P w K mg base 12 "needs" (spNeeds K) [] := by
  obtain ⟨fd, F⟩ := fNeeds E
  refine ⟨_, fd, ["steps"], [], F.ok scNeeds (fun vs H Q E h => ?_) (fun cdv A outer s H vs Q E' hr h => ⟨_, PSs.nox (pss_one (ps_ret (pe_callTy call_tuple_of (by rfl) (n_tuple E) (by decide +kernel) (pa_cons (C8.pe_mt0 (met_all_needs E) hr (by decide) (C8.pe_c (cal_SpreadOf E) hr (by decide) (by rfl) (pa_cons (pv 0) pa_nil))) pa_nil)))), ?_⟩), g_needs E, F.kp, F.bindsN (fun _ _ _ _ _ _ us hl => match us, hl with | [_], _ => rfl), .nil⟩
  · obtain ⟨p, ss, top, rfl, _⟩ := h; rfl
  · obtain ⟨p, ss, top, rfl, hS, ho, ht, hl1, hl2, hQ⟩ := h
    refine ⟨_, rfl, p, ss, top, rfl, hS, ho, ht, hl1, hl2, fun H1 x s1 hX => ?_⟩
    have hX0 := hX
    obtain ⟨dx, l, m, ds, hx, _⟩ := hX
    refine ⟨x, _, _, rfl, hx, rfl, x, ss, rfl, hX0, hl2, fun H2 q as ps s2 n2 l2 hp hn hlen => ?_⟩
    refine ⟨q, _, rfl, .inl ⟨.of l2, fun t nt => hQ _ _ as ps (s1.trans (s2.trans (same_new nt))) ((s1.trans s2).free nt) upd_same (hp.same (same_new nt)) hn hlen⟩⟩
def spIsClear (K : PySem.W.Frag) : Sp := fun vs H Q _ => ∃ (p : Addr) (ss : List Step) (top : Nat), vs = [.ref p] ∧ LsAt K H p ss ∧ AllOk top ss ∧ top ≤ 40 ∧ 1 ≤ ss.length ∧ ss.length ≤ 64 ∧
  ∀ H' (b : Bool), Same H H' → (b = true ↔ Clear ss) → Q (.bl b) H'
abbrev NIsClear : List Str := ["steps"]
theorem scIsClear : FnScope NIsClear ["steps"] (defScope sIsClear) := ⟨rfl, rfl, rfl, by decide +kernel, rfl, by decide +kernel, by decide +kernel⟩
theorem cal_IsClear (E : Wd w K mg) : C8.Cal P w K mg base 13 "is_clear" (spIsClear K) [] := by
  obtain ⟨fd, F⟩ := fIsClear E
  refine ⟨_, fd, ["steps"], [], F.ok scIsClear (fun vs H Q E h => ?_) (fun cdv A outer s H vs Q E' hr h => ⟨_, PSs.nox (pss_one (ps_ret (pe_cmpR (op_eqE hr.units0) (C8.pe_c (cal_Needs E) hr (by decide) (by rfl) (pa_cons (pv 0) pa_nil)) (pe_tup pa_nil) (nomark _)))), ?_⟩), g_is_clear E, F.kp, F.bindsN (fun _ _ _ _ _ _ us hl => match us, hl with | [_], _ => rfl), .nil⟩
  · obtain ⟨p, ss, top, rfl, _⟩ := h; rfl
  · obtain ⟨p, ss, top, rfl, hS, ho, ht, hl1, hl2, hQ⟩ := h
    refine ⟨_, rfl, p, ss, top, rfl, hS, ho, ht, hl1, hl2, fun H1 t as ps s1 n1 l1 hp hn hlen => ⟨by show 0 ≤ sizeLine; decide, fun z nz => ⟨t, z, _, rfl, rfl, .inr ⟨.of (same_new nz _ _ l1), .of upd_same⟩, hQ _ _ (s1.trans (same_new nz)) ?_⟩⟩⟩
    rw [← hn.clear, List.isEmpty_iff]
    constructor
    · intro h
      have h1 : as = [] := List.map_eq_nil_iff.mp h
      exact List.eq_nil_of_length_eq_zero (by rw [← hp.1, h1]; rfl)
    · intro h
      rw [List.eq_nil_of_length_eq_zero (l := as) (by rw [hp.1, h]; rfl)]; rfl
end
end K24
end
section
set_option Elab.async false
set_option linter.all false
set_option maxRecDepth 100000
set_option maxHeartbeats 2000000
namespace K24
open PySem PySem.Spec PyProof.Rows L2 C8 RZ
theorem cut_from1 {xs : List V} : cutV xs (some 1) none = xs.drop 1 := by
  cases xs with
  | nil => rfl
  | cons x xs => exact cut_from (k := 1) (by simp)
theorem fenced_snoc (spots : List Nat) (s : Step) : ∀ (l : List Step) (k : Nat), fencedFrom spots k (l ++ [s]) = fencedFrom spots k l ++ (if k + l.length ∈ spots then [.fence, s] else [s])
  | [], k => by simp [fencedFrom]
  | t :: l, k => by
    show (if k ∈ spots then [Step.fence, t] else [t]) ++ fencedFrom spots (k + 1) (l ++ [s]) = ((if k ∈ spots then [Step.fence, t] else [t]) ++ fencedFrom spots (k + 1) l) ++ _
    rw [fenced_snoc spots s l (k + 1), List.append_assoc, List.length_cons, show k + 1 + l.length = k + (l.length + 1) by omega]
theorem inV_nums (i : Nat) : ∀ l : List Nat, inV (.int ((i : Nat) : Int)) (nums l) = decide (i ∈ l)
  | [] => rfl
  | a :: l => by
    show (eqV (.int ((a : Nat) : Int)) (.int ((i : Nat) : Int)) || inV (.int ((i : Nat) : Int)) (nums l)) = _
    rw [inV_nums i l]
    show ((((a : Nat) : Int) == ((i : Nat) : Int)) || decide (i ∈ l)) = _
    by_cases e : i = a
    · subst e; simp
    · have h1 : (((a : Nat) : Int) == ((i : Nat) : Int)) = false := by rw [beq_eq_false_iff_ne]; omega
      rw [h1]; simp [e]
theorem flat_nums (l : List Nat) : (nums l).all flatV = true := by unfold nums; rw [List.all_map, List.all_eq_true]; intro x _; rfl
theorem nums_get {l : List Nat} {i : Nat} {x : V} (h : (nums l)[i]? = some x) : ∃ c, l[i]? = some c ∧ x = .int ((c : Nat) : Int) := by
  unfold nums at h
  rw [List.getElem?_map] at h
  cases e : l[i]? with
  | none => rw [e] at h; cases h
  | some c => rw [e] at h; exact ⟨c, rfl, (Option.some.inj h).symm⟩
section
variable {P : Program} {w : World} {K : PySem.W.Frag} {mg : Str → Option Value} {base : Heap}
def spAreSpots (K : PySem.W.Frag) : Sp := fun vs H Q _ => ∃ (p q : Addr) (xs : List V) (sp : List Nat), vs = [.ref p, .ref q] ∧ SqT K H p xs ∧ SqT K H q (nums sp) ∧ sp.Pairwise (· < ·) ∧ (∀ c ∈ sp, c < xs.length) ∧ sp.length ≤ 64 ∧ xs.length ≤ 64 ∧ ∀ H', Same H H' → Q (.bl true) H'
abbrev NAreSpots : List Str := ["steps", "thing", "spot", "one", "other"]
theorem scAreSpots : FnScope NAreSpots ["steps", "thing"] (defScope sAreSpots) := ⟨rfl, rfl, rfl, by decide +kernel, rfl, by decide +kernel, by decide +kernel⟩
theorem walk_zipT {a b : Addr} {xs ys : List V} {n : Nat} (hn : n = min xs.length ys.length) : Walk (ItzT K a b) n (fun H => SqT K H a xs ∧ SqT K H b ys) (YPair (fun i => xs[i]?) (fun i => ys[i]?)) := by
  subst hn
  refine ⟨fun i _ hi q => ?_, fun _ q => ⟨xs, ys, q.1, q.2, by omega⟩, fun i H v H' _ q y => ?_⟩
  · have h1 : i < xs.length := by omega
    have h2 : i < ys.length := by omega
    exact ⟨xs, ys, xs[i], ys[i], q.1, q.2, by simp [h1], by simp [h2]⟩
  · obtain ⟨T, x, z, h1, h2, h3, h4, h5⟩ := y
    exact ⟨T, x, z, h1, h2, h3, h4 xs q.1, h5 ys q.2⟩
theorem cal_AreSpots (E : Wd w K mg) : C8.Cal P w K mg base 2 "are_spots" (spAreSpots K) [] := by
  obtain ⟨fd, F⟩ := fAreSpots E
  refine ⟨_, fd, ["steps", "thing"], [], F.ok scAreSpots (fun vs H Q E h => ?_) (fun cdv A outer s H vs Q E' hr h => ⟨_, PSs.nox (pss_cons (ps_if (PW.pt (pw_or (pt_not (pt_val (pe_callB call_isi (by rfl) (n_isinstance E) (by decide +kernel) (pa_cons (pv 1) (pa_cons (pe_bltn (by rfl) (n_tuple E) (by decide +kernel) (v := .ty "tuple") (u := .type "tuple") rfl) pa_nil))))) (pw_or1 (pt_not (pt_val (pe_callB (cr_all rfl) (by rfl) (n_all E) (by decide +kernel) (pa_cons (pe_lc (own := [("spot", 2)]) (by rfl) scAreSpots.nd (pi_tup (pv 1)) (blkOk_by (own := [("spot", 2)]) (N := NAreSpots) (sc := defScope sAreSpots) (by decide +kernel)) (fun _ _ _ _ _ => (pg_name (i := 2) scAreSpots.nd rfl (Or.inl rfl))) (fun _ _ _ _ _ => pts_nil) (fun _ _ _ _ _ => (pe_ck (cal_IsWhole1 E) hr (by decide) (by rfl) (pa_cons (pv 2) pa_nil) (pk_cons (pe_op op_sub (pe_callB (call_lenK (K := K) rfl) (by rfl) (n_len E) (by decide +kernel) (pa_cons (pv 0) pa_nil)) pe_int) pk_nil)))) pa_nil))))))) (pss_one (ps_ret pe_bl)) pss_nil)
      (pss_one (ps_ret (pe_callB (cr_all rfl) (by rfl) (n_all E) (by decide +kernel) (pa_cons (pe_lc (own := [("one", 3), ("other", 4)]) (by rfl) scAreSpots.nd (pi_zipA (by rfl) (n_zip E) (pa_cons (pv 1) (pa_cons (pe_slice sl_tupU (pv 1) (po_some pe_int) po_none) pa_nil))) (blkOk_by (own := [("one", 3), ("other", 4)]) (N := NAreSpots) (sc := defScope sAreSpots) (by decide +kernel)) (fun _ _ _ _ _ => (pg_tupK (K := K) (n := 2) rfl rfl (pgs_cons (pg_name (i := 3) scAreSpots.nd rfl (Or.inl rfl)) (pgs_cons (pg_name (i := 4) scAreSpots.nd rfl (Or.inl rfl)) pgs_nil)))) (fun _ _ _ _ _ => pts_nil) (fun _ _ _ _ _ => (pe_cmpR op_lt (pv 3) (pv 4) (nomark _)))) pa_nil))))), ?_⟩), g_are_spots E, F.kp, F.bindsN (fun _ _ _ _ _ _ us hl => match us, hl with | [_, _], _ => rfl), .nil⟩
  · obtain ⟨p, q, xs, sp, rfl, _⟩ := h; rfl
  · obtain ⟨p, q, xs, sp, rfl, hp, hq, hr1, hr2, hl, hl2, hQ⟩ := h
    refine ⟨_, rfl, _, _, _, _, true, rfl, .ty "tuple", ty_tup hq, kTT, _, rfl, iteF ?_⟩
    refine ⟨_, rfl, q, rfl, ⟨_, hq⟩, fun D hD => ?_⟩
    refine it_gen (walk_tup (K := K) (a := q) (xs := nums sp)) (fun i H1 => Same H H1 ∧ H1 D = some (.lst (((sp.take i).map fun _ => true).map V.bl))) ⟨same_new hD, upd_same⟩ (fun i H1 _ z => (Kt.same z.1).sq hq) (fun i x H1 H2 hi z y => ?_) (fun H1 z => ?_)
    · obtain ⟨q1, q2⟩ := z
      obtain ⟨rfl, hx⟩ := y
      obtain ⟨c, hc, rfl⟩ := nums_get hx
      have hcl := hr2 c (List.mem_of_getElem? hc)
      refine ⟨rfl, _, rfl, _, rfl, _, _, rfl, .inr ((Kt.same q1).sq hp), _, _, rfl, rfl, rfl, rfl, _, 0, _, rfl, _, q2, ?_, fun b o hb => ?_, ?_⟩
      · rw [List.length_map, List.length_map, List.length_take, sizeLine_eq]; omega
      · rw [upd_ne (ne_of_none hb hD)]; exact q1 b o hb
      · rw [upd_same, inB_true (by omega) (by omega), take_snoc hc, List.map_append, List.map_append]
        rfl
    · rw [nums_len, List.take_of_length_le (Nat.le_refl _)] at z
      refine ⟨D, _, rfl, .of z.2, _, rfl, ?_⟩
      have e1 : ((sp.map fun _ => true).all id) = true := by rw [List.all_eq_true]; intro b hb; obtain ⟨_, _, rfl⟩ := List.mem_map.mp hb; rfl
      rw [e1]
      refine iteF ?_
      have hq1 := (Kt.same z.1).sq hq
      refine ⟨_, rfl, _, rfl, _, rfl, q, _, rfl, hq1, fun q2 H2 s2 hq2 => ?_⟩
      rw [cut_from1] at hq2
      have hqb := (Kt.same s2).sq hq1
      refine ⟨q, q2, _, _, rfl, .inr ⟨hqb, hq2, fun D2 hD2 => ?_⟩⟩
      refine it_gen (walk_zipT (K := K) (a := q) (b := q2) (xs := nums sp) (ys := (nums sp).drop 1) (n := sp.length - 1) (by rw [nums_len, List.length_drop, nums_len]; omega)) (fun i H1 => Same H2 H1 ∧ H1 D2 = some (.lst (((sp.take i).map fun _ => true).map V.bl))) ⟨same_new hD2, upd_same⟩ (fun i H1 _ z => ⟨(Kt.same z.1).sq hqb, (Kt.same z.1).sq hq2⟩) (fun i x H1 H3 hi z y => ?_) (fun H1 z2 => ?_)
      · obtain ⟨q3, q4⟩ := z
        obtain ⟨T, x, y, rfl, hT, rfl, hx, hy⟩ := y
        obtain ⟨c, hc, rfl⟩ := nums_get hx
        dsimp only at hy
        rw [List.getElem?_drop] at hy
        obtain ⟨d, hd, rfl⟩ := nums_get hy
        have hcd : c < d := by
          rw [List.pairwise_iff_getElem] at hr1
          obtain ⟨h1, rfl⟩ := List.getElem?_eq_some_iff.mp hc
          obtain ⟨h2, rfl⟩ := List.getElem?_eq_some_iff.mp hd
          exact hr1 _ _ h1 h2 (by omega)
        have sT := same_new (o := HO.tup [.int ((c : Nat) : Int), .int ((d : Nat) : Int)]) hT
        refine ⟨T, _, rfl, .of upd_same, rfl, _, _, rfl, _, _, rfl, rfl, rfl, ?_⟩
        refine ⟨_, rfl, _, rfl, _, _, rfl, rfl, _, sT _ _ q4, ?_, fun b o hb => ?_, ?_⟩
        · rw [List.length_map, List.length_map, List.length_take, sizeLine_eq]; omega
        · rw [upd_ne (ne_of_none hb hD2)]; exact sT _ _ (q3 b o hb)
        · rw [upd_same, take_snoc hc, List.map_append, List.map_append]
          have : decide (((c : Nat) : Int) < ((d : Nat) : Int)) = true := decide_eq_true (by omega)
          show some (HO.lst (_ ++ [V.bl (decide (((c : Nat) : Int) < ((d : Nat) : Int)))])) = _
          rw [this]; rfl
      · refine ⟨D2, _, rfl, .of z2.2, ?_⟩
        have e1 : (((sp.take (sp.length - 1)).map fun _ => true).all id) = true := by rw [List.all_eq_true]; intro b hb; obtain ⟨_, _, rfl⟩ := List.mem_map.mp hb; rfl
        rw [e1]
        exact hQ _ (z.1.trans (s2.trans z2.1))
/-! ### fenced -/
def spFenced (K : PySem.W.Frag) : Sp := fun vs H Q _ => ∃ (p q : Addr) (ss : List Step) (sp : List Nat) (top : Nat), vs = [.ref p, .ref q] ∧ LsAt K H p ss ∧ AllOk top ss ∧ top ≤ 40 ∧ 1 ≤ ss.length ∧ SqT K H q (nums sp) ∧ sp.Pairwise (· < ·) ∧ (∀ c ∈ sp, c < ss.length) ∧ ss.length + sp.length ≤ 64 ∧
  ∀ H' t, Same H H' → H t = none → LsAt K H' t (fencedFrom sp 0 ss) → Q (.ref t) H'
theorem StsAt.snoc {K : PySem.W.Frag} {H : Hp} {as : List Addr} {ss : List Step} {a : Addr} {s : Step} (h : StsAt K H as ss) (g : StAt K H a s) : StsAt K H (as ++ [a]) (ss ++ [s]) := by
  refine ⟨by rw [List.length_append, List.length_append, h.1]; rfl, fun i b m e1 e2 => ?_⟩
  rcases Nat.lt_or_ge i as.length with hi | hi
  · rw [List.getElem?_append_left hi] at e1
    rw [List.getElem?_append_left (by rw [← h.1]; exact hi)] at e2
    exact h.2 i b m e1 e2
  · rw [List.getElem?_append_right hi] at e1
    rw [List.getElem?_append_right (by rw [← h.1]; exact hi)] at e2
    rw [← h.1] at e2
    cases hk : i - as.length with
    | zero =>
      rw [hk] at e1 e2
      cases e1; cases e2
      exact g
    | succ k => rw [hk] at e1; simp at e1
abbrev NFenced : List Str := ["steps", "spots", "found", "number", "step"]
theorem scFenced : FnScope NFenced ["steps", "spots"] (defScope sFenced) := ⟨rfl, rfl, rfl, by decide +kernel, rfl, by decide +kernel, by decide +kernel⟩
theorem cal_Fenced (E : Wd w K mg) : C8.Cal P w K mg base 8 "fenced" (spFenced K) [] := by
  obtain ⟨fd, F⟩ := fFenced E
  refine ⟨_, fd, ["steps", "spots"], [], F.ok scFenced (fun vs H Q E h => ?_) (fun cdv A outer s H vs Q E' hr h => ⟨_, PSs.nox (pss_cons (ps_expr (C8.pe_c (cal_NeedList E) hr (by decide) (by rfl) (pa_cons (pv 0) pa_nil)))
      (pss_cons (ps_if (pt_not (pt_val (C8.pe_c (cal_AreSpots E) hr (by decide) (by rfl) (pa_cons (pv 0) (pa_cons (pv 1) pa_nil))))) (pss_one ps_never) pss_nil)
      (pss_cons (ps_if (pt_cmpR op_gt (pe_op op_add (pe_callB call_len_seq (by rfl) (n_len E) (by decide +kernel) (pa_cons (pv 0) pa_nil)) (pe_callB call_len_seq (by rfl) (n_len E) (by decide +kernel) (pa_cons (pv 1) pa_nil))) (pe_gc (by rfl) (i_MOST_STEPS E)) (nomark _)) (pss_one ps_never) pss_nil)
      (pss_cons (ps_set (i := 2) scFenced.nd rfl (.inl rfl) (pe_lst pa_nil))
      (pss_cons (ps_for PassesOwn.never rfl (pi_enumT (by rfl) (n_enumerate E) (pa_cons (pv 0) pa_nil)) (pg_tup (by rfl) (pgs_cons (pg_name (i := 3) scFenced.nd rfl (Or.inl rfl)) (pgs_cons (pg_name (i := 4) scFenced.nd rfl (Or.inl rfl)) pgs_nil))) (pss_one (ps_expr (pe_bm PySem.F.plainAttrs_list PySem.F.slot_list_extend PySem.F.type_list_extend mt_extend (pv 2) (pa_cons (pe_ifExp (pt_cmpR op_in_seq (pv 3) (pv 1) (by rfl)) (pe_lst (pa_cons (pe_glob (by rfl) (g_FENCE_fences E) (v := .ref (He.ga K "FENCE_fences")) rfl) (pa_cons (pv 4) pa_nil))) (pe_lst (pa_cons (pv 4) pa_nil))) pa_nil)))))
      (pss_one (ps_ret (pe_callTy call_tuple_of (by rfl) (n_tuple E) (by decide +kernel) (pa_cons (pv 2) pa_nil))))))))), ?_⟩), g_fenced E, F.kp, F.bindsN (fun _ _ _ _ _ _ us hl => match us, hl with | [_, _], _ => rfl), .nil⟩
  · obtain ⟨p, q, ss, sp, top, rfl, _⟩ := h; rfl
  · obtain ⟨p, q, ss, sp, top, rfl, hS, ho, ht, hl1, hq, hr1, hr2, hl2, hQ⟩ := h
    have hS0 := hS
    obtain ⟨as, hA, hSt⟩ := hS
    have e : (as.map V.ref).length = ss.length := by rw [List.length_map]; exact hSt.1
    refine ⟨_, rfl, p, ss, top, rfl, hS0, ho, by omega, hl1, by omega, fun H1 s1 => ?_⟩
    refine ⟨_, rfl, _, rfl, p, q, _, sp, rfl, (Kt.same s1).sq hA, (Kt.same s1).sq hq, hr1, by rw [e]; exact hr2, by omega, by rw [e]; omega, fun H2 s2 => ⟨_, rfl, iteF ?_⟩⟩
    have s12 := s1.trans s2
    have hA2 := (Kt.same s12).sq hA
    have hq2 := (Kt.same s12).sq hq
    refine ⟨_, rfl, _, _, rfl, .inr hA2, _, rfl, _, _, rfl, .inr hq2, _, _, rfl, rfl, _, _, rfl, rfl, _, rfl, iteDF (by rw [e, nums_len]; omega) ?_⟩
    refine ⟨by show 0 ≤ sizeLine; decide, fun D hD => ?_⟩
    refine ⟨_, rfl, p, _, rfl, (Kt.same (same_new hD)).sq hA2, ?_⟩
    have hDH : H D = none := s12.free hD
    refine for_it (walk_enumT (K := K) (a := p) (xs := as.map V.ref)) (fun i σ H3 => (∃ x3 x4, σ = [some (.ref p), some (.ref q), some (.ref D), x3, x4]) ∧ Same H2 H3 ∧ ∃ bs, H3 D = some (.lst (bs.map V.ref)) ∧ StsAt K H3 bs (fencedFrom sp 0 (ss.take i)) ∧ bs.length ≤ 2 * i) ⟨⟨_, _, rfl⟩, ?_, [], upd_same, ⟨rfl, fun i a s h => by simp at h⟩, Nat.le_refl _⟩ (fun i σ H3 _ z => ?_) (fun i x σ H3 H4 hi z y => ?_) (fun σ H3 z => ?_)
    · exact same_new hD
    · exact (Kt.same z.2.1).sq hA2
    · obtain ⟨⟨x3, x4, rfl⟩, z1, bs, z2, z3, z4⟩ := z
      obtain ⟨T, x, rfl, hT, rfl, hx⟩ := y
      obtain ⟨a, rfl, ha⟩ := mapref_get hx
      obtain ⟨st, hs, hst⟩ := hSt.get ha
      have hi2 : i < ss.length := by rw [← e]; exact hi
      have sT := same_new (o := HO.tup [.int (i : Nat), .ref a]) hT
      have z1T := z1.trans sT
      have k0T := Kt.same (s12.trans z1T)
      refine ⟨T, _, rfl, .of upd_same, rfl, _, _, rfl, _, _, rfl, rfl, ?_⟩
      refine ⟨_, rfl, .inl ⟨rfl, _, .of (sT _ _ z2)⟩, ?_⟩
      refine ⟨_, rfl, _, rfl, q, _, rfl, .inr (k0T.sq hq), rfl, flat_nums sp, decide (i ∈ sp), by show V.bl (inV _ _) = _; rw [inV_nums], ?_⟩
      have efe : ∀ (c : List Step), (if i ∈ sp then [Step.fence, st] else [st]) = c → fencedFrom sp 0 (ss.take (i + 1)) = fencedFrom sp 0 (ss.take i) ++ c := fun c hc => by
        rw [take_snoc hs, fenced_snoc, List.length_take, Nat.zero_add, Nat.min_eq_left (Nat.le_of_lt hi2), hc]
      have fin : ∀ (L : Addr) (cs : List Addr) (c : List Step), upd H3 T (HO.tup [.int (i : Nat), .ref a]) L = none → (if i ∈ sp then [Step.fence, st] else [st]) = c → (∀ H', Kt H H' → StsAt K H' cs c) → c.length ≤ 2 → Same H2 (upd (upd (upd H3 T (HO.tup [.int (i : Nat), .ref a])) L (.lst (cs.map V.ref))) D (.lst (bs.map V.ref ++ cs.map V.ref))) ∧
          ∃ bs', (upd (upd (upd H3 T (HO.tup [.int (i : Nat), .ref a])) L (.lst (cs.map V.ref))) D (.lst (bs.map V.ref ++ cs.map V.ref))) D = some (.lst (bs'.map V.ref)) ∧ StsAt K (upd (upd (upd H3 T (HO.tup [.int (i : Nat), .ref a])) L (.lst (cs.map V.ref))) D (.lst (bs.map V.ref ++ cs.map V.ref))) bs' (fencedFrom sp 0 (ss.take (i + 1))) ∧ bs'.length ≤ 2 * (i + 1) := fun L cs c nL hc hcs hl => by
        have sL := same_new (o := HO.lst (cs.map V.ref)) nL
        have dL := sL _ _ (sT _ _ z2)
        have k3 : Kt (upd (upd H3 T (HO.tup [.int (i : Nat), .ref a])) L (.lst (cs.map V.ref))) (upd (upd (upd H3 T (HO.tup [.int (i : Nat), .ref a])) L (.lst (cs.map V.ref))) D (.lst (bs.map V.ref ++ cs.map V.ref))) := Kt.upd dL (fun xs z => by cases z) (fun q xs z => by cases z)
        have kall := (Kt.same (s12.trans (z1T.trans sL))).trans k3
        have hcl := (hcs _ kall).1
        refine ⟨fun b o hb => ?_, bs ++ cs, by rw [upd_same, List.map_append], ?_, ?_⟩
        · rw [upd_ne (ne_of_none hb hD)]; exact sL _ _ (z1T _ _ hb)
        · rw [efe c hc]
          have h1 := z3.kt ((Kt.same (sT.trans sL)).trans k3)
          have h2 := hcs _ kall
          refine ⟨by rw [List.length_append, List.length_append, h1.1, h2.1], fun j b m e1 e2 => ?_⟩
          rcases Nat.lt_or_ge j bs.length with hj | hj
          · rw [List.getElem?_append_left hj] at e1
            rw [List.getElem?_append_left (by rw [← h1.1]; exact hj)] at e2
            exact h1.2 j b m e1 e2
          · rw [List.getElem?_append_right hj] at e1
            rw [List.getElem?_append_right (by rw [← h1.1]; exact hj), ← h1.1] at e2
            exact h2.2 _ b m e1 e2
        · rw [List.length_append, hcl]; omega
      by_cases hm : i ∈ sp
      · refine iteDT hm ⟨_, rfl, by show 2 ≤ sizeLine; decide, fun L nL => ?_⟩
        have sL := same_new (o := HO.lst [.ref (He.ga K "FENCE_fences"), .ref a]) nL
        refine ⟨D, L, _, _, rfl, rfl, sL _ _ (sT _ _ z2), upd_same, by rw [List.length_map, sizeLine_eq]; simp only [List.length_cons, List.length_nil]; omega, ⟨_, _, rfl⟩, fin L [He.ga K "FENCE_fences", a] [.fence, st] nL (if_pos hm) (fun H' k => ⟨rfl, fun j b m e1 e2 => ?_⟩) (Nat.le_refl _)⟩
        match j, e1, e2 with
        | 0, e1, e2 => cases e1; cases e2; exact t_FENCE E H'
        | 1, e1, e2 => cases e1; cases e2; exact hst.kt k
        | j + 2, e1, _ => simp at e1
      · refine iteDF hm ⟨_, rfl, by show 1 ≤ sizeLine; decide, fun L nL => ?_⟩
        have sL := same_new (o := HO.lst [.ref a]) nL
        refine ⟨D, L, _, _, rfl, rfl, sL _ _ (sT _ _ z2), upd_same, by rw [List.length_map, sizeLine_eq]; simp only [List.length_cons, List.length_nil]; omega, ⟨_, _, rfl⟩, fin L [a] [st] nL (if_neg hm) (fun H' k => ⟨rfl, fun j b m e1 e2 => ?_⟩) (Nat.le_succ 1)⟩
        match j, e1, e2 with
        | 0, e1, e2 => cases e1; cases e2; exact hst.kt k
        | j + 1, e1, _ => simp at e1
    · obtain ⟨⟨x3, x4, rfl⟩, z1, bs, z2, z3, z4⟩ := z
      rw [e, List.take_of_length_le (Nat.le_refl _)] at z3
      refine ⟨_, rfl, D, _, rfl, .inl ⟨.of z2, fun t nt => ?_⟩⟩
      have st := same_new (o := HO.tup (bs.map V.ref)) nt
      exact hQ _ _ (s12.trans (z1.trans st)) ((s12.trans z1).free nt) ⟨bs, .of upd_same, z3.kt (Kt.same st)⟩
end
end K24
end
section
set_option Elab.async false
set_option linter.all false
set_option maxRecDepth 100000
set_option maxHeartbeats 2000000
namespace K24
open PySem PySem.Spec PyProof.Rows L2 C8
/-- the rule for a def whose code object is told -/
theorem funD_okC {P : Program} {w : World} {K : PySem.W.Frag} {mg : Str → Option Value} {base : Heap} {x qual : Str} {params : Arguments} {body : List Stmt} {scope : Scope} {dvs : List V} {kws : List (Str × V)} {at_ : Str × Option Str} {fd : FuncData} {CX : CXT} {N ps : List Str} {k : Nat} {sp : Sp}
    (F : FunD K x qual params body scope dvs kws (He.fAd K at_) fd) (S : FnScope N ps scope) (len : ∀ vs H Q E, sp vs H Q E → vs.length = ps.length)
    (hbody : ∀ (A : Around) (outer : List Env) (s : Shared) (H : Hp) (vs : List V) (Q : VK) (E : XK), Room k (A.deeper (envOfC qual scope s.heap.objs.size (He.fAd K at_) (.ref (He.codeOf K at_)))) → sp vs H Q E →
      ∃ t, PSs (cxOf CX P w K mg base N qual scope (He.fAd K at_) (.ref (He.codeOf K at_)) A outer s H E) body t ∧ t { nx := fun _ H' => Q .non H', rt := Q } (L2.start N vs) H) : FnOk P w K mg base CX (k + 1) (He.fAd K at_) fd ps sp := by
  obtain ⟨oc, od, dV, kV, doc, pm, an, cdv, ct, osl, rfl, lk, hcd, _, _⟩ := F.ex
  obtain ⟨c, rfl⟩ := He.codeIn_ref hcd
  have e := He.codeOf_eq lk rfl
  subst e
  exact fn_of lk hcd S len fun A outer s H vs Q E hr hsp => hbody A outer s H vs Q E hr hsp
abbrev lsAt : Str × Option Str := ("least_spots", none)
def lamQ : Str := ("least_spots" : Str) ++ (".<locals>." : Str) ++ ("<lambda>" : Str)
def lamT (K : PySem.W.Frag) : List (Addr × Str) := [((He.cT K lsAt).2, lamQ)]
theorem tabs_but {T : List (Addr × Str)} {H H' : Hp} (t : LamX.Tabs T H) (f : ∀ b o, H b = some o → (∀ ps, o = .tbl ps → H' b = some o) ∧ (∀ c q, o = LamX.CodeO c q → H' b = some o)) : LamX.Tabs T H' := fun p hp => by
  obtain ⟨ps, h1, h2, h3⟩ := t p hp
  refine ⟨ps, (f _ _ h1).1 ps rfl, h2, fun pos cv hc => ?_⟩
  obtain ⟨c, e1, e2⟩ := h3 pos cv hc
  exact ⟨c, e1, (f _ _ e2).2 c _ rfl⟩
def cst (p : Nat × Nat) : Int × Int := (((p.1 : Nat) : Int), ((p.2 : Nat) : Int))
theorem prs_pairs {H : Hp} {as : List Addr} {ps : List (Nat × Nat)} (h : PrsAt H as ps) : PairsAt H as (ps.map cst) := by
  refine ⟨by rw [List.length_map]; exact h.1, fun j t q e1 e2 => ?_⟩
  rw [List.getElem?_map] at e2
  cases e : ps[j]? with
  | none => rw [e] at e2; cases e2
  | some p => rw [e] at e2; cases e2; exact h.2 j t p e1 e
theorem uncast {qs : List (Int × Int)} {ps : List (Nat × Nat)} (h : qs.Perm (ps.map cst)) : ∃ rs : List (Nat × Nat), qs = rs.map cst ∧ rs.Perm ps := by
  refine ⟨qs.map fun q => (q.1.toNat, q.2.toNat), ?_, ?_⟩
  · rw [List.map_map]
    conv => lhs; rw [← List.map_id qs]
    refine List.map_congr_left fun q hq => ?_
    obtain ⟨p, _, rfl⟩ := List.mem_map.mp (h.mem_iff.mp hq)
    rfl
  · have := h.map fun q : Int × Int => (q.1.toNat, q.2.toNat)
    rw [List.map_map] at this
    have e : ps.map ((fun q : Int × Int => (q.1.toNat, q.2.toNat)) ∘ cst) = ps := by
      conv => rhs; rw [← List.map_id ps]
      exact List.map_congr_left fun p _ => rfl
    rw [e] at this
    exact this
theorem cst_le {rs : List (Nat × Nat)} (h : (rs.map cst).Pairwise ltEq) : rs.Pairwise fun a b => a.2 ≤ b.2 := by
  rw [List.pairwise_map] at h
  refine h.imp fun {a b} z => ?_
  have z : ((a.2 : Nat) : Int) < ((b.2 : Nat) : Int) ∨ (((a.2 : Nat) : Int) = ((b.2 : Nat) : Int) ∧ ((a.1 : Nat) : Int) ≤ ((b.1 : Nat) : Int)) := z
  omega
theorem nums_last {sp : List Nat} (h : sp ≠ []) : ∃ l, nums sp = l ++ [V.int ((sp.getLastD 0 : Nat) : Int)] := by
  refine ⟨nums sp.dropLast, ?_⟩
  have e : sp = sp.dropLast ++ [sp.getLastD 0] := by
    have := List.dropLast_concat_getLast h
    rw [List.getLastD_eq_getLast?, List.getLast?_eq_some_getLast h]
    exact this.symm
  conv => lhs; rw [e]
  rw [nums_app]
  rfl
section
variable {P : Program} {w : World} {K : PySem.W.Frag} {mg : Str → Option Value} {base : Heap}
def spLeastSpots (K : PySem.W.Frag) : Sp := fun vs H Q _ => ∃ (t : Addr) (as : List Addr) (ps : List (Nat × Nat)) (n : Nat), vs = [.ref t] ∧ SqT K H t (as.map V.ref) ∧ PrsAt H as ps ∧ (∀ p ∈ ps, p.1 < p.2 ∧ p.2 < n) ∧ n ≤ 64 ∧ ps.length ≤ 5000 ∧ LamX.Tabs (lamT K) H ∧
  ∀ H' r a b sp, LamX.ExtN H H' → LamX.Tabs (lamT K) H' → H' r = some (.tup [.ref a, .ref b]) → H' a = some (.tup (nums sp)) → Greedy n ps [] sp → Q (.ref r) H'
abbrev NLeastSpots : List Str := ["wanted", "spots", "pairs", "one", "other"]
theorem scLeastSpots : FnScope NLeastSpots ["wanted"] (defScope sLeastSpots) := ⟨rfl, rfl, rfl, by decide +kernel, rfl, by decide +kernel, by decide +kernel⟩
theorem cal_LeastSpots (E : Wd w K mg) (TB : LamX.TabB base mg (He.cT K lsAt).1 (He.cT K lsAt).2) : C8.Cal P w K mg base 1 "least_spots" (spLeastSpots K) [] := by
  obtain ⟨fd, F⟩ := fLeastSpots E
  refine ⟨_, fd, ["wanted"], [], funD_okC (at_ := lsAt) F scLeastSpots (fun vs H Q E h => ?_) (fun A outer s H vs Q E' hr h => ⟨_, PSs.nox (pss_cons (ps_par (i := 1) (j := 2) (by rfl) scLeastSpots.nd rfl rfl (by decide) rfl rfl (pa_cons (pe_lst pa_nil) (pa_cons (pe_lst pa_nil) pa_nil)) (by rfl))
      (pss_cons (ps_for PassesOwn.never rfl (pi_list (pe_sortLam (T := lamT K) rfl hr (by rfl) (n_sorted E) (pa_cons (pv 0) pa_nil) TB rfl (List.mem_singleton.mpr rfl) (fun p hp _ => by rw [List.mem_singleton.mp hp]; rfl))) (pg_tup (by rfl) (pgs_cons (pg_name (i := 3) scLeastSpots.nd rfl (Or.inl rfl)) (pgs_cons (pg_name (i := 4) scLeastSpots.nd rfl (Or.inl rfl)) pgs_nil))) (pss_one (ps_if (PW.pt (pw_or (pt_cmpR (op_eqE hr.units0) (pv 1) (pe_lst pa_nil) (nomark _)) (pw_or1 (pt_cmpR op_le (pe_ix ix_list (pv 1) (pe_un un_neg pe_int) (fun _ _ => rfl)) (pv 3) (nomark _))))) (pss_cons (ps_expr (pe_bm PySem.F.plainAttrs_list PySem.F.slot_list_append PySem.F.type_list_append mt_append (pv 1) (pa_cons (pv 4) pa_nil)))
      (pss_one (ps_expr (pe_bm PySem.F.plainAttrs_list PySem.F.slot_list_append PySem.F.type_list_append mt_append (pv 2) (pa_cons (pe_tup (pa_cons (pv 3) (pa_cons (pv 4) pa_nil))) pa_nil))))) pss_nil)))
      (pss_one (ps_ret (pe_tup (pa_cons (pe_callTy call_tuple_of (by rfl) (n_tuple E) (by decide +kernel) (pa_cons (pv 1) pa_nil)) (pa_cons (pe_callTy call_tuple_of (by rfl) (n_tuple E) (by decide +kernel) (pa_cons (pv 2) pa_nil)) pa_nil))))))), ?_⟩), g_least_spots E, F.kp, F.bindsN (fun _ _ _ _ _ _ us hl => match us, hl with | [_], _ => rfl), .nil⟩
  · obtain ⟨t, as, ps, n, rfl, _⟩ := h; rfl
  · obtain ⟨t, as, ps, n, rfl, hS, hP, hb, hn, hl, hT, hQ⟩ := h
    refine ⟨by show 0 ≤ sizeLine; decide, fun S nS => ⟨by show 0 ≤ sizeLine; decide, fun R nR => ?_⟩⟩
    have nSR : S ≠ R := fun z => by rw [z, upd_same] at nR; cases nR
    have nRH : H R = none := by rw [upd_ne (Ne.symm nSR)] at nR; exact nR
    have s1 := same_new (o := HO.lst []) nS
    have s2 := same_new (o := HO.lst []) nR
    have s12 := s1.trans s2
    refine ⟨_, _, rfl, _, rfl, t, as, ps.map cst, rfl, (Kt.same s12).sq hS, prs_pairs (hP.same s12), hT.ext s12, fun Hs L bs qs ex tb hfr hLs hperm hsrt hpa => ⟨L, rfl, ⟨_, .of hLs⟩, ?_⟩⟩
    obtain ⟨rs, rfl, hrs⟩ := uncast hperm
    have hS0 : Hs S = some (.lst []) := ex _ _ (s2 _ _ upd_same) (fun ps z => by cases z)
    have hR0 : Hs R = some (.lst []) := ex _ _ upd_same (fun ps z => by cases z)
    have exH : LamX.ExtN H Hs := fun b o hb nt => ex _ _ (s12 _ _ hb) nt
    have hle := cst_le hsrt
    have el : (bs.map V.ref).length = rs.length := by rw [List.length_map, hpa.1, List.length_map]
    have hrl : rs.length ≤ 5000 := by rw [hrs.length_eq]; exact hl
    refine for_it (walk_list (K := K) (a := L) (xs := bs.map V.ref)) (fun i σ H3 => (∃ x3 x4, σ = [some (.ref t), some (.ref S), some (.ref R), x3, x4]) ∧ (∀ b o, Hs b = some o → b ≠ S → b ≠ R → H3 b = some o) ∧ ∃ sp prs, H3 S = some (.lst (nums sp)) ∧ H3 R = some (.lst prs) ∧ prs.length ≤ i ∧ sp.length ≤ i ∧ Greedy n (rs.take i) (rs.drop i) sp)
      ⟨⟨_, _, rfl⟩, fun b o hb _ _ => hb, [], [], hS0, hR0, Nat.le_refl _, Nat.le_refl _, Greedy.begin n _⟩ (fun i σ H3 _ z => ?_) (fun i x σ H3 H4 hi z y => ?_) (fun σ H3 z => ?_)
    · exact .of (z.2.1 _ _ hLs (Ne.symm (hfr _ _ (s2 _ _ upd_same) (fun ps w => by cases w))) (Ne.symm (hfr _ _ upd_same (fun ps w => by cases w))))
    · obtain ⟨⟨x3, x4, rfl⟩, z1, sp, prs, z2, z3, z4, z5, z6⟩ := z
      obtain ⟨rfl, hx⟩ := y
      obtain ⟨a, rfl, ha⟩ := mapref_get hx
      have hi2 : i < rs.length := by rw [← el]; exact hi
      have gp : rs[i]? = some rs[i] := List.getElem?_eq_getElem hi2
      have gd : rs.drop i = rs[i] :: rs.drop (i + 1) := List.drop_eq_getElem_cons hi2
      generalize rs[i] = pr at gp gd
      obtain ⟨u, v⟩ := pr
      have hau := hpa.2 i a (cst (u, v)) ha (by rw [List.getElem?_map, gp]; rfl)
      have hnS : a ≠ S := by intro w; rw [w, hS0] at hau; cases hau
      have hnR : a ≠ R := by intro w; rw [w, hR0] at hau; cases hau
      have hau3 : H4 a = some (.tup [.int ((u : Nat) : Int), .int ((v : Nat) : Int)]) := z1 _ _ hau hnS hnR
      have huv := hb (u, v) (hrs.mem_iff.mp (List.mem_of_getElem? gp))
      have srt : ((u, v) :: rs.drop (i + 1)).Pairwise fun a b => a.2 ≤ b.2 := by rw [← gd]; exact hle.sublist (List.drop_sublist _ _)
      have g2 := Greedy.turn (i := u) (j := v) (by rw [← gd]; exact z6) srt huv.1 huv.2
      rw [← take_snoc gp] at g2
      refine ⟨a, _, rfl, .of hau3, rfl, _, _, rfl, _, _, rfl, rfl, ?_⟩
      refine ⟨_, rfl, by show 0 ≤ sizeLine; decide, fun z0 nz => ⟨S, z0, nums sp, rfl, rfl, .inl ⟨.of (same_new nz _ _ z2), .of upd_same⟩, _, rfl, ?_⟩⟩
      have sz := same_new (o := HO.lst []) nz
      have nzS : S ≠ z0 := ne_of_none z2 nz
      have nzR : R ≠ z0 := ne_of_none z3 nz
      have fin : ∀ T, upd (upd H4 z0 (.lst [])) S (.lst (nums sp ++ [.int ((v : Nat) : Int)])) T = none → Greedy n (rs.take (i + 1)) (rs.drop (i + 1)) (sp ++ [v]) →
          (∀ b o, Hs b = some o → b ≠ S → b ≠ R → (upd (upd (upd (upd H4 z0 (.lst [])) S (.lst (nums sp ++ [.int ((v : Nat) : Int)]))) T (.tup [.int ((u : Nat) : Int), .int ((v : Nat) : Int)])) R (.lst (prs ++ [.ref T]))) b = some o) ∧
          ∃ sp' prs', (upd (upd (upd (upd H4 z0 (.lst [])) S (.lst (nums sp ++ [.int ((v : Nat) : Int)]))) T (.tup [.int ((u : Nat) : Int), .int ((v : Nat) : Int)])) R (.lst (prs ++ [.ref T]))) S = some (.lst (nums sp')) ∧
            (upd (upd (upd (upd H4 z0 (.lst [])) S (.lst (nums sp ++ [.int ((v : Nat) : Int)]))) T (.tup [.int ((u : Nat) : Int), .int ((v : Nat) : Int)])) R (.lst (prs ++ [.ref T]))) R = some (.lst prs') ∧ prs'.length ≤ i + 1 ∧ sp'.length ≤ i + 1 ∧ Greedy n (rs.take (i + 1)) (rs.drop (i + 1)) sp' := fun T nT g => by
        have nTS : S ≠ T := fun w => by rw [← w, upd_same] at nT; cases nT
        refine ⟨fun b o hb h1 h2 => ?_, sp ++ [v], prs ++ [.ref T], ?_, upd_same, by rw [List.length_append]; simp only [List.length_cons, List.length_nil]; omega, by rw [List.length_append]; simp only [List.length_cons, List.length_nil]; omega, g⟩
        · have hb4 := z1 b o hb h1 h2
          have hb5 := sz _ _ hb4
          have hb6 : upd (upd H4 z0 (.lst [])) S (.lst (nums sp ++ [.int ((v : Nat) : Int)])) b = some o := by rw [upd_ne h1]; exact hb5
          rw [upd_ne h2, upd_ne (ne_of_none hb6 nT)]; exact hb6
        · rw [upd_ne nSR, upd_ne nTS, upd_same, nums_app]; rfl
      by_cases hc : sp = [] ∨ sp.getLastD 0 ≤ u
      · rw [if_pos hc] at g2
        cases sp with
        | nil =>
          refine ⟨_, rfl, .inl ⟨rfl, _, .of (sz _ _ z2)⟩, _, rfl, S, _, _, rfl, rfl, sz _ _ z2, by show 0 < sizeLine; decide, ?_⟩
          have zr : upd (upd H4 z0 (.lst [])) S (.lst (nums [] ++ [.int ((v : Nat) : Int)])) R = some (.lst prs) := by rw [upd_ne (Ne.symm nSR)]; exact sz _ _ z3
          refine ⟨_, rfl, .inl ⟨rfl, _, .of zr⟩, _, rfl, _, rfl, by show 2 ≤ sizeLine; decide, fun T nT => ⟨R, _, _, rfl, rfl, same_new nT _ _ zr, by rw [sizeLine_eq]; omega, ⟨_, _, rfl⟩, fin T nT g2⟩⟩
        | cons s0 sp0 =>
          have hlast : (s0 :: sp0).getLastD 0 ≤ u := hc.resolve_left (by simp)
          obtain ⟨l0, el0⟩ := nums_last (sp := s0 :: sp0) (by simp)
          refine ⟨_, rfl, _, rfl, S, _, _, _, rfl, rfl, .of (sz _ _ z2), by rw [el0]; exact atI_last _ _, _, rfl, _, _, rfl, rfl, _, rfl, iteDT (by omega) ?_⟩
          refine ⟨_, rfl, .inl ⟨rfl, _, .of (sz _ _ z2)⟩, _, rfl, S, _, _, rfl, rfl, sz _ _ z2, by rw [nums_len, sizeLine_eq]; omega, ?_⟩
          have zr : upd (upd H4 z0 (.lst [])) S (.lst (nums (s0 :: sp0) ++ [.int ((v : Nat) : Int)])) R = some (.lst prs) := by rw [upd_ne (Ne.symm nSR)]; exact sz _ _ z3
          refine ⟨_, rfl, .inl ⟨rfl, _, .of zr⟩, _, rfl, _, rfl, by show 2 ≤ sizeLine; decide, fun T nT => ⟨R, _, _, rfl, rfl, same_new nT _ _ zr, by rw [sizeLine_eq]; omega, ⟨_, _, rfl⟩, fin T nT g2⟩⟩
      · rw [if_neg hc] at g2
        cases sp with
        | nil => exact absurd (.inl rfl) hc
        | cons s0 sp0 =>
          have hlast : ¬ (s0 :: sp0).getLastD 0 ≤ u := fun w => hc (.inr w)
          obtain ⟨l0, el0⟩ := nums_last (sp := s0 :: sp0) (by simp)
          refine ⟨_, rfl, _, rfl, S, _, _, _, rfl, rfl, .of (sz _ _ z2), by rw [el0]; exact atI_last _ _, _, rfl, _, _, rfl, rfl, _, rfl, iteDF (by omega) ?_⟩
          exact ⟨⟨_, _, rfl⟩, fun b o hb h1 h2 => sz _ _ (z1 b o hb h1 h2), s0 :: sp0, prs, sz _ _ z2, sz _ _ z3, by omega, by omega, g2⟩
    · obtain ⟨⟨x3, x4, rfl⟩, z1, sp, prs, z2, z3, z4, z5, z6⟩ := z
      rw [el, List.take_of_length_le (Nat.le_refl _), List.drop_of_length_le (Nat.le_refl _)] at z6
      refine ⟨_, rfl, S, _, rfl, .inl ⟨.of z2, fun a na => ?_⟩⟩
      have sa := same_new (o := HO.tup (nums sp)) na
      refine ⟨_, rfl, R, _, rfl, .inl ⟨.of (sa _ _ z3), fun b nb => ?_⟩⟩
      have sb := same_new (o := HO.tup prs) nb
      refine ⟨by show 2 ≤ sizeLine; decide, fun r nr => ?_⟩
      have sr := same_new (o := HO.tup [.ref a, .ref b]) nr
      have sall := sa.trans (sb.trans sr)
      refine hQ _ r a b sp (fun c o hc nt => ?_) ?_ upd_same (sr _ _ (sb _ _ upd_same)) ⟨z6.up, z6.lt, fun q hq => z6.serve q (hrs.mem_iff.mpr hq), fun _ q hq => absurd hq List.not_mem_nil⟩
      · have h1 : c ≠ S := ne_of_none hc nS
        have h2 : c ≠ R := ne_of_none hc nRH
        exact sall _ _ (z1 _ _ (exH _ _ hc nt) h1 h2)
      · refine tabs_but tb fun c o hc => ⟨fun ps e => ?_, fun c' q e => ?_⟩
        · have h1 : c ≠ S := fun w => by rw [w, hS0, e] at hc; cases hc
          have h2 : c ≠ R := fun w => by rw [w, hR0, e] at hc; cases hc
          exact sall _ _ (z1 _ _ hc h1 h2)
        · have h1 : c ≠ S := fun w => by rw [w, hS0, e] at hc; unfold LamX.CodeO at hc; cases hc
          have h2 : c ≠ R := fun w => by rw [w, hR0, e] at hc; unfold LamX.CodeO at hc; cases hc
          exact sall _ _ (z1 _ _ hc h1 h2)
end
end K24
end
section
set_option Elab.async false
set_option linter.all false
set_option maxRecDepth 100000
set_option maxHeartbeats 2000000
namespace K24
open PySem PySem.Spec PyProof.Rows L2 C8
section
variable {P : Program} {w : World} {K : PySem.W.Frag} {mg : Str → Option Value} {base : Heap}
def spFewest (K : PySem.W.Frag) : Sp := fun vs H Q _ => ∃ (p : Addr) (ss : List Step) (top : Nat), vs = [.ref p] ∧ LsAt K H p ss ∧ AllOk top ss ∧ top ≤ 40 ∧ 1 ≤ ss.length ∧ ss.length ≤ 64 ∧ LamX.Tabs (lamT K) H ∧
  ∀ H' t sp, LamX.ExtN H H' → LamX.Tabs (lamT K) H' → H' t = some (.tup (nums sp)) → Serves ss sp → sp.Pairwise (· < ·) → (∀ x ∈ sp, x < ss.length) → Q (.ref t) H'
abbrev NFewest : List Str := ["steps"]
theorem scFewest : FnScope NFewest ["steps"] (defScope sFewest) := ⟨rfl, rfl, rfl, by decide +kernel, rfl, by decide +kernel, by decide +kernel⟩
theorem cal_Fewest (E : Wd w K mg) (TB : LamX.TabB base mg (He.cT K lsAt).1 (He.cT K lsAt).2) : C8.Cal P w K mg base 13 "fewest" (spFewest K) [] := by
  obtain ⟨fd, F⟩ := fFewest E
  refine ⟨_, fd, ["steps"], [], F.ok scFewest (fun vs H Q E h => ?_) (fun cdv A outer s H vs Q E' hr h => ⟨_, PSs.nox (pss_one (ps_ret (pe_ix ix_tup (C8.pe_c (cal_LeastSpots E TB) hr (by decide) (by rfl) (pa_cons (C8.pe_c (cal_Needs E) hr (by decide) (by rfl) (pa_cons (pv 0) pa_nil)) pa_nil)) pe_int (fun _ _ => rfl)))), ?_⟩), g_fewest E, F.kp, F.bindsN (fun _ _ _ _ _ _ us hl => match us, hl with | [_], _ => rfl), .nil⟩
  · obtain ⟨p, ss, top, rfl, _⟩ := h; rfl
  · obtain ⟨p, ss, top, rfl, hS, ho, ht, hl1, hl2, hT, hQ⟩ := h
    refine ⟨_, rfl, p, ss, top, rfl, hS, ho, ht, hl1, hl2, fun H1 t as ps s1 n1 l1 hp hn hlen => ?_⟩
    refine ⟨t, as, ps, ss.length, rfl, .of l1, hp, fun q hq => hn.lt hq, hl2, hlen, hT.ext s1, fun H2 r a b sp ex tb hr' ha g => ?_⟩
    refine ⟨r, _, _, _, rfl, rfl, .of hr', atI_nat (j := 0) rfl, hQ _ a sp (fun c o hc nt => ex _ _ (s1 _ _ hc) nt) tb ha (hn.serves g fun q hq => hq) g.up g.lt⟩
/-! ### the plain side: area_cells -/
def spAreaCells (K : PySem.W.Frag) : Sp := fun vs H Q _ => ∃ (p : Addr) (a : Area), vs = [.ref p] ∧ ArAt K H p a ∧ a.Sm ∧ ∀ H' t, Same H H' → H t = none → H' t = some (.lst (nums a.cells)) → Q (.ref t) H'
abbrev NAreaCells : List Str := ["area", "start", "count", "rows", "pitch", "row", "at"]
theorem scAreaCells : FnScope NAreaCells ["area"] (defScope sAreaCells) := ⟨rfl, rfl, rfl, by decide +kernel, rfl, by decide +kernel, by decide +kernel⟩
theorem cal_AreaCells (E : Wd w K mg) : C8.Cal P w K mg base 1 "area_cells" (spAreaCells K) [] := by
  obtain ⟨fd, F⟩ := fAreaCells E
  refine ⟨_, fd, ["area"], [], F.ok scAreaCells (fun vs H Q E h => ?_) (fun cdv A outer s H vs Q E' hr h => ⟨_, PSs.nox (pss_cons (ps_asg (pv 0) (pg_tup (by rfl) (pgs_cons (pg_name (i := 1) scAreaCells.nd rfl (Or.inr rfl)) (pgs_cons (pg_name (i := 2) scAreaCells.nd rfl (Or.inr rfl)) (pgs_cons (pg_name (i := 3) scAreaCells.nd rfl (Or.inl rfl)) (pgs_cons (pg_name (i := 4) scAreaCells.nd rfl (Or.inr rfl)) pgs_nil))))))
      (pss_one (ps_ret (pe_lc2 (own := [("row", 5), ("at", 6)]) (vs1 := [6]) (by rfl) scAreaCells.nd (pi_range1 (by rfl) (n_range E) (pa_cons (pv 3) pa_nil)) (blkOk_by (own := [("row", 5), ("at", 6)]) (N := NAreaCells) (sc := defScope sAreaCells) (by decide +kernel)) (by decide) (fun _ _ _ _ _ => (pg_name (i := 5) scAreaCells.nd rfl (Or.inl rfl))) (fun _ _ _ _ _ => pts_nil) (fun _ _ _ _ _ => (pi_range1 (by rfl) (n_range E) (pa_cons (pv 2) pa_nil))) (fun _ _ _ _ _ => (pg_name (i := 6) scAreaCells.nd rfl (Or.inl rfl))) (fun _ _ _ _ _ => pts_nil) (fun _ _ _ _ _ => (pe_op op_add (pe_op op_add (pv 1) (pe_op op_mul (pv 4) (pv 5))) (pv 6))))))), ?_⟩), g_area_cells E, F.kp, F.bindsN (fun _ _ _ _ _ _ us hl => match us, hl with | [_], _ => rfl), .nil⟩
  · obtain ⟨i, m, rfl, _⟩ := h; rfl
  · obtain ⟨p, a, rfl, hA, hs, hQ⟩ := h
    have hr3 := hs.r
    have hc3 := hs.c
    have hp3 := hs.p
    refine ⟨_, rfl, p, _, rfl, hA, rfl, _, _, rfl, _, _, rfl, _, _, rfl, _, _, rfl, rfl, ?_⟩
    refine ⟨_, rfl, _, rfl, by omega, by omega, fun D hD => ?_⟩
    refine it_gen walk_range (fun i H1 => Same H H1 ∧ H1 D = some (.lst (nums ((List.range i).flatMap a.row)))) ⟨same_new hD, upd_same⟩ (fun _ _ _ _ => trivial) (fun i x H1 H2 hi q y => ?_) (fun H1 q => ?_)
    · obtain ⟨q1, q2⟩ := q
      obtain ⟨rfl, rfl⟩ := y
      refine ⟨rfl, _, rfl, _, rfl, by omega, by omega, ?_⟩
      refine it_gen walk_range (fun j H1 => Same H H1 ∧ H1 D = some (.lst (nums ((List.range i).flatMap a.row ++ (List.range j).map fun k => a.start + i * a.pitch + k)))) ⟨q1, by rw [q2]; simp⟩ (fun _ _ _ _ => trivial) (fun j x H1 H2 hj q y => ?_) (fun H1 q => ?_)
      · obtain ⟨q1, q2⟩ := q
        obtain ⟨rfl, rfl⟩ := y
        refine ⟨rfl, _, rfl, _, rfl, _, rfl, _, _, rfl, rfl, .inl ⟨by omega, by omega⟩, _, _, rfl, rfl, _, rfl, _, _, rfl, rfl, _, q2, ?_, ?_, ?_⟩
        · rw [nums_len, List.length_append, flat_le _ _ _ a.row_len, List.length_map, List.length_range, sizeLine_eq]
          have : i * a.count ≤ 3 * 64 := Nat.mul_le_mul (by omega) (by omega)
          omega
        · exact fun b o hb => by rw [upd_ne (ne_of_none hb hD)]; exact q1 b o hb
        · rw [upd_same, map_succ, ← List.append_assoc, nums_app (_ ++ _)]
          congr 3
          show [V.int _] = [V.int _]
          congr 2
          push_cast
          rw [Int.zero_add, Int.zero_add, Int.mul_comm]
      · refine ⟨q.1, ?_⟩
        rw [q.2, flat_succ]
        have : ((a.count : Int).toNat) = a.count := by omega
        rw [this]; rfl
    · have : ((a.rows : Int).toNat) = a.rows := by omega
      rw [this] at q
      exact hQ _ _ q.1 hD q.2
/-! ### cells_touched -/
def spCellsTouched (K : PySem.W.Frag) : Sp := fun vs H Q _ => ∃ (p : Addr) (s : Step) (top : Nat), vs = [.ref p] ∧ StAt K H p s ∧ s.Ok top ∧ top ≤ 40 ∧ ∀ H' t cs, Same H H' → H t = none → H' t = some (.lst (nums cs)) → (∀ c ∈ cs, c < top) → cs.length ≤ 100 → Q (.ref t) H'
abbrev NCellsTouched : List Str := ["step", "word", "things"]
theorem scCellsTouched : FnScope NCellsTouched ["step"] (defScope sCellsTouched) := ⟨rfl, rfl, rfl, by decide +kernel, rfl, by decide +kernel, by decide +kernel⟩
theorem cal_CellsTouched (E : Wd w K mg) : C8.Cal P w K mg base 2 "cells_touched" (spCellsTouched K) [] := by
  obtain ⟨fd, F⟩ := fCellsTouched E
  refine ⟨_, fd, ["step"], [], F.ok scCellsTouched (fun vs H Q E h => ?_) (fun cdv A outer s H vs Q E' hr h => ⟨_, PSs.nox (pss_cons (ps_asg (pv 0) (pg_star (by rfl) (pgs_cons (pg_name (i := 1) scCellsTouched.nd rfl (Or.inl rfl)) (pgs_star (pg_name (i := 2) scCellsTouched.nd rfl (Or.inl rfl)) pgs_nil))))
      (pss_cons (ps_if (pt_cmpR op_eq (pv 1) (pe_gc (by rfl) (s_COPY_plain E)) (nomark _)) (pss_one (ps_ret (pe_op op_cat (pe_slice sl_list (C8.pe_c (cal_AreaCells E) hr (by decide) (by rfl) (pa_cons (pe_ix ix_list (pv 2) pe_int (fun _ _ => rfl)) pa_nil)) (po_some (pe_ix ix_list (pv 2) pe_int (fun _ _ => rfl))) po_none) (pe_slice sl_list (C8.pe_c (cal_AreaCells E) hr (by decide) (by rfl) (pa_cons (pe_ix ix_list (pv 2) pe_int (fun _ _ => rfl)) pa_nil)) (po_some (pe_ix ix_list (pv 2) pe_int (fun _ _ => rfl))) po_none)))) pss_nil)
      (pss_cons (ps_if (pt_cmpR op_eq (pv 1) (pe_gc (by rfl) (s_FILL_plain E)) (nomark _)) (pss_one (ps_ret (pe_slice sl_list (C8.pe_c (cal_AreaCells E) hr (by decide) (by rfl) (pa_cons (pe_ix ix_list (pv 2) pe_int (fun _ _ => rfl)) pa_nil)) (po_some (pe_ix ix_list (pv 2) pe_int (fun _ _ => rfl))) po_none))) pss_nil)
      (pss_one (ps_ret (pe_ifExp (pt_cmpR op_eq (pv 1) (pe_gc (by rfl) (s_ADD_plain E)) (nomark _)) (pe_op op_cat (C8.pe_c (cal_AreaCells E) hr (by decide) (by rfl) (pa_cons (pe_ix ix_list (pv 2) pe_int (fun _ _ => rfl)) pa_nil)) (pe_lst (pa_cons (pe_ix ix_list (pv 2) pe_int (fun _ _ => rfl)) pa_nil))) (pe_lst pa_nil))))))), ?_⟩), g_cells_touched E, F.kp, F.bindsN (fun _ _ _ _ _ _ us hl => match us, hl with | [_], _ => rfl), .nil⟩
  · obtain ⟨i, m, t, rfl, _⟩ := h; rfl
  · obtain ⟨p, st, top, rfl, hS, ho, ht, hQ⟩ := h
    have hsz : ∀ (a : Area), a.Ok top → a.size ≤ 40 := fun a h => Nat.le_trans h.size_le ht
    cases st with
    | copy f t k =>
      obtain ⟨pf, pt, h1, h2, h3⟩ := hS
      obtain ⟨o1, o2, o3, o4⟩ := ho
      have sf := o1.sm (by omega)
      have st' := o2.sm (by omega)
      have z1 := hsz f o1
      have z2 := hsz t o2
      refine ⟨_, rfl, p, _, _, rfl, h1, fun D hD => ⟨_, _, rfl, _, _, rfl, rfl, ?_⟩⟩
      have s0 := same_new (o := HO.lst [.ref pf, .ref pt, .int ((k : Nat) : Int)]) hD
      refine ⟨_, rfl, rfl, _, rfl, iteDT rfl ?_⟩
      refine ⟨_, rfl, D, _, _, _, rfl, rfl, .of upd_same, atI_nat (j := 0) rfl, pf, f, rfl, h2.kt (Kt.same s0), sf, fun H1 t1 s1 n1 l1 => ?_⟩
      have d1 := s1 _ _ (upd_same (H := H) (a := D) (o := HO.lst [.ref pf, .ref pt, .int ((k : Nat) : Int)]))
      refine ⟨_, rfl, D, _, _, _, rfl, rfl, .of d1, atI_nat (j := 2) rfl, _, rfl, t1, _, rfl, .of l1, fun L1 nL1 => ?_⟩
      rw [cut_from (by rw [nums_len, Area.cells_length]; omega)]
      have s2 := same_new (o := HO.lst ((nums f.cells).drop k)) nL1
      refine ⟨_, rfl, D, _, _, _, rfl, rfl, .of (s2 _ _ d1), atI_nat (j := 1) rfl, pt, t, rfl, h3.kt (Kt.same (s0.trans (s1.trans s2))), st', fun H3 t3 s3 n3 l3 => ?_⟩
      have d3 := s3 _ _ (s2 _ _ d1)
      refine ⟨_, rfl, D, _, _, _, rfl, rfl, .of d3, atI_nat (j := 2) rfl, _, rfl, t3, _, rfl, .of l3, fun L2 nL2 => ?_⟩
      rw [cut_from (by rw [nums_len, Area.cells_length]; omega)]
      have s4 := same_new (o := HO.lst ((nums t.cells).drop k)) nL2
      refine ⟨L1, L2, _, _, rfl, rfl, s4 _ _ (s3 _ _ upd_same), upd_same, ?_, fun R nR => ?_⟩
      · rw [List.length_drop, List.length_drop, nums_len, nums_len, Area.cells_length, Area.cells_length, sizeLine_eq]; omega
      · have s5 := same_new (o := HO.lst ((nums f.cells).drop k ++ (nums t.cells).drop k)) nR
        refine hQ _ _ (f.cells.drop k ++ t.cells.drop k) (s0.trans (s1.trans (s2.trans (s3.trans (s4.trans s5))))) ((s0.trans (s1.trans (s2.trans (s3.trans s4)))).free nR) ?_ (fun c hc => ?_) ?_
        · rw [upd_same]; unfold nums; rw [List.map_append, List.map_drop, List.map_drop]
        · rcases List.mem_append.mp hc with hc | hc
          · exact o1.lt _ (List.mem_of_mem_drop hc)
          · exact o2.lt _ (List.mem_of_mem_drop hc)
        · rw [List.length_append, List.length_drop, List.length_drop, Area.cells_length, Area.cells_length]; omega
    | fill t v k =>
      obtain ⟨pt, h1, h2⟩ := hS
      obtain ⟨o1, o2, o3, o4⟩ := ho
      have st' := o1.sm (by omega)
      have z1 := hsz t o1
      refine ⟨_, rfl, p, _, _, rfl, h1, fun D hD => ⟨_, _, rfl, _, _, rfl, rfl, ?_⟩⟩
      have s0 := same_new (o := HO.lst [.ref pt, .int v, .int ((k : Nat) : Int)]) hD
      refine ⟨_, rfl, rfl, _, rfl, iteDF (by decide +kernel) ⟨_, rfl, rfl, _, rfl, iteDT rfl ?_⟩⟩
      refine ⟨_, rfl, D, _, _, _, rfl, rfl, .of upd_same, atI_nat (j := 0) rfl, pt, t, rfl, h2.kt (Kt.same s0), st', fun H1 t1 s1 n1 l1 => ?_⟩
      have d1 := s1 _ _ (upd_same (H := H) (a := D) (o := HO.lst [.ref pt, .int v, .int ((k : Nat) : Int)]))
      refine ⟨_, rfl, D, _, _, _, rfl, rfl, .of d1, atI_nat (j := 2) rfl, _, rfl, t1, _, rfl, .of l1, fun L1 nL1 => ?_⟩
      rw [cut_from (by rw [nums_len, Area.cells_length]; omega)]
      have s2 := same_new (o := HO.lst ((nums t.cells).drop k)) nL1
      refine hQ _ _ (t.cells.drop k) (s0.trans (s1.trans s2)) ((s0.trans s1).free nL1) ?_ (fun c hc => o1.lt _ (List.mem_of_mem_drop hc)) ?_
      · rw [upd_same]; unfold nums; rw [List.map_drop]
      · rw [List.length_drop, Area.cells_length]; omega
    | add f c0 =>
      obtain ⟨pt, h1, h2⟩ := hS
      obtain ⟨o1, o2⟩ := ho
      have st' := o1.sm (by omega)
      have z1 := hsz f o1
      refine ⟨_, rfl, p, _, _, rfl, h1, fun D hD => ⟨_, _, rfl, _, _, rfl, rfl, ?_⟩⟩
      have s0 := same_new (o := HO.lst [.ref pt, .int ((c0 : Nat) : Int)]) hD
      refine ⟨_, rfl, rfl, _, rfl, iteDF (by decide +kernel) ⟨_, rfl, rfl, _, rfl, iteDF (by decide +kernel) ⟨_, rfl, rfl, _, rfl, iteDT rfl ?_⟩⟩⟩
      refine ⟨_, rfl, D, _, _, _, rfl, rfl, .of upd_same, atI_nat (j := 0) rfl, pt, f, rfl, h2.kt (Kt.same s0), st', fun H1 t1 s1 n1 l1 => ?_⟩
      have d1 := s1 _ _ (upd_same (H := H) (a := D) (o := HO.lst [.ref pt, .int ((c0 : Nat) : Int)]))
      refine ⟨_, rfl, D, _, _, _, rfl, rfl, .of d1, atI_nat (j := 1) rfl, by show 1 ≤ sizeLine; decide, fun L2 nL2 => ?_⟩
      have s2 := same_new (o := HO.lst [.int ((c0 : Nat) : Int)]) nL2
      refine ⟨t1, L2, _, _, rfl, rfl, s2 _ _ l1, upd_same, ?_, fun R nR => ?_⟩
      · rw [nums_len, Area.cells_length, sizeLine_eq]; simp only [List.length_cons, List.length_nil]; omega
      · have s5 := same_new (o := HO.lst (nums f.cells ++ [.int ((c0 : Nat) : Int)])) nR
        refine hQ _ _ (f.cells ++ [c0]) (s0.trans (s1.trans (s2.trans s5))) ((s0.trans (s1.trans s2)).free nR) ?_ (fun c hc => ?_) ?_
        · rw [upd_same, nums_app]; rfl
        · rcases List.mem_append.mp hc with hc | hc
          · exact o1.lt _ hc
          · rw [List.mem_singleton.mp hc]; exact o2
        · rw [List.length_append, Area.cells_length]; simp only [List.length_cons, List.length_nil]; omega
    | note g =>
      dsimp only [StAt] at hS
      refine ⟨_, rfl, p, _, _, rfl, hS, fun D hD => ⟨_, _, rfl, _, _, rfl, rfl, ?_⟩⟩
      have s0 := same_new (o := HO.lst [.int ((g : Nat) : Int)]) hD
      refine ⟨_, rfl, rfl, _, rfl, iteDF (by decide +kernel) ⟨_, rfl, rfl, _, rfl, iteDF (by decide +kernel) ⟨_, rfl, rfl, _, rfl, iteDF (by decide +kernel) ⟨by show 0 ≤ sizeLine; decide, fun l nl => ?_⟩⟩⟩⟩
      exact hQ _ _ [] (s0.trans (same_new nl)) (s0.free nl) upd_same (fun c hc => by cases hc) (by decide)
    | wait g n =>
      dsimp only [StAt] at hS
      refine ⟨_, rfl, p, _, _, rfl, hS, fun D hD => ⟨_, _, rfl, _, _, rfl, rfl, ?_⟩⟩
      have s0 := same_new (o := HO.lst [.int ((g : Nat) : Int), .int ((n : Nat) : Int)]) hD
      refine ⟨_, rfl, rfl, _, rfl, iteDF (by decide +kernel) ⟨_, rfl, rfl, _, rfl, iteDF (by decide +kernel) ⟨_, rfl, rfl, _, rfl, iteDF (by decide +kernel) ⟨by show 0 ≤ sizeLine; decide, fun l nl => ?_⟩⟩⟩⟩
      exact hQ _ _ [] (s0.trans (same_new nl)) (s0.free nl) upd_same (fun c hc => by cases hc) (by decide)
    | fence =>
      dsimp only [StAt] at hS
      refine ⟨_, rfl, p, _, _, rfl, hS, fun D hD => ⟨_, _, rfl, _, _, rfl, rfl, ?_⟩⟩
      have s0 := same_new (o := HO.lst []) hD
      refine ⟨_, rfl, rfl, _, rfl, iteDF (by decide +kernel) ⟨_, rfl, rfl, _, rfl, iteDF (by decide +kernel) ⟨_, rfl, rfl, _, rfl, iteDF (by decide +kernel) ⟨by show 0 ≤ sizeLine; decide, fun l nl => ?_⟩⟩⟩⟩
      exact hQ _ _ [] (s0.trans (same_new nl)) (s0.free nl) upd_same (fun c hc => by cases hc) (by decide)
end
end K24
end
section
set_option Elab.async false
set_option linter.all false
set_option maxRecDepth 100000
set_option maxHeartbeats 2000000
namespace K24
open PySem PySem.Spec PyProof.Rows L2 C8
/-! ### runs -/
def heldAll : List Part → Mem → List Int → List Int
  | [], _, h => h
  | p :: r, m, h => heldAll r (p.row m h) (p.held m h)
theorem run_snoc (p : Part) : ∀ (l : List Part) (m : Mem) (h : List Int), run (l ++ [p]) m h = p.row (run l m h) (heldAll l m h)
  | [], _, _ => rfl
  | q :: r, m, h => run_snoc p r (q.row m h) (q.held m h)
theorem run_rd (r : List Part) (m : Mem) : ∀ (l : List Nat) (h : List Int), run (l.map Part.rd ++ r) m h = run r m (h ++ l.map fun a => m.getD a 0)
  | [], h => by simp
  | a :: l, h => by
    show run (l.map Part.rd ++ r) m (h ++ [m.getD a 0]) = _
    rw [run_rd r m l, List.append_assoc]; rfl
theorem ints_get {m : Mem} {a : Nat} (h : a < m.length) : (m.map V.int)[a]? = some (.int (m.getD a 0)) := by
  rw [List.getElem?_map, List.getElem?_eq_getElem h, List.getD_eq_getElem?_getD, List.getElem?_eq_getElem h]; rfl
theorem ints_set (m : Mem) (a : Nat) (x : Int) : (m.map V.int).set a (.int x) = (m.set a x).map V.int := by rw [List.map_set]
theorem ixN_at {n a : Nat} (h : a < n) : ixN n ((a : Nat) : Int) = some a := by
  unfold ixN
  rw [if_pos (by omega), if_pos (by omega), Int.toNat_natCast]
theorem set_self {α : Type} {l : List α} {j : Nat} {x : α} (h : j < l.length) : (l.set j x)[j]? = some x := List.getElem?_set_self h
def Kb (x : Addr) (H H' : Hp) : Prop := ∀ b o, H b = some o → b ≠ x → H' b = some o
theorem Kb.kt {x : Addr} {H H' : Hp} {xs : List V} (k : Kb x H H') (h : H x = some (.lst xs)) : Kt H H' := fun p ys z => by
  rcases z with z | ⟨o, z⟩
  · exact .inl (k _ _ z (fun e => by rw [e, h] at z; cases z))
  · exact .inr ⟨o, k _ _ z (fun e => by rw [e, h] at z; cases z)⟩
/-- rows of four, the last a number -/
def RowsAt (H : Hp) (as : List Addr) (vs : List Int) : Prop := as.length = vs.length ∧ ∀ (j : Nat) (a : Addr) (v : Int), as[j]? = some a → vs[j]? = some v → ∃ x y z, H a = some (.tup [x, y, z, .int v])
theorem RowsAt.kq {H H' : Hp} {as : List Addr} {vs : List Int} (s : Kq H H') (h : RowsAt H as vs) : RowsAt H' as vs := ⟨h.1, fun j a v e1 e2 => by
  obtain ⟨x, y, z, e⟩ := h.2 j a v e1 e2
  exact ⟨x, y, z, s _ _ e⟩⟩
theorem RowsAt.nil {H : Hp} : RowsAt H [] [] := ⟨rfl, fun k a p e => by simp at e⟩
theorem RowsAt.snoc {H : Hp} {as : List Addr} {vs : List Int} {a : Addr} {v : Int} (h : RowsAt H as vs) (g : ∃ x y z, H a = some (.tup [x, y, z, .int v])) : RowsAt H (as ++ [a]) (vs ++ [v]) := by
  refine ⟨by rw [List.length_append, List.length_append, h.1]; rfl, fun i b m e1 e2 => ?_⟩
  rcases Nat.lt_or_ge i as.length with hi | hi
  · rw [List.getElem?_append_left hi] at e1
    rw [List.getElem?_append_left (by rw [← h.1]; exact hi)] at e2
    exact h.2 i b m e1 e2
  · rw [List.getElem?_append_right hi] at e1
    rw [List.getElem?_append_right (by rw [← h.1]; exact hi)] at e2
    rw [← h.1] at e2
    cases hk : i - as.length with
    | zero =>
      rw [hk] at e1 e2
      cases e1; cases e2
      exact g
    | succ k => rw [hk] at e1; simp at e1
section
variable {P : Program} {w : World} {K : PySem.W.Frag} {mg : Str → Option Value} {base : Heap}
def spDoStep (K : PySem.W.Frag) : Sp := fun vs H Q _ => ∃ (m p : Addr) (s : Step) (top : Nat) (mem : Mem), vs = [.ref m, .ref p] ∧ H m = some (.lst (mem.map V.int)) ∧ StAt K H p s ∧ s.Ok top ∧ top ≤ 40 ∧ top ≤ mem.length ∧ mem.length ≤ 1024 ∧
  ∀ H' r, Kb m H H' → H' m = some (.lst ((done s mem).map V.int)) → Q r H'
abbrev NDoStep : List Str := ["memory", "step", "word", "things", "rows", "pairs", "part", "source", "target", "row"]
theorem scDoStep : FnScope NDoStep ["memory", "step"] (defScope sDoStep) := ⟨rfl, rfl, rfl, by decide +kernel, rfl, by decide +kernel, by decide +kernel⟩
theorem cal_DoStep (E : Wd w K mg) : C8.Cal P w K mg base 2 "do_step" (spDoStep K) [] := by
  obtain ⟨fd, F⟩ := fDoStep E
  refine ⟨_, fd, ["memory", "step"], [], F.ok scDoStep (fun vs H Q E h => ?_) (fun cdv A outer s H vs Q E' hr h => ⟨_, PSs.nox (pss_cons (ps_asg (pv 1) (pg_star (by rfl) (pgs_cons (pg_name (i := 2) scDoStep.nd rfl (Or.inl rfl)) (pgs_star (pg_name (i := 3) scDoStep.nd rfl (Or.inl rfl)) pgs_nil))))
      (pss_cons (ps_set (i := 4) scDoStep.nd rfl (.inl rfl) (pe_lst pa_nil))
      (pss_cons (ps_if (pt_cmpR op_eq (pv 2) (pe_gc (by rfl) (s_COPY_plain E)) (nomark _)) (pss_cons (ps_set (i := 5) scDoStep.nd rfl (.inl rfl) (pe_slice sl_list (pe_listZip rfl (by rfl) (n_list E) (by rfl) (n_zip E) (pa_cons (C8.pe_c (cal_AreaCells E) hr (by decide) (by rfl) (pa_cons (pe_ix ix_list (pv 3) pe_int (fun _ _ => rfl)) pa_nil)) (pa_cons (C8.pe_c (cal_AreaCells E) hr (by decide) (by rfl) (pa_cons (pe_ix ix_list (pv 3) pe_int (fun _ _ => rfl)) pa_nil)) pa_nil))) (po_some (pe_ix ix_list (pv 3) pe_int (fun _ _ => rfl))) po_none))
      (pss_one (ps_for PassesOwn.never rfl (pi_enum (by rfl) (n_enumerate E) (pa_cons (pv 5) pa_nil)) (pg_tup (by rfl) (pgs_cons (pg_name (i := 6) scDoStep.nd rfl (Or.inl rfl)) (pgs_cons (pg_tup (by rfl) (pgs_cons (pg_name (i := 7) scDoStep.nd rfl (Or.inl rfl)) (pgs_cons (pg_name (i := 8) scDoStep.nd rfl (Or.inl rfl)) pgs_nil))) pgs_nil))) (pss_cons (ps_asg (pe_ix ix_list (pv 0) (pv 7) (fun _ _ => rfl)) (pg_sub (pv 0) (pv 8) set_list))
      (pss_one (ps_expr (pe_bm PySem.F.plainAttrs_list PySem.F.slot_list_extend PySem.F.type_list_extend mt_extend (pv 4) (pa_cons (pe_lst (pa_cons (pe_tup (pa_cons (pv 6) (pa_cons (pe_gc (by rfl) (s_READ_plain E)) (pa_cons (pv 7) (pa_cons (pe_ix ix_list (pv 0) (pv 8) (fun _ _ => rfl)) pa_nil))))) (pa_cons (pe_tup (pa_cons (pv 6) (pa_cons (pe_gc (by rfl) (s_WRITE_plain E)) (pa_cons (pv 8) (pa_cons (pe_ix ix_list (pv 0) (pv 8) (fun _ _ => rfl)) pa_nil))))) pa_nil))) pa_nil)))))))) pss_nil)
      (pss_cons (ps_if (pt_cmpR op_eq (pv 2) (pe_gc (by rfl) (s_FILL_plain E)) (nomark _)) (pss_one (ps_for PassesOwn.never rfl (pi_enum (by rfl) (n_enumerate E) (pa_cons (pe_slice sl_list (C8.pe_c (cal_AreaCells E) hr (by decide) (by rfl) (pa_cons (pe_ix ix_list (pv 3) pe_int (fun _ _ => rfl)) pa_nil)) (po_some (pe_ix ix_list (pv 3) pe_int (fun _ _ => rfl))) po_none) pa_nil)) (pg_tup (by rfl) (pgs_cons (pg_name (i := 6) scDoStep.nd rfl (Or.inl rfl)) (pgs_cons (pg_name (i := 8) scDoStep.nd rfl (Or.inl rfl)) pgs_nil))) (pss_cons (ps_asg (pe_ix ix_list (pv 3) pe_int (fun _ _ => rfl)) (pg_sub (pv 0) (pv 8) set_list))
      (pss_one (ps_expr (pe_bm PySem.F.plainAttrs_list PySem.F.slot_list_append PySem.F.type_list_append mt_append (pv 4) (pa_cons (pe_tup (pa_cons (pv 6) (pa_cons (pe_gc (by rfl) (s_WRITE_plain E)) (pa_cons (pv 8) (pa_cons (pe_ix ix_list (pv 3) pe_int (fun _ _ => rfl)) pa_nil))))) pa_nil))))))) pss_nil)
      (pss_cons (ps_if (pt_cmpR op_eq (pv 2) (pe_gc (by rfl) (s_ADD_plain E)) (nomark _)) (pss_cons (ps_setLc (i := 4) (own := [("part", 6), ("source", 7)]) (by rfl) scDoStep.nd rfl rfl (sw_true rfl rfl rfl (by decide +kernel)) (pi_enum (by rfl) (n_enumerate E) (pa_cons (C8.pe_c (cal_AreaCells E) hr (by decide) (by rfl) (pa_cons (pe_ix ix_list (pv 3) pe_int (fun _ _ => rfl)) pa_nil)) pa_nil)) (blkOk_by (own := [("part", 6), ("source", 7)]) (N := NDoStep) (sc := defScope sDoStep) (by decide +kernel)) (fun _ _ _ _ _ => (pg_tupK (K := K) (n := 2) rfl rfl (pgs_cons (pg_name (i := 6) scDoStep.nd rfl (Or.inl rfl)) (pgs_cons (pg_name (i := 7) scDoStep.nd rfl (Or.inl rfl)) pgs_nil)))) (fun _ _ _ _ _ => pts_nil) (fun _ _ _ _ _ => (pe_tup (pa_cons (pv 6) (pa_cons (pe_gc (by rfl) (s_READ_plain E)) (pa_cons (pv 7) (pa_cons (pe_ix (ix_listK (K := K) rfl) (pv 0) (pv 7) (fun _ _ => rfl)) pa_nil)))))))
      (pss_cons (ps_asg (pe_op op_modN (pe_callB (cr_sum rfl) (by rfl) (n_sum E) (by decide +kernel) (pa_cons (pe_lc (own := [("row", 9)]) (by rfl) scDoStep.nd (pi_list (pv 4)) (blkOk_by (own := [("row", 9)]) (N := NDoStep) (sc := defScope sDoStep) (by decide +kernel)) (fun _ _ _ _ _ => (pg_name (i := 9) scDoStep.nd rfl (Or.inl rfl))) (fun _ _ _ _ _ => pts_nil) (fun _ _ _ _ _ => (pe_ix (ix_tupK (K := K) rfl) (pv 9) pe_int (fun _ _ => rfl)))) pa_nil)) (pe_gc (by rfl) (i_BYTES E))) (pg_sub (pv 0) (pe_ix ix_list (pv 3) pe_int (fun _ _ => rfl)) set_list))
      (pss_one (ps_expr (pe_bm PySem.F.plainAttrs_list PySem.F.slot_list_append PySem.F.type_list_append mt_append (pv 4) (pa_cons (pe_tup (pa_cons (pe_callB call_len_seq (by rfl) (n_len E) (by decide +kernel) (pa_cons (pv 4) pa_nil)) (pa_cons (pe_gc (by rfl) (s_WRITE_plain E)) (pa_cons (pe_ix ix_list (pv 3) pe_int (fun _ _ => rfl)) (pa_cons (pe_ix ix_list (pv 0) (pe_ix ix_list (pv 3) pe_int (fun _ _ => rfl)) (fun _ _ => rfl)) pa_nil))))) pa_nil)))))) pss_nil)
      (pss_one (ps_ret (pv 4)))))))), ?_⟩), g_do_step E, F.kp, F.bindsN (fun _ _ _ _ _ _ us hl => match us, hl with | [_, _], _ => rfl), .nil⟩
  · obtain ⟨m, p, s, top, mem, rfl, _⟩ := h; rfl
  · obtain ⟨m, p, st, top, mem, rfl, hm, hS, ho, ht, htm, hml, hQ⟩ := h
    have hsz : ∀ (a : Area), a.Ok top → a.size ≤ 40 := fun a h => Nat.le_trans h.size_le ht
    cases st with
    | copy f t k =>
      obtain ⟨pf, pt, h1, h2, h3⟩ := hS
      obtain ⟨o1, o2, o3, o4⟩ := ho
      have sf := o1.sm (by omega)
      have st' := o2.sm (by omega)
      have z1 := hsz f o1
      have z2 := hsz t o2
      refine ⟨_, rfl, p, _, _, rfl, h1, fun D hD => ⟨_, _, rfl, _, _, rfl, rfl, ?_⟩⟩
      have s0 := same_new (o := HO.lst [.ref pf, .ref pt, .int ((k : Nat) : Int)]) hD
      refine ⟨by show 0 ≤ sizeLine; decide, fun R nR => ?_⟩
      have sR := same_new (o := HO.lst []) nR
      have d0 := sR _ _ (upd_same (H := H) (a := D) (o := HO.lst [.ref pf, .ref pt, .int ((k : Nat) : Int)]))
      refine ⟨_, rfl, rfl, _, rfl, iteDT rfl ?_⟩
      refine ⟨_, rfl, D, _, _, _, rfl, rfl, .of d0, atI_nat (j := 0) rfl, pf, f, rfl, h2.kt (Kt.same (s0.trans sR)), sf, fun H1 t1 s1 n1 l1 => ?_⟩
      have s01 := s0.trans (sR.trans s1)
      have d1 := s1 _ _ d0
      refine ⟨_, rfl, D, _, _, _, rfl, rfl, .of d1, atI_nat (j := 1) rfl, pt, t, rfl, h3.kt (Kt.same s01), st', fun H2 t2 s2 n2 l2 => ?_⟩
      refine ⟨t1, t2, _, _, rfl, .inl ⟨.of (s2 _ _ l1), .of l2⟩, by rw [nums_len, nums_len, Area.cells_length, Area.cells_length, o3], by rw [nums_len, Area.cells_length]; omega, fun L as H3 s3 n3 l3 ha hp => ?_⟩
      have d3 := s3 _ _ (s2 _ _ d1)
      refine ⟨_, rfl, D, _, _, _, rfl, rfl, .of d3, atI_nat (j := 2) rfl, _, rfl, L, _, rfl, .of l3, fun L2 nL2 => ?_⟩
      have hz : (f.cells.zip t.cells).length = f.size := by rw [List.length_zip, Area.cells_length, Area.cells_length, ← o3, Nat.min_self]
      have ha' : as.length = f.size := by rw [ha, nums_len, Area.cells_length]
      rw [cut_from (by rw [List.length_map, ha']; omega)]
      have s4 := same_new (o := HO.lst ((as.map V.ref).drop k)) nL2
      have s04 := s01.trans (s2.trans (s3.trans s4))
      have mR : m ≠ R := fun z => by
        have : upd H D (.lst [.ref pf, .ref pt, .int ((k : Nat) : Int)]) m = some (.lst (mem.map V.int)) := s0 _ _ hm
        rw [z, nR] at this; cases this
      have hR4 : upd H3 L2 (.lst ((as.map V.ref).drop k)) R = some (.lst []) := s4 _ _ (s3 _ _ (s2 _ _ (s1 _ _ upd_same)))
      have hL4 : upd H3 L2 (.lst ((as.map V.ref).drop k)) L2 = some (.lst ((as.map V.ref).drop k)) := upd_same
      have nL2m : L2 ≠ m := fun z => by
        have := (s01.trans (s2.trans s3)) _ _ hm
        rw [← z, nL2] at this; cases this
      have nL2R : L2 ≠ R := fun z => by
        have := s3 _ _ (s2 _ _ (s1 _ _ (upd_same (H := upd H D (HO.lst [.ref pf, .ref pt, .int ((k : Nat) : Int)])) (a := R) (o := HO.lst []))))
        rw [← z, nL2] at this; cases this
      have e5 : ((as.map V.ref).drop k).length = ((f.cells.zip t.cells).drop k).length := by rw [List.length_drop, List.length_drop, List.length_map, ha', hz]
      have hp4 : ∀ (j : Nat) (p : Addr), as[j]? = some p → ∃ x y, (nums f.cells)[j]? = some x ∧ (nums t.cells)[j]? = some y ∧ upd H3 L2 (.lst ((as.map V.ref).drop k)) p = some (.tup [x, y]) := fun j p e => by
        obtain ⟨_, x, y, e1, e2, e3⟩ := hp j p e
        exact ⟨x, y, e1, e2, s4 _ _ e3⟩
      have m4 := s04 _ _ hm
      refine ⟨_, rfl, L2, _, rfl, .of hL4, ?_⟩
      generalize upd H3 L2 (HO.lst ((as.map V.ref).drop k)) = H4 at s04 hR4 hL4 hp4 m4 ⊢
      refine for_it (walk_enum (K := K) (a := L2) (xs := (as.map V.ref).drop k)) (fun i σ H5 => (∃ x6 x7 x8, σ = [some (.ref m), some (.ref p), some (.str "copy"), some (.ref D), some (.ref R), some (.ref L2), x6, x7, x8, none]) ∧ (∀ b o, H4 b = some o → b ≠ m → b ≠ R → H5 b = some o) ∧
          H5 m = some (.lst ((run ((Step.copy f t k).parts.take i) mem []).map V.int)) ∧ ∃ rs, H5 R = some (.lst rs) ∧ rs.length ≤ 2 * i) ⟨⟨_, _, _, rfl⟩, fun b o h _ _ => h, m4, [], hR4, Nat.le_refl _⟩ (fun i σ H5 _ z => .of (z.2.1 _ _ hL4 nL2m nL2R)) (fun i x σ H5 H6 hi z y => ?_) (fun σ H5 z => ?_)
      · obtain ⟨⟨x6, x7, x8, rfl⟩, k5, m5, rs, r5, hrs⟩ := z
        obtain ⟨T, x, y, rfl, hT, rfl, hx, hy⟩ := y
        cases hx
        dsimp only at hy
        rw [List.getElem?_drop] at hy
        obtain ⟨a, rfl, hxa⟩ := mapref_get hy
        obtain ⟨x, y, ex, ey, hxy⟩ := hp4 _ a hxa
        obtain ⟨c, hc, rfl⟩ := nums_get ex
        obtain ⟨d, hd, rfl⟩ := nums_get ey
        have ham : a ≠ m := fun z => by rw [z, m4] at hxy; cases hxy
        have haR : a ≠ R := fun z => by rw [z, hR4] at hxy; cases hxy
        have ha5 := k5 _ _ hxy ham haR
        have sT := same_new (o := HO.tup [.int ((i : Nat) : Int), .ref a]) hT
        have hcl : c < top := o1.lt _ (List.mem_of_getElem? hc)
        have hdl : d < top := o2.lt _ (List.mem_of_getElem? hd)
        have hlen : (run ((Step.copy f t k).parts.take i) mem []).length = mem.length := run_length _ _ _
        have hpi : (Step.copy f t k).parts[i]? = some (.cp c d) := by
          show (((f.cells.zip t.cells).drop k).map _)[i]? = _
          have : ((f.cells.zip t.cells).drop k)[i]? = some (c, d) := by rw [List.getElem?_drop, List.getElem?_zip_eq_some]; exact ⟨hc, hd⟩
          rw [List.getElem?_map, this]; rfl
        have hrun : run ((Step.copy f t k).parts.take (i + 1)) mem [] = (run ((Step.copy f t k).parts.take i) mem []).set d ((run ((Step.copy f t k).parts.take i) mem []).getD c 0) := by
          rw [take_snoc hpi, run_snoc]; rfl
        rw [hrun]
        generalize run ((Step.copy f t k).parts.take i) mem [] = mi at m5 hlen ⊢
        have m6 := sT _ _ m5
        have r6 := sT _ _ r5
        refine ⟨T, _, rfl, .of upd_same, rfl, _, _, rfl, _, _, rfl, ⟨a, _, rfl, .of (sT _ _ ha5), rfl, _, _, rfl, _, _, rfl, rfl, rfl, ?_⟩⟩
        refine ⟨_, rfl, _, rfl, m, _, _, _, rfl, rfl, .of m6, atI_nat (ints_get (a := c) (by omega)), ?_⟩
        refine ⟨_, rfl, _, rfl, m, _, _, d, rfl, rfl, m6, ixN_at (by rw [List.length_map]; omega), ?_⟩
        rw [ints_set]
        have hv : ((mi.set d (mi.getD c 0)).map V.int)[d]? = some (.int (mi.getD c 0)) := by rw [List.getElem?_map, set_self (by omega)]; rfl
        have r7 : upd (upd H5 T (.tup [.int ((i : Nat) : Int), .ref a])) m (.lst ((mi.set d (mi.getD c 0)).map V.int)) R = some (.lst rs) := by rw [upd_ne (Ne.symm mR)]; exact r6
        have m7 : upd (upd H5 T (.tup [.int ((i : Nat) : Int), .ref a])) m (.lst ((mi.set d (mi.getD c 0)).map V.int)) m = some (.lst ((mi.set d (mi.getD c 0)).map V.int)) := upd_same
        have k7 : ∀ b o, H4 b = some o → b ≠ m → b ≠ R → upd (upd H5 T (.tup [.int ((i : Nat) : Int), .ref a])) m (.lst ((mi.set d (mi.getD c 0)).map V.int)) b = some o := fun b o hb h1 h2 => by rw [upd_ne h1]; exact sT _ _ (k5 _ _ hb h1 h2)
        generalize upd (upd H5 T (HO.tup [V.int ((i : Nat) : Int), V.ref a])) m (HO.lst ((mi.set d (mi.getD c 0)).map V.int)) = H7 at r7 m7 k7 ⊢
        refine ⟨_, rfl, .inl ⟨rfl, _, .of r7⟩, ?_⟩
        refine ⟨_, rfl, _, rfl, _, rfl, _, rfl, m, _, _, _, rfl, rfl, .of m7, atI_nat hv, by show 4 ≤ sizeLine; decide, fun ta na => ?_⟩
        have sa := same_new (o := HO.tup [.int ((i : Nat) : Int), .str "r", .int ((c : Nat) : Int), .int (mi.getD c 0)]) na
        refine ⟨_, rfl, _, rfl, _, rfl, _, rfl, m, _, _, _, rfl, rfl, .of (sa _ _ m7), atI_nat hv, by show 4 ≤ sizeLine; decide, fun tb nb => ?_⟩
        have sb := same_new (o := HO.tup [.int ((i : Nat) : Int), .str "w", .int ((d : Nat) : Int), .int (mi.getD c 0)]) nb
        refine ⟨by show 2 ≤ sizeLine; decide, fun tc nc => ?_⟩
        have sc := same_new (o := HO.lst [.ref ta, .ref tb]) nc
        have s7 := sa.trans (sb.trans sc)
        have e6 : i < f.size := by rw [e5, List.length_drop, hz] at hi; omega
        refine ⟨R, tc, _, _, rfl, rfl, s7 _ _ r7, upd_same, by rw [sizeLine_eq]; simp only [List.length_cons, List.length_nil]; omega, ⟨_, _, _, rfl⟩, fun b o hb h1 h2 => ?_, ?_, rs ++ [.ref ta, .ref tb], upd_same, by rw [List.length_append]; simp only [List.length_cons, List.length_nil]; omega⟩
        · rw [upd_ne h2]; exact s7 _ _ (k7 _ _ hb h1 h2)
        · rw [upd_ne mR]; exact s7 _ _ m7
      · obtain ⟨⟨x6, x7, x8, rfl⟩, k5, m5, rs, r5, hrs⟩ := z
        rw [e5, List.take_of_length_le (Nat.le_of_eq (by simp [Step.parts]))] at m5
        refine ⟨_, rfl, rfl, _, rfl, iteDF (by decide +kernel) ⟨_, rfl, rfl, _, rfl, iteDF (by decide +kernel) ⟨_, rfl, hQ _ _ (fun b o hb hn => ?_) m5⟩⟩⟩
        exact k5 _ _ (s04 _ _ hb) hn (fun z => by
          have h1 : upd H D (.lst [.ref pf, .ref pt, .int ((k : Nat) : Int)]) b = some o := s0 _ _ hb
          rw [z, nR] at h1; cases h1)
    | fill t v k =>
      obtain ⟨pt, h1, h2⟩ := hS
      obtain ⟨o1, o2, o3, o4⟩ := ho
      have st' := o1.sm (by omega)
      have z1 := hsz t o1
      refine ⟨_, rfl, p, _, _, rfl, h1, fun D hD => ⟨_, _, rfl, _, _, rfl, rfl, ?_⟩⟩
      have s0 := same_new (o := HO.lst [.ref pt, .int v, .int ((k : Nat) : Int)]) hD
      refine ⟨by show 0 ≤ sizeLine; decide, fun R nR => ?_⟩
      have sR := same_new (o := HO.lst []) nR
      have d0 := sR _ _ (upd_same (H := H) (a := D) (o := HO.lst [.ref pt, .int v, .int ((k : Nat) : Int)]))
      refine ⟨_, rfl, rfl, _, rfl, iteDF (by decide +kernel) ?_⟩
      refine ⟨_, rfl, rfl, _, rfl, iteDT rfl ?_⟩
      refine ⟨_, rfl, D, _, _, _, rfl, rfl, .of d0, atI_nat (j := 0) rfl, pt, t, rfl, h2.kt (Kt.same (s0.trans sR)), st', fun H1 t1 s1 n1 l1 => ?_⟩
      have s01 := s0.trans (sR.trans s1)
      have d1 := s1 _ _ d0
      refine ⟨_, rfl, D, _, _, _, rfl, rfl, .of d1, atI_nat (j := 2) rfl, _, rfl, t1, _, rfl, .of l1, fun L2 nL2 => ?_⟩
      rw [cut_from (by rw [nums_len, Area.cells_length]; omega)]
      have s4 := same_new (o := HO.lst ((nums t.cells).drop k)) nL2
      have s04 := s01.trans s4
      have mR : m ≠ R := fun z => by
        have : upd H D (.lst [.ref pt, .int v, .int ((k : Nat) : Int)]) m = some (.lst (mem.map V.int)) := s0 _ _ hm
        rw [z, nR] at this; cases this
      have hR4 : upd H1 L2 (.lst ((nums t.cells).drop k)) R = some (.lst []) := s4 _ _ (s1 _ _ upd_same)
      have hL4 : upd H1 L2 (.lst ((nums t.cells).drop k)) L2 = some (.lst ((nums t.cells).drop k)) := upd_same
      have hD4 := s4 _ _ d1
      have nL2m : L2 ≠ m := fun z => by
        have := s01 _ _ hm
        rw [← z, nL2] at this; cases this
      have nL2R : L2 ≠ R := fun z => by
        have := s1 _ _ (upd_same (H := upd H D (HO.lst [.ref pt, .int v, .int ((k : Nat) : Int)])) (a := R) (o := HO.lst []))
        rw [← z, nL2] at this; cases this
      have nDm : D ≠ m := fun z => by rw [z, hm] at hD; cases hD
      have nDR : D ≠ R := fun z => by rw [← z, upd_same] at nR; cases nR
      have e5 : ((nums t.cells).drop k).length = (t.cells.drop k).length := by rw [List.length_drop, List.length_drop, nums_len]
      have m4 := s04 _ _ hm
      refine ⟨L2, _, rfl, .of hL4, ?_⟩
      generalize upd H1 L2 (HO.lst ((nums t.cells).drop k)) = H4 at s04 hR4 hL4 hD4 m4 ⊢
      refine for_it (walk_enum (K := K) (a := L2) (xs := (nums t.cells).drop k)) (fun i σ H5 => (∃ x6 x8, σ = [some (.ref m), some (.ref p), some (.str "fill"), some (.ref D), some (.ref R), none, x6, none, x8, none]) ∧ (∀ b o, H4 b = some o → b ≠ m → b ≠ R → H5 b = some o) ∧
          H5 m = some (.lst ((run ((Step.fill t v k).parts.take i) mem []).map V.int)) ∧ ∃ rs, H5 R = some (.lst rs) ∧ rs.length ≤ 2 * i) ⟨⟨_, _, rfl⟩, fun b o h _ _ => h, m4, [], hR4, Nat.le_refl _⟩ (fun i σ H5 _ z => .of (z.2.1 _ _ hL4 nL2m nL2R)) (fun i x σ H5 H6 hi z y => ?_) (fun σ H5 z => ?_)
      · obtain ⟨⟨x6, x8, rfl⟩, k5, m5, rs, r5, hrs⟩ := z
        obtain ⟨T, x, y, rfl, hT, rfl, hx, hy⟩ := y
        cases hx
        dsimp only at hy
        rw [List.getElem?_drop] at hy
        obtain ⟨d, hd, rfl⟩ := nums_get hy
        have sT := same_new (o := HO.tup [.int ((i : Nat) : Int), .int ((d : Nat) : Int)]) hT
        have hdl : d < top := o1.lt _ (List.mem_of_getElem? hd)
        have hlen : (run ((Step.fill t v k).parts.take i) mem []).length = mem.length := run_length _ _ _
        have hpi : (Step.fill t v k).parts[i]? = some (.fl v d) := by
          show ((t.cells.drop k).map _)[i]? = _
          rw [List.getElem?_map, List.getElem?_drop, hd]; rfl
        have hrun : run ((Step.fill t v k).parts.take (i + 1)) mem [] = (run ((Step.fill t v k).parts.take i) mem []).set d v := by
          rw [take_snoc hpi, run_snoc]; rfl
        rw [hrun]
        generalize run ((Step.fill t v k).parts.take i) mem [] = mi at m5 hlen ⊢
        have m6 := sT _ _ m5
        have r6 := sT _ _ r5
        have d6 := sT _ _ (k5 _ _ hD4 nDm nDR)
        refine ⟨T, _, rfl, .of upd_same, rfl, _, _, rfl, _, _, rfl, rfl, ?_⟩
        refine ⟨_, rfl, D, _, _, _, rfl, rfl, .of d6, atI_nat (j := 1) rfl, ?_⟩
        refine ⟨_, rfl, _, rfl, m, _, _, d, rfl, rfl, m6, ixN_at (by rw [List.length_map]; omega), ?_⟩
        rw [ints_set]
        have r7 : upd (upd H5 T (.tup [.int ((i : Nat) : Int), .int ((d : Nat) : Int)])) m (.lst ((mi.set d v).map V.int)) R = some (.lst rs) := by rw [upd_ne (Ne.symm mR)]; exact r6
        have m7 : upd (upd H5 T (.tup [.int ((i : Nat) : Int), .int ((d : Nat) : Int)])) m (.lst ((mi.set d v).map V.int)) m = some (.lst ((mi.set d v).map V.int)) := upd_same
        have k7 : ∀ b o, H4 b = some o → b ≠ m → b ≠ R → upd (upd H5 T (.tup [.int ((i : Nat) : Int), .int ((d : Nat) : Int)])) m (.lst ((mi.set d v).map V.int)) b = some o := fun b o hb h1 h2 => by rw [upd_ne h1]; exact sT _ _ (k5 _ _ hb h1 h2)
        generalize upd (upd H5 T (HO.tup [V.int ((i : Nat) : Int), V.int ((d : Nat) : Int)])) m (HO.lst ((mi.set d v).map V.int)) = H7 at r7 m7 k7 ⊢
        refine ⟨_, rfl, .inl ⟨rfl, _, .of r7⟩, ?_⟩
        refine ⟨_, rfl, _, rfl, _, rfl, D, _, _, _, rfl, rfl, .of (k7 _ _ hD4 nDm nDR), atI_nat (j := 1) rfl, by show 4 ≤ sizeLine; decide, fun ta na => ?_⟩
        have s7 := same_new (o := HO.tup [.int ((i : Nat) : Int), .str "w", .int ((d : Nat) : Int), .int v]) na
        have e6 : i < t.size := by rw [e5, List.length_drop, Area.cells_length] at hi; omega
        refine ⟨R, _, _, rfl, rfl, s7 _ _ r7, by rw [sizeLine_eq]; omega, ⟨_, _, rfl⟩, fun b o hb h1 h2 => ?_, ?_, rs ++ [.ref ta], upd_same, by rw [List.length_append]; simp only [List.length_cons, List.length_nil]; omega⟩
        · rw [upd_ne h2]; exact s7 _ _ (k7 _ _ hb h1 h2)
        · rw [upd_ne mR]; exact s7 _ _ m7
      · obtain ⟨⟨x6, x8, rfl⟩, k5, m5, rs, r5, hrs⟩ := z
        rw [e5, List.take_of_length_le (Nat.le_of_eq (by simp [Step.parts]))] at m5
        refine ⟨_, rfl, rfl, _, rfl, iteDF (by decide +kernel) ⟨_, rfl, hQ _ _ (fun b o hb hn => ?_) m5⟩⟩
        exact k5 _ _ (s04 _ _ hb) hn (fun z => by
          have h1 : upd H D (.lst [.ref pt, .int v, .int ((k : Nat) : Int)]) b = some o := s0 _ _ hb
          rw [z, nR] at h1; cases h1)
    | add f c0 =>
      obtain ⟨pt, h1, h2⟩ := hS
      obtain ⟨o1, o2⟩ := ho
      have st' := o1.sm (by omega)
      have z1 := hsz f o1
      refine ⟨_, rfl, p, _, _, rfl, h1, fun D hD => ⟨_, _, rfl, _, _, rfl, rfl, ?_⟩⟩
      have s0 := same_new (o := HO.lst [.ref pt, .int ((c0 : Nat) : Int)]) hD
      refine ⟨by show 0 ≤ sizeLine; decide, fun R nR => ?_⟩
      have sR := same_new (o := HO.lst []) nR
      have d0 := sR _ _ (upd_same (H := H) (a := D) (o := HO.lst [.ref pt, .int ((c0 : Nat) : Int)]))
      refine ⟨_, rfl, rfl, _, rfl, iteDF (by decide +kernel) ?_⟩
      refine ⟨_, rfl, rfl, _, rfl, iteDF (by decide +kernel) ?_⟩
      refine ⟨_, rfl, rfl, _, rfl, iteDT rfl ?_⟩
      refine ⟨_, rfl, D, _, _, _, rfl, rfl, .of d0, atI_nat (j := 0) rfl, pt, f, rfl, h2.kt (Kt.same (s0.trans sR)), st', fun H1 t1 s1 n1 l1 => ?_⟩
      have s01 := s0.trans (sR.trans s1)
      have d1 := s1 _ _ d0
      have m1 := s01 _ _ hm
      refine ⟨t1, _, rfl, .of l1, fun L nL => ?_⟩
      have hvs : ∀ (i c : Nat), f.cells[i]? = some c → (f.cells.map fun a => mem.getD a 0)[i]? = some (mem.getD c 0) := fun i c e => by rw [List.getElem?_map, e]; rfl
      refine it_gen (walk_enum (K := K) (a := t1) (xs := nums f.cells)) (fun i H5 => Same H1 H5 ∧ ∃ as, H5 L = some (.lst (as.map V.ref)) ∧ RowsAt H5 as ((f.cells.map fun a => mem.getD a 0).take i)) ⟨same_new nL, [], upd_same, .nil⟩ (fun i H5 _ q => .of (q.1 _ _ l1)) (fun i x H5 H6 hi q y => ?_) (fun H5 q => ?_)
      · obtain ⟨q1, as, q2, q3⟩ := q
        obtain ⟨T, x, y, rfl, hT, rfl, hx, hy⟩ := y
        cases hx
        dsimp only at hy
        obtain ⟨c, hc, rfl⟩ := nums_get hy
        have hcl : c < top := o1.lt _ (List.mem_of_getElem? hc)
        have sT := same_new (o := HO.tup [.int ((i : Nat) : Int), .int ((c : Nat) : Int)]) hT
        have m6 := sT _ _ (q1 _ _ m1)
        refine ⟨T, _, rfl, .of upd_same, rfl, _, _, rfl, _, _, rfl, rfl, rfl, ?_⟩
        refine ⟨_, rfl, _, rfl, _, rfl, _, rfl, m, _, _, _, rfl, rfl, .of m6, atI_nat (ints_get (a := c) (by omega)), by show 4 ≤ sizeLine; decide, fun ta na => ?_⟩
        have sa := same_new (o := HO.tup [.int ((i : Nat) : Int), .str "r", .int ((c : Nat) : Int), .int (mem.getD c 0)]) na
        have q2' := sa _ _ (sT _ _ q2)
        refine ⟨_, q2', ?_, fun b o hb => ?_, as ++ [ta], by rw [upd_same, List.map_append]; rfl, ?_⟩
        · rw [List.length_map, q3.1, List.length_take, List.length_map, Area.cells_length, sizeLine_eq]; omega
        · rw [upd_ne (ne_of_none hb nL)]; exact sa _ _ (sT _ _ (q1 _ _ hb))
        · rw [take_snoc (hvs i c hc)]
          exact ((q3.kq (Kq.same (sT.trans sa))).kq (Kq.upd q2')).snoc ⟨_, _, _, Kq.upd q2' _ _ upd_same⟩
      · obtain ⟨q1, as, q2, q3⟩ := q
        rw [nums_len, List.take_of_length_le (by rw [List.length_map]; exact Nat.le_refl _)] at q3
        have el : (as.map V.ref).length = f.cells.length := by rw [List.length_map, q3.1, List.length_map]
        have s05 := s01.trans q1
        refine ⟨_, rfl, L, rfl, ⟨_, .of q2⟩, fun L3 nL3 => ?_⟩
        refine it_gen (walk_list (K := K) (a := L) (xs := as.map V.ref)) (fun i H6 => Same H5 H6 ∧ H6 L3 = some (.lst (((f.cells.map fun a => mem.getD a 0).take i).map V.int))) ⟨same_new nL3, upd_same⟩ (fun i H6 _ q => .of (q.1 _ _ q2)) (fun i x H6 H7 hi q y => ?_) (fun H6 q => ?_)
        · obtain ⟨r1, r2⟩ := q
          obtain ⟨rfl, hx⟩ := y
          obtain ⟨a, rfl, hxa⟩ := mapref_get hx
          have hi2 : i < (f.cells.map fun a => mem.getD a 0).length := by rw [List.length_map, ← el]; exact hi
          have gv := List.getElem?_eq_getElem hi2
          generalize (f.cells.map fun a => mem.getD a 0)[i] = v at gv
          obtain ⟨x, y, z, ha⟩ := q3.2 i a v hxa gv
          refine ⟨rfl, _, rfl, a, _, _, _, rfl, rfl, .of (r1 _ _ ha), atI_nat (j := 3) rfl, _, r2, ?_, fun b o hb => ?_, ?_⟩
          · rw [List.length_map, List.length_take, List.length_map, Area.cells_length, sizeLine_eq]; omega
          · rw [upd_ne (ne_of_none hb nL3)]; exact r1 _ _ hb
          · rw [upd_same, take_snoc gv, List.map_append]; rfl
        · obtain ⟨r1, r2⟩ := q
          rw [el, List.take_of_length_le (by rw [List.length_map]; exact Nat.le_refl _)] at r2
          have s06 := s05.trans r1
          have d6 := (q1.trans r1) _ _ d1
          have m6 := s06 _ _ hm
          refine ⟨L3, _, rfl, .of r2, _, _, rfl, rfl, (by show (256 : Int) ≠ 0; decide), ?_⟩
          refine ⟨_, rfl, _, rfl, D, _, _, _, rfl, rfl, .of d6, atI_nat (j := 1) rfl, m, _, _, c0, rfl, rfl, m6, ixN_at (by rw [List.length_map]; omega), ?_⟩
          have ef : ∀ s : Int, s.fmod 256 = s % 256 := fun s => Int.fmod_eq_emod_of_nonneg s (by decide)
          have hv : done (Step.add f c0) mem = mem.set c0 ((f.cells.map fun a => mem.getD a 0).sum % 256) := by
            show run (f.cells.map Part.rd ++ [Part.sm c0]) mem [] = _
            rw [run_rd]; rfl
          have em : ((mem.map V.int).set c0 (.int ((f.cells.map fun a => mem.getD a 0).sum.fmod 256))) = (done (Step.add f c0) mem).map V.int := by rw [hv, ints_set, ef]
          have nLm : L ≠ m := fun z => by rw [z, m1] at nL; cases nL
          have nDm : D ≠ m := fun z => by rw [z, hm] at hD; cases hD
          have m7 : upd H6 m (.lst ((mem.map V.int).set c0 (.int ((f.cells.map fun a => mem.getD a 0).sum.fmod 256)))) m = some (.lst ((mem.map V.int).set c0 (.int ((f.cells.map fun a => mem.getD a 0).sum.fmod 256)))) := upd_same
          have l7 : upd H6 m (.lst ((mem.map V.int).set c0 (.int ((f.cells.map fun a => mem.getD a 0).sum.fmod 256)))) L = some (.lst (as.map V.ref)) := by rw [upd_ne nLm]; exact r1 _ _ q2
          have d7 : upd H6 m (.lst ((mem.map V.int).set c0 (.int ((f.cells.map fun a => mem.getD a 0).sum.fmod 256)))) D = some (.lst [.ref pt, .int ((c0 : Nat) : Int)]) := by rw [upd_ne nDm]; exact d6
          have k7 : Kb m H (upd H6 m (.lst ((mem.map V.int).set c0 (.int ((f.cells.map fun a => mem.getD a 0).sum.fmod 256))))) := fun b o hb hn => by rw [upd_ne hn]; exact s06 _ _ hb
          refine ⟨_, rfl, .inl ⟨rfl, _, .of l7⟩, ?_⟩
          refine ⟨_, rfl, L, _, rfl, .inl (.of l7), ?_⟩
          refine ⟨_, rfl, D, _, _, _, rfl, rfl, .of d7, atI_nat (j := 1) rfl, ?_⟩
          refine ⟨_, rfl, _, rfl, D, _, _, _, rfl, rfl, .of d7, atI_nat (j := 1) rfl, m, _, _, _, rfl, rfl, .of m7, atI_nat (j := c0) (set_self (by rw [List.length_map]; omega)), by show 4 ≤ sizeLine; decide, fun ta na => ?_⟩
          have sa := same_new na (o := HO.tup [.int (((as.map V.ref).length : Nat) : Int), .str "w", .int ((c0 : Nat) : Int), .int ((f.cells.map fun a => mem.getD a 0).sum.fmod 256)])
          refine ⟨L, _, _, rfl, rfl, sa _ _ l7, by rw [el, Area.cells_length, sizeLine_eq]; omega, ?_⟩
          refine ⟨_, rfl, hQ _ _ (fun b o hb hn => ?_) ?_⟩
          · rw [upd_ne (fun z => by
              have h8 := s01 _ _ hb
              rw [z, nL] at h8; cases h8)]
            exact sa _ _ (k7 _ _ hb hn)
          · rw [upd_ne (Ne.symm nLm), ← em]; exact sa _ _ m7
    | note g =>
      dsimp only [StAt] at hS
      refine ⟨_, rfl, p, _, _, rfl, hS, fun D hD => ⟨_, _, rfl, _, _, rfl, rfl, ?_⟩⟩
      have s0 := same_new (o := HO.lst [.int ((g : Nat) : Int)]) hD
      refine ⟨by show 0 ≤ sizeLine; decide, fun R nR => ?_⟩
      have sR := same_new (o := HO.lst []) nR
      refine ⟨_, rfl, rfl, _, rfl, iteDF (by decide +kernel) ⟨_, rfl, rfl, _, rfl, iteDF (by decide +kernel) ⟨_, rfl, rfl, _, rfl, iteDF (by decide +kernel) ⟨_, rfl, hQ _ _ (fun b o hb hn => sR _ _ (s0 _ _ hb)) (sR _ _ (s0 _ _ hm))⟩⟩⟩⟩
    | wait g n =>
      dsimp only [StAt] at hS
      refine ⟨_, rfl, p, _, _, rfl, hS, fun D hD => ⟨_, _, rfl, _, _, rfl, rfl, ?_⟩⟩
      have s0 := same_new (o := HO.lst [.int ((g : Nat) : Int), .int ((n : Nat) : Int)]) hD
      refine ⟨by show 0 ≤ sizeLine; decide, fun R nR => ?_⟩
      have sR := same_new (o := HO.lst []) nR
      refine ⟨_, rfl, rfl, _, rfl, iteDF (by decide +kernel) ⟨_, rfl, rfl, _, rfl, iteDF (by decide +kernel) ⟨_, rfl, rfl, _, rfl, iteDF (by decide +kernel) ⟨_, rfl, hQ _ _ (fun b o hb hn => sR _ _ (s0 _ _ hb)) (sR _ _ (s0 _ _ hm))⟩⟩⟩⟩
    | fence =>
      dsimp only [StAt] at hS
      refine ⟨_, rfl, p, _, _, rfl, hS, fun D hD => ⟨_, _, rfl, _, _, rfl, rfl, ?_⟩⟩
      have s0 := same_new (o := HO.lst []) hD
      refine ⟨by show 0 ≤ sizeLine; decide, fun R nR => ?_⟩
      have sR := same_new (o := HO.lst []) nR
      refine ⟨_, rfl, rfl, _, rfl, iteDF (by decide +kernel) ⟨_, rfl, rfl, _, rfl, iteDF (by decide +kernel) ⟨_, rfl, rfl, _, rfl, iteDF (by decide +kernel) ⟨_, rfl, hQ _ _ (fun b o hb hn => sR _ _ (s0 _ _ hb)) (sR _ _ (s0 _ _ hm))⟩⟩⟩⟩
end
end K24
end
section
set_option Elab.async false
set_option linter.all false
set_option maxRecDepth 100000
set_option maxHeartbeats 2000000
namespace K24
open PySem PySem.Spec PyProof.Rows L2 C8
theorem plain_snoc (s : Step) : ∀ (l : List Step) (m : Mem), plain (l ++ [s]) m = done s (plain l m)
  | [], _ => rfl
  | t :: l, m => plain_snoc s l (done t m)
section
variable {P : Program} {w : World} {K : PySem.W.Frag} {mg : Str → Option Value} {base : Heap}
def spNeedMemory (K : PySem.W.Frag) : Sp := fun vs H Q _ => ∃ (p : Addr) (m : Mem), vs = [.ref p] ∧ SqT K H p (m.map V.int) ∧ 1 ≤ m.length ∧ m.length ≤ 1024 ∧ MemOk m ∧ ∀ H', Same H H' → Q .non H'
abbrev NNeedMemory : List Str := ["memory"]
theorem scNeedMemory : FnScope NNeedMemory ["memory"] (defScope sNeedMemory) := ⟨rfl, rfl, rfl, by decide +kernel, rfl, by decide +kernel, by decide +kernel⟩
theorem cal_NeedMemory (E : Wd w K mg) : C8.Cal P w K mg base 4 "need_memory" (spNeedMemory K) [] := by
  obtain ⟨fd, F⟩ := fNeedMemory E
  refine ⟨_, fd, ["memory"], [], F.ok scNeedMemory (fun vs H Q E h => ?_) (fun cdv A outer s H vs Q E' hr h => ⟨_, PSs.nox (pss_one (ps_if (pt_not (pt_val (C8.pe_c (cal_IsMemory E) hr (by decide) (by rfl) (pa_cons (pv 0) pa_nil)))) (pss_one ps_never) pss_nil)), ?_⟩), g_need_memory E, F.kp, F.bindsN (fun _ _ _ _ _ _ us hl => match us, hl with | [_], _ => rfl), .nil⟩
  · obtain ⟨p, m, rfl, _⟩ := h; rfl
  · obtain ⟨p, m, rfl, hS, h1, h2, h3, hQ⟩ := h
    exact ⟨_, rfl, p, m, rfl, hS, h1, h2, h3, fun H1 s1 => ⟨_, rfl, iteF (hQ _ s1)⟩⟩
def spNeedInside (K : PySem.W.Frag) : Sp := fun vs H Q _ => ∃ (p q : Addr) (m : Mem) (cs : List Nat), vs = [.ref p, .ref q] ∧ SqT K H p (m.map V.int) ∧ 1 ≤ m.length ∧ H q = some (.lst (nums cs)) ∧ (∀ c ∈ cs, c < m.length) ∧ Q .non H
abbrev NNeedInside : List Str := ["memory", "cells"]
theorem scNeedInside : FnScope NNeedInside ["memory", "cells"] (defScope sNeedInside) := ⟨rfl, rfl, rfl, by decide +kernel, rfl, by decide +kernel, by decide +kernel⟩
theorem cal_NeedInside (E : Wd w K mg) : C8.Cal P w K mg base 1 "need_inside" (spNeedInside K) [] := by
  obtain ⟨fd, F⟩ := fNeedInside E
  refine ⟨_, fd, ["memory", "cells"], [], F.ok scNeedInside (fun vs H Q E h => ?_) (fun cdv A outer s H vs Q E' hr h => ⟨_, PSs.nox (pss_one (ps_if (pt_cmpR op_ge (pe_callBK (cr_maxD rfl) (by rfl) (n_max E) (by decide +kernel) (pa_cons (pv 1) pa_nil) (pk_cons pe_int pk_nil)) (pe_callB call_len_seq (by rfl) (n_len E) (by decide +kernel) (pa_cons (pv 0) pa_nil)) (nomark _)) (pss_one ps_never) pss_nil)), ?_⟩), g_need_inside E, F.kp, F.bindsN (fun _ _ _ _ _ _ us hl => match us, hl with | [_, _], _ => rfl), .nil⟩
  · obtain ⟨p, q, m, cs, rfl, _⟩ := h; rfl
  · obtain ⟨p, q, m, cs, rfl, hS, h1, hq, hc, hQ⟩ := h
    refine ⟨_, rfl, q, (cs.map fun (c : Nat) => (c : Int)), 0, rfl, rfl, .of (by rw [hq, nums_ints]), fun mx e1 e2 e3 => ?_⟩
    refine ⟨_, rfl, p, _, rfl, .inr hS, _, _, rfl, rfl, _, rfl, iteDF ?_ hQ⟩
    rw [List.length_map]
    by_cases hn : cs = []
    · have := e1 (by rw [hn]; rfl)
      omega
    · obtain ⟨c, hcm, ec⟩ := List.mem_map.mp (e2 (fun z => hn (List.map_eq_nil_iff.mp z)))
      have := hc c hcm
      omega
/-! ### own_steps_done, list_done -/
def spOwnStepsDone (K : PySem.W.Frag) : Sp := fun vs H Q _ => ∃ (p q : Addr) (m : Mem) (ss : List Step) (top : Nat), vs = [.ref p, .ref q] ∧ SqT K H p (m.map V.int) ∧ LsAt K H q ss ∧ AllOk top ss ∧ top ≤ 40 ∧ top ≤ m.length ∧ m.length ≤ 1024 ∧
  ∀ H' t, Same H H' → H t = none → H' t = some (.tup ((plain ss m).map V.int)) → Q (.ref t) H'
abbrev NOwnStepsDone : List Str := ["memory", "steps", "found", "step"]
theorem scOwnStepsDone : FnScope NOwnStepsDone ["memory", "steps"] (defScope sOwnStepsDone) := ⟨rfl, rfl, rfl, by decide +kernel, rfl, by decide +kernel, by decide +kernel⟩
theorem cal_OwnStepsDone (E : Wd w K mg) : C8.Cal P w K mg base 3 "own_steps_done" (spOwnStepsDone K) [] := by
  obtain ⟨fd, F⟩ := fOwnStepsDone E
  refine ⟨_, fd, ["memory", "steps"], [], F.ok scOwnStepsDone (fun vs H Q E h => ?_) (fun cdv A outer s H vs Q E' hr h => ⟨_, PSs.nox (pss_cons (ps_set (i := 2) scOwnStepsDone.nd rfl (.inl rfl) (pe_callTy call_list_of (by rfl) (n_list E) (by decide +kernel) (pa_cons (pv 0) pa_nil)))
      (pss_cons (ps_for PassesOwn.never rfl (pi_tup (pv 1)) (pg_name (i := 3) scOwnStepsDone.nd rfl (Or.inl rfl)) (pss_one (ps_expr (C8.pe_c (cal_DoStep E) hr (by decide) (by rfl) (pa_cons (pv 2) (pa_cons (pv 3) pa_nil))))))
      (pss_one (ps_ret (pe_callTy call_tuple_of (by rfl) (n_tuple E) (by decide +kernel) (pa_cons (pv 2) pa_nil)))))), ?_⟩), g_own_steps_done E, F.kp, F.bindsN (fun _ _ _ _ _ _ us hl => match us, hl with | [_, _], _ => rfl), .nil⟩
  · obtain ⟨p, q, m, ss, top, rfl, _⟩ := h; rfl
  · obtain ⟨p, q, m, ss, top, rfl, hS, ⟨as, hA, hSt⟩, ho, ht, htm, hml, hQ⟩ := h
    have e : (as.map V.ref).length = ss.length := by rw [List.length_map]; exact hSt.1
    refine ⟨_, rfl, p, _, rfl, .inr hS, fun F nF => ?_⟩
    have sF := same_new (o := HO.lst (m.map V.int)) nF
    refine ⟨_, rfl, q, rfl, ⟨_, (Kt.same sF).sq hA⟩, ?_⟩
    refine for_it (walk_tup (K := K) (a := q) (xs := as.map V.ref)) (fun i σ H1 => (∃ x3, σ = [some (.ref p), some (.ref q), some (.ref F), x3]) ∧ Same H H1 ∧ H1 F = some (.lst ((plain (ss.take i) m).map V.int))) ⟨⟨_, rfl⟩, sF, upd_same⟩ (fun i σ H1 _ z => (Kt.same z.2.1).sq hA) (fun i x σ H1 H2 hi z y => ?_) (fun σ H1 z => ?_)
    · obtain ⟨⟨x3, rfl⟩, z1, z2⟩ := z
      obtain ⟨rfl, hx⟩ := y
      obtain ⟨a, rfl, ha⟩ := mapref_get hx
      obtain ⟨st, hs, hst⟩ := hSt.get ha
      refine ⟨_, rfl, _, rfl, F, a, st, top, _, rfl, z2, hst.kt (Kt.same z1), ho st (List.mem_of_getElem? hs), ht, by rw [plain_length]; exact htm, by rw [plain_length]; exact hml, fun H3 r k3 l3 => ⟨⟨_, rfl⟩, fun b o hb => k3 _ _ (z1 _ _ hb) (ne_of_none hb nF), ?_⟩⟩
      rw [l3, take_snoc hs, plain_snoc]
    · obtain ⟨⟨x3, rfl⟩, z1, z2⟩ := z
      rw [e, List.take_of_length_le (Nat.le_refl _)] at z2
      exact ⟨_, rfl, F, _, rfl, .inl ⟨.of z2, fun t nt => hQ _ _ (z1.trans (same_new nt)) (z1.free nt) upd_same⟩⟩
def spListDone (K : PySem.W.Frag) : Sp := fun vs H Q _ => ∃ (p q : Addr) (m : Mem) (ss : List Step), vs = [.ref p, .ref q] ∧ SqT K H p (m.map V.int) ∧ LsAt K H q ss ∧ AllOk m.length ss ∧ 1 ≤ m.length ∧ m.length ≤ 40 ∧ MemOk m ∧ 1 ≤ ss.length ∧ ss.length ≤ 64 ∧
  ∀ H' t, Same H H' → H t = none → H' t = some (.tup ((plain ss m).map V.int)) → Q (.ref t) H'
abbrev NListDone : List Str := ["memory", "steps", "step", "cell"]
theorem scListDone : FnScope NListDone ["memory", "steps"] (defScope sListDone) := ⟨rfl, rfl, rfl, by decide +kernel, rfl, by decide +kernel, by decide +kernel⟩
theorem cal_ListDone (E : Wd w K mg) : C8.Cal P w K mg base 8 "list_done" (spListDone K) [] := by
  obtain ⟨fd, F⟩ := fListDone E
  refine ⟨_, fd, ["memory", "steps"], [], F.ok scListDone (fun vs H Q E h => ?_) (fun cdv A outer s H vs Q E' hr h => ⟨_, PSs.nox (pss_cons (ps_expr (C8.pe_c (cal_NeedMemory E) hr (by decide) (by rfl) (pa_cons (pv 0) pa_nil)))
      (pss_cons (ps_expr (C8.pe_c (cal_NeedList E) hr (by decide) (by rfl) (pa_cons (pv 1) pa_nil)))
      (pss_cons (ps_expr (C8.pe_c (cal_NeedInside E) hr (by decide) (by rfl) (pa_cons (pv 0) (pa_cons (pe_lc2 (own := [("step", 2), ("cell", 3)]) (vs1 := [3]) (by rfl) scListDone.nd (pi_tup (pv 1)) (blkOk_by (own := [("step", 2), ("cell", 3)]) (N := NListDone) (sc := defScope sListDone) (by decide +kernel)) (by decide) (fun _ _ _ _ _ => (pg_name (i := 2) scListDone.nd rfl (Or.inl rfl))) (fun _ _ _ _ _ => pts_nil) (fun _ _ _ _ _ => (pi_listK (K := K) rfl (C8.pe_c (cal_CellsTouched E) hr (by decide) (by rfl) (pa_cons (pv 2) pa_nil)))) (fun _ _ _ _ _ => (pg_name (i := 3) scListDone.nd rfl (Or.inl rfl))) (fun _ _ _ _ _ => pts_nil) (fun _ _ _ _ _ => (pv 3))) pa_nil))))
      (pss_one (ps_ret (C8.pe_c (cal_OwnStepsDone E) hr (by decide) (by rfl) (pa_cons (pv 0) (pa_cons (pv 1) pa_nil)))))))), ?_⟩), g_list_done E, F.kp, F.bindsN (fun _ _ _ _ _ _ us hl => match us, hl with | [_, _], _ => rfl), .nil⟩
  · obtain ⟨p, q, m, ss, rfl, _⟩ := h; rfl
  · obtain ⟨p, q, m, ss, rfl, hS, hL, ho, h1, h2, hmo, hl1, hl2, hQ⟩ := h
    have hL0 := hL
    obtain ⟨as, hA, hSt⟩ := hL
    have e : (as.map V.ref).length = ss.length := by rw [List.length_map]; exact hSt.1
    refine ⟨_, rfl, p, m, rfl, hS, h1, by omega, hmo, fun H1 s1 => ?_⟩
    refine ⟨_, rfl, q, ss, m.length, rfl, hL0.kt (Kt.same s1), ho, by omega, hl1, hl2, fun H2 s2 => ?_⟩
    have s12 := s1.trans s2
    refine ⟨_, rfl, _, rfl, q, rfl, ⟨_, (Kt.same s12).sq hA⟩, fun D nD => ?_⟩
    refine it_gen (walk_tup (K := K) (a := q) (xs := as.map V.ref)) (fun i H3 => Same H2 H3 ∧ ∃ cs, H3 D = some (.lst (nums cs)) ∧ (∀ c ∈ cs, c < m.length) ∧ cs.length ≤ 100 * i) ⟨same_new nD, [], upd_same, fun c hc => absurd hc List.not_mem_nil, Nat.le_refl _⟩ (fun i H3 _ z => (Kt.same (s12.trans z.1)).sq hA) (fun i x H3 H4 hi z y => ?_) (fun H3 z => ?_)
    · obtain ⟨z1, cs, z2, z3, z4⟩ := z
      obtain ⟨rfl, hx⟩ := y
      obtain ⟨a, rfl, ha⟩ := mapref_get hx
      obtain ⟨st, hs, hst⟩ := hSt.get ha
      have hi2 : i < ss.length := by rw [← e]; exact hi
      refine ⟨rfl, _, rfl, a, st, m.length, rfl, hst.kt (Kt.same (s12.trans z1)), ho st (List.mem_of_getElem? hs), h2, fun H5 t ds s5 n5 l5 hd hdl => ⟨t, rfl, ⟨_, .of l5⟩, ?_⟩⟩
      refine it_gen (walk_list (K := K) (a := t) (xs := nums ds)) (fun j H6 => Same H5 H6 ∨ True → (∀ b o, H5 b = some o → b ≠ D → H6 b = some o) ∧ ∃ cs, H6 D = some (.lst (nums cs)) ∧ (∀ c ∈ cs, c < m.length) ∧ cs.length ≤ 100 * i + j) (fun _ => ⟨fun b o h _ => h, cs, s5 _ _ z2, z3, z4⟩) (fun j H6 _ z => ?_) (fun j x H6 H7 hj z y => ?_) (fun H6 z => ?_)
      · have ht : t ≠ D := fun w => by rw [w, z2] at n5; cases n5
        exact .of ((z (.inr trivial)).1 _ _ l5 ht)
      · obtain ⟨k1, cs', k2, k3, k4⟩ := z (.inr trivial)
        obtain ⟨rfl, hx⟩ := y
        obtain ⟨d, hdj, rfl⟩ := nums_get hx
        have hj2 : j < ds.length := by rw [nums_len] at hj; exact hj
        refine ⟨rfl, _, rfl, _, k2, by rw [nums_len, sizeLine_eq]; omega, fun _ => ⟨fun b o hb hn => ?_, cs' ++ [d], by rw [upd_same, nums_app]; rfl, fun c hc => ?_, by rw [List.length_append]; simp only [List.length_cons, List.length_nil]; omega⟩⟩
        · rw [upd_ne hn]; exact k1 _ _ hb hn
        · rcases List.mem_append.mp hc with hc | hc
          · exact k3 c hc
          · rw [List.mem_singleton.mp hc]; exact hd d (List.mem_of_getElem? hdj)
      · obtain ⟨k1, cs', k2, k3, k4⟩ := z (.inr trivial)
        rw [nums_len] at k4
        exact ⟨fun b o hb => k1 _ _ (s5 _ _ (z1 _ _ hb)) (ne_of_none hb nD), cs', k2, k3, by omega⟩
    · obtain ⟨z1, cs, z2, z3, z4⟩ := z
      have s13 := s12.trans z1
      refine ⟨p, D, m, cs, rfl, (Kt.same s13).sq hS, h1, z2, z3, ?_⟩
      refine ⟨_, rfl, _, rfl, p, q, m, ss, m.length, rfl, (Kt.same s13).sq hS, hL0.kt (Kt.same s13), ho, h2, Nat.le_refl _, by omega, fun H' t s' n' l' => hQ _ _ (s13.trans s') (s13.free n') l'⟩
end
end K24
end
section
set_option Elab.async false
set_option linter.all false
set_option maxRecDepth 100000
set_option maxHeartbeats 2000000
namespace K24
open PySem PySem.Spec PyProof.Rows L2 C8
section
variable {P : Program} {w : World} {K : PySem.W.Frag} {mg : Str → Option Value} {base : Heap}
abbrev drawV (c : Addr) (a l : Int) : List (Key × V) := [(Sum.inr "cells", .ref c), (Sum.inr "at", .int a), (Sum.inr "left", .int l)]
/-- a draw at d, turned a times -/
def DrAt (H : Hp) (d : Addr) (a : Nat) : Prop := ∃ (c : Addr) (l : Int) (ns : List Int), H d = some (.dK (drawV c ((a : Nat) : Int) l)) ∧ H c = some (.lst (ns.map V.int)) ∧ ns ≠ [] ∧ 0 ≤ l
theorem DrAt.same {H H' : Hp} {d : Addr} {a : Nat} (s : Same H H') (h : DrAt H d a) : DrAt H' d a := by
  obtain ⟨c, l, ns, h1, h2, h3⟩ := h
  exact ⟨c, l, ns, s _ _ h1, s _ _ h2, h3⟩
/-- all but the draw at d stays -/
structure Kd (x : Addr) (H H' : Hp) : Prop where
  kb : Kb x H H'
  cells : ∀ c a l, H x = some (.dK (drawV c a l)) → ∃ a' l', H' x = some (.dK (drawV c a' l'))
theorem Kd.refl (x : Addr) (H : Hp) : Kd x H H := ⟨fun _ _ h _ => h, fun _ _ _ h => ⟨_, _, h⟩⟩
theorem Kd.trans {x : Addr} {H H1 H2 : Hp} (a : Kd x H H1) (b : Kd x H1 H2) : Kd x H H2 := ⟨fun c o h n => b.kb c o (a.kb c o h n) n, fun c i l h => by
  obtain ⟨a', l', h1⟩ := a.cells c i l h
  exact b.cells c a' l' h1⟩
theorem Kd.same {x : Addr} {H H' : Hp} (s : Same H H') : Kd x H H' := ⟨fun c o h _ => s c o h, fun c i l h => ⟨i, l, s _ _ h⟩⟩
theorem kb_dk {x : Addr} {H H' : Hp} {kvs : List (Key × V)} (k : Kd x H H') (h : H x = some (.dK kvs)) : Kt H H' := fun p ys z => by
  rcases z with z | ⟨o, z⟩
  · exact .inl (k.kb _ _ z (fun e => by rw [e, h] at z; cases z))
  · exact .inr ⟨o, k.kb _ _ z (fun e => by rw [e, h] at z; cases z)⟩
theorem DrAt.kt {H H' : Hp} {d : Addr} {a : Nat} (h : DrAt H d a) (k : Kd d H H') : Kt H H' := by
  obtain ⟨c, l, ns, h1, _⟩ := h
  exact kb_dk k h1
theorem kb_free {x : Addr} {H H' : Hp} (k : Kd x H H') {t : Addr} (h : H' t = none) (hx : H x ≠ none → H' x ≠ none) : H t = none := by
  cases e : H t with
  | none => rfl
  | some o =>
    by_cases z : t = x
    · exact absurd h (by rw [z]; exact hx (by rw [← z, e]; exact fun w => by cases w))
    · have := k.kb _ _ e z
      rw [h] at this; cases this
/-- a list that is new since is filled: the draw stays -/
theorem DrAt.put {H0 H : Hp} {d D : Addr} {a0 a : Nat} {o : HO} (h0 : DrAt H0 d a0) (hD : H0 D = none) (k : Kd d H0 H) (h : DrAt H d a) : DrAt (upd H D o) d a := by
  obtain ⟨c, l, ns, h1, h2, h3⟩ := h0
  obtain ⟨c', l', ns', h1', h2', h3'⟩ := h
  obtain ⟨a2, l2, e⟩ := k.cells _ _ _ h1
  rw [h1'] at e
  have ec : c' = c := by cases e; rfl
  subst ec
  exact ⟨c', l', ns', by rw [upd_ne (ne_of_none h1 hD)]; exact h1', by rw [upd_ne (ne_of_none h2 hD)]; exact h2', h3'⟩
theorem Kd.put {H0 H : Hp} {d D : Addr} {o : HO} (hd : d ≠ D) (hD : H0 D = none) (k : Kd d H0 H) : Kd d H0 (upd H D o) := ⟨fun b u hb hn => by rw [upd_ne (ne_of_none hb hD)]; exact k.kb _ _ hb hn, fun c i l h => by rw [upd_ne hd]; exact k.cells c i l h⟩
theorem DrAt.ne {H : Hp} {d D : Addr} {a : Nat} (h : DrAt H d a) (hD : H D = none) : d ≠ D := by
  obtain ⟨c, l, ns, h1, _⟩ := h
  exact ne_of_none h1 hD
theorem DrAt.free {H H' : Hp} {d t : Addr} {a : Nat} (h' : DrAt H' d a) (k : Kd d H H') (n : H' t = none) : H t = none := by
  obtain ⟨c, l, ns, h1, _⟩ := h'
  exact kb_free k n (fun _ => by rw [h1]; exact fun w => by cases w)
def spLawTake : Sp := fun vs H Q _ => ∃ (d : Addr) (many a : Nat), vs = [.ref d, .int ((many : Nat) : Int)] ∧ DrAt H d a ∧ 1 ≤ many ∧ many < 1000000 ∧ a < 1000000 ∧ ∀ H' (r : Nat), Kd d H H' → DrAt H' d (a + 1) → r < many → Q (.int ((r : Nat) : Int)) H'
theorem take_num (a : Nat) (h : a < 1000000) : (0 : Int) ≤ 7907 * (((a : Nat) : Int) + 1) * (((a : Nat) : Int) + 1) + 104723 * (((a : Nat) : Int) + 1) + 11 ∧ 7907 * (((a : Nat) : Int) + 1) * (((a : Nat) : Int) + 1) + 104723 * (((a : Nat) : Int) + 1) + 11 < 7907 * 1000001 * 1000001 + 104723 * 1000001 + 12 := by
  have h1 : (((a : Nat) : Int) + 1) * (((a : Nat) : Int) + 1) ≤ 1000001 * 1000001 := by
    apply Int.mul_le_mul <;> omega
  have h2 : (0 : Int) ≤ (((a : Nat) : Int) + 1) * (((a : Nat) : Int) + 1) := by apply Int.mul_nonneg <;> omega
  rw [Int.mul_assoc]
  generalize (((a : Nat) : Int) + 1) * (((a : Nat) : Int) + 1) = q at h1 h2
  omega
abbrev NLawTake : List Str := ["_law_draw", "_law_many", "_law_found", "_law_at", "_law_cells_here", "_law_added", "_law_number"]
theorem scLawTake : FnScope NLawTake ["_law_draw", "_law_many"] (defScope sLawTake) := ⟨rfl, rfl, rfl, by decide +kernel, rfl, by decide +kernel, by decide +kernel⟩
theorem cal_LawTake (E : Wd w K mg) : C8.Cal P w K mg base 1 "_law_take" spLawTake [] := by
  obtain ⟨fd, F⟩ := fLawTake E
  refine ⟨_, fd, ["_law_draw", "_law_many"], [], F.ok scLawTake (fun vs H Q E h => ?_) (fun cdv A outer s H vs Q E' hr h => ⟨_, PSs.nox (pss_cons (ps_dput (hu_of hr) (pv 0) pe_str (pe_op op_add (pe_dget (hu_of hr) (pv 0) pe_str (fun _ _ => rfl)) pe_int) rfl)
      (pss_cons (ps_if (pt_cmpR op_gt (pe_dget (hu_of hr) (pv 0) pe_str (fun _ _ => rfl)) pe_int (nomark _)) (pss_cons (ps_set (i := 2) scLawTake.nd rfl (.inl rfl) (pe_op op_modN (pe_dget (hu_of hr) (pv 0) pe_str (fun _ _ => rfl)) (pv 1)))
      (pss_cons (ps_dput (hu_of hr) (pv 0) pe_str (pe_op op_fdivN (pe_dget (hu_of hr) (pv 0) pe_str (fun _ _ => rfl)) (pv 1)) rfl)
      (pss_one (ps_ret (pv 2))))) pss_nil)
      (pss_cons (ps_par (i := 3) (j := 4) (by rfl) scLawTake.nd rfl rfl (by decide) rfl rfl (pa_cons (pe_dget (hu_of hr) (pv 0) pe_str (fun _ _ => rfl)) (pa_cons (pe_dget (hu_of hr) (pv 0) pe_str (fun _ _ => rfl)) pa_nil)) (by rfl))
      (pss_cons (ps_set (i := 5) scLawTake.nd rfl (.inl rfl) (pe_op op_add (pe_op op_add (pe_op op_mul (pe_op op_mul pe_int (pv 3)) (pv 3)) (pe_op op_mul pe_int (pv 3))) pe_int))
      (pss_cons (ps_set (i := 6) scLawTake.nd rfl (.inl rfl) (pe_op op_add (pe_op op_modN (pe_ix ix_list (pv 4) (pe_op op_modN (pv 3) (pe_callB call_len_seq (by rfl) (n_len E) (by decide +kernel) (pa_cons (pv 4) pa_nil))) (fun _ _ => rfl)) pe_int) (pv 5)))
      (pss_cons (ps_set (i := 6) scLawTake.nd rfl (.inl rfl) (pe_op op_modN (pe_op op_pow (pv 6) pe_int) pe_int))
      (pss_one (ps_ret (pe_op op_modN (pe_op op_fdivN (pe_op op_modN (pe_op op_mul (pv 6) pe_int) pe_int) pe_int) (pv 1)))))))))), ?_⟩), g__law_take E, F.kp, F.bindsN (fun _ _ _ _ _ _ us hl => match us, hl with | [_, _], _ => rfl), .nil⟩
  · obtain ⟨d, many, a, rfl, _⟩ := h; rfl
  · obtain ⟨d, many, a, rfl, ⟨c, l, ns, hd, hc, hne, hl⟩, hm1, hm2, ha, hQ⟩ := h
    have g0 : DGet H d (.str "at") (some (.int ((a : Nat) : Int))) := DGet.k (k := Sum.inr "at") hd
    have hcd : c ≠ d := fun z => by rw [z, hd] at hc; cases hc
    refine ⟨_, rfl, d, _, rfl, g0, _, _, rfl, rfl, _, rfl, d, _, rfl, DPut.k (k := Sum.inr "at") hd (by show 3 < sizeLine; decide), ?_⟩
    have hd1 : upd H d (.dK (putK (drawV c ((a : Nat) : Int) l) (Sum.inr "at") (.int (((a : Nat) : Int) + 1)))) d = some (.dK (drawV c (((a : Nat) : Int) + 1) l)) := by rw [upd_same]; rfl
    have hc1 : upd H d (.dK (putK (drawV c ((a : Nat) : Int) l) (Sum.inr "at") (.int (((a : Nat) : Int) + 1)))) c = some (.lst (ns.map V.int)) := by rw [upd_ne hcd]; exact hc
    have k1 : Kd d H (upd H d (.dK (putK (drawV c ((a : Nat) : Int) l) (Sum.inr "at") (.int (((a : Nat) : Int) + 1))))) := ⟨fun b o hb hn => by rw [upd_ne hn]; exact hb, fun c' i' l' h' => by rw [hd] at h'; cases h'; exact ⟨_, _, hd1⟩⟩
    show tSeq _ _ _ _ (upd H d (.dK (putK (drawV c ((a : Nat) : Int) l) (Sum.inr "at") (.int (((a : Nat) : Int) + 1)))))
    generalize upd H d (HO.dK (putK (drawV c ((a : Nat) : Int) l) (Sum.inr "at") (V.int (((a : Nat) : Int) + 1)))) = H1 at hd1 hc1 k1 ⊢
    have gl : DGet H1 d (.str "left") (some (.int l)) := DGet.k (k := Sum.inr "left") hd1
    have ga : DGet H1 d (.str "at") (some (.int (((a : Nat) : Int) + 1))) := DGet.k (k := Sum.inr "at") hd1
    have gc : DGet H1 d (.str "cells") (some (.ref c)) := DGet.k (k := Sum.inr "cells") hd1
    have mpos : (0 : Int) < ((many : Nat) : Int) := by omega
    have dr1 : DrAt H1 d (a + 1) := ⟨c, l, ns, by rw [hd1]; push_cast; rfl, hc1, hne, hl⟩
    have fin : ∀ (x : Int) (H' : Hp), Kd d H H' → DrAt H' d (a + 1) → Q (.int (x.fmod ((many : Nat) : Int))) H' := fun x H' kk dd => by
      have e1 := Int.fmod_nonneg_of_pos x mpos
      have e2 := Int.fmod_lt_of_pos x mpos
      have e := Int.toNat_of_nonneg e1
      rw [← e]
      exact hQ H' _ kk dd (by omega)
    refine ⟨_, rfl, d, _, rfl, gl, _, _, rfl, rfl, _, rfl, ?_⟩
    by_cases hl0 : 0 < l
    · refine iteDT hl0 ⟨_, rfl, d, _, rfl, gl, _, rfl, _, _, rfl, rfl, Int.ne_of_gt mpos, ?_⟩
      refine ⟨_, rfl, d, _, rfl, gl, _, rfl, _, _, rfl, rfl, ⟨Int.ne_of_gt mpos, by omega⟩, _, rfl, d, _, rfl, DPut.k (k := Sum.inr "left") hd1 (by show 3 < sizeLine; decide), ?_⟩
      refine ⟨_, rfl, fin l _ (k1.trans ⟨fun b o hb hn => by rw [upd_ne hn]; exact hb, fun c' i' l' h' => by rw [hd1] at h'; cases h'; exact ⟨_, _, by rw [upd_same]; rfl⟩⟩) ⟨c, l.fdiv ((many : Nat) : Int), ns, ?_, by rw [upd_ne hcd]; exact hc1, hne, Int.fdiv_nonneg hl (Int.le_of_lt mpos)⟩⟩
      rw [upd_same]; push_cast; rfl
    · refine iteDF hl0 ⟨_, rfl, d, _, rfl, ga, _, rfl, d, _, rfl, gc, _, _, rfl, ?_⟩
      obtain ⟨b1, b2⟩ := take_num a ha
      have bm : ∀ x y : Int, 0 ≤ x → x < 2 ^ 64 → CMul x y := fun x y h1 h2 => .inl ⟨by omega, h2⟩
      have q1 : (0 : Int) ≤ 7907 * (((a : Nat) : Int) + 1) := by omega
      have q2 : 7907 * (((a : Nat) : Int) + 1) < 2 ^ 64 := by omega
      refine ⟨_, rfl, _, _, rfl, rfl, bm _ _ (by decide) (by decide), _, rfl, _, _, rfl, rfl, bm _ _ q1 q2, _, rfl, _, _, rfl, rfl, bm _ _ (by decide) (by decide), _, _, rfl, rfl, _, _, rfl, rfl, ?_⟩
      have npos : 0 < ns.length := List.length_pos_iff.mpr hne
      have nl : (ns.map V.int).length = ns.length := List.length_map _
      have f1 := Int.fmod_nonneg_of_pos (((a : Nat) : Int) + 1) (b := (((ns.map V.int).length : Nat) : Int)) (by rw [nl]; omega)
      have f2 := Int.fmod_lt_of_pos (((a : Nat) : Int) + 1) (b := (((ns.map V.int).length : Nat) : Int)) (by rw [nl]; omega)
      obtain ⟨k, hk⟩ : ∃ k : Nat, (((a : Nat) : Int) + 1).fmod (((ns.map V.int).length : Nat) : Int) = ((k : Nat) : Int) := ⟨_, (Int.toNat_of_nonneg f1).symm⟩
      have hkl : k < ns.length := by rw [hk, nl] at f2; omega
      have hat : atI (ns.map V.int) ((((a : Nat) : Int) + 1).fmod (((ns.map V.int).length : Nat) : Int)) = some (.int (ns.getD k 0)) := by rw [hk]; exact atI_nat (ints_get hkl)
      refine ⟨_, rfl, _, rfl, _, rfl, c, _, rfl, .inl (.of hc1), _, _, rfl, rfl, by show (((ns.map V.int).length : Nat) : Int) ≠ 0; rw [nl]; omega, c, _, _, _, rfl, rfl, .of hc1, hat, _, _, rfl, rfl, by show (2147483629 : Int) ≠ 0; decide, _, rfl, _, _, rfl, rfl, ?_⟩
      have g1 := Int.fmod_nonneg_of_pos (ns.getD k 0) (b := 2147483629) (by decide)
      have g2 := Int.fmod_lt_of_pos (ns.getD k 0) (b := 2147483629) (by decide)
      refine ⟨_, rfl, _, _, rfl, rfl, ⟨by decide, by decide, by omega⟩, _, _, rfl, rfl, by show (2147483647 : Int) ≠ 0; decide, ?_⟩
      generalize ((((ns.getD k 0).fmod 2147483629) + (7907 * (((a : Nat) : Int) + 1) * (((a : Nat) : Int) + 1) + 104723 * (((a : Nat) : Int) + 1) + 11)) ^ (5 : Int).toNat) = pw
      have h1 := Int.fmod_nonneg_of_pos pw (b := 2147483647) (by decide)
      have h2 := Int.fmod_lt_of_pos pw (b := 2147483647) (by decide)
      refine ⟨_, rfl, _, _, rfl, rfl, bm _ _ h1 (by omega), _, _, rfl, rfl, by show (2147483629 : Int) ≠ 0; decide, _, _, rfl, rfl, ⟨by decide, by decide⟩, _, rfl, _, _, rfl, rfl, Int.ne_of_gt mpos, ?_⟩
      exact fin _ _ k1 dr1
end
end K24
end
section
set_option Elab.async false
set_option linter.all false
set_option maxRecDepth 100000
set_option maxHeartbeats 2000000
namespace K24
open PySem PySem.Spec PyProof.Rows L2 C8
theorem argT {d : Addr} {x : Int} {n : Nat} (h : x = ((n : Nat) : Int)) : [V.ref d, V.int x] = [V.ref d, V.int ((n : Nat) : Int)] := by rw [h]
theorem nat_fmod (m n : Nat) : ((m : Nat) : Int).fmod ((n : Nat) : Int) = ((m % n : Nat) : Int) := by
  rw [Int.fmod_eq_emod_of_nonneg _ (by omega)]; exact (Int.natCast_emod m n).symm
theorem nat_fdiv (m n : Nat) : ((m : Nat) : Int).fdiv ((n : Nat) : Int) = ((m / n : Nat) : Int) := by
  rw [Int.fdiv_eq_ediv_of_nonneg _ (by omega)]; exact (Int.natCast_ediv m n).symm
section
variable {P : Program} {w : World} {K : PySem.W.Frag} {mg : Str → Option Value} {base : Heap}
def spLawArea (K : PySem.W.Frag) : Sp := fun vs H Q _ => ∃ (d : Addr) (many top a : Nat), vs = [.ref d, .int ((many : Nat) : Int), .int ((top : Nat) : Int)] ∧ DrAt H d a ∧ 1 ≤ many ∧ many ≤ 6 ∧ many ≤ top ∧ 6 ≤ top ∧ top ≤ 20 ∧ a < 900000 ∧
  ∀ H' p ar a', Kd d H H' → DrAt H' d a' → a' ≤ a + 3 → ArAt K H' p ar → ar.Ok top → ar.size = many → Q (.ref p) H'
abbrev NLawArea : List Str := ["_law_draw", "_law_many", "_law_top", "_law_rows", "_law_count", "_law_wide"]
theorem scLawArea : FnScope NLawArea ["_law_draw", "_law_many", "_law_top"] (defScope sLawArea) := ⟨rfl, rfl, rfl, by decide +kernel, rfl, by decide +kernel, by decide +kernel⟩
theorem cal_LawArea (E : Wd w K mg) : C8.Cal P w K mg base 2 "_law_area" (spLawArea K) [] := by
  obtain ⟨fd, F⟩ := fLawArea E
  refine ⟨_, fd, ["_law_draw", "_law_many", "_law_top"], [], F.ok scLawArea (fun vs H Q E h => ?_) (fun cdv A outer s H vs Q E' hr h => ⟨_, PSs.nox (pss_cons (ps_set (i := 3) scLawArea.nd rfl (.inl rfl) (pe_ix ix_list (pe_lst (pa_cons pe_int (pa_cons pe_int (pa_cons pe_int (pa_cons pe_int (pa_cons pe_int pa_nil)))))) (C8.pe_c (cal_LawTake E) hr (by decide) (by rfl) (pa_cons (pv 0) (pa_cons pe_int pa_nil))) (fun _ _ => rfl)))
      (pss_cons (ps_if (PW.pt (pw_and (pt_cmpR op_gt (pv 3) pe_int (nomark _)) (pw_and1 (pt_cmpR op_eq (pe_op op_modN (pv 1) (pv 3)) pe_int (nomark _))))) (pss_cons (ps_set (i := 4) scLawArea.nd rfl (.inl rfl) (pe_op op_fdivN (pv 1) (pv 3)))
      (pss_cons (ps_set (i := 5) scLawArea.nd rfl (.inl rfl) (pe_op op_add (pv 4) (C8.pe_c (cal_LawTake E) hr (by decide) (by rfl) (pa_cons (pv 0) (pa_cons pe_int pa_nil)))))
      (pss_one (ps_if (pt_cmpR op_le (pe_op op_add (pe_op op_mul (pv 5) (pe_op op_sub (pv 3) pe_int)) (pv 4)) (pv 2) (nomark _)) (pss_one (ps_ret (pe_tup (pa_cons (C8.pe_c (cal_LawTake E) hr (by decide) (by rfl) (pa_cons (pv 0) (pa_cons (pe_op op_add (pe_op op_sub (pe_op op_sub (pv 2) (pe_op op_mul (pv 5) (pe_op op_sub (pv 3) pe_int))) (pv 4)) pe_int) pa_nil))) (pa_cons (pv 4) (pa_cons (pv 3) (pa_cons (pv 5) pa_nil))))))) pss_nil)))) pss_nil)
      (pss_one (ps_ret (pe_tup (pa_cons (C8.pe_c (cal_LawTake E) hr (by decide) (by rfl) (pa_cons (pv 0) (pa_cons (pe_op op_add (pe_op op_sub (pv 2) (pv 1)) pe_int) pa_nil))) (pa_cons (pv 1) (pa_cons pe_int (pa_cons (pv 1) pa_nil))))))))), ?_⟩), g__law_area E, F.kp, F.bindsN (fun _ _ _ _ _ _ us hl => match us, hl with | [_, _, _], _ => rfl), .nil⟩
  · obtain ⟨d, many, top, a, rfl, _⟩ := h; rfl
  · obtain ⟨d, many, top, a, rfl, hd, hm1, hm6, hmt, ht6, ht20, ha, hQ⟩ := h
    refine ⟨by show 5 ≤ sizeLine; decide, fun L nL => ?_⟩
    have sL := same_new (o := HO.lst [.int 1, .int 1, .int 1, .int 2, .int 3]) nL
    have hLd : L ≠ d := fun z => by
      obtain ⟨c, l, ns, h1, _⟩ := hd
      rw [z, h1] at nL; cases nL
    refine ⟨_, rfl, d, 5, a, rfl, hd.same sL, by decide, by decide, by omega, fun H1 r k1 dr1 hr5 => ?_⟩
    obtain ⟨rw_, hrw, hget⟩ : ∃ rw_ : Nat, (rw_ = 1 ∨ rw_ = 2 ∨ rw_ = 3) ∧ [V.int 1, .int 1, .int 1, .int 2, .int 3][r]? = some (.int ((rw_ : Nat) : Int)) := by
      rcases (show r = 0 ∨ r = 1 ∨ r = 2 ∨ r = 3 ∨ r = 4 by omega) with rfl | rfl | rfl | rfl | rfl
      · exact ⟨1, .inl rfl, rfl⟩
      · exact ⟨1, .inl rfl, rfl⟩
      · exact ⟨1, .inl rfl, rfl⟩
      · exact ⟨2, .inr (.inl rfl), rfl⟩
      · exact ⟨3, .inr (.inr rfl), rfl⟩
    have k01 : Kd d H H1 := (Kd.same sL).trans k1
    refine ⟨L, _, _, _, rfl, rfl, .of (k1.kb _ _ upd_same hLd), atI_nat (j := r) hget, ?_⟩
    refine ⟨_, rfl, _, _, rfl, rfl, _, rfl, ?_⟩
    by_cases h1 : rw_ = 1
    · subst h1
      refine iteDF (by decide) ?_
      refine ⟨_, rfl, _, rfl, _, rfl, _, _, rfl, rfl, _, _, rfl, rfl, d, top - many + 1, a + 1, argT (by omega), dr1, by omega, by omega, by omega, fun H2 s k2 dr2 hs => ?_⟩
      refine ⟨_, rfl, _, rfl, by show 4 ≤ sizeLine; decide, fun p np => ?_⟩
      have sp := same_new (o := HO.tup [.int ((s : Nat) : Int), .int ((many : Nat) : Int), .int 1, .int ((many : Nat) : Int)]) np
      exact hQ _ p ⟨s, many, 1, many⟩ (a + 1 + 1) ((k01.trans k2).trans (Kd.same sp)) (dr2.same sp) (by omega) (.of upd_same) ⟨.inl rfl, hm1, Nat.le_refl _, fun _ => rfl, by show s + (1 - 1) * many + many ≤ top; omega⟩ (by show many * 1 = many; omega)
    · rcases hrw with rfl | rfl | rfl
      · exact absurd rfl h1
      · refine iteDT (by decide) ⟨_, rfl, _, rfl, _, _, rfl, rfl, by show ((2 : Nat) : Int) ≠ 0; decide, rfl, _, rfl, ?_⟩
        by_cases hm : many % 2 = 0
        · refine iteDT (by show V.int (((many : Nat) : Int).fmod ((2 : Nat) : Int)) = V.int 0; rw [nat_fmod, hm]; rfl) ?_
          have hcnt := nat_fdiv many 2
          obtain ⟨cnt, ecnt⟩ : ∃ cnt, many = 2 * cnt := ⟨many / 2, by omega⟩
          have ec : many / 2 = cnt := by omega
          rw [ec] at hcnt
          refine ⟨_, rfl, _, rfl, _, _, rfl, rfl, ⟨by show ((2 : Nat) : Int) ≠ 0; decide, by show ((2 : Nat) : Int).natAbs < 1073741824; decide⟩, ?_⟩
          refine ⟨_, rfl, _, rfl, d, 3, a + 1, rfl, dr1, by decide, by decide, by omega, fun H2 e k2 dr2 he => ⟨_, _, rfl, rfl, ?_⟩⟩
          refine ⟨_, rfl, _, rfl, _, _, rfl, rfl, _, _, rfl, rfl, .inl ⟨by rw [hcnt]; omega, by rw [hcnt]; omega⟩, _, rfl, _, _, rfl, rfl, _, rfl, _, _, rfl, rfl, _, rfl, ?_⟩
          by_cases hw : (cnt + e) * 1 + cnt ≤ top
          · refine iteDT (by show (((many : Nat) : Int).fdiv ((2 : Nat) : Int) + ((e : Nat) : Int)) * (((2 : Nat) : Int) - 1) + ((many : Nat) : Int).fdiv ((2 : Nat) : Int) ≤ ((top : Nat) : Int); rw [hcnt]; omega) ?_
            refine ⟨_, rfl, _, rfl, _, rfl, _, rfl, _, _, rfl, rfl, _, _, rfl, rfl, .inl ⟨by rw [hcnt]; omega, by rw [hcnt]; omega⟩, _, _, rfl, rfl, _, rfl, _, _, rfl, rfl, _, _, rfl, rfl, ?_⟩
            refine ⟨d, top - (cnt + e) * 1 - cnt + 1, a + 1 + 1, argT ?_, dr2, by omega, by omega, by omega, fun H3 s k3 dr3 hs => ?_⟩
            · show ((top : Nat) : Int) - (((many : Nat) : Int).fdiv ((2 : Nat) : Int) + ((e : Nat) : Int)) * (((2 : Nat) : Int) - 1) - ((many : Nat) : Int).fdiv ((2 : Nat) : Int) + 1 = _
              rw [hcnt]; omega
            · refine ⟨_, rfl, _, rfl, _, rfl, by show 4 ≤ sizeLine; decide, fun p np => ?_⟩
              have sp := same_new (o := HO.tup [.int ((s : Nat) : Int), .int (((many : Nat) : Int).fdiv ((2 : Nat) : Int)), .int ((2 : Nat) : Int), .int (((many : Nat) : Int).fdiv ((2 : Nat) : Int) + ((e : Nat) : Int))]) np
              refine hQ _ p ⟨s, cnt, 2, cnt + e⟩ (a + 1 + 1 + 1) (((k01.trans k2).trans k3).trans (Kd.same sp)) (dr3.same sp) (by omega) (.of ?_) ⟨.inr (.inl rfl), by show 1 ≤ cnt; omega, by show cnt ≤ cnt + e; omega, fun z => Nat.noConfusion (Nat.succ.inj z), by show s + (2 - 1) * (cnt + e) + cnt ≤ top; omega⟩ (by show cnt * 2 = many; omega)
              rw [upd_same]
              show some (HO.tup [.int ((s : Nat) : Int), .int (((many : Nat) : Int).fdiv ((2 : Nat) : Int)), .int ((2 : Nat) : Int), .int (((many : Nat) : Int).fdiv ((2 : Nat) : Int) + ((e : Nat) : Int))]) = some (HO.tup [.int ((s : Nat) : Int), .int ((cnt : Nat) : Int), .int ((2 : Nat) : Int), .int ((cnt + e : Nat) : Int)])
              rw [hcnt]; push_cast; rfl
          · refine iteDF (by show ¬ (((many : Nat) : Int).fdiv ((2 : Nat) : Int) + ((e : Nat) : Int)) * (((2 : Nat) : Int) - 1) + ((many : Nat) : Int).fdiv ((2 : Nat) : Int) ≤ ((top : Nat) : Int); rw [hcnt]; omega) ?_
            refine ⟨_, rfl, _, rfl, _, rfl, _, _, rfl, rfl, _, _, rfl, rfl, d, top - many + 1, a + 1 + 1, argT (by omega), dr2, by omega, by omega, by omega, fun H9 s k9 dr9 hs => ?_⟩
            refine ⟨_, rfl, _, rfl, by show 4 ≤ sizeLine; decide, fun p np => ?_⟩
            have sp := same_new (o := HO.tup [.int ((s : Nat) : Int), .int ((many : Nat) : Int), .int 1, .int ((many : Nat) : Int)]) np
            exact hQ _ p ⟨s, many, 1, many⟩ (a + 1 + 1 + 1) (((k01.trans k2).trans k9).trans (Kd.same sp)) (dr9.same sp) (by omega) (.of upd_same) ⟨.inl rfl, hm1, Nat.le_refl _, fun _ => rfl, by show s + (1 - 1) * many + many ≤ top; omega⟩ (by show many * 1 = many; omega)
        · refine iteDF (fun z => hm ?_) ?_
          · have z2 : ((many : Nat) : Int).fmod ((2 : Nat) : Int) = 0 := V.int.inj z
            rw [nat_fmod] at z2; omega
          refine ⟨_, rfl, _, rfl, _, rfl, _, _, rfl, rfl, _, _, rfl, rfl, d, top - many + 1, a + 1, argT (by omega), dr1, by omega, by omega, by omega, fun H2 s k2 dr2 hs => ?_⟩
          refine ⟨_, rfl, _, rfl, by show 4 ≤ sizeLine; decide, fun p np => ?_⟩
          have sp := same_new (o := HO.tup [.int ((s : Nat) : Int), .int ((many : Nat) : Int), .int 1, .int ((many : Nat) : Int)]) np
          exact hQ _ p ⟨s, many, 1, many⟩ (a + 1 + 1) ((k01.trans k2).trans (Kd.same sp)) (dr2.same sp) (by omega) (.of upd_same) ⟨.inl rfl, hm1, Nat.le_refl _, fun _ => rfl, by show s + (1 - 1) * many + many ≤ top; omega⟩ (by show many * 1 = many; omega)
      · refine iteDT (by decide) ⟨_, rfl, _, rfl, _, _, rfl, rfl, by show ((3 : Nat) : Int) ≠ 0; decide, rfl, _, rfl, ?_⟩
        by_cases hm : many % 3 = 0
        · refine iteDT (by show V.int (((many : Nat) : Int).fmod ((3 : Nat) : Int)) = V.int 0; rw [nat_fmod, hm]; rfl) ?_
          have hcnt := nat_fdiv many 3
          obtain ⟨cnt, ecnt⟩ : ∃ cnt, many = 3 * cnt := ⟨many / 3, by omega⟩
          have ec : many / 3 = cnt := by omega
          rw [ec] at hcnt
          refine ⟨_, rfl, _, rfl, _, _, rfl, rfl, ⟨by show ((3 : Nat) : Int) ≠ 0; decide, by show ((3 : Nat) : Int).natAbs < 1073741824; decide⟩, ?_⟩
          refine ⟨_, rfl, _, rfl, d, 3, a + 1, rfl, dr1, by decide, by decide, by omega, fun H2 e k2 dr2 he => ⟨_, _, rfl, rfl, ?_⟩⟩
          refine ⟨_, rfl, _, rfl, _, _, rfl, rfl, _, _, rfl, rfl, .inl ⟨by rw [hcnt]; omega, by rw [hcnt]; omega⟩, _, rfl, _, _, rfl, rfl, _, rfl, _, _, rfl, rfl, _, rfl, ?_⟩
          by_cases hw : (cnt + e) * 2 + cnt ≤ top
          · refine iteDT (by show (((many : Nat) : Int).fdiv ((3 : Nat) : Int) + ((e : Nat) : Int)) * (((3 : Nat) : Int) - 1) + ((many : Nat) : Int).fdiv ((3 : Nat) : Int) ≤ ((top : Nat) : Int); rw [hcnt]; omega) ?_
            refine ⟨_, rfl, _, rfl, _, rfl, _, rfl, _, _, rfl, rfl, _, _, rfl, rfl, .inl ⟨by rw [hcnt]; omega, by rw [hcnt]; omega⟩, _, _, rfl, rfl, _, rfl, _, _, rfl, rfl, _, _, rfl, rfl, ?_⟩
            refine ⟨d, top - (cnt + e) * 2 - cnt + 1, a + 1 + 1, argT ?_, dr2, by omega, by omega, by omega, fun H3 s k3 dr3 hs => ?_⟩
            · show ((top : Nat) : Int) - (((many : Nat) : Int).fdiv ((3 : Nat) : Int) + ((e : Nat) : Int)) * (((3 : Nat) : Int) - 1) - ((many : Nat) : Int).fdiv ((3 : Nat) : Int) + 1 = _
              rw [hcnt]; omega
            · refine ⟨_, rfl, _, rfl, _, rfl, by show 4 ≤ sizeLine; decide, fun p np => ?_⟩
              have sp := same_new (o := HO.tup [.int ((s : Nat) : Int), .int (((many : Nat) : Int).fdiv ((3 : Nat) : Int)), .int ((3 : Nat) : Int), .int (((many : Nat) : Int).fdiv ((3 : Nat) : Int) + ((e : Nat) : Int))]) np
              refine hQ _ p ⟨s, cnt, 3, cnt + e⟩ (a + 1 + 1 + 1) (((k01.trans k2).trans k3).trans (Kd.same sp)) (dr3.same sp) (by omega) (.of ?_) ⟨.inr (.inr rfl), by show 1 ≤ cnt; omega, by show cnt ≤ cnt + e; omega, fun z => Nat.noConfusion (Nat.succ.inj z), by show s + (3 - 1) * (cnt + e) + cnt ≤ top; omega⟩ (by show cnt * 3 = many; omega)
              rw [upd_same]
              show some (HO.tup [.int ((s : Nat) : Int), .int (((many : Nat) : Int).fdiv ((3 : Nat) : Int)), .int ((3 : Nat) : Int), .int (((many : Nat) : Int).fdiv ((3 : Nat) : Int) + ((e : Nat) : Int))]) = some (HO.tup [.int ((s : Nat) : Int), .int ((cnt : Nat) : Int), .int ((3 : Nat) : Int), .int ((cnt + e : Nat) : Int)])
              rw [hcnt]; push_cast; rfl
          · refine iteDF (by show ¬ (((many : Nat) : Int).fdiv ((3 : Nat) : Int) + ((e : Nat) : Int)) * (((3 : Nat) : Int) - 1) + ((many : Nat) : Int).fdiv ((3 : Nat) : Int) ≤ ((top : Nat) : Int); rw [hcnt]; omega) ?_
            refine ⟨_, rfl, _, rfl, _, rfl, _, _, rfl, rfl, _, _, rfl, rfl, d, top - many + 1, a + 1 + 1, argT (by omega), dr2, by omega, by omega, by omega, fun H9 s k9 dr9 hs => ?_⟩
            refine ⟨_, rfl, _, rfl, by show 4 ≤ sizeLine; decide, fun p np => ?_⟩
            have sp := same_new (o := HO.tup [.int ((s : Nat) : Int), .int ((many : Nat) : Int), .int 1, .int ((many : Nat) : Int)]) np
            exact hQ _ p ⟨s, many, 1, many⟩ (a + 1 + 1 + 1) (((k01.trans k2).trans k9).trans (Kd.same sp)) (dr9.same sp) (by omega) (.of upd_same) ⟨.inl rfl, hm1, Nat.le_refl _, fun _ => rfl, by show s + (1 - 1) * many + many ≤ top; omega⟩ (by show many * 1 = many; omega)
        · refine iteDF (fun z => hm ?_) ?_
          · have z2 : ((many : Nat) : Int).fmod ((3 : Nat) : Int) = 0 := V.int.inj z
            rw [nat_fmod] at z2; omega
          refine ⟨_, rfl, _, rfl, _, rfl, _, _, rfl, rfl, _, _, rfl, rfl, d, top - many + 1, a + 1, argT (by omega), dr1, by omega, by omega, by omega, fun H2 s k2 dr2 hs => ?_⟩
          refine ⟨_, rfl, _, rfl, by show 4 ≤ sizeLine; decide, fun p np => ?_⟩
          have sp := same_new (o := HO.tup [.int ((s : Nat) : Int), .int ((many : Nat) : Int), .int 1, .int ((many : Nat) : Int)]) np
          exact hQ _ p ⟨s, many, 1, many⟩ (a + 1 + 1) ((k01.trans k2).trans (Kd.same sp)) (dr2.same sp) (by omega) (.of upd_same) ⟨.inl rfl, hm1, Nat.le_refl _, fun _ => rfl, by show s + (1 - 1) * many + many ≤ top; omega⟩ (by show many * 1 = many; omega)
end
end K24
end
section
set_option Elab.async false
set_option linter.all false
set_option maxRecDepth 100000
set_option maxHeartbeats 2000000
namespace K24
open PySem PySem.Spec PyProof.Rows L2 C8
theorem argA {d : Addr} {x : Int} {n t : Nat} (h : x = ((n : Nat) : Int)) : [V.ref d, V.int x, V.int ((t : Nat) : Int)] = [V.ref d, V.int ((n : Nat) : Int), V.int ((t : Nat) : Int)] := by rw [h]
section
variable {P : Program} {w : World} {K : PySem.W.Frag} {mg : Str → Option Value} {base : Heap}
def spLawStep (K : PySem.W.Frag) : Sp := fun vs H Q _ => ∃ (d : Addr) (top a : Nat), vs = [.ref d, .int ((top : Nat) : Int)] ∧ DrAt H d a ∧ 6 ≤ top ∧ top ≤ 20 ∧ a < 890000 ∧
  ∀ H' p s a', Kd d H H' → DrAt H' d a' → a' ≤ a + 12 → StAt K H' p s → s.Ok top → Q (.ref p) H'
abbrev NLawStep : List Str := ["_law_draw", "_law_top", "_law_way", "_law_many", "_law_first", "_law_area_here"]
theorem scLawStep : FnScope NLawStep ["_law_draw", "_law_top"] (defScope sLawStep) := ⟨rfl, rfl, rfl, by decide +kernel, rfl, by decide +kernel, by decide +kernel⟩
theorem cal_LawStep (E : Wd w K mg) : C8.Cal P w K mg base 3 "_law_step" (spLawStep K) [] := by
  obtain ⟨fd, F⟩ := fLawStep E
  refine ⟨_, fd, ["_law_draw", "_law_top"], [], F.ok scLawStep (fun vs H Q E h => ?_) (fun cdv A outer s H vs Q E' hr h => ⟨_, PSs.nox (pss_cons (ps_par (i := 2) (j := 3) (by rfl) scLawStep.nd rfl rfl (by decide) rfl rfl (pa_cons (C8.pe_c (cal_LawTake E) hr (by decide) (by rfl) (pa_cons (pv 0) (pa_cons pe_int pa_nil))) (pa_cons (pe_op op_add pe_int (C8.pe_c (cal_LawTake E) hr (by decide) (by rfl) (pa_cons (pv 0) (pa_cons (pe_callB (call_min2 rfl) (by rfl) (n_min E) (by decide +kernel) (pa_cons pe_int (pa_cons (pv 1) pa_nil))) pa_nil)))) pa_nil)) (by rfl))
      (pss_cons (ps_if (pt_cmpR op_lt (pv 2) pe_int (nomark _)) (pss_cons (ps_set (i := 4) scLawStep.nd rfl (.inl rfl) (C8.pe_c (cal_LawArea E) hr (by decide) (by rfl) (pa_cons (pv 0) (pa_cons (pv 3) (pa_cons (pv 1) pa_nil)))))
      (pss_one (ps_ret (pe_tup (pa_cons pe_str (pa_cons (pv 4) (pa_cons (C8.pe_c (cal_LawArea E) hr (by decide) (by rfl) (pa_cons (pv 0) (pa_cons (pv 3) (pa_cons (pv 1) pa_nil)))) (pa_cons (pe_ix ix_list (pe_lst (pa_cons pe_int (pa_cons (C8.pe_c (cal_LawTake E) hr (by decide) (by rfl) (pa_cons (pv 0) (pa_cons (pv 3) pa_nil))) pa_nil))) (pe_op op_fdivN (C8.pe_c (cal_LawTake E) hr (by decide) (by rfl) (pa_cons (pv 0) (pa_cons pe_int pa_nil))) pe_int) (fun _ _ => rfl)) pa_nil)))))))) pss_nil)
      (pss_cons (ps_if (pt_cmpR op_lt (pv 2) pe_int (nomark _)) (pss_cons (ps_set (i := 5) scLawStep.nd rfl (.inl rfl) (C8.pe_c (cal_LawArea E) hr (by decide) (by rfl) (pa_cons (pv 0) (pa_cons (pv 3) (pa_cons (pv 1) pa_nil)))))
      (pss_one (ps_ret (pe_tup (pa_cons pe_str (pa_cons (pv 5) (pa_cons (C8.pe_c (cal_LawTake E) hr (by decide) (by rfl) (pa_cons (pv 0) (pa_cons pe_int pa_nil))) (pa_cons (pe_ix ix_list (pe_lst (pa_cons pe_int (pa_cons (C8.pe_c (cal_LawTake E) hr (by decide) (by rfl) (pa_cons (pv 0) (pa_cons (pv 3) pa_nil))) pa_nil))) (pe_op op_fdivN (C8.pe_c (cal_LawTake E) hr (by decide) (by rfl) (pa_cons (pv 0) (pa_cons pe_int pa_nil))) pe_int) (fun _ _ => rfl)) pa_nil)))))))) pss_nil)
      (pss_cons (ps_if (pt_cmpR op_eq (pv 2) pe_int (nomark _)) (pss_one (ps_ret (pe_tup (pa_cons pe_str (pa_cons (C8.pe_c (cal_LawArea E) hr (by decide) (by rfl) (pa_cons (pv 0) (pa_cons (pv 3) (pa_cons (pv 1) pa_nil)))) (pa_cons (C8.pe_c (cal_LawTake E) hr (by decide) (by rfl) (pa_cons (pv 0) (pa_cons (pv 1) pa_nil))) pa_nil)))))) pss_nil)
      (pss_cons (ps_if (pt_cmpR op_eq (pv 2) pe_int (nomark _)) (pss_one (ps_ret (pe_tup (pa_cons pe_str (pa_cons (C8.pe_c (cal_LawTake E) hr (by decide) (by rfl) (pa_cons (pv 0) (pa_cons pe_int pa_nil))) pa_nil))))) pss_nil)
      (pss_one (ps_ret (pe_ifExp (pt_cmpR op_eq (pv 2) pe_int (nomark _)) (pe_tup (pa_cons pe_str (pa_cons (C8.pe_c (cal_LawTake E) hr (by decide) (by rfl) (pa_cons (pv 0) (pa_cons pe_int pa_nil))) (pa_cons (pe_op op_add pe_int (C8.pe_c (cal_LawTake E) hr (by decide) (by rfl) (pa_cons (pv 0) (pa_cons pe_int pa_nil)))) pa_nil)))) (pe_tup (pa_cons pe_str pa_nil)))))))))), ?_⟩), g__law_step E, F.kp, F.bindsN (fun _ _ _ _ _ _ us hl => match us, hl with | [_, _], _ => rfl), .nil⟩
  · obtain ⟨d, top, a, rfl, _⟩ := h; rfl
  · obtain ⟨d, top, a, rfl, hd, ht6, ht20, ha, hQ⟩ := h
    refine ⟨_, rfl, d, 12, a, rfl, hd, by decide, by decide, by omega, fun H1 way k1 dr1 hway => ?_⟩
    refine ⟨_, rfl, _, rfl, _, _, rfl, d, 6, a + 1, argT (by rw [if_neg (by omega)]; rfl), dr1, by decide, by decide, by omega, fun H2 m0 k2 dr2 hm0 => ?_⟩
    have k12 := k1.trans k2
    refine ⟨_, _, rfl, rfl, _, _, rfl, ?_⟩
    have em : (1 : Int) + ((m0 : Nat) : Int) = ((1 + m0 : Nat) : Int) := by push_cast; rfl
    show tSeq _ _ _ [some (V.ref d), some (V.int ((top : Nat) : Int)), some (V.int ((way : Nat) : Int)), some (V.int ((1 : Int) + ((m0 : Nat) : Int))), none, none] H2
    rw [em]
    obtain ⟨many, hmany⟩ : ∃ many, 1 + m0 = many := ⟨_, rfl⟩
    rw [hmany]
    have hm1 : 1 ≤ many := by omega
    have hm6 : many ≤ 6 := by omega
    refine ⟨_, rfl, _, _, rfl, rfl, _, rfl, ?_⟩
    by_cases w6 : way < 6
    · refine iteDT (by show ((way : Nat) : Int) < _; omega) ?_
      refine ⟨_, rfl, _, rfl, _, rfl, d, many, top, a + 1 + 1, rfl, dr2, hm1, hm6, by omega, ht6, ht20, by omega, fun H3 pf f a3 k3 dr3 ha3 hf fo fs => ?_⟩
      refine ⟨_, rfl, _, rfl, _, rfl, _, rfl, d, many, top, a3, rfl, dr3, hm1, hm6, by omega, ht6, ht20, by omega, fun H4 pt t a4 k4 dr4 ha4 ht to ts => ?_⟩
      have kt4 := dr3.kt k4
      refine ⟨_, rfl, _, rfl, d, many, a4, rfl, dr4, hm1, by omega, by omega, fun H5 r k5 dr5 hr5 => ?_⟩
      refine ⟨by show 2 ≤ sizeLine; decide, fun L nL => ?_⟩
      have sL := same_new (o := HO.lst [.int 0, .int ((r : Nat) : Int)]) nL
      have hLd : L ≠ d := fun z => by
        obtain ⟨c, l, ns, h1, _⟩ := dr5
        rw [z, h1] at nL; cases nL
      refine ⟨_, rfl, d, 4, a4 + 1, rfl, dr5.same sL, by decide, by decide, by omega, fun H6 q k6 dr6 hq => ?_⟩
      obtain ⟨v, hv, hv2⟩ : ∃ v : Nat, v < many ∧ atI [V.int 0, V.int ((r : Nat) : Int)] (((q : Nat) : Int).fdiv 3) = some (.int ((v : Nat) : Int)) := by
        show ∃ v : Nat, v < many ∧ atI [V.int 0, V.int ((r : Nat) : Int)] (((q : Nat) : Int).fdiv ((3 : Nat) : Int)) = some (.int ((v : Nat) : Int))
        rw [nat_fdiv]
        rcases (show q / 3 = 0 ∨ q / 3 = 1 by omega) with e | e
        · exact ⟨0, by omega, by rw [e]; exact atI_nat rfl⟩
        · exact ⟨r, hr5, by rw [e]; exact atI_nat rfl⟩
      refine ⟨_, _, rfl, rfl, ⟨by decide, by decide⟩, L, _, _, _, rfl, rfl, .of (k6.kb _ _ upd_same hLd), hv2, ?_⟩
      have k56 := k5.trans ((Kd.same sL).trans k6)
      refine ⟨by show 4 ≤ sizeLine; decide, fun p np => ?_⟩
      have sp := same_new (o := HO.tup [.str "copy", .ref pf, .ref pt, .int ((v : Nat) : Int)]) np
      have kt6 := (dr4.kt k56).trans (Kt.same sp)
      exact hQ _ p (.copy f t v) (a4 + 1 + 1) ((((k12.trans k3).trans k4).trans k56).trans (Kd.same sp)) (dr6.same sp) (by omega) ⟨pf, pt, .of upd_same, hf.kt (kt4.trans kt6), ht.kt kt6⟩ ⟨fo, to, by rw [fs, ts], by rw [fs]; exact hv⟩
    refine iteDF (by show ¬ ((way : Nat) : Int) < _; omega) ?_
    refine ⟨_, rfl, _, _, rfl, rfl, _, rfl, ?_⟩
    by_cases w8 : way < 8
    · refine iteDT (by show ((way : Nat) : Int) < _; omega) ?_
      refine ⟨_, rfl, _, rfl, _, rfl, d, many, top, a + 1 + 1, rfl, dr2, hm1, hm6, by omega, ht6, ht20, by omega, fun H3 pt t a3 k3 dr3 ha3 ht to ts => ?_⟩
      refine ⟨_, rfl, _, rfl, d, 256, a3, rfl, dr3, by decide, by decide, by omega, fun H4 x k4 dr4 hx => ?_⟩
      have kt4 := dr3.kt k4
      refine ⟨_, rfl, _, rfl, d, many, (a3 + 1), rfl, dr4, hm1, by omega, by omega, fun H5 r k5 dr5 hr5 => ?_⟩
      refine ⟨by show 2 ≤ sizeLine; decide, fun L nL => ?_⟩
      have sL := same_new (o := HO.lst [.int 0, .int ((r : Nat) : Int)]) nL
      have hLd : L ≠ d := fun z => by
        obtain ⟨c, l, ns, h1, _⟩ := dr5
        rw [z, h1] at nL; cases nL
      refine ⟨_, rfl, d, 4, (a3 + 1) + 1, rfl, dr5.same sL, by decide, by decide, by omega, fun H6 q k6 dr6 hq => ?_⟩
      obtain ⟨v, hv, hv2⟩ : ∃ v : Nat, v < many ∧ atI [V.int 0, V.int ((r : Nat) : Int)] (((q : Nat) : Int).fdiv 3) = some (.int ((v : Nat) : Int)) := by
        show ∃ v : Nat, v < many ∧ atI [V.int 0, V.int ((r : Nat) : Int)] (((q : Nat) : Int).fdiv ((3 : Nat) : Int)) = some (.int ((v : Nat) : Int))
        rw [nat_fdiv]
        rcases (show q / 3 = 0 ∨ q / 3 = 1 by omega) with e | e
        · exact ⟨0, by omega, by rw [e]; exact atI_nat rfl⟩
        · exact ⟨r, hr5, by rw [e]; exact atI_nat rfl⟩
      refine ⟨_, _, rfl, rfl, ⟨by decide, by decide⟩, L, _, _, _, rfl, rfl, .of (k6.kb _ _ upd_same hLd), hv2, ?_⟩
      have k56 := k5.trans ((Kd.same sL).trans k6)
      refine ⟨by show 4 ≤ sizeLine; decide, fun p np => ?_⟩
      have sp := same_new (o := HO.tup [.str "fill", .ref pt, .int ((x : Nat) : Int), .int ((v : Nat) : Int)]) np
      have kt6 := (dr4.kt k56).trans (Kt.same sp)
      exact hQ _ p (.fill t ((x : Nat) : Int) v) (a3 + 1 + 1 + 1) ((((k12.trans k3).trans k4).trans k56).trans (Kd.same sp)) (dr6.same sp) (by omega) ⟨pt, .of upd_same, ht.kt (kt4.trans kt6)⟩ ⟨to, by omega, by omega, by rw [ts]; exact hv⟩
    refine iteDF (by show ¬ ((way : Nat) : Int) < _; omega) ?_
    refine ⟨_, rfl, rfl, _, rfl, ?_⟩
    by_cases e8 : way = 8
    · subst e8
      refine iteDT rfl ?_
      refine ⟨_, rfl, _, rfl, _, rfl, d, many, top, a + 1 + 1, rfl, dr2, hm1, hm6, by omega, ht6, ht20, by omega, fun H3 pf f a3 k3 dr3 ha3 hf fo fs => ?_⟩
      refine ⟨_, rfl, _, rfl, d, top, a3, rfl, dr3, by omega, by omega, by omega, fun H4 x k4 dr4 hx => ?_⟩
      refine ⟨by show 3 ≤ sizeLine; decide, fun p np => ?_⟩
      have sp := same_new (o := HO.tup [.str "add", .ref pf, .int ((x : Nat) : Int)]) np
      exact hQ _ p (.add f x) (a3 + 1) (((k12.trans k3).trans k4).trans (Kd.same sp)) (dr4.same sp) (by omega) ⟨pf, .of upd_same, hf.kt ((dr3.kt k4).trans (Kt.same sp))⟩ ⟨fo, hx⟩
    refine iteDF (fun z => e8 (by have := V.int.inj z; omega)) ⟨_, rfl, rfl, _, rfl, ?_⟩
    by_cases e9 : way = 9
    · subst e9
      refine iteDT rfl ?_
      refine ⟨_, rfl, d, 8, a + 1 + 1, rfl, dr2, by decide, by decide, by omega, fun H3 g k3 dr3 hg => ?_⟩
      refine ⟨by show 2 ≤ sizeLine; decide, fun p np => ?_⟩
      have sp := same_new (o := HO.tup [.str "note", .int ((g : Nat) : Int)]) np
      exact hQ _ p (.note g) (a + 1 + 1 + 1) ((k12.trans k3).trans (Kd.same sp)) (dr3.same sp) (by omega) (SqT.of upd_same) hg
    refine iteDF (fun z => e9 (by have := V.int.inj z; omega)) ⟨_, rfl, rfl, _, rfl, ?_⟩
    by_cases e10 : way = 10
    · subst e10
      refine iteDT rfl ?_
      refine ⟨_, rfl, d, 8, a + 1 + 1, rfl, dr2, by decide, by decide, by omega, fun H3 g k3 dr3 hg => ?_⟩
      refine ⟨_, rfl, d, 3, a + 1 + 1 + 1, rfl, dr3, by decide, by decide, by omega, fun H4 n k4 dr4 hn => ?_⟩
      refine ⟨_, _, rfl, rfl, by show 3 ≤ sizeLine; decide, fun p np => ?_⟩
      have sp := same_new (o := HO.tup [.str "wait", .int ((g : Nat) : Int), .int (1 + ((n : Nat) : Int))]) np
      refine hQ _ p (.wait g (1 + n)) (a + 1 + 1 + 1 + 1) (((k12.trans k3).trans k4).trans (Kd.same sp)) (dr4.same sp) (by omega) (SqT.of ?_) ⟨hg, by omega, by omega⟩
      rw [upd_same]
      push_cast; rfl
    refine iteDF (fun z => e10 (by have := V.int.inj z; omega)) ⟨by show 1 ≤ sizeLine; decide, fun p np => ?_⟩
    have sp := same_new (o := HO.tup [.str "fence"]) np
    exact hQ _ p .fence (a + 1 + 1) (k12.trans (Kd.same sp)) (dr2.same sp) (by omega) (SqT.of upd_same) trivial
end
end K24
end
section
set_option Elab.async false
set_option linter.all false
set_option maxRecDepth 100000
set_option maxHeartbeats 2000000
namespace K24
open PySem PySem.Spec PyProof.Rows L2 C8
section
variable {P : Program} {w : World} {K : PySem.W.Frag} {mg : Str → Option Value} {base : Heap}
theorem all_snoc {top : Nat} {ss : List Step} {s : Step} (h : AllOk top ss) (g : s.Ok top) : AllOk top (ss ++ [s]) := fun t ht => by
  rcases List.mem_append.mp ht with z | z
  · exact h t z
  · rw [List.mem_singleton.mp z]; exact g
def spLawList (K : PySem.W.Frag) : Sp := fun vs H Q _ => ∃ (d : Addr) (most top a : Nat), vs = [.ref d, .int ((most : Nat) : Int), .int ((top : Nat) : Int)] ∧ DrAt H d a ∧ 1 ≤ most ∧ most ≤ 8 ∧ 6 ≤ top ∧ top ≤ 20 ∧ a < 880000 ∧
  ∀ H' p ss a', Kd d H H' → DrAt H' d a' → a' ≤ a + 97 → LsAt K H' p ss → AllOk top ss → 1 ≤ ss.length → ss.length ≤ most → Q (.ref p) H'
abbrev NLawList : List Str := ["_law_draw", "_law_most", "_law_top", "_law_turn"]
theorem scLawList : FnScope NLawList ["_law_draw", "_law_most", "_law_top"] (defScope sLawList) := ⟨rfl, rfl, rfl, by decide +kernel, rfl, by decide +kernel, by decide +kernel⟩
theorem cal_LawList (E : Wd w K mg) : C8.Cal P w K mg base 4 "_law_list" (spLawList K) [] := by
  obtain ⟨fd, F⟩ := fLawList E
  refine ⟨_, fd, ["_law_draw", "_law_most", "_law_top"], [], F.ok scLawList (fun vs H Q E h => ?_) (fun cdv A outer s H vs Q E' hr h => ⟨_, PSs.nox (pss_one (ps_ret (pe_callTy call_tuple_of (by rfl) (n_tuple E) (by decide +kernel) (pa_cons (pe_lc (own := [("_law_turn", 3)]) (by rfl) scLawList.nd (pi_range1 (by rfl) (n_range E) (pa_cons (pe_op op_add pe_int (C8.pe_c (cal_LawTake E) hr (by decide) (by rfl) (pa_cons (pv 0) (pa_cons (pv 1) pa_nil)))) pa_nil)) (blkOk_by (own := [("_law_turn", 3)]) (N := NLawList) (sc := defScope sLawList) (by decide +kernel)) (fun _ _ _ _ _ => (pg_name (i := 3) scLawList.nd rfl (Or.inl rfl))) (fun _ _ _ _ _ => pts_nil) (fun _ _ _ _ _ => (C8.pe_c (cal_LawStep E) hr (by decide) (by rfl) (pa_cons (pv 0) (pa_cons (pv 2) pa_nil))))) pa_nil)))), ?_⟩), g__law_list E, F.kp, F.bindsN (fun _ _ _ _ _ _ us hl => match us, hl with | [_, _, _], _ => rfl), .nil⟩
  · obtain ⟨d, most, top, a, rfl, _⟩ := h; rfl
  · obtain ⟨d, most, top, a, rfl, hd, hm1, hm8, ht6, ht20, ha, hQ⟩ := h
    refine ⟨_, rfl, _, rfl, d, most, a, rfl, hd, hm1, by omega, by omega, fun H1 n0 k1 dr1 hn0 => ?_⟩
    refine ⟨_, _, rfl, rfl, _, rfl, by omega, by omega, fun D hD => ?_⟩
    have hdD := dr1.ne hD
    have en : ((1 : Int) + ((n0 : Nat) : Int)).toNat = 1 + n0 := by omega
    refine it_gen walk_range (fun i Hi => Kd d H1 Hi ∧ ∃ a' as ss, DrAt Hi d a' ∧ a' ≤ a + 1 + 12 * i ∧ Hi D = some (.lst (as.map V.ref)) ∧ StsAt K Hi as ss ∧ ss.length = i ∧ AllOk top ss) ⟨(Kd.refl d H1).put hdD hD, a + 1, [], [], dr1.put hD (Kd.refl d H1) dr1, by omega, upd_same, ⟨rfl, fun i a s e => by simp at e⟩, rfl, fun s hs => absurd hs List.not_mem_nil⟩ (fun _ _ _ _ => trivial) (fun i x Hi H2 hi q y => ?_) (fun H2 q => ?_)
    · obtain ⟨k2, a', as, ss, dr2, ha', hl, hS, hlen, hok⟩ := q
      obtain ⟨rfl, rfl⟩ := y
      have hi2 : i < 1 + n0 := by rw [← en]; exact hi
      refine ⟨rfl, _, rfl, _, rfl, d, top, a', rfl, dr2, ht6, ht20, by omega, fun H3 p s a3 k3 dr3 ha3 hs hso => ?_⟩
      have l3 := k3.kb _ _ hl (Ne.symm hdD)
      refine ⟨_, l3, ?_, (k2.trans k3).put hdD hD, a3, as ++ [p], ss ++ [s], dr1.put hD (k2.trans k3) dr3, by omega, by rw [upd_same, List.map_append]; rfl, ((hS.kt (dr2.kt k3)).snoc hs).kt (Kt.upd l3 (fun _ z => by cases z) (fun _ _ z => by cases z)), by rw [List.length_append, hlen]; rfl, all_snoc hok hso⟩
      rw [List.length_map, hS.1, hlen, sizeLine_eq]; omega
    · obtain ⟨k2, a', as, ss, dr2, ha', hl, hS, hlen, hok⟩ := q
      have el : ss.length = 1 + n0 := by rw [hlen]; exact en
      rw [show (1 + ((n0 : Nat) : Int)).toNat = 1 + n0 from en] at ha'
      refine ⟨_, _, rfl, .inl ⟨.of hl, fun t ht => ?_⟩⟩
      have st := same_new (o := HO.tup (as.map V.ref)) ht
      exact hQ _ t ss a' ((k1.trans k2).trans (Kd.same st)) (dr2.same st) (by omega) ⟨as, .of upd_same, hS.kt (Kt.same st)⟩ hok (by omega) (by omega)
end
end K24
end
section
set_option Elab.async false
set_option linter.all false
set_option maxRecDepth 100000
set_option maxHeartbeats 2000000
namespace K24
open PySem PySem.Spec PyProof.Rows L2 C8
section
variable {P : Program} {w : World} {K : PySem.W.Frag} {mg : Str → Option Value} {base : Heap}
theorem _root_.L2.SqL.same {K : PySem.W.Frag} {H H' : Hp} {a : Addr} {xs : List V} (h : SqL K H a xs) (s : Same H H') : SqL K H' a xs := h.elim (fun z => .inl (z.elim (fun z => .inl (s _ _ z)) fun ⟨o, z⟩ => .inr ⟨o, s _ _ z⟩)) .inr
theorem ints_len (m : List Int) : (m.map V.int).length = m.length := List.length_map _
theorem ints_val {m : List Int} {i : Nat} {x : V} (h : (m.map V.int)[i]? = some x) : ∃ v, m[i]? = some v ∧ x = .int v := by
  rw [List.getElem?_map] at h
  cases e : m[i]? with
  | none => rw [e] at h; cases h
  | some c => rw [e] at h; exact ⟨c, rfl, (Option.some.inj h).symm⟩
def spLawDraws (K : PySem.W.Frag) : Sp := fun vs H Q _ => ∃ (p : Addr) (ns : List Int), vs = [.ref p] ∧ SqL K H p (ns.map V.int) ∧ ns.length ≤ 63 ∧
  ∀ H' q (ds : List Addr), Same H H' → H' q = some (.lst (ds.map V.ref)) → ds.Nodup → (∀ (j : Nat) (d : Addr), ds[j]? = some d → DrAt H' d (89 * j)) → ds.length ≤ 6 → Q (.ref q) H'
abbrev NLawDraws : List Str := ["_law_script", "_law_cells_here", "_law_found", "_law_k", "_law_cell"]
theorem scLawDraws : FnScope NLawDraws ["_law_script"] (defScope sLawDraws) := ⟨rfl, rfl, rfl, by decide +kernel, rfl, by decide +kernel, by decide +kernel⟩
theorem cal_LawDraws (E : Wd w K mg) : C8.Cal P w K mg base 1 "_law_draws" (spLawDraws K) [] := by
  obtain ⟨fd, F⟩ := fLawDraws E
  refine ⟨_, fd, ["_law_script"], [], F.ok scLawDraws (fun vs H Q E h => ?_) (fun cdv A outer s H vs Q E' hr h => ⟨_, PSs.nox (C8.pss_cut (ps_set (i := 1) scLawDraws.nd rfl (.inl rfl) (pe_ifExp (pt_cmpR (op_neE hr.units0) (pv 0) (pe_lst pa_nil) (nomark _)) (pe_callTy call_list_of (by rfl) (n_list E) (by decide +kernel) (pa_cons (pv 0) pa_nil)) (pe_lst (pa_cons pe_int pa_nil))))
      (pss_cons (ps_set (i := 2) scLawDraws.nd rfl (.inl rfl) (pe_lst pa_nil))
      (pss_cons (ps_for PassesOwn.never rfl (pi_enum (by rfl) (n_enumerate E) (pa_cons (pe_slice sl_list (pv 1) po_none (po_some pe_int)) pa_nil)) (pg_tup (by rfl) (pgs_cons (pg_name (i := 3) scLawDraws.nd rfl (Or.inl rfl)) (pgs_cons (pg_name (i := 4) scLawDraws.nd rfl (Or.inl rfl)) pgs_nil))) (pss_one (ps_expr (pe_bm PySem.F.plainAttrs_list PySem.F.slot_list_append PySem.F.type_list_append mt_append (pv 2) (pa_cons (pe_disp (pps_cons pe_str (pe_op op_cat (pe_slice sl_list (pv 1) (po_some (pv 3)) po_none) (pe_slice sl_list (pv 1) po_none (po_some (pv 3)))) (pps_cons pe_str (pe_op op_mul pe_int (pv 3)) (pps_cons pe_str (pe_ifExp (pt_cmpR op_ge (pv 4) (pe_op op_pow pe_int pe_int) (nomark _)) (pv 4) pe_int) pps_nil))) (by rfl) (by rfl) (fun z => by cases z) (by decide)) pa_nil)))))
      (pss_one (ps_ret (pv 2)))))), ?_⟩), g__law_draws E, F.kp, F.bindsN (fun _ _ _ _ _ _ us hl => match us, hl with | [_], _ => rfl), .nil⟩
  · obtain ⟨p, ns, rfl, _⟩ := h; rfl
  · obtain ⟨p, ns, rfl, hp, hl, hQ⟩ := h
    refine ⟨fun σ' H' => ∃ (L : Addr) (ns' : List Int), σ' = [some (.ref p), some (.ref L), none, none, none] ∧ Same H H' ∧ H' L = some (.lst (ns'.map V.int)) ∧ ns' ≠ [] ∧ ns'.length ≤ 63, ?_, fun σ' H0 hM => ?_⟩
    · refine ⟨_, rfl, by show 0 ≤ sizeLine; decide, fun E0 hE0 => ?_⟩
      have s0 := same_new (o := HO.lst []) hE0
      refine ⟨p, E0, _, rfl, rfl, .inl ⟨hp.same s0, .of upd_same⟩, _, rfl, ?_⟩
      by_cases hn : ns = []
      · subst hn
        refine iteF ?_
        refine ⟨by show 1 ≤ sizeLine; decide, fun L hL => ⟨L, [0], rfl, s0.trans (same_new hL), upd_same, (fun z => by cases z), (by show 1 ≤ 63; decide)⟩⟩
      · have e : (!(ns.map V.int).isEmpty) = true := by cases ns with
          | nil => exact absurd rfl hn
          | cons a b => rfl
        rw [e]
        refine iteT ⟨_, rfl, p, _, rfl, .inl (hp.same s0), fun L hL => ⟨L, ns, rfl, s0.trans (same_new hL), upd_same, hn, hl⟩⟩
    · obtain ⟨L, xs, rfl, s0, hL, hne, hxl⟩ := hM
      refine ⟨by show 0 ≤ sizeLine; decide, fun R hR => ?_⟩
      have sR := same_new (o := HO.lst []) hR
      refine ⟨_, rfl, _, rfl, L, _, rfl, .of (sR _ _ hL), fun C hC => ?_⟩
      have sC := same_new (o := HO.lst ((xs.map V.int).take 6)) hC
      rw [show cutV (xs.map V.int) none (some 6) = (xs.map V.int).take 6 from cut_to (k := 6)]
      have nLR : L ≠ R := ne_of_none hL hR
      have nCR : C ≠ R := fun z => by rw [z, upd_same] at hC; cases hC
      refine ⟨C, _, rfl, .of upd_same, ?_⟩
      refine for_it (walk_enum (K := K) (a := C) (xs := (xs.map V.int).take 6)) (fun i σ H1 => (∃ x3 x4, σ = [some (.ref p), some (.ref L), some (.ref R), x3, x4]) ∧ Same H0 H1 ∧ H1 C = some (.lst ((xs.map V.int).take 6)) ∧ ∃ ds : List Addr, H1 R = some (.lst (ds.map V.ref)) ∧ ds.Nodup ∧ (∀ (j : Nat) (d : Addr), ds[j]? = some d → DrAt H1 d (89 * j) ∧ R ≠ d ∧ ∀ c a l, H1 d = some (.dK (drawV c a l)) → c ≠ R) ∧ ds.length = i) ⟨⟨_, _, rfl⟩, sR.trans sC, upd_same, [], sC _ _ upd_same, .nil, fun j d e => by simp at e, rfl⟩ (fun i σ H1 _ z => .of z.2.2.1) (fun i x σ H1 H2 hi z y => ?_) (fun σ H1 z => ?_)
      · obtain ⟨⟨x3, x4, rfl⟩, z1, zC, ds, zR, zn, zd, zl⟩ := z
        obtain ⟨T, x, y, rfl, hT, rfl, hx, hy⟩ := y
        cases hx
        dsimp only at hy
        have hi6 : i < 6 := by have := List.length_take_le 6 (xs.map V.int); omega
        rw [List.getElem?_take_of_lt hi6] at hy
        obtain ⟨v, hv, rfl⟩ := ints_val hy
        have hiL : i < xs.length := (List.getElem?_eq_some_iff.mp hv).1
        have sT := same_new (o := HO.tup [.int ((i : Nat) : Int), .int v]) hT
        have L2 := sT _ _ (z1 _ _ hL)
        refine ⟨T, _, rfl, .of upd_same, rfl, _, _, rfl, _, _, rfl, rfl, ?_⟩
        refine ⟨_, rfl, .inl ⟨rfl, _, .of (sT _ _ zR)⟩, fun Dk hDk => ?_⟩
        have sD := same_new (o := HO.dK []) hDk
        have L3 := sD _ _ L2
        refine ⟨_, rfl, _, rfl, _, rfl, L, _, rfl, .of L3, fun S1 hS1 => ?_⟩
        rw [cut_from (by rw [ints_len]; omega)]
        have s1 := same_new (o := HO.lst ((xs.map V.int).drop i)) hS1
        refine ⟨_, rfl, _, rfl, _, rfl, L, _, rfl, .of (s1 _ _ L3), fun S2 hS2 => ?_⟩
        rw [cut_to]
        have s2 := same_new (o := HO.lst ((xs.map V.int).take i)) hS2
        refine ⟨S1, S2, _, _, rfl, rfl, s2 _ _ upd_same, upd_same, by rw [List.length_drop, List.length_take, ints_len, sizeLine_eq]; omega, fun S3 hS3 => ?_⟩
        have s3 := same_new (o := HO.lst ((xs.map V.int).drop i ++ (xs.map V.int).take i)) hS3
        have sE := s1.trans (s2.trans s3)
        have s13 := z1.trans (sT.trans (sD.trans sE))
        refine ⟨_, rfl, _, _, rfl, rfl, .inl ⟨by decide, by decide⟩, _, rfl, _, _, rfl, rfl, ⟨by decide, by decide, by decide⟩, _, _, rfl, rfl, _, rfl, ?_⟩
        have hDk3 := sE _ _ (upd_same (H := upd H1 T (.tup [.int ((i : Nat) : Int), .int v])) (a := Dk) (o := HO.dK []))
        have hS33 := upd_same (H := upd (upd (upd (upd H1 T (.tup [.int ((i : Nat) : Int), .int v])) Dk (.dK [])) S1 (.lst ((xs.map V.int).drop i))) S2 (.lst ((xs.map V.int).take i))) (a := S3) (o := HO.lst ((xs.map V.int).drop i ++ (xs.map V.int).take i))
        have dRk : R ≠ Dk := ne_of_none (sT _ _ zR) hDk
        have dRS : S3 ≠ R := fun z => by rw [z, (sT.trans (sD.trans (s1.trans s2))) _ _ zR] at hS3; cases hS3
        have dDS : S3 ≠ Dk := fun z => by
          have h2 := (s1.trans s2) _ _ (upd_same (H := upd H1 T (.tup [.int ((i : Nat) : Int), .int v])) (a := Dk) (o := HO.dK []))
          rw [z, h2] at hS3; cases hS3
        have zR3 := (sT.trans (sD.trans sE)) _ _ zR
        have zC3 := (sT.trans (sD.trans sE)) _ _ zC
        have dCk : C ≠ Dk := ne_of_none (sT _ _ zC) hDk
        have hzd : ∀ (j : Nat) (d : Addr), ds[j]? = some d → d ≠ Dk := fun j d e => by
          obtain ⟨c, l, ns, h1, _⟩ := (zd j d e).1
          exact ne_of_none (sT _ _ h1) hDk
        have hkey : ∀ (b : Addr) (o : HO), upd H1 T (.tup [.int ((i : Nat) : Int), .int v]) b = some o → upd (upd (upd (upd (upd H1 T (.tup [.int ((i : Nat) : Int), .int v])) Dk (.dK [])) S1 (.lst ((xs.map V.int).drop i))) S2 (.lst ((xs.map V.int).take i))) S3 (.lst ((xs.map V.int).drop i ++ (xs.map V.int).take i)) b = some o ∧ b ≠ Dk := fun b o h => ⟨(sD.trans sE) _ _ h, ne_of_none h hDk⟩
        generalize upd (upd (upd (upd (upd H1 T (.tup [.int ((i : Nat) : Int), .int v])) Dk (.dK [])) S1 (.lst ((xs.map V.int).drop i))) S2 (.lst ((xs.map V.int).take i))) S3 (.lst ((xs.map V.int).drop i ++ (xs.map V.int).take i)) = H4 at hDk3 hS33 zR3 zC3 hkey s13 ⊢
        have ezi : (xs.map V.int).drop i ++ (xs.map V.int).take i = (xs.drop i ++ xs.take i).map V.int := by rw [List.map_append, List.map_drop, List.map_take]
        rw [ezi] at hS33
        have nxs : xs.drop i ++ xs.take i ≠ [] := fun z => by
          have := congrArg List.length z
          rw [List.length_append, List.length_drop, List.length_take, List.length_nil] at this
          omega
        have fin : ∀ l : Int, 0 ≤ l → (upd H4 Dk (.dK (drawV S3 ((89 * i : Nat) : Int) l))) R = some (.lst (ds.map V.ref)) ∧ (ds.map V.ref).length + 1 ≤ sizeLine ∧
            (fun H1 : Hp => (∃ y3 y4, (([some (V.ref p), some (V.ref L), some (V.ref R), x3, x4].set 3 (some (V.int ((i : Nat) : Int)))).set 4 (some (V.int v))) = [some (V.ref p), some (V.ref L), some (V.ref R), y3, y4]) ∧ Same H0 H1 ∧ H1 C = some (.lst ((xs.map V.int).take 6)) ∧ ∃ ds : List Addr, H1 R = some (.lst (ds.map V.ref)) ∧ ds.Nodup ∧ (∀ (j : Nat) (d : Addr), ds[j]? = some d → DrAt H1 d (89 * j) ∧ R ≠ d ∧ ∀ c a l, H1 d = some (.dK (drawV c a l)) → c ≠ R) ∧ ds.length = i + 1) (upd (upd H4 Dk (.dK (drawV S3 ((89 * i : Nat) : Int) l))) R (.lst (ds.map V.ref ++ [.ref Dk]))) := fun l hl => by
          refine ⟨by rw [upd_ne dRk]; exact zR3, by rw [List.length_map, zl, sizeLine_eq]; omega, ⟨_, _, rfl⟩, fun b o hb => ?_, ?_, ds ++ [Dk], by rw [upd_same, List.map_append]; rfl, ?_, fun j d e => ?_, by rw [List.length_append, zl]; rfl⟩
          · have h1 := z1 _ _ hb
            rw [upd_ne (ne_of_none hb hR), upd_ne (hkey _ _ (sT _ _ h1)).2]
            exact (hkey _ _ (sT _ _ h1)).1
          · rw [upd_ne nCR, upd_ne dCk]; exact zC3
          · refine List.nodup_append.mpr ⟨zn, List.pairwise_singleton _ _, fun a ha b hb => ?_⟩
            rw [List.mem_singleton.mp hb]
            obtain ⟨j, hj⟩ := List.mem_iff_getElem?.mp ha
            exact hzd j a hj
          · rcases Nat.lt_or_ge j ds.length with hj | hj
            · rw [List.getElem?_append_left hj] at e
              obtain ⟨⟨c, l', ns', h1, h2, h3⟩, n1, n2⟩ := zd j d e
              have ndR : d ≠ R := fun z => n1 z.symm
              have ncR := n2 _ _ _ h1
              have e1 := hkey _ _ (sT _ _ h1)
              have e2 := hkey _ _ (sT _ _ h2)
              have h1' : upd (upd H4 Dk (.dK (drawV S3 ((89 * i : Nat) : Int) l))) R (.lst (ds.map V.ref ++ [.ref Dk])) d = some (.dK (drawV c ((89 * j : Nat) : Int) l')) := by rw [upd_ne ndR, upd_ne e1.2]; exact e1.1
              refine ⟨⟨c, l', ns', h1', by rw [upd_ne ncR, upd_ne e2.2]; exact e2.1, h3⟩, n1, fun c2 a2 l2 h => ?_⟩
              rw [h1'] at h
              cases h; exact ncR
            · rw [List.getElem?_append_right hj] at e
              have ej : j = ds.length := by
                by_cases q : j - ds.length = 0
                · omega
                · rw [List.getElem?_eq_none (by simp only [List.length_cons, List.length_nil]; omega)] at e; cases e
              subst ej
              rw [Nat.sub_self] at e
              cases e
              have h1' : upd (upd H4 Dk (.dK (drawV S3 ((89 * i : Nat) : Int) l))) R (.lst (ds.map V.ref ++ [.ref Dk])) Dk = some (.dK (drawV S3 ((89 * i : Nat) : Int) l)) := by rw [upd_ne (Ne.symm dRk), upd_same]
              refine ⟨⟨S3, l, _, by rw [zl]; exact h1', by rw [upd_ne dRS, upd_ne dDS]; exact hS33, nxs, hl⟩, dRk, fun c2 a2 l2 h => ?_⟩
              rw [h1'] at h
              cases h; exact dRS
        have ec : (89 : Int) * ((i : Nat) : Int) = ((89 * i : Nat) : Int) := by push_cast; rfl
        by_cases hv0 : (10 : Int) ^ 18 ≤ v
        · refine iteDT hv0 ⟨_, rfl, hDk3, [(Sum.inr "cells", .ref S3), (Sum.inr "at", .int (89 * ((i : Nat) : Int))), (Sum.inr "left", .int v)], rfl, by show 3 ≤ 15; decide, R, ds.map V.ref, _, rfl, rfl, ?_⟩
          rw [ec]
          exact fin v (by omega)
        · refine iteDF hv0 ⟨hDk3, [(Sum.inr "cells", .ref S3), (Sum.inr "at", .int (89 * ((i : Nat) : Int))), (Sum.inr "left", .int 0)], rfl, by show 3 ≤ 15; decide, R, ds.map V.ref, _, rfl, rfl, ?_⟩
          rw [ec]
          exact fin 0 (by omega)
      · obtain ⟨⟨x3, x4, rfl⟩, z1, zC, ds, zR, zn, zd, zl⟩ := z
        refine ⟨_, rfl, hQ _ R ds (s0.trans z1) zR zn (fun j d e => (zd j d e).1) ?_⟩
        rw [zl]
        exact List.length_take_le 6 (xs.map V.int)
end
end K24
end
section
set_option Elab.async false
set_option linter.all false
set_option maxRecDepth 100000
set_option maxHeartbeats 2000000
namespace K24
open PySem PySem.Spec PyProof.Rows L2 C8
section
variable {P : Program} {w : World} {K : PySem.W.Frag} {mg : Str → Option Value} {base : Heap}
def spLawCells (K : PySem.W.Frag) : Sp := fun vs H Q _ => ∃ (p : Addr) (a : Area), vs = [.ref p] ∧ ArAt K H p a ∧ a.Sm ∧ ∀ H' t, Same H H' → H t = none → H' t = some (.lst (nums a.cells)) → Q (.ref t) H'
abbrev NLawCells : List Str := ["_law_area_here", "_law_found", "_law_row", "_law_k"]
theorem scLawCells : FnScope NLawCells ["_law_area_here"] (defScope sLawCells) := ⟨rfl, rfl, rfl, by decide +kernel, rfl, by decide +kernel, by decide +kernel⟩
theorem cal_LawCells (E : Wd w K mg) : C8.Cal P w K mg base 1 "_law_cells" (spLawCells K) [] := by
  obtain ⟨fd, F⟩ := fLawCells E
  refine ⟨_, fd, ["_law_area_here"], [], F.ok scLawCells (fun vs H Q E h => ?_) (fun cdv A outer s H vs Q E' hr h => ⟨_, PSs.nox (pss_cons (ps_set (i := 1) scLawCells.nd rfl (.inl rfl) (pe_lst pa_nil))
      (pss_cons (ps_for PassesOwn.never rfl (pi_range1 (by rfl) (n_range E) (pa_cons (pe_ix ix_tup (pv 0) pe_int (fun _ _ => rfl)) pa_nil)) (pg_name (i := 2) scLawCells.nd rfl (Or.inr rfl)) (pss_one (ps_set (i := 1) scLawCells.nd rfl (.inl rfl) (pe_op op_cat (pv 1) (pe_lc (own := [("_law_k", 3)]) (by rfl) scLawCells.nd (pi_range1 (by rfl) (n_range E) (pa_cons (pe_ix ix_tup (pv 0) pe_int (fun _ _ => rfl)) pa_nil)) (blkOk_by (own := [("_law_k", 3)]) (N := NLawCells) (sc := defScope sLawCells) (by decide +kernel)) (fun _ _ _ _ _ => (pg_name (i := 3) scLawCells.nd rfl (Or.inl rfl))) (fun _ _ _ _ _ => pts_nil) (fun _ _ _ _ _ => (pe_op op_add (pe_op op_add (pe_ix (ix_tupK (K := K) rfl) (pv 0) pe_int (fun _ _ => rfl)) (pe_op op_mul (pv 2) (pe_ix (ix_tupK (K := K) rfl) (pv 0) pe_int (fun _ _ => rfl)))) (pv 3))))))))
      (pss_one (ps_ret (pv 1))))), ?_⟩), g__law_cells E, F.kp, F.bindsN (fun _ _ _ _ _ _ us hl => match us, hl with | [_], _ => rfl), .nil⟩
  · obtain ⟨i, m, rfl, _⟩ := h; rfl
  · obtain ⟨p, a, rfl, hA, hs, hQ⟩ := h
    have hr3 := hs.r
    have hc3 := hs.c
    have er : ((a.rows : Int).toNat) = a.rows := by omega
    have ec : ((a.count : Int).toNat) = a.count := by omega
    refine ⟨by show 0 ≤ sizeLine; decide, fun F0 hF0 => ?_⟩
    have s0 := same_new (o := HO.lst []) hF0
    refine ⟨_, rfl, p, _, _, _, rfl, rfl, hA.kt (Kt.same s0), atI_nat (j := 2) rfl, _, rfl, by omega, by omega, ?_⟩
    refine for_it (walk_range (lo := 0) (n := ((a.rows : Nat) : Int).toNat)) (fun i σ H1 => (∃ F x2 x3, σ = [some (.ref p), some (.ref F), x2, x3] ∧ H F = none ∧ H1 F = some (.lst (nums ((List.range i).flatMap a.row)))) ∧ Same H H1) ⟨⟨F0, _, _, rfl, hF0, upd_same⟩, s0⟩ (fun _ _ _ _ _ => trivial) (fun i x σ H1 H2 hi z y => ?_) (fun σ H1 z => ?_)
    · obtain ⟨⟨F, x2, x3, rfl, z1, z2⟩, z3⟩ := z
      obtain ⟨rfl, rfl⟩ := y
      have z4 := hA.kt (Kt.same z3)
      refine ⟨_, rfl, _, rfl, p, _, _, _, rfl, rfl, z4, atI_nat (j := 1) rfl, _, rfl, by omega, by omega, fun D hD => ?_⟩
      have sD := same_new (o := HO.lst []) hD
      refine it_gen walk_range (fun j H3 => Same H2 H3 ∧ H3 D = some (.lst (nums ((List.range j).map fun k => a.start + i * a.pitch + k)))) ⟨sD, upd_same⟩ (fun _ _ _ _ => trivial) (fun j x H4 H3 hj q y => ?_) (fun H3 q => ?_)
      · obtain ⟨q1, q2⟩ := q
        obtain ⟨rfl, rfl⟩ := y
        have z5 := z4.kt (Kt.same q1)
        refine ⟨rfl, _, rfl, p, _, _, _, rfl, rfl, z5, atI_nat (j := 0) rfl, _, rfl, _, rfl, p, _, _, _, rfl, rfl, z5, atI_nat (j := 3) rfl, _, _, rfl, rfl, .inl ⟨by omega, by omega⟩, _, _, rfl, rfl, _, rfl, _, _, rfl, rfl, _, q2, ?_, ?_, ?_⟩
        · rw [nums_len, List.length_map, List.length_range, sizeLine_eq]; omega
        · exact fun b o hb => by rw [upd_ne (ne_of_none hb hD)]; exact q1 b o hb
        · rw [upd_same, map_succ, nums_app]
          congr 3
          show [V.int _] = [V.int _]
          congr 2
          push_cast
          rw [Int.zero_add, Int.zero_add]
      · obtain ⟨q1, q2⟩ := q
        rw [ec] at q2
        refine ⟨F, D, _, _, rfl, rfl, q1 _ _ z2, q2, ?_, fun N hN => ?_⟩
        · rw [nums_len, nums_len, flat_le _ _ _ a.row_len, List.length_map, List.length_range, sizeLine_eq]
          have : i * a.count ≤ 3 * 64 := Nat.mul_le_mul (by omega) (by omega)
          omega
        · refine ⟨⟨N, _, _, rfl, (z3.trans q1).free hN, ?_⟩, (z3.trans q1).trans (same_new hN)⟩
          rw [upd_same, flat_succ, nums_app]; rfl
    · obtain ⟨⟨F, x2, x3, rfl, z1, z2⟩, z3⟩ := z
      rw [er] at z2
      exact ⟨_, rfl, hQ _ _ z3 z1 z2⟩
end
end K24
end
section
set_option Elab.async false
set_option linter.all false
set_option maxRecDepth 100000
set_option maxHeartbeats 2000000
namespace K24
open PySem PySem.Spec PyProof.Rows L2 C8
/-! ### objects one by one -/
def Al {α : Type} (R : Hp → Addr → α → Prop) (H : Hp) (as : List Addr) (xs : List α) : Prop := as.length = xs.length ∧ ∀ (i : Nat) (a : Addr) (x : α), as[i]? = some a → xs[i]? = some x → R H a x
section
variable {α : Type} {R : Hp → Addr → α → Prop} {H H' : Hp} {as : List Addr} {xs : List α}
theorem Al.nil : Al R H [] [] := ⟨rfl, fun k a p e => by simp at e⟩
theorem Al.mono (h : Al R H as xs) (k : ∀ a x, R H a x → R H' a x) : Al R H' as xs := ⟨h.1, fun i a x e1 e2 => k a x (h.2 i a x e1 e2)⟩
theorem Al.snoc {a : Addr} {x : α} (h : Al R H as xs) (g : R H a x) : Al R H (as ++ [a]) (xs ++ [x]) := by
  refine ⟨by rw [List.length_append, List.length_append, h.1]; rfl, fun i b m e1 e2 => ?_⟩
  rcases Nat.lt_or_ge i as.length with hi | hi
  · rw [List.getElem?_append_left hi] at e1
    rw [List.getElem?_append_left (by rw [← h.1]; exact hi)] at e2
    exact h.2 i b m e1 e2
  · rw [List.getElem?_append_right hi] at e1
    rw [List.getElem?_append_right (by rw [← h.1]; exact hi)] at e2
    rw [← h.1] at e2
    cases hk : i - as.length with
    | zero =>
      rw [hk] at e1 e2
      cases e1; cases e2
      exact g
    | succ k => rw [hk] at e1; simp at e1
theorem Al.drop (h : Al R H as xs) (k : Nat) : Al R H (as.drop k) (xs.drop k) := ⟨by rw [List.length_drop, List.length_drop, h.1], fun i a x e1 e2 => by
  rw [List.getElem?_drop] at e1 e2
  exact h.2 _ a x e1 e2⟩
theorem Al.get (h : Al R H as xs) {i : Nat} {a : Addr} (e : as[i]? = some a) : ∃ x, xs[i]? = some x ∧ R H a x := by
  have hi : i < as.length := (List.getElem?_eq_some_iff.mp e).1
  have hs : i < xs.length := by rw [← h.1]; exact hi
  exact ⟨xs[i], List.getElem?_eq_getElem hs, h.2 i a _ e (List.getElem?_eq_getElem hs)⟩
theorem Al.tail {a : Addr} {x : α} (h : Al R H (a :: as) (x :: xs)) : R H a x ∧ Al R H as xs := ⟨h.2 0 a x rfl rfl, by have := h.drop 1; exact this⟩
theorem Al.cons {a : Addr} {x : α} (h : Al R H as xs) (g : R H a x) : Al R H (a :: as) (x :: xs) := ⟨by rw [List.length_cons, List.length_cons, h.1], fun i b y e1 e2 => by
  cases i with
  | zero => cases e1; cases e2; exact g
  | succ i => exact h.2 i b y e1 e2⟩
end
def PtAt (H : Hp) (p : Addr) : Part → Prop
  | .cp a b => H p = some (.tup [.str "copy", .int ((a : Nat) : Int), .int ((b : Nat) : Int)])
  | .fl v c => H p = some (.tup [.str "fill", .int v, .int ((c : Nat) : Int)])
  | .rd a => H p = some (.tup [.str "read", .int ((a : Nat) : Int), .non])
  | .sm c => H p = some (.tup [.str "sum", .non, .int ((c : Nat) : Int)])
theorem PtAt.kq {H H' : Hp} (s : Kq H H') (a : Addr) (x : Part) (h : PtAt H a x) : PtAt H' a x := by
  cases x <;> exact s _ _ h
abbrev PtsAt (H : Hp) (as : List Addr) (ps : List Part) : Prop := Al PtAt H as ps
section
variable {P : Program} {w : World} {K : PySem.W.Frag} {mg : Str → Option Value} {base : Heap}
def spLawParts (K : PySem.W.Frag) : Sp := fun vs H Q _ => ∃ (p : Addr) (s : Step) (top : Nat), vs = [.ref p] ∧ StAt K H p s ∧ s.Ok top ∧ top ≤ 40 ∧ ∀ H' t as, Same H H' → H t = none → H' t = some (.lst (as.map V.ref)) → PtsAt H' as s.parts → Q (.ref t) H'
abbrev NLawParts : List Str := ["_law_step_here", "_law_a", "_law_b", "_law_cell"]
theorem scLawParts : FnScope NLawParts ["_law_step_here"] (defScope sLawParts) := ⟨rfl, rfl, rfl, by decide +kernel, rfl, by decide +kernel, by decide +kernel⟩
theorem cal_LawParts (E : Wd w K mg) : C8.Cal P w K mg base 2 "_law_parts" (spLawParts K) [] := by
  obtain ⟨fd, F⟩ := fLawParts E
  refine ⟨_, fd, ["_law_step_here"], [], F.ok scLawParts (fun vs H Q E h => ?_) (fun cdv A outer s H vs Q E' hr h => ⟨_, PSs.nox (pss_cons (ps_if (pt_cmpR op_eq (pe_ix ix_tup (pv 0) pe_int (fun _ _ => rfl)) pe_str (nomark _)) (pss_one (ps_ret (pe_slice sl_list (pe_lc (own := [("_law_a", 1), ("_law_b", 2)]) (by rfl) scLawParts.nd (pi_zip (by rfl) (n_zip E) (pa_cons (C8.pe_c (cal_LawCells E) hr (by decide) (by rfl) (pa_cons (pe_ix ix_tup (pv 0) pe_int (fun _ _ => rfl)) pa_nil)) (pa_cons (C8.pe_c (cal_LawCells E) hr (by decide) (by rfl) (pa_cons (pe_ix ix_tup (pv 0) pe_int (fun _ _ => rfl)) pa_nil)) pa_nil))) (blkOk_by (own := [("_law_a", 1), ("_law_b", 2)]) (N := NLawParts) (sc := defScope sLawParts) (by decide +kernel)) (fun _ _ _ _ _ => (pg_tupK (K := K) (n := 2) rfl rfl (pgs_cons (pg_name (i := 1) scLawParts.nd rfl (Or.inl rfl)) (pgs_cons (pg_name (i := 2) scLawParts.nd rfl (Or.inl rfl)) pgs_nil)))) (fun _ _ _ _ _ => pts_nil) (fun _ _ _ _ _ => (pe_tup (pa_cons pe_str (pa_cons (pv 1) (pa_cons (pv 2) pa_nil)))))) (po_some (pe_ix ix_tup (pv 0) pe_int (fun _ _ => rfl))) po_none))) pss_nil)
      (pss_cons (ps_if (pt_cmpR op_eq (pe_ix ix_tup (pv 0) pe_int (fun _ _ => rfl)) pe_str (nomark _)) (pss_one (ps_ret (pe_slice sl_list (pe_lc (own := [("_law_cell", 3)]) (by rfl) scLawParts.nd (pi_list (C8.pe_c (cal_LawCells E) hr (by decide) (by rfl) (pa_cons (pe_ix ix_tup (pv 0) pe_int (fun _ _ => rfl)) pa_nil))) (blkOk_by (own := [("_law_cell", 3)]) (N := NLawParts) (sc := defScope sLawParts) (by decide +kernel)) (fun _ _ _ _ _ => (pg_name (i := 3) scLawParts.nd rfl (Or.inl rfl))) (fun _ _ _ _ _ => pts_nil) (fun _ _ _ _ _ => (pe_tup (pa_cons pe_str (pa_cons (pe_ix (ix_tupK (K := K) rfl) (pv 0) pe_int (fun _ _ => rfl)) (pa_cons (pv 3) pa_nil)))))) (po_some (pe_ix ix_tup (pv 0) pe_int (fun _ _ => rfl))) po_none))) pss_nil)
      (pss_cons (ps_if (pt_cmpR op_eq (pe_ix ix_tup (pv 0) pe_int (fun _ _ => rfl)) pe_str (nomark _)) (pss_one (ps_ret (pe_op op_cat (pe_lc (own := [("_law_cell", 3)]) (by rfl) scLawParts.nd (pi_list (C8.pe_c (cal_LawCells E) hr (by decide) (by rfl) (pa_cons (pe_ix ix_tup (pv 0) pe_int (fun _ _ => rfl)) pa_nil))) (blkOk_by (own := [("_law_cell", 3)]) (N := NLawParts) (sc := defScope sLawParts) (by decide +kernel)) (fun _ _ _ _ _ => (pg_name (i := 3) scLawParts.nd rfl (Or.inl rfl))) (fun _ _ _ _ _ => pts_nil) (fun _ _ _ _ _ => (pe_tup (pa_cons pe_str (pa_cons (pv 3) (pa_cons pe_non pa_nil)))))) (pe_lst (pa_cons (pe_tup (pa_cons pe_str (pa_cons pe_non (pa_cons (pe_ix ix_tup (pv 0) pe_int (fun _ _ => rfl)) pa_nil)))) pa_nil))))) pss_nil)
      (pss_one (ps_ret (pe_lst pa_nil)))))), ?_⟩), g__law_parts E, F.kp, F.bindsN (fun _ _ _ _ _ _ us hl => match us, hl with | [_], _ => rfl), .nil⟩
  · obtain ⟨p, s, top, rfl, _⟩ := h; rfl
  · obtain ⟨p, st, top, rfl, hS, ho, ht, hQ⟩ := h
    have hsz : ∀ (a : Area), a.Ok top → a.size ≤ 40 := fun a h => Nat.le_trans h.size_le ht
    cases st with
    | copy f t k =>
      obtain ⟨pf, pt, h1, h2, h3⟩ := hS
      obtain ⟨o1, o2, o3, o4⟩ := ho
      have sf := o1.sm (by omega)
      have st' := o2.sm (by omega)
      have z1 := hsz f o1
      refine ⟨_, rfl, p, _, _, _, rfl, rfl, h1, atI_nat (j := 0) rfl, rfl, _, rfl, iteT ?_⟩
      refine ⟨_, rfl, p, _, _, _, rfl, rfl, h1, atI_nat (j := 1) rfl, pf, f, rfl, h2, sf, fun H1 t1 s1 n1 l1 => ?_⟩
      refine ⟨_, rfl, p, _, _, _, rfl, rfl, (Kt.same s1).sq h1, atI_nat (j := 2) rfl, pt, t, rfl, h3.kt (Kt.same s1), st', fun H2 t2 s2 n2 l2 => ?_⟩
      refine ⟨t1, t2, _, _, rfl, .of (s2 _ _ l1), .of l2, fun D hD => ?_⟩
      have s12 := s1.trans s2
      have e1 : min (nums f.cells).length (nums t.cells).length = f.size := by rw [nums_len, nums_len, Area.cells_length, Area.cells_length, ← o3, Nat.min_self]
      refine it_gen (walk_zip (K := K) (a := t1) (b := t2) (xs := nums f.cells) (ys := nums t.cells) (n := f.size) e1.symm) (fun i H1 => Same H2 H1 ∧ ∃ as, H1 D = some (.lst (as.map V.ref)) ∧ PtsAt H1 as (((f.cells.zip t.cells).map fun p => Part.cp p.1 p.2).take i)) ⟨same_new hD, [], upd_same, .nil⟩ (fun i H1 _ z => ⟨.of (z.1 _ _ (s2 _ _ l1)), .of (z.1 _ _ l2)⟩) (fun i x H1 H3 hi z y => ?_) (fun H1 z => ?_)
      · obtain ⟨q1, as, q2, q3⟩ := z
        obtain ⟨T, x, y, rfl, hT, rfl, hx, hy⟩ := y
        obtain ⟨c, hc, rfl⟩ := nums_get hx
        obtain ⟨d, hd, rfl⟩ := nums_get hy
        have sT := same_new (o := HO.tup [.int ((c : Nat) : Int), .int ((d : Nat) : Int)]) hT
        refine ⟨T, _, rfl, .of upd_same, rfl, _, _, rfl, _, _, rfl, rfl, rfl, ?_⟩
        refine ⟨_, rfl, _, rfl, by show 3 ≤ sizeLine; decide, fun ta na => ?_⟩
        have sa := same_new (o := HO.tup [.str "copy", .int ((c : Nat) : Int), .int ((d : Nat) : Int)]) na
        have q2' := sa _ _ (sT _ _ q2)
        refine ⟨_, q2', ?_, fun b o hb => ?_, as ++ [ta], by rw [upd_same, List.map_append]; rfl, ?_⟩
        · rw [List.length_map, q3.1, List.length_take, sizeLine_eq]; omega
        · rw [upd_ne (ne_of_none hb hD)]; exact sa _ _ (sT _ _ (q1 _ _ hb))
        · have hg : ((f.cells.zip t.cells).map fun p => Part.cp p.1 p.2)[i]? = some (.cp c d) := by
            have : (f.cells.zip t.cells)[i]? = some (c, d) := by rw [List.getElem?_zip_eq_some]; exact ⟨hc, hd⟩
            rw [List.getElem?_map, this]; rfl
          rw [take_snoc hg]
          exact ((q3.mono (PtAt.kq (Kq.same (sT.trans sa)))).mono (PtAt.kq (Kq.upd q2'))).snoc (Kq.upd q2' _ _ upd_same)
      · obtain ⟨q1, as, q2, q3⟩ := z
        have ez : ((f.cells.zip t.cells).map fun p => Part.cp p.1 p.2).length = f.size := by rw [List.length_map, List.length_zip, Area.cells_length, Area.cells_length, ← o3, Nat.min_self]
        rw [List.take_of_length_le (Nat.le_of_eq ez)] at q3
        have s13 := s12.trans q1
        refine ⟨_, rfl, p, _, _, _, rfl, rfl, (Kt.same s13).sq h1, atI_nat (j := 3) rfl, _, rfl, D, _, rfl, .of q2, fun L2 nL2 => ?_⟩
        have ha : as.length = f.size := by rw [q3.1, ez]
        rw [cut_from (by rw [List.length_map, ha]; omega)]
        have s4 := same_new (o := HO.lst ((as.map V.ref).drop k)) nL2
        refine hQ _ L2 (as.drop k) (s13.trans s4) (s13.free nL2) (by rw [upd_same, List.map_drop]) ?_
        show PtsAt _ _ (((f.cells.zip t.cells).drop k).map _)
        rw [List.map_drop]
        exact (q3.mono (PtAt.kq (Kq.same s4))).drop k
    | fill t v k =>
      obtain ⟨pt, h1, h2⟩ := hS
      obtain ⟨o1, o2, o3, o4⟩ := ho
      have st' := o1.sm (by omega)
      have z1 := hsz t o1
      refine ⟨_, rfl, p, _, _, _, rfl, rfl, h1, atI_nat (j := 0) rfl, rfl, _, rfl, iteDF (by decide +kernel) ?_⟩
      refine ⟨_, rfl, p, _, _, _, rfl, rfl, h1, atI_nat (j := 0) rfl, rfl, _, rfl, iteT ?_⟩
      refine ⟨_, rfl, p, _, _, _, rfl, rfl, h1, atI_nat (j := 1) rfl, pt, t, rfl, h2, st', fun H1 t1 s1 n1 l1 => ?_⟩
      refine ⟨t1, rfl, ⟨_, .of l1⟩, fun D hD => ?_⟩
      refine it_gen (walk_list (K := K) (a := t1) (xs := nums t.cells)) (fun i H3 => Same H1 H3 ∧ ∃ as, H3 D = some (.lst (as.map V.ref)) ∧ PtsAt H3 as ((t.cells.map (Part.fl v)).take i)) ⟨same_new hD, [], upd_same, .nil⟩ (fun i H3 _ z => .of (z.1 _ _ l1)) (fun i x H2 H3 hi z y => ?_) (fun H3 z => ?_)
      · obtain ⟨q1, as, q2, q3⟩ := z
        obtain ⟨rfl, hx⟩ := y
        obtain ⟨c, hc, rfl⟩ := nums_get hx
        refine ⟨rfl, _, rfl, p, _, _, _, rfl, rfl, (Kt.same (s1.trans q1)).sq h1, atI_nat (j := 2) rfl, _, rfl, by show 3 ≤ sizeLine; decide, fun ta na => ?_⟩
        have sa := same_new (o := HO.tup [.str "fill", .int v, .int ((c : Nat) : Int)]) na
        have q2' := sa _ _ q2
        refine ⟨_, q2', ?_, fun b o hb => ?_, as ++ [ta], by rw [upd_same, List.map_append]; rfl, ?_⟩
        · rw [nums_len, Area.cells_length] at hi
          rw [List.length_map, q3.1, List.length_take, sizeLine_eq]; omega
        · rw [upd_ne (ne_of_none hb hD)]; exact sa _ _ (q1 _ _ hb)
        · have hg : (t.cells.map (Part.fl v))[i]? = some (.fl v c) := by rw [List.getElem?_map, hc]; rfl
          rw [take_snoc hg]
          exact ((q3.mono (PtAt.kq (Kq.same sa))).mono (PtAt.kq (Kq.upd q2'))).snoc (Kq.upd q2' _ _ upd_same)
      · obtain ⟨q1, as, q2, q3⟩ := z
        have ez : (t.cells.map (Part.fl v)).length = t.size := by rw [List.length_map, Area.cells_length]
        rw [nums_len, Area.cells_length, List.take_of_length_le (Nat.le_of_eq ez)] at q3
        have s13 := s1.trans q1
        refine ⟨_, rfl, p, _, _, _, rfl, rfl, (Kt.same s13).sq h1, atI_nat (j := 3) rfl, _, rfl, D, _, rfl, .of q2, fun L2 nL2 => ?_⟩
        have ha : as.length = t.size := by rw [q3.1, ez]
        rw [cut_from (by rw [List.length_map, ha]; omega)]
        have s4 := same_new (o := HO.lst ((as.map V.ref).drop k)) nL2
        refine hQ _ L2 (as.drop k) (s13.trans s4) (s13.free nL2) (by rw [upd_same, List.map_drop]) ?_
        show PtsAt _ _ ((t.cells.drop k).map _)
        rw [List.map_drop]
        exact (q3.mono (PtAt.kq (Kq.same s4))).drop k
    | add f c0 =>
      obtain ⟨pt, h1, h2⟩ := hS
      obtain ⟨o1, o2⟩ := ho
      have st' := o1.sm (by omega)
      have z1 := hsz f o1
      refine ⟨_, rfl, p, _, _, _, rfl, rfl, h1, atI_nat (j := 0) rfl, rfl, _, rfl, iteDF (by decide +kernel) ?_⟩
      refine ⟨_, rfl, p, _, _, _, rfl, rfl, h1, atI_nat (j := 0) rfl, rfl, _, rfl, iteDF (by decide +kernel) ?_⟩
      refine ⟨_, rfl, p, _, _, _, rfl, rfl, h1, atI_nat (j := 0) rfl, rfl, _, rfl, iteT ?_⟩
      refine ⟨_, rfl, p, _, _, _, rfl, rfl, h1, atI_nat (j := 1) rfl, pt, f, rfl, h2, st', fun H1 t1 s1 n1 l1 => ?_⟩
      refine ⟨t1, rfl, ⟨_, .of l1⟩, fun D hD => ?_⟩
      refine it_gen (walk_list (K := K) (a := t1) (xs := nums f.cells)) (fun i H3 => Same H1 H3 ∧ ∃ as, H3 D = some (.lst (as.map V.ref)) ∧ PtsAt H3 as ((f.cells.map Part.rd).take i)) ⟨same_new hD, [], upd_same, .nil⟩ (fun i H3 _ z => .of (z.1 _ _ l1)) (fun i x H2 H3 hi z y => ?_) (fun H3 z => ?_)
      · obtain ⟨q1, as, q2, q3⟩ := z
        obtain ⟨rfl, hx⟩ := y
        obtain ⟨c, hc, rfl⟩ := nums_get hx
        refine ⟨rfl, _, rfl, by show 3 ≤ sizeLine; decide, fun ta na => ?_⟩
        have sa := same_new (o := HO.tup [.str "read", .int ((c : Nat) : Int), .non]) na
        have q2' := sa _ _ q2
        refine ⟨_, q2', ?_, fun b o hb => ?_, as ++ [ta], by rw [upd_same, List.map_append]; rfl, ?_⟩
        · rw [nums_len, Area.cells_length] at hi
          rw [List.length_map, q3.1, List.length_take, sizeLine_eq]; omega
        · rw [upd_ne (ne_of_none hb hD)]; exact sa _ _ (q1 _ _ hb)
        · have hg : (f.cells.map Part.rd)[i]? = some (.rd c) := by rw [List.getElem?_map, hc]; rfl
          rw [take_snoc hg]
          exact ((q3.mono (PtAt.kq (Kq.same sa))).mono (PtAt.kq (Kq.upd q2'))).snoc (Kq.upd q2' _ _ upd_same)
      · obtain ⟨q1, as, q2, q3⟩ := z
        have ez : (f.cells.map Part.rd).length = f.size := by rw [List.length_map, Area.cells_length]
        rw [nums_len, Area.cells_length, List.take_of_length_le (Nat.le_of_eq ez)] at q3
        have s13 := s1.trans q1
        refine ⟨_, rfl, p, _, _, _, rfl, rfl, (Kt.same s13).sq h1, atI_nat (j := 2) rfl, by show 3 ≤ sizeLine; decide, fun ta na => ?_⟩
        have sa := same_new (o := HO.tup [.str "sum", .non, .int ((c0 : Nat) : Int)]) na
        refine ⟨by show 1 ≤ sizeLine; decide, fun tb nb => ?_⟩
        have sb := same_new (o := HO.lst [.ref ta]) nb
        have ha : as.length = f.size := by rw [q3.1, ez]
        refine ⟨D, tb, _, _, rfl, rfl, sb _ _ (sa _ _ q2), upd_same, by rw [List.length_map, ha, sizeLine_eq]; simp only [List.length_cons, List.length_nil]; omega, fun L2 nL2 => ?_⟩
        have s4 := same_new (o := HO.lst (as.map V.ref ++ [.ref ta])) nL2
        have s24 := sa.trans (sb.trans s4)
        refine hQ _ L2 (as ++ [ta]) (s13.trans s24) ((s13.trans (sa.trans sb)).free nL2) (by rw [upd_same, List.map_append]; rfl) ?_
        exact (q3.mono (PtAt.kq (Kq.same s24))).snoc ((sb.trans s4) _ _ upd_same)
    | note g =>
      dsimp only [StAt] at hS
      refine ⟨_, rfl, p, _, _, _, rfl, rfl, hS, atI_nat (j := 0) rfl, rfl, _, rfl, iteDF (by decide +kernel) ?_⟩
      refine ⟨_, rfl, p, _, _, _, rfl, rfl, hS, atI_nat (j := 0) rfl, rfl, _, rfl, iteDF (by decide +kernel) ?_⟩
      refine ⟨_, rfl, p, _, _, _, rfl, rfl, hS, atI_nat (j := 0) rfl, rfl, _, rfl, iteDF (by decide +kernel) ?_⟩
      exact ⟨by show 0 ≤ sizeLine; decide, fun t nt => hQ _ t [] (same_new nt) nt upd_same .nil⟩
    | wait g n =>
      dsimp only [StAt] at hS
      refine ⟨_, rfl, p, _, _, _, rfl, rfl, hS, atI_nat (j := 0) rfl, rfl, _, rfl, iteDF (by decide +kernel) ?_⟩
      refine ⟨_, rfl, p, _, _, _, rfl, rfl, hS, atI_nat (j := 0) rfl, rfl, _, rfl, iteDF (by decide +kernel) ?_⟩
      refine ⟨_, rfl, p, _, _, _, rfl, rfl, hS, atI_nat (j := 0) rfl, rfl, _, rfl, iteDF (by decide +kernel) ?_⟩
      exact ⟨by show 0 ≤ sizeLine; decide, fun t nt => hQ _ t [] (same_new nt) nt upd_same .nil⟩
    | fence =>
      dsimp only [StAt] at hS
      refine ⟨_, rfl, p, _, _, _, rfl, rfl, hS, atI_nat (j := 0) rfl, rfl, _, rfl, iteDF (by decide +kernel) ?_⟩
      refine ⟨_, rfl, p, _, _, _, rfl, rfl, hS, atI_nat (j := 0) rfl, rfl, _, rfl, iteDF (by decide +kernel) ?_⟩
      refine ⟨_, rfl, p, _, _, _, rfl, rfl, hS, atI_nat (j := 0) rfl, rfl, _, rfl, iteDF (by decide +kernel) ?_⟩
      exact ⟨by show 0 ≤ sizeLine; decide, fun t nt => hQ _ t [] (same_new nt) nt upd_same .nil⟩
end
end K24
end
section
set_option Elab.async false
set_option linter.all false
set_option maxRecDepth 100000
set_option maxHeartbeats 2000000
namespace K24
open PySem PySem.Spec PyProof.Rows L2 C8
section
variable {P : Program} {w : World} {K : PySem.W.Frag} {mg : Str → Option Value} {base : Heap}
def PtOk (top : Nat) (p : Part) : Prop := (∀ c ∈ p.rds, c < top) ∧ ∀ c ∈ p.wrs, c < top
def Kc (x y : Addr) (H H' : Hp) : Prop := ∀ b o, H b = some o → b ≠ x → b ≠ y → H' b = some o
def spLawPart (K : PySem.W.Frag) : Sp := fun vs H Q _ => ∃ (r p h : Addr) (mem : Mem) (hs : List Int) (pt : Part), vs = [.ref r, .ref p, .ref h] ∧ H r = some (.lst (mem.map V.int)) ∧ H h = some (.lst (hs.map V.int)) ∧ r ≠ h ∧ PtAt H p pt ∧ PtOk mem.length pt ∧ hs.length ≤ 100 ∧
  ∀ H', Kc r h H H' → H' r = some (.lst ((pt.row mem hs).map V.int)) → H' h = some (.lst ((pt.held mem hs).map V.int)) → Q .non H'
abbrev NLawPart : List Str := ["_law_row", "_law_part_here", "_law_held", "_law_word", "_law_what", "_law_cell"]
theorem scLawPart : FnScope NLawPart ["_law_row", "_law_part_here", "_law_held"] (defScope sLawPart) := ⟨rfl, rfl, rfl, by decide +kernel, rfl, by decide +kernel, by decide +kernel⟩
theorem cal_LawPart (E : Wd w K mg) : C8.Cal P w K mg base 1 "_law_part" (spLawPart K) [] := by
  obtain ⟨fd, F⟩ := fLawPart E
  refine ⟨_, fd, ["_law_row", "_law_part_here", "_law_held"], [], F.ok scLawPart (fun vs H Q E h => ?_) (fun cdv A outer s H vs Q E' hr h => ⟨_, PSs.nox (pss_cons (ps_asg (pv 1) (pg_tup (by rfl) (pgs_cons (pg_name (i := 3) scLawPart.nd rfl (Or.inl rfl)) (pgs_cons (pg_name (i := 4) scLawPart.nd rfl (Or.inl rfl)) (pgs_cons (pg_name (i := 5) scLawPart.nd rfl (Or.inl rfl)) pgs_nil)))))
      (pss_one (ps_if (pt_cmpR op_eq (pv 3) pe_str (nomark _)) (pss_one (ps_asg (pe_ix ix_list (pv 0) (pv 4) (fun _ _ => rfl)) (pg_sub (pv 0) (pv 5) set_list))) (pss_one (ps_if (pt_cmpR op_eq (pv 3) pe_str (nomark _)) (pss_one (ps_asg (pv 4) (pg_sub (pv 0) (pv 5) set_list))) (pss_one (ps_if (pt_cmpR op_eq (pv 3) pe_str (nomark _)) (pss_one (ps_expr (pe_bm PySem.F.plainAttrs_list PySem.F.slot_list_append PySem.F.type_list_append mt_append (pv 2) (pa_cons (pe_ix ix_list (pv 0) (pv 4) (fun _ _ => rfl)) pa_nil)))) (pss_one (ps_asg (pe_op op_modN (pe_callB (cr_sum rfl) (by rfl) (n_sum E) (by decide +kernel) (pa_cons (pv 2) pa_nil)) pe_int) (pg_sub (pv 0) (pv 5) set_list)))))))))), ?_⟩), g__law_part E, F.kp, F.bindsN (fun _ _ _ _ _ _ us hl => match us, hl with | [_, _, _], _ => rfl), .nil⟩
  · obtain ⟨r, p, h, mem, hs, pt, rfl, _⟩ := h; rfl
  · obtain ⟨r, p, hh, mem, hs, pt, rfl, hr', hh', hne, hp, ho, hl, hQ⟩ := h
    have fin : ∀ (c : Nat) (x : Int), c < mem.length → (mem.map V.int).set c (.int x) = (mem.set c x).map V.int := fun c x _ => ints_set mem c x
    cases pt with
    | cp a b =>
      have ha : a < mem.length := ho.1 a (List.mem_singleton.mpr rfl)
      have hb : b < mem.length := ho.2 b (List.mem_singleton.mpr rfl)
      refine ⟨_, rfl, p, _, rfl, .of hp, rfl, _, _, rfl, _, _, rfl, _, _, rfl, rfl, ?_⟩
      refine ⟨_, rfl, rfl, _, rfl, iteT ?_⟩
      refine ⟨_, rfl, _, rfl, r, _, _, _, rfl, rfl, .of hr', atI_nat (ints_get ha), _, rfl, _, rfl, r, _, _, b, rfl, rfl, hr', ixN_at (by rw [ints_len]; exact hb), ?_⟩
      rw [ints_set]
      exact hQ _ (fun c o hc n1 n2 => by rw [upd_ne n1]; exact hc) upd_same (by rw [upd_ne (Ne.symm hne)]; exact hh')
    | fl v c =>
      have hc : c < mem.length := ho.2 c (List.mem_singleton.mpr rfl)
      refine ⟨_, rfl, p, _, rfl, .of hp, rfl, _, _, rfl, _, _, rfl, _, _, rfl, rfl, ?_⟩
      refine ⟨_, rfl, rfl, _, rfl, iteF ⟨_, rfl, rfl, _, rfl, iteT ?_⟩⟩
      refine ⟨_, rfl, _, rfl, _, rfl, r, _, _, c, rfl, rfl, hr', ixN_at (by rw [ints_len]; exact hc), ?_⟩
      rw [ints_set]
      exact hQ _ (fun c o hc n1 n2 => by rw [upd_ne n1]; exact hc) upd_same (by rw [upd_ne (Ne.symm hne)]; exact hh')
    | rd a =>
      have ha : a < mem.length := ho.1 a (List.mem_singleton.mpr rfl)
      refine ⟨_, rfl, p, _, rfl, .of hp, rfl, _, _, rfl, _, _, rfl, _, _, rfl, rfl, ?_⟩
      refine ⟨_, rfl, rfl, _, rfl, iteF ⟨_, rfl, rfl, _, rfl, iteF ⟨_, rfl, rfl, _, rfl, iteT ?_⟩⟩⟩
      refine ⟨_, rfl, .inl ⟨rfl, _, .of hh'⟩, _, rfl, _, rfl, r, _, _, _, rfl, rfl, .of hr', atI_nat (ints_get ha), hh, _, _, rfl, rfl, hh', by rw [ints_len, sizeLine_eq]; omega, ?_⟩
      refine hQ _ (fun c o hc n1 n2 => by rw [upd_ne n2]; exact hc) (by rw [upd_ne hne]; exact hr') ?_
      rw [upd_same]
      show _ = some (HO.lst ((hs ++ [mem.getD a 0]).map V.int))
      rw [List.map_append]; rfl
    | sm c =>
      have hc : c < mem.length := ho.2 c (List.mem_singleton.mpr rfl)
      refine ⟨_, rfl, p, _, rfl, .of hp, rfl, _, _, rfl, _, _, rfl, _, _, rfl, rfl, ?_⟩
      refine ⟨_, rfl, rfl, _, rfl, iteF ⟨_, rfl, rfl, _, rfl, iteF ⟨_, rfl, rfl, _, rfl, iteF ?_⟩⟩⟩
      refine ⟨_, rfl, hh, _, rfl, .of hh', _, _, rfl, rfl, (by show (256 : Int) ≠ 0; decide), ?_⟩
      refine ⟨_, rfl, _, rfl, r, _, _, c, rfl, rfl, hr', ixN_at (by rw [ints_len]; exact hc), ?_⟩
      have ef : ∀ s : Int, s.fmod 256 = s % 256 := fun s => Int.fmod_eq_emod_of_nonneg s (by decide)
      refine hQ _ (fun c o hc n1 n2 => by rw [upd_ne n1]; exact hc) (by
        rw [upd_same]
        show some (HO.lst ((mem.map V.int).set c (.int (hs.sum.fmod 256)))) = _
        rw [ef, ints_set]; rfl) (by rw [upd_ne (Ne.symm hne)]; exact hh')
end
end K24
end
section
set_option Elab.async false
set_option linter.all false
set_option maxRecDepth 100000
set_option maxHeartbeats 2000000
namespace K24
open PySem PySem.Spec PyProof.Rows L2 C8
theorem heldAll_snoc (p : Part) : ∀ (l : List Part) (m : Mem) (h : List Int), heldAll (l ++ [p]) m h = p.held (run l m h) (heldAll l m h)
  | [], _, _ => rfl
  | q :: r, m, h => heldAll_snoc p r (q.row m h) (q.held m h)
theorem held_len (p : Part) (m : Mem) (h : List Int) : (p.held m h).length ≤ h.length + 1 := by
  cases p <;> simp [Part.held]
theorem heldAll_len : ∀ (l : List Part) (m : Mem) (h : List Int), (heldAll l m h).length ≤ h.length + l.length
  | [], _, _ => by simp [heldAll]
  | q :: r, m, h => by
    have h1 := heldAll_len r (q.row m h) (q.held m h)
    have h2 := held_len q m h
    show (heldAll r (q.row m h) (q.held m h)).length ≤ _
    rw [List.length_cons]; omega
theorem parts_len {top : Nat} {s : Step} (h : s.Ok top) (ht : top ≤ 40) : s.parts.length ≤ 41 := by
  cases s with
  | copy f t k =>
    have := h.1.size_le
    show (((f.cells.zip t.cells).drop k).map _).length ≤ 41
    rw [List.length_map, List.length_drop, List.length_zip, Area.cells_length, Area.cells_length]; omega
  | fill t v k =>
    have := h.1.size_le
    show ((t.cells.drop k).map _).length ≤ 41
    rw [List.length_map, List.length_drop, Area.cells_length]; omega
  | add f c =>
    have := h.1.size_le
    show (f.cells.map Part.rd ++ [Part.sm c]).length ≤ 41
    rw [List.length_append, List.length_map, Area.cells_length]; simp only [List.length_cons, List.length_nil]; omega
  | note g => exact Nat.zero_le _
  | wait g n => exact Nat.zero_le _
  | fence => exact Nat.zero_le _
theorem parts_ok {top : Nat} {s : Step} (h : s.Ok top) : ∀ p ∈ s.parts, PtOk top p := fun p hp =>
  ⟨fun c hc => h.own_lt false c (List.mem_flatMap.mpr ⟨p, hp, hc⟩), fun c hc => h.own_lt true c (List.mem_flatMap.mpr ⟨p, hp, hc⟩)⟩
theorem PtOk.mono {a b : Nat} {p : Part} (h : PtOk a p) (hab : a ≤ b) : PtOk b p := ⟨fun c hc => Nat.lt_of_lt_of_le (h.1 c hc) hab, fun c hc => Nat.lt_of_lt_of_le (h.2 c hc) hab⟩
theorem PtAt.kc {x y : Addr} {H H' : Hp} {xs ys : List V} (k : Kc x y H H') (hx : H x = some (.lst xs)) (hy : H y = some (.lst ys)) (a : Addr) (q : Part) (h : PtAt H a q) : PtAt H' a q := by
  have key : ∀ zs, H a = some (.tup zs) → H' a = some (.tup zs) := fun zs z => k _ _ z (fun e => by rw [e, hx] at z; cases z) (fun e => by rw [e, hy] at z; cases z)
  cases q <;> exact key _ h
section
variable {P : Program} {w : World} {K : PySem.W.Frag} {mg : Str → Option Value} {base : Heap}
def spLawPlainly (K : PySem.W.Frag) : Sp := fun vs H Q _ => ∃ (q p : Addr) (m : Mem) (ss : List Step) (top : Nat), vs = [.ref q, .ref p] ∧ SqT K H p (m.map V.int) ∧ LsAt K H q ss ∧ AllOk top ss ∧ top ≤ 40 ∧ top ≤ m.length ∧
  ∀ H' t, Same H H' → H t = none → H' t = some (.tup ((plain ss m).map V.int)) → Q (.ref t) H'
abbrev NLawPlainly : List Str := ["_law_steps", "_law_memory", "_law_row", "_law_step_here", "_law_held", "_law_part_here"]
theorem scLawPlainly : FnScope NLawPlainly ["_law_steps", "_law_memory"] (defScope sLawPlainly) := ⟨rfl, rfl, rfl, by decide +kernel, rfl, by decide +kernel, by decide +kernel⟩
theorem cal_LawPlainly (E : Wd w K mg) : C8.Cal P w K mg base 3 "_law_plainly" (spLawPlainly K) [] := by
  obtain ⟨fd, F⟩ := fLawPlainly E
  refine ⟨_, fd, ["_law_steps", "_law_memory"], [], F.ok scLawPlainly (fun vs H Q E h => ?_) (fun cdv A outer s H vs Q E' hr h => ⟨_, PSs.nox (pss_cons (ps_set (i := 2) scLawPlainly.nd rfl (.inl rfl) (pe_callTy call_list_of (by rfl) (n_list E) (by decide +kernel) (pa_cons (pv 1) pa_nil)))
      (pss_cons (ps_for PassesOwn.never rfl (pi_tup (pv 0)) (pg_name (i := 3) scLawPlainly.nd rfl (Or.inl rfl)) (pss_cons (ps_set (i := 4) scLawPlainly.nd rfl (.inl rfl) (pe_lst pa_nil))
      (pss_one (ps_for PassesOwn.never rfl (pi_list (C8.pe_c (cal_LawParts E) hr (by decide) (by rfl) (pa_cons (pv 3) pa_nil))) (pg_name (i := 5) scLawPlainly.nd rfl (Or.inl rfl)) (pss_one (ps_expr (C8.pe_c (cal_LawPart E) hr (by decide) (by rfl) (pa_cons (pv 2) (pa_cons (pv 5) (pa_cons (pv 4) pa_nil))))))))))
      (pss_one (ps_ret (pe_callTy call_tuple_of (by rfl) (n_tuple E) (by decide +kernel) (pa_cons (pv 2) pa_nil)))))), ?_⟩), g__law_plainly E, F.kp, F.bindsN (fun _ _ _ _ _ _ us hl => match us, hl with | [_, _], _ => rfl), .nil⟩
  · obtain ⟨q, p, m, ss, top, rfl, _⟩ := h; rfl
  · obtain ⟨q, p, m, ss, top, rfl, hS, ⟨as, hA, hSt⟩, ho, ht, htm, hQ⟩ := h
    have e : (as.map V.ref).length = ss.length := by rw [List.length_map]; exact hSt.1
    refine ⟨_, rfl, p, _, rfl, .inr hS, fun R nR => ?_⟩
    have sR := same_new (o := HO.lst (m.map V.int)) nR
    refine ⟨_, rfl, q, rfl, ⟨_, (Kt.same sR).sq hA⟩, ?_⟩
    refine for_it (walk_tup (K := K) (a := q) (xs := as.map V.ref)) (fun i σ H1 => (∃ x3 x4 x5, σ = [some (.ref q), some (.ref p), some (.ref R), x3, x4, x5]) ∧ Same H H1 ∧ H1 R = some (.lst ((plain (ss.take i) m).map V.int))) ⟨⟨_, _, _, rfl⟩, sR, upd_same⟩ (fun i σ H1 _ z => (Kt.same z.2.1).sq hA) (fun i x σ H1 H2 hi z y => ?_) (fun σ H1 z => ?_)
    · obtain ⟨⟨x3, x4, x5, rfl⟩, z1, z2⟩ := z
      obtain ⟨rfl, hx⟩ := y
      obtain ⟨a, rfl, ha⟩ := mapref_get hx
      obtain ⟨st, hs, hst⟩ := hSt.get ha
      have hok := ho st (List.mem_of_getElem? hs)
      refine ⟨by show 0 ≤ sizeLine; decide, fun D nD => ?_⟩
      have sD := same_new (o := HO.lst []) nD
      have z1D := z1.trans sD
      refine ⟨_, rfl, a, st, top, rfl, hst.kt (Kt.same z1D), hok, ht, fun H3 t ps s3 n3 l3 hps => ⟨t, rfl, ⟨_, .of l3⟩, ?_⟩⟩
      have nRD : R ≠ D := ne_of_none z2 nD
      have r3 := s3 _ _ (sD _ _ z2)
      have d3 := s3 _ _ (upd_same (H := H2) (a := D) (o := HO.lst []))
      have ntR : t ≠ R := fun w => by rw [w, sD _ _ z2] at n3; cases n3
      have ntD : t ≠ D := fun w => by rw [w, upd_same] at n3; cases n3
      have mlen : (plain (ss.take i) m).length = m.length := plain_length _ _
      rw [take_snoc hs, plain_snoc]
      generalize plain (ss.take i) m = mi at r3 z2 mlen ⊢
      refine for_it (walk_list (K := K) (a := t) (xs := ps.map V.ref)) (fun j σ H4 => (∃ x5, σ = [some (.ref q), some (.ref p), some (.ref R), some (.ref a), some (.ref D), x5]) ∧ Kc R D H3 H4 ∧ H4 R = some (.lst ((run (st.parts.take j) mi []).map V.int)) ∧ H4 D = some (.lst ((heldAll (st.parts.take j) mi []).map V.int))) ⟨⟨_, rfl⟩, fun _ _ h _ _ => h, r3, d3⟩ (fun j σ H4 _ z => .of (z.2.1 _ _ l3 ntR ntD)) (fun j x σ H4 H5 hj z y => ?_) (fun σ H4 z => ?_)
      · obtain ⟨⟨x5, rfl⟩, k4, r4, d4⟩ := z
        obtain ⟨rfl, hx⟩ := y
        obtain ⟨b, rfl, hb⟩ := mapref_get hx
        obtain ⟨pt, hpt, hpb⟩ := hps.get hb
        have hpo := (parts_ok hok pt (List.mem_of_getElem? hpt)).mono htm
        have hlen := heldAll_len (st.parts.take j) mi []
        have hpl := parts_len hok ht
        have e0 : List.length ([] : List Int) = 0 := rfl
        rw [List.length_take, e0] at hlen
        refine ⟨_, rfl, _, rfl, _, rfl, R, b, D, _, _, pt, rfl, r4, d4, nRD, hpb.kc k4 r3 d3, by rw [run_length, mlen]; exact hpo, by omega, fun H6 k6 r6 d6 => ⟨⟨_, rfl⟩, fun c o hc n1 n2 => k6 _ _ (k4 _ _ hc n1 n2) n1 n2, ?_, ?_⟩⟩
        · rw [r6, take_snoc hpt, run_snoc]
        · rw [d6, take_snoc hpt, heldAll_snoc]
      · obtain ⟨⟨x5, rfl⟩, k4, r4, d4⟩ := z
        have el : (ps.map V.ref).length = st.parts.length := by rw [List.length_map, hps.1]
        rw [el, List.take_of_length_le (Nat.le_refl _)] at r4
        refine ⟨⟨_, _, _, rfl⟩, fun c o hc => ?_, r4⟩
        have hc1 := z1 _ _ hc
        exact k4 _ _ (s3 _ _ (sD _ _ hc1)) (ne_of_none hc nR) (ne_of_none hc1 nD)
    · obtain ⟨⟨x3, x4, x5, rfl⟩, z1, z2⟩ := z
      rw [e, List.take_of_length_le (Nat.le_refl _)] at z2
      exact ⟨_, rfl, R, _, rfl, .inl ⟨.of z2, fun t nt => hQ _ _ (z1.trans (same_new nt)) (z1.free nt) upd_same⟩⟩
end
end K24
end
section
set_option Elab.async false
set_option linter.all false
set_option maxRecDepth 100000
set_option maxHeartbeats 2000000
namespace K24
open PySem PySem.Spec PyProof.Rows L2 C8
/-! ### steps that fly, as objects -/
structure Fl where
  T : Addr
  pl : Addr
  hl : Addr
structure FlAt (H : Hp) (x : Fl × Fly) : Prop where
  t : H x.1.T = some (.tup [.ref x.1.pl, .ref x.1.hl])
  p : ∃ pas : List Addr, H x.1.pl = some (.lst (pas.map V.ref)) ∧ PtsAt H pas x.2.ps
  h : H x.1.hl = some (.lst (x.2.held.map V.int))
  n : x.2.held.length + x.2.ps.length ≤ 41
structure FlNew (H0 : Hp) (R F : Addr) (x : Fl × Fly) : Prop where
  p0 : H0 x.1.pl = none
  h0 : H0 x.1.hl = none
  pR : x.1.pl ≠ R
  hR : x.1.hl ≠ R
  ph : x.1.pl ≠ x.1.hl
  pF : x.1.pl ≠ F
  hF : x.1.hl ≠ F
structure Apart (x y : Fl × Fly) : Prop where
  pp : x.1.pl ≠ y.1.pl
  ph : x.1.pl ≠ y.1.hl
  hp : x.1.hl ≠ y.1.pl
  hh : x.1.hl ≠ y.1.hl
theorem DrAt.dk {H : Hp} {d : Addr} {a : Nat} (h : DrAt H d a) : ∃ kvs, H d = some (.dK kvs) := by
  obtain ⟨c, l, ns, h1, _⟩ := h
  exact ⟨_, h1⟩
theorem DrAt.cell {H0 H : Hp} {d : Addr} {a0 a : Nat} (h0 : DrAt H0 d a0) (k : Kd d H0 H) (h : DrAt H d a) : ∃ (c : Addr) (l : Int) (ns : List Int), H d = some (.dK (drawV c ((a : Nat) : Int) l)) ∧ H c = some (.lst (ns.map V.int)) ∧ (ns ≠ [] ∧ 0 ≤ l) ∧ H0 c ≠ none := by
  obtain ⟨c, l, ns, h1, h2, h3⟩ := h0
  obtain ⟨c', l', ns', h1', h2', h3'⟩ := h
  obtain ⟨a2, l2, e⟩ := k.cells _ _ _ h1
  rw [h1'] at e
  have ec : c' = c := by cases e; rfl
  subst ec
  exact ⟨c', l', ns', h1', h2', h3', by rw [h2]; exact fun z => by cases z⟩
structure Sky (H0 : Hp) (R d : Addr) (mem : Mem) (a : Nat) (H : Hp) (F : Addr) (fl : List (Fl × Fly)) : Prop where
  d0 : ∃ a0, DrAt H0 d a0
  k : Kd d H0 H
  dr : DrAt H d a
  r : H R = some (.lst (mem.map V.int))
  r0 : H0 R = none
  f : H F = some (.lst (fl.map fun x => V.ref x.1.T))
  fr : F ≠ R
  at_ : ∀ x ∈ fl, FlAt H x
  new : ∀ x ∈ fl, FlNew H0 R F x
  ap : fl.Pairwise Apart
theorem FlAt.same {H H' : Hp} {x : Fl × Fly} (s : Same H H') (h : FlAt H x) : FlAt H' x := by
  obtain ⟨h1, ⟨pas, h2, h3⟩, h4, h5⟩ := h
  exact ⟨s _ _ h1, ⟨pas, s _ _ h2, h3.mono (PtAt.kq (Kq.same s))⟩, s _ _ h4, h5⟩
section
variable {H0 H H' : Hp} {R d F : Addr} {mem : Mem} {a : Nat} {fl : List (Fl × Fly)}
theorem Sky.same (s : Same H H') (S : Sky H0 R d mem a H F fl) : Sky H0 R d mem a H' F fl :=
  ⟨S.d0, S.k.trans (Kd.same s), S.dr.same s, s _ _ S.r, S.r0, s _ _ S.f, S.fr, fun x hx => (S.at_ x hx).same s, S.new, S.ap⟩
/-- all but the draw stays -/
theorem FlAt.kd {x : Fl × Fly} (k : Kd d H H') (dr : DrAt H d a) (h : FlAt H x) : FlAt H' x := by
  obtain ⟨kvs, hd⟩ := dr.dk
  have key : ∀ b o, H b = some o → (∀ kvs, o ≠ .dK kvs) → H' b = some o := fun b o hb hn => k.kb _ _ hb (fun z => by rw [z, hd] at hb; exact hn _ (Option.some.inj hb).symm)
  obtain ⟨h1, ⟨pas, h2, h3⟩, h4, h5⟩ := h
  refine ⟨key _ _ h1 (fun _ z => by cases z), ⟨pas, key _ _ h2 (fun _ z => by cases z), h3.mono fun b q hq => ?_⟩, key _ _ h4 (fun _ z => by cases z), h5⟩
  cases q <;> exact key _ _ hq (fun _ z => by cases z)
theorem Sky.took {a' : Nat} (k : Kd d H H') (dr : DrAt H' d a') (S : Sky H0 R d mem a H F fl) : Sky H0 R d mem a' H' F fl := by
  obtain ⟨kvs, hd⟩ := S.dr.dk
  have nR : R ≠ d := fun z => by have := S.r; rw [z, hd] at this; cases this
  have nF : F ≠ d := fun z => by have := S.f; rw [z, hd] at this; cases this
  exact ⟨S.d0, S.k.trans k, dr, k.kb _ _ S.r nR, S.r0, k.kb _ _ S.f nF, S.fr, fun x hx => (S.at_ x hx).kd k S.dr, S.new, S.ap⟩
theorem Sky.start {p : Addr} (dr : DrAt H0 d a) (k : Same H0 H) (hR : H0 R = none) (r : H R = some (.lst (mem.map V.int))) (f : H F = some (.lst [])) (fr : F ≠ R) : Sky H0 R d mem a H F [] :=
  ⟨⟨_, dr⟩, Kd.same k, dr.same k, r, hR, f, fr, fun x hx => absurd hx List.not_mem_nil, fun x hx => absurd hx List.not_mem_nil, .nil⟩
/-- one more, or none, in a new list -/
theorem Sky.grow {F' : Addr} {nw : List (Fl × Fly)} (s : Same H H') (S : Sky H0 R d mem a H F fl) (hF : H F' = none) (f : H' F' = some (.lst ((fl ++ nw).map fun x => V.ref x.1.T)))
    (hn : nw = [] ∨ ∃ x, nw = [x] ∧ FlAt H' x ∧ H x.1.pl = none ∧ H x.1.hl = none ∧ x.1.pl ≠ x.1.hl ∧ x.1.pl ≠ F' ∧ x.1.hl ≠ F') : Sky H0 R d mem a H' F' (fl ++ nw) := by
  have S' := S.same s
  refine ⟨S.d0, S'.k, S'.dr, S'.r, S.r0, f, (fun z => by rw [z, S.r] at hF; cases hF), fun x hx => ?_, fun x hx => ?_, ?_⟩
  · rcases List.mem_append.mp hx with hx | hx
    · exact S'.at_ x hx
    · rcases hn with hn | ⟨y, hn, h1, _⟩
      · rw [hn] at hx; cases hx
      · rw [hn] at hx; rw [List.mem_singleton.mp hx]; exact h1
  · rcases List.mem_append.mp hx with hx | hx
    · have h := S.new x hx
      obtain ⟨pas, h2, h3⟩ := (S.at_ x hx).p
      have h4 := (S.at_ x hx).h
      exact ⟨h.p0, h.h0, h.pR, h.hR, h.ph, (fun z => by rw [z, hF] at h2; cases h2), (fun z => by rw [z, hF] at h4; cases h4)⟩
    · rcases hn with hn | ⟨y, hn, h1, h2, h3, h4, h5, h6⟩
      · rw [hn] at hx; cases hx
      · rw [hn] at hx; rw [List.mem_singleton.mp hx]
        exact ⟨S.dr.free S.k h2, S.dr.free S.k h3, (fun z => by rw [z, S.r] at h2; cases h2), (fun z => by rw [z, S.r] at h3; cases h3), h4, h5, h6⟩
  · rcases hn with hn | ⟨y, hn, h1, h2, h3, h4, h5, h6⟩
    · rw [hn, List.append_nil]; exact S.ap
    · rw [hn]
      refine List.pairwise_append.mpr ⟨S.ap, List.pairwise_singleton _ _, fun x hx z hz => ?_⟩
      rw [List.mem_singleton.mp hz]
      obtain ⟨pas, e1, _⟩ := (S.at_ x hx).p
      have e2 := (S.at_ x hx).h
      exact ⟨(fun q => by rw [q, h2] at e1; cases e1), (fun q => by rw [q, h3] at e1; cases e1), (fun q => by rw [q, h2] at e2; cases e2), (fun q => by rw [q, h3] at e2; cases e2)⟩
theorem FlAt.off {x : Fl × Fly} {xs ys zs : List V} {u v : Addr} (hu : H u = some (.lst xs)) (hv : H v = some (.lst ys)) (hR : H R = some (.lst zs)) (k : ∀ b o, H b = some o → b ≠ u → b ≠ v → b ≠ R → H' b = some o) (h : FlAt H x) (h1 : x.1.pl ≠ u) (h2 : x.1.pl ≠ v) (h3 : x.1.pl ≠ R) (h4 : x.1.hl ≠ u) (h5 : x.1.hl ≠ v) (h6 : x.1.hl ≠ R) : FlAt H' x := by
  have key : ∀ b ws, H b = some (.tup ws) → H' b = some (.tup ws) := fun b ws hb => k _ _ hb (fun z => by rw [z, hu] at hb; cases hb) (fun z => by rw [z, hv] at hb; cases hb) (fun z => by rw [z, hR] at hb; cases hb)
  obtain ⟨g1, ⟨pas, g2, g3⟩, g4, g5⟩ := h
  refine ⟨key _ _ g1, ⟨pas, k _ _ g2 h1 h2 h3, g3.mono fun b q hq => ?_⟩, k _ _ g4 h4 h5 h6, g5⟩
  cases q <;> exact key _ _ hq
/-- one part of one that flies is done -/
theorem Sky.move {l r : List (Fl × Fly)} {x : Fl} {p : Part} {ps : List Part} {h : List Int} {b : Addr} {pas : List Addr} (S : Sky H0 R d mem a H F (l ++ (x, ⟨p :: ps, h⟩) :: r))
    (hp : H x.pl = some (.lst ((b :: pas).map V.ref))) (hps : PtsAt H (b :: pas) (p :: ps))
    (kc : Kc R x.hl (upd H x.pl (.lst (pas.map V.ref))) H') (hr' : H' R = some (.lst ((p.row mem h).map V.int))) (hh' : H' x.hl = some (.lst ((p.held mem h).map V.int))) :
    Sky H0 R d (p.row mem h) a H' F (l ++ (x, ⟨ps, p.held mem h⟩) :: r) := by
  have hm : (x, ⟨p :: ps, h⟩) ∈ l ++ (x, (⟨p :: ps, h⟩ : Fly)) :: r := List.mem_append_right _ List.mem_cons_self
  have N := S.new _ hm
  have A := S.at_ _ hm
  have hh := A.h
  obtain ⟨a1, a2, a3⟩ := List.pairwise_append.mp S.ap
  have a4 := List.pairwise_cons.mp a2
  have k : ∀ b o, H b = some o → b ≠ x.pl → b ≠ x.hl → b ≠ R → H' b = some o := fun b o hb n1 n2 n3 => kc _ _ (by rw [upd_ne n1]; exact hb) n3 n2
  have off : ∀ y ∈ l ++ r, FlAt H' y := fun y hy => by
    have hy2 : y ∈ l ++ (x, (⟨p :: ps, h⟩ : Fly)) :: r := by
      rcases List.mem_append.mp hy with hy | hy
      · exact List.mem_append_left _ hy
      · exact List.mem_append_right _ (List.mem_cons_of_mem _ hy)
    have Ny := S.new y hy2
    have e : y.1.pl ≠ x.pl ∧ y.1.pl ≠ x.hl ∧ y.1.hl ≠ x.pl ∧ y.1.hl ≠ x.hl := by
      rcases List.mem_append.mp hy with hy | hy
      · have q := a3 y hy _ List.mem_cons_self
        exact ⟨q.pp, q.ph, q.hp, q.hh⟩
      · have q := a4.1 y hy
        exact ⟨Ne.symm q.pp, Ne.symm q.hp, Ne.symm q.ph, Ne.symm q.hh⟩
    exact (S.at_ y hy2).off hp hh S.r k e.1 e.2.1 Ny.pR e.2.2.1 e.2.2.2 Ny.hR
  have kt : ∀ c q, PtAt H c q → PtAt H' c q := fun c q hq => by
    have key : ∀ ws, H c = some (.tup ws) → H' c = some (.tup ws) := fun ws hb => k _ _ hb (fun z => by rw [z, hp] at hb; cases hb) (fun z => by rw [z, hh] at hb; cases hb) (fun z => by rw [z, S.r] at hb; cases hb)
    cases q <;> exact key _ hq
  obtain ⟨kvs, hd⟩ := S.dr.dk
  have nd : x.pl ≠ d ∧ x.hl ≠ d ∧ R ≠ d := ⟨(fun z => by rw [z, hd] at hp; cases hp), (fun z => by rw [z, hd] at hh; cases hh), (fun z => by have := S.r; rw [z, hd] at this; cases this)⟩
  have hk : Kd d H0 H' := ⟨fun c o hc hn => k _ _ (S.k.kb _ _ hc hn) (ne_of_none hc N.p0) (ne_of_none hc N.h0) (ne_of_none hc S.r0), fun c i l' hc => by
    obtain ⟨i2, l2, e2⟩ := S.k.cells c i l' hc
    exact ⟨i2, l2, k _ _ e2 (Ne.symm nd.1) (Ne.symm nd.2.1) (Ne.symm nd.2.2)⟩⟩
  have hdr : DrAt H' d a := by
    obtain ⟨a0, hd0⟩ := S.d0
    obtain ⟨c0, l0, ns0, g1, g2, g3, g4⟩ := hd0.cell S.k S.dr
    have hc0 : ∀ t, H0 t = none → c0 ≠ t := fun t ht z => g4 (by rw [z]; exact ht)
    exact ⟨c0, l0, ns0, k _ _ g1 (Ne.symm nd.1) (Ne.symm nd.2.1) (Ne.symm nd.2.2), k _ _ g2 (hc0 _ N.p0) (hc0 _ N.h0) (hc0 _ S.r0), g3⟩
  refine ⟨S.d0, hk, hdr, hr', S.r0, ?_, S.fr, fun y hy => ?_, fun y hy => ?_, ?_⟩
  · have := S.f
    rw [List.map_append, List.map_cons] at this ⊢
    exact k _ _ this (Ne.symm N.pF) (Ne.symm N.hF) S.fr
  · rcases List.mem_append.mp hy with hy | hy
    · exact off y (List.mem_append_left _ hy)
    · rcases List.mem_cons.mp hy with hy | hy
      · rw [hy]
        refine ⟨k _ _ A.t (fun z => by have := A.t; rw [z, hp] at this; cases this) (fun z => by have := A.t; rw [z, hh] at this; cases this) (fun z => by have := A.t; rw [z, S.r] at this; cases this), ⟨pas, kc _ _ upd_same N.pR N.ph, (hps.tail.2).mono kt⟩, hh', ?_⟩
        have := A.n
        have h2 := held_len p mem h
        have e1 : (⟨p :: ps, h⟩ : Fly).ps.length = ps.length + 1 := rfl
        show (p.held mem h).length + ps.length ≤ 41
        have e2 : h.length + (p :: ps).length ≤ 41 := this
        rw [List.length_cons] at e2
        omega
      · exact off y (List.mem_append_right _ hy)
  · rcases List.mem_append.mp hy with hy | hy
    · exact S.new y (List.mem_append_left _ hy)
    · rcases List.mem_cons.mp hy with hy | hy
      · rw [hy]; exact ⟨N.p0, N.h0, N.pR, N.hR, N.ph, N.pF, N.hF⟩
      · exact S.new y (List.mem_append_right _ (List.mem_cons_of_mem _ hy))
  · refine List.pairwise_append.mpr ⟨a1, List.pairwise_cons.mpr ⟨fun y hy => ?_, a4.2⟩, fun y hy z hz => ?_⟩
    · have q := a4.1 y hy; exact ⟨q.pp, q.ph, q.hp, q.hh⟩
    · rcases List.mem_cons.mp hz with hz | hz
      · have q := a3 y hy _ List.mem_cons_self
        rw [hz]; exact ⟨q.pp, q.ph, q.hp, q.hh⟩
      · exact a3 y hy z (List.mem_cons_of_mem _ hz)
/-- some of them, in a new list -/
theorem Sky.some_ {F' : Addr} {g : Fl × Fly → Bool} (s : Same H H') (S : Sky H0 R d mem a H F fl) (hF : H F' = none) (f : H' F' = some (.lst ((fl.filter g).map fun x => V.ref x.1.T))) : Sky H0 R d mem a H' F' (fl.filter g) := by
  have S' := S.same s
  refine ⟨S.d0, S'.k, S'.dr, S'.r, S.r0, f, (fun z => by rw [z, S.r] at hF; cases hF), fun x hx => S'.at_ x (List.mem_filter.mp hx).1, fun x hx => ?_, S.ap.filter _⟩
  have hx := (List.mem_filter.mp hx).1
  have h := S.new x hx
  obtain ⟨pas, h2, h3⟩ := (S.at_ x hx).p
  have h4 := (S.at_ x hx).h
  exact ⟨h.p0, h.h0, h.pR, h.hR, h.ph, (fun z => by rw [z, hF] at h2; cases h2), (fun z => by rw [z, hF] at h4; cases h4)⟩
end
end K24
end
section
set_option Elab.async false
set_option linter.all false
set_option maxRecDepth 100000
set_option maxHeartbeats 2000000
namespace K24
open PySem PySem.Spec PyProof.Rows L2 C8
def keepB (x : Fl × Fly) : Bool := !x.2.ps.isEmpty
theorem split_at {fl : List (Fl × Fly)} {k : Nat} (hk : k < fl.length) (h : ∀ F ∈ fl.map Prod.snd, F.ps ≠ []) : ∃ l r x pp ps hh, fl = l ++ (x, (⟨pp :: ps, hh⟩ : Fly)) :: r ∧ l.length = k := by
  have h1 := h fl[k].2 (List.mem_map.mpr ⟨_, List.getElem_mem hk, rfl⟩)
  have h2 : fl = fl.take k ++ fl[k] :: fl.drop (k + 1) := by rw [← List.drop_eq_getElem_cons hk, List.take_append_drop]
  generalize fl[k] = u at h1 h2
  obtain ⟨x, ps, hh⟩ := u
  cases ps with
  | nil => exact absurd rfl h1
  | cons p ps => exact ⟨_, _, x, p, ps, hh, h2, by rw [List.length_take]; omega⟩
theorem bar_sp {s : Step} (h : s.bar = true) : inV (.str s.word) [.str "fence", .str "note", .str "wait"] = true := by
  cases s <;> first | rfl | cases h
theorem word_ne_wait {s : Step} (h : s.bar = true) : s.word ≠ "wait" := by
  cases s with
  | note g => exact (by decide +kernel : ("note" : Str) ≠ "wait")
  | fence => exact (by decide +kernel : ("fence" : Str) ≠ "wait")
  | _ => cases h
theorem pop0 (n : Nat) : seqIndex? 0 (n + 1) = some 0 := by
  unfold seqIndex?
  simp
theorem left_le {top : Nat} : ∀ {ss : List Step}, AllOk top ss → top ≤ 40 → left ss 0 [] ≤ 42 * ss.length
  | [], _, _ => Nat.le_refl _
  | s :: r, h, ht => by
    have ih := left_le (ss := r) (fun t h' => h t (List.mem_cons_of_mem _ h')) ht
    have hp := parts_len (h s List.mem_cons_self) ht
    unfold left at ih ⊢
    simp only [List.drop_zero, List.map_cons, List.sum_cons, List.map_nil, List.sum_nil, List.length_cons] at ih ⊢
    omega
section
variable {P : Program} {w : World} {K : PySem.W.Frag} {mg : Str → Option Value} {base : Heap}
def spLawMoved (K : PySem.W.Frag) : Sp := fun vs H Q _ => ∃ (d q p : Addr) (wd a : Nat) (m : Mem) (ss : List Step) (top : Nat), vs = [.ref d, .ref q, .ref p, .int ((wd : Nat) : Int)] ∧ DrAt H d a ∧ a < 800000 ∧ SqT K H p (m.map V.int) ∧ LsAt K H q ss ∧ AllOk top ss ∧ top ≤ 40 ∧ top ≤ m.length ∧ 1 ≤ wd ∧ ss.length ≤ 64 ∧ Clear ss ∧
  ∀ H' t a', Kd d H H' → DrAt H' d a' → a' ≤ a + 5400 → H' t = some (.tup ((plain ss m).map V.int)) → Q (.ref t) H'
abbrev NLawMoved : List Str := ["_law_draw", "_law_steps", "_law_memory", "_law_width", "_law_row", "_law_ahead", "_law_flying", "_law_may", "_law_parts_here", "_law_held", "_law_one"]
theorem scLawMoved : FnScope NLawMoved ["_law_draw", "_law_steps", "_law_memory", "_law_width"] (defScope sLawMoved) := ⟨rfl, rfl, rfl, by decide +kernel, rfl, by decide +kernel, by decide +kernel⟩
theorem cal_LawMoved (E : Wd w K mg) : C8.Cal P w K mg base 3 "_law_moved" (spLawMoved K) [] := by
  obtain ⟨fd, F⟩ := fLawMoved E
  refine ⟨_, fd, ["_law_draw", "_law_steps", "_law_memory", "_law_width"], [], F.ok scLawMoved (fun vs H Q E h => ?_) (fun cdv A outer s H vs Q E' hr h => ⟨_, PSs.nox (pss_cons (ps_par3 (i := 4) (j := 5) (l := 6) (by rfl) scLawMoved.nd rfl rfl rfl (by decide) (by decide) (by decide) rfl rfl rfl (pa_cons (pe_callTy call_list_of (by rfl) (n_list E) (by decide +kernel) (pa_cons (pv 2) pa_nil)) (pa_cons pe_int (pa_cons (pe_lst pa_nil) pa_nil))) (by rfl))
      (pss_cons (ps_while PassesOwn.never (PW.pt (pw_or (pt_cmpR op_lt (pv 5) (pe_callB call_len_seq (by rfl) (n_len E) (by decide +kernel) (pa_cons (pv 1) pa_nil)) (nomark _)) (pw_or1 (pt_cmpR (op_neE hr.units0) (pv 6) (pe_lst pa_nil) (nomark _))))) (pss_cons (ps_set (i := 7) scLawMoved.nd rfl (.inl rfl) (pe_and (pe_cmpR op_lt (pv 5) (pe_callB call_len_seq (by rfl) (n_len E) (by decide +kernel) (pa_cons (pv 1) pa_nil)) (nomark _)) (pe_one (pe_cmpR op_lt (pe_callB call_len_seq (by rfl) (n_len E) (by decide +kernel) (pa_cons (pv 6) pa_nil)) (pv 3) (nomark _)))))
      (C8.pss_cut (ps_if (PW.pt (pw_and (pt_cmpR op_lt (pv 5) (pe_callB call_len_seq (by rfl) (n_len E) (by decide +kernel) (pa_cons (pv 1) pa_nil)) (nomark _)) (pw_and1 (pt_cmpR op_in_seq (pe_ix ix_tup (pe_ix ix_tup (pv 1) (pv 5) (fun _ _ => rfl)) pe_int (fun _ _ => rfl)) (pe_tup (pa_cons pe_str (pa_cons pe_str (pa_cons pe_str pa_nil)))) (by rfl))))) (pss_one (ps_set (i := 7) scLawMoved.nd rfl (.inl rfl) (pe_or (pe_cmpR (op_eqE hr.units0) (pv 6) (pe_lst pa_nil) (nomark _)) (pe_one (pe_cmpR op_eq (pe_ix ix_tup (pe_ix ix_tup (pv 1) (pv 5) (fun _ _ => rfl)) pe_int (fun _ _ => rfl)) pe_str (nomark _)))))) pss_nil)
      (pss_one (ps_if (PW.pt (pw_and (pt_val (pv 7)) (pw_and1 (PW.pt (pw_or (pt_cmpR (op_eqE hr.units0) (pv 6) (pe_lst pa_nil) (nomark _)) (pw_or1 (pt_cmpR op_eq (C8.pe_c (cal_LawTake E) hr (by decide) (by rfl) (pa_cons (pv 0) (pa_cons pe_int pa_nil))) pe_int (nomark _)))))))) (pss_cons (ps_set (i := 6) scLawMoved.nd rfl (.inl rfl) (pe_op op_cat (pv 6) (pe_op op_rep (pe_lst (pa_cons (pe_tup (pa_cons (C8.pe_c (cal_LawParts E) hr (by decide) (by rfl) (pa_cons (pe_ix ix_tup (pv 1) (pv 5) (fun _ _ => rfl)) pa_nil)) (pa_cons (pe_lst pa_nil) pa_nil))) pa_nil)) (pe_callTy call_int1 (by rfl) (n_int E) (by decide +kernel) (pa_cons (pe_cmpR (op_neE hr.units0) (C8.pe_c (cal_LawParts E) hr (by decide) (by rfl) (pa_cons (pe_ix ix_tup (pv 1) (pv 5) (fun _ _ => rfl)) pa_nil)) (pe_lst pa_nil) (nomark _)) pa_nil)))))
      (pss_one (ps_set (i := 5) scLawMoved.nd rfl (.inl rfl) (pe_op op_add (pv 5) pe_int)))) (pss_cons (ps_asg (pe_ix ix_list (pv 6) (C8.pe_c (cal_LawTake E) hr (by decide) (by rfl) (pa_cons (pv 0) (pa_cons (pe_callB call_len_seq (by rfl) (n_len E) (by decide +kernel) (pa_cons (pv 6) pa_nil)) pa_nil))) (fun _ _ => rfl)) (pg_tup (by rfl) (pgs_cons (pg_name (i := 8) scLawMoved.nd rfl (Or.inl rfl)) (pgs_cons (pg_name (i := 9) scLawMoved.nd rfl (Or.inl rfl)) pgs_nil))))
      (pss_cons (ps_expr (C8.pe_c (cal_LawPart E) hr (by decide) (by rfl) (pa_cons (pv 4) (pa_cons (pe_bm PySem.F.plainAttrs_list PySem.F.slot_list_pop PySem.F.type_list_pop mt_popAt (pv 8) (pa_cons pe_int pa_nil)) (pa_cons (pv 9) pa_nil)))))
      (pss_one (ps_setLc (i := 6) (own := [("_law_one", 10)]) (by rfl) scLawMoved.nd rfl rfl (sw_true rfl rfl rfl (by decide +kernel)) (pi_list (pv 6)) (blkOk_by (own := [("_law_one", 10)]) (N := NLawMoved) (sc := defScope sLawMoved) (by decide +kernel)) (fun _ _ _ _ _ => (pg_name (i := 10) scLawMoved.nd rfl (Or.inl rfl))) (fun _ _ _ _ _ => (pts_one (pt_cmpR (op_neEK (K := K) rfl hr.units0) (pe_ix (ix_tupK (K := K) rfl) (pv 10) pe_int (fun _ _ => rfl)) (pe_lst pa_nil) (nomark _)))) (fun _ _ _ _ _ => (pv 10)))))))))))
      (pss_one (ps_ret (pe_callTy call_tuple_of (by rfl) (n_tuple E) (by decide +kernel) (pa_cons (pv 4) pa_nil)))))), ?_⟩), g__law_moved E, F.kp, F.bindsN (fun _ _ _ _ _ _ us hl => match us, hl with | [_, _, _, _], _ => rfl), .nil⟩
  · obtain ⟨d, q, p, wd, a, m, ss, top, rfl, _⟩ := h; rfl
  · obtain ⟨d, q, p, wd, a, m, ss, top, rfl, hd, ha, hS, ⟨as, hA, hSt⟩, ho, ht, htm, hwd, hsl, hcl, hQ⟩ := h
    have e : (as.map V.ref).length = ss.length := by rw [List.length_map]; exact hSt.1
    have hl0 := left_le ho ht
    refine ⟨_, rfl, p, _, rfl, .inr hS, fun R nR => ?_⟩
    have sR := same_new (o := HO.lst (m.map V.int)) nR
    refine ⟨by show 0 ≤ sizeLine; decide, fun F0 nF => ?_⟩
    have sF := same_new (o := HO.lst []) nF
    refine ⟨_, _, _, rfl, ?_⟩
    refine ⟨fun n σ H' => ∃ F fl ahead mem a' x7 x8 x9 x10, σ = [some (.ref d), some (.ref q), some (.ref p), some (.int ((wd : Nat) : Int)), some (.ref R), some (.int ((ahead : Nat) : Int)), some (.ref F), x7, x8, x9, x10] ∧ n = left ss ahead (fl.map Prod.snd) ∧ Sky H R d mem a' H' F fl ∧ Moved ss (plain ss m) ahead (fl.map Prod.snd) mem ∧ mem.length = m.length ∧ a' + 2 * n ≤ a + 5400 ∧ fl.length ≤ ahead, ⟨_, F0, [], 0, m, a, _, _, _, _, rfl, rfl, Sky.start (p := p) hd (sR.trans sF) nR (sF _ _ upd_same) upd_same (fun z => by rw [z, upd_same] at nF; cases nF), Moved.start ss m, rfl, by simp only [List.map_nil]; omega, Nat.le_refl _⟩, ?_⟩
    rintro n σ H1 ⟨F, fl, ahead, mem, a', x7, x8, x9, x10, rfl, rfl, S, M, hml, hb, hfl⟩
    have ltT : ∀ H', Kd d H H' → ahead < ss.length → ((ahead : Nat) : Int) < (((as.map V.ref).length : Nat) : Int) := fun _ _ h => by rw [e]; omega
    by_cases hlt : ahead < ss.length
    · have ltI : ((ahead : Nat) : Int) < (((as.map V.ref).length : Nat) : Int) := by rw [e]; omega
      refine ⟨_, rfl, _, rfl, q, _, rfl, .inr ((hd.kt S.k).sq hA), _, _, rfl, rfl, _, rfl, iteDT ltI ?_⟩
      refine iteT ⟨fun σ' H' => ∃ m', m' < left ss ahead (fl.map Prod.snd) ∧ ∃ F fl ahead mem a' x7 x8 x9 x10, σ' = [some (.ref d), some (.ref q), some (.ref p), some (.int ((wd : Nat) : Int)), some (.ref R), some (.int ((ahead : Nat) : Int)), some (.ref F), x7, x8, x9, x10] ∧ m' = left ss ahead (fl.map Prod.snd) ∧ Sky H R d mem a' H' F fl ∧ Moved ss (plain ss m) ahead (fl.map Prod.snd) mem ∧ mem.length = m.length ∧ a' + 2 * m' ≤ a + 5400 ∧ fl.length ≤ ahead, fun σ' H' z => z, ?_⟩
      refine ⟨_, rfl, _, rfl, q, _, rfl, .inr ((hd.kt S.k).sq hA), _, _, rfl, rfl, _, rfl, iteDT ltI ?_⟩
      refine ⟨_, rfl, F, _, rfl, .inl (.of S.f), _, rfl, _, _, rfl, rfl, ?_⟩
      obtain ⟨st, hst⟩ : ∃ st, ss[ahead]? = some st := ⟨_, List.getElem?_eq_getElem hlt⟩
      obtain ⟨aa, haa, hsa⟩ := hSt.ref hst
      have hAi : (as.map V.ref)[ahead]? = some (.ref aa) := by rw [List.getElem?_map, haa]; rfl
      refine ⟨fun σ' H' => ∃ mb : Bool, σ' = [some (.ref d), some (.ref q), some (.ref p), some (.int ((wd : Nat) : Int)), some (.ref R), some (.int ((ahead : Nat) : Int)), some (.ref F), some (.bl mb), x8, x9, x10] ∧ Same H1 H' ∧ (mb = true → st.bar = true → fl = []) ∧ (fl = [] → mb = true), ?_, fun σ' H2 hM => ?_⟩
      · obtain ⟨rest, hw⟩ := st_word (hsa.kt (hd.kt S.k))
        refine ⟨_, rfl, _, rfl, q, _, rfl, .inr ((hd.kt S.k).sq hA), _, _, rfl, rfl, _, rfl, iteDT ltI ?_⟩
        refine ⟨_, rfl, _, rfl, q, _, _, _, rfl, rfl, (hd.kt S.k).sq hA, atI_nat hAi, aa, _, _, _, rfl, rfl, hw, atI_nat (j := 0) rfl, by show 3 ≤ sizeLine; decide, fun Tw nT => ?_⟩
        have sT := same_new (o := HO.tup [.str "fence", .str "note", .str "wait"]) nT
        refine ⟨Tw, _, rfl, .inr (.of upd_same), rfl, rfl, _, rfl, ?_⟩
        have s1T : Same H1 _ := sT
        by_cases hsp : inV (.str st.word) [.str "fence", .str "note", .str "wait"] = true
        · show if inV (.str st.word) [.str "fence", .str "note", .str "wait"] = true then _ else _
          rw [hsp]
          refine iteT ?_
          refine ⟨_, rfl, by show 0 ≤ sizeLine; decide, fun E1 nE1 => ?_⟩
          have sE1 := same_new (o := HO.lst []) nE1
          have sTE := sT.trans sE1
          refine ⟨F, E1, _, rfl, rfl, .inl ⟨.of (sTE _ _ S.f), .of upd_same⟩, _, rfl, ?_⟩
          by_cases hne : fl = []
          · have en : (fl.map fun x => V.ref x.1.T).isEmpty = true := by rw [hne]; rfl
            rw [en]
            exact iteT ⟨true, rfl, sTE, fun _ _ => hne, fun _ => rfl⟩
          · have en : (fl.map fun x => V.ref x.1.T).isEmpty = false := by cases fl with
              | nil => exact absurd rfl hne
              | cons a b => rfl
            rw [en]
            have hw2 := (Kt.same sTE).sq hw
            refine iteF ⟨_, rfl, _, rfl, q, _, _, _, rfl, rfl, (Kt.same sTE).sq ((hd.kt S.k).sq hA), atI_nat hAi, aa, _, _, _, rfl, rfl, hw2, atI_nat (j := 0) rfl, rfl, ⟨_, rfl, sTE, fun z1 z2 => ?_, fun z => absurd z hne⟩⟩
            exact absurd (V.str.inj (of_decide_eq_true z1)) (word_ne_wait z2)
        · have hsp' : inV (.str st.word) [.str "fence", .str "note", .str "wait"] = false := by simpa using hsp
          show if inV (.str st.word) [.str "fence", .str "note", .str "wait"] = true then _ else _
          rw [hsp']
          refine iteF ⟨_, rfl, sT, fun _ z2 => ?_, fun z => ?_⟩
          · exact absurd (bar_sp z2) (by rw [hsp']; exact fun w => by cases w)
          · rw [z]
            exact decide_eq_true (by show ((0 : Nat) : Int) < _; omega)
      · obtain ⟨mb, rfl, s2, hm1, hm2⟩ := hM
        have S2 := S.same s2
        cases mb with
        | false =>
          refine ⟨_, rfl, _, rfl, iteF (iteF ?_)⟩
          have hne : fl ≠ [] := fun z => by cases hm2 z
          have hMle := M.le
          obtain ⟨kk, hkk⟩ : ∃ kk : Nat, kk = fl.length := ⟨_, rfl⟩
          have npos : 1 ≤ fl.length := List.length_pos_iff.mpr hne
          refine ⟨_, rfl, _, rfl, _, rfl, F, _, rfl, .inl (.of S2.f), d, _, a', rfl, S2.dr, by rw [List.length_map]; exact npos, by rw [List.length_map]; omega, by omega, fun H5 ki k5 dr5 hki => ?_⟩
          have S5 := S2.took k5 dr5
          rw [List.length_map] at hki
          obtain ⟨l, r, x, pp, ps, hh, rfl, hki2⟩ : ∃ l r x pp ps hh, fl = l ++ (x, (⟨pp :: ps, hh⟩ : Fly)) :: r ∧ l.length = ki := split_at hki (fun F' hF' => (M.src F' hF').1)
          have hget : ((l ++ (x, (⟨pp :: ps, hh⟩ : Fly)) :: r).map fun x => V.ref x.1.T)[ki]? = some (.ref x.T) := by
            rw [List.map_append, List.getElem?_append_right (by rw [List.length_map]; omega), List.length_map, hki2, Nat.sub_self]; rfl
          have hm : (x, (⟨pp :: ps, hh⟩ : Fly)) ∈ l ++ (x, (⟨pp :: ps, hh⟩ : Fly)) :: r := List.mem_append_right _ List.mem_cons_self
          have A5 := S5.at_ _ hm
          have N5 := S5.new _ hm
          obtain ⟨pas0, hp5, hps5⟩ := A5.p
          cases pas0 with
          | nil => exact absurd hps5.1 (by simp)
          | cons b pas =>
            refine ⟨F, _, _, _, rfl, rfl, .of S5.f, atI_nat hget, ?_⟩
            refine ⟨x.T, _, rfl, .of A5.t, rfl, _, _, rfl, _, _, rfl, rfl, ?_⟩
            have hpb := hps5.tail.1
            have hflat : (l ++ (x, (⟨pp :: ps, hh⟩ : Fly)) :: r).map Prod.snd = l.map Prod.snd ++ ⟨pp :: ps, hh⟩ :: r.map Prod.snd := by rw [List.map_append]; rfl
            have hpo : PtOk mem.length pp := by
              obtain ⟨_, i0, s0, g1, g2, g3, g4⟩ := M.src ⟨pp :: ps, hh⟩ (by rw [hflat]; exact List.mem_append_right _ List.mem_cons_self)
              exact (parts_ok (ho s0 (List.mem_of_getElem? g2)) pp (g3 pp List.mem_cons_self)).mono (by rw [hml]; exact htm)
            have hn5 := A5.n
            refine ⟨_, rfl, _, rfl, .inl ⟨rfl, _, .of hp5⟩, x.pl, _, 0, 0, _, rfl, rfl, hp5, by decide, by decide, pop0 _, rfl, _, rfl, R, b, x.hl, mem, hh, pp, rfl, ?_, ?_, Ne.symm N5.hR, ?_, hpo, ?_, fun H6 kc r6 h6 => ?_⟩
            · rw [upd_ne (Ne.symm N5.pR)]; exact S5.r
            · rw [upd_ne (Ne.symm N5.ph)]; exact A5.h
            · exact PtAt.kq (Kq.upd hp5) _ _ hpb
            · have e2 : hh.length + (pp :: ps).length ≤ 41 := hn5
              omega
            have S6 := S5.move hp5 hps5 kc r6 h6
            have M6 := M
            rw [hflat] at M6
            have M7 := M6.move
            have lm := left_move (ss := ss) (ahead := ahead) (l := l.map Prod.snd) (r := r.map Prod.snd) (p := pp) (ps := ps) (h := hh) (h' := pp.held mem hh)
            rw [hflat] at hb
            have hlen6 : (l ++ (x, (⟨ps, pp.held mem hh⟩ : Fly)) :: r).length ≤ ahead := by
              rw [List.length_append, List.length_cons] at hfl ⊢; exact hfl
            have ek : (l ++ (x, (⟨ps, pp.held mem hh⟩ : Fly)) :: r).map Prod.snd = l.map Prod.snd ++ ⟨ps, pp.held mem hh⟩ :: r.map Prod.snd := by rw [List.map_append]; rfl
            generalize hfl2 : l ++ (x, (⟨ps, pp.held mem hh⟩ : Fly)) :: r = fl2 at S6 hlen6 ek
            rw [← ek] at M7 lm
            refine ⟨_, rfl, F, rfl, ⟨_, .of S6.f⟩, fun D nD => ?_⟩
            have F6 := S6.f
            refine it_gen (walk_list (K := K) (a := F) (xs := fl2.map fun x => V.ref x.1.T)) (fun i H7 => Same H6 H7 ∧ H7 D = some (.lst (((fl2.take i).filter keepB).map fun x => V.ref x.1.T))) ⟨same_new nD, upd_same⟩ (fun i H7 _ z => .of (z.1 _ _ F6)) (fun i y H7 H8 hi z y => ?_) (fun H7 z => ?_)
            · obtain ⟨q1, q2⟩ := z
              obtain ⟨rfl, hy⟩ := y
              rw [List.getElem?_map] at hy
              have hi2 : i < fl2.length := by rw [List.length_map] at hi; exact hi
              have gx := List.getElem?_eq_getElem hi2
              generalize fl2[i] = u at gx
              rw [gx] at hy
              cases hy
              have A6 := S6.at_ u (List.mem_of_getElem? gx)
              obtain ⟨pas6, p6, ps6⟩ := A6.p
              have hcnt : ((fl2.take i).filter keepB).length ≤ 64 := by
                have h1 := List.length_filter_le keepB (fl2.take i)
                have h2 := List.length_take_le i fl2
                rw [List.length_take] at h1
                have := M.le
                omega
              refine ⟨rfl, _, rfl, u.1.T, _, _, _, rfl, rfl, .of (q1 _ _ A6.t), atI_nat (j := 0) rfl, by show 0 ≤ sizeLine; decide, fun Em nE => ?_⟩
              have sE := same_new (o := HO.lst []) nE
              refine ⟨u.1.pl, Em, pas6.map V.ref, rfl, rfl, .inl ⟨.of (sE _ _ (q1 _ _ p6)), .of upd_same⟩, _, rfl, ?_⟩
              have ekb : (!(pas6.map V.ref).isEmpty) = keepB u := by
                unfold keepB
                have := ps6.1
                cases pas6 with
                | nil => cases hz : u.2.ps with
                  | nil => rfl
                  | cons y z => rw [hz] at this; cases this
                | cons y z => cases hz : u.2.ps with
                  | nil => rw [hz] at this; cases this
                  | cons y z => rfl
              rw [ekb, take_snoc gx, List.filter_append, List.map_append]
              cases hk : keepB u with
              | true =>
                refine iteT ⟨_, rfl, _, sE _ _ q2, by rw [List.length_map, sizeLine_eq]; omega, fun c o hc => ?_, ?_⟩
                · rw [upd_ne (ne_of_none hc nD)]; exact sE _ _ (q1 _ _ hc)
                · rw [upd_same, List.filter_cons, if_pos hk]; rfl
              | false =>
                refine iteF ⟨q1.trans sE, ?_⟩
                rw [sE _ _ q2, List.filter_cons, if_neg (by rw [hk]; exact fun z => by cases z)]
                rw [List.filter_nil, List.map_nil, List.append_nil]
            · obtain ⟨q1, q2⟩ := z
              rw [List.length_map, List.take_of_length_le (Nat.le_refl _)] at q2
              have S7 := S6.some_ q1 nD q2
              have ekp : (fl2.filter keepB).map Prod.snd = kept (fl2.map Prod.snd) := by
                unfold kept; rw [List.filter_map]; rfl
              refine ⟨_, by rw [← hflat] at lm; exact Nat.lt_of_lt_of_eq (Nat.lt_succ_self _) lm, D, fl2.filter keepB, ahead, _, a' + 1, _, _, _, _, rfl, by rw [ekp], S7, by rw [ekp]; exact M7, by rw [Part.row_length, hml], by omega, Nat.le_trans (List.length_filter_le _ _) hlen6⟩
        | true =>
          refine ⟨_, rfl, _, rfl, iteT ?_⟩
          refine ⟨_, rfl, by show 0 ≤ sizeLine; decide, fun E1 nE1 => ?_⟩
          have sE1 := same_new (o := HO.lst []) nE1
          have S3 := S2.same sE1
          refine ⟨F, E1, _, rfl, rfl, .inl ⟨.of S3.f, .of upd_same⟩, _, rfl, ?_⟩
          by_cases hne : fl = []
          · have en : (fl.map fun x => V.ref x.1.T).isEmpty = true := by rw [hne]; rfl
            rw [en]
            refine iteT (iteT ?_)
            clear en
            generalize upd H2 E1 (HO.lst []) = H3 at S3 ⊢
            have hok := ho st (List.mem_of_getElem? hst)
            refine ⟨_, rfl, _, rfl, _, rfl, q, _, _, _, rfl, rfl, (hd.kt S3.k).sq hA, atI_nat hAi, aa, st, top, rfl, hsa.kt (hd.kt S3.k), hok, ht, fun H5 pl pas s5 n5 l5 hps => ?_⟩
            refine ⟨by show 0 ≤ sizeLine; decide, fun hl nhl => ?_⟩
            have s6 := same_new (o := HO.lst []) nhl
            refine ⟨by show 2 ≤ sizeLine; decide, fun T nT => ?_⟩
            have s7 := same_new (o := HO.tup [.ref pl, .ref hl]) nT
            have l6 := s6 _ _ l5
            have l7 := s7 _ _ l6
            have h7 := s7 _ _ (upd_same (H := H5) (a := hl) (o := HO.lst []))
            have t7 := upd_same (H := upd H5 hl (.lst [])) (a := T) (o := HO.tup [.ref pl, .ref hl])
            have hp7 := hps.mono (PtAt.kq (Kq.same (s6.trans s7)))
            have hplhl : pl ≠ hl := ne_of_none l5 nhl
            have s57 := s5.trans (s6.trans s7)
            have hl0' : H3 hl = none := s5.free nhl
            generalize upd (upd H5 hl (HO.lst [])) T (HO.tup [.ref pl, .ref hl]) = H7 at s57 l7 h7 t7 hp7 ⊢
            refine ⟨by show 1 ≤ sizeLine; decide, fun L1 nL1 => ?_⟩
            have s8 := same_new (o := HO.lst [.ref T]) nL1
            have s58 := s57.trans s8
            have k58 := S3.k.trans (Kd.same s58)
            refine ⟨_, rfl, _, rfl, q, _, _, _, rfl, rfl, (hd.kt k58).sq hA, atI_nat hAi, aa, st, top, rfl, hsa.kt (hd.kt k58), hok, ht, fun H9 t2 pas2 s9 n9 l9 hps2 => ?_⟩
            refine ⟨by show 0 ≤ sizeLine; decide, fun E2 nE2 => ?_⟩
            have s10 := same_new (o := HO.lst []) nE2
            refine ⟨t2, E2, _, rfl, rfl, .inl ⟨.of (s10 _ _ l9), .of upd_same⟩, .inr ⟨_, rfl, ?_⟩⟩
            have L10 := s10 _ _ (s9 _ _ (upd_same (H := H7) (a := L1) (o := HO.lst [.ref T])))
            have s5A := s58.trans (s9.trans s10)
            have s7A := s8.trans (s9.trans s10)
            generalize upd H9 E2 (HO.lst []) = HA at L10 s5A s7A ⊢
            have e2 : (pas2.map V.ref).isEmpty = st.parts.isEmpty := by
              have := hps2.1
              cases hz : st.parts with
              | nil => rw [hz] at this; cases pas2 with
                | nil => rfl
                | cons _ _ => cases this
              | cons _ _ => rw [hz] at this; cases pas2 with
                | nil => cases this
                | cons _ _ => rfl
            rw [e2]
            have lb := left_begin (ss := ss) (ahead := ahead) (fl := fl.map Prod.snd) hst
            have Mb := M.begin hcl hst (fun z => by rw [hm1 rfl z]; rfl)
            have fl64 : (fl.map fun x => V.ref x.1.T).length ≤ 64 := by rw [List.length_map]; have := M.le; omega
            have hpl2 := parts_len hok ht
            by_cases hpe : st.parts.isEmpty = true
            · rw [hpe]
              have eb : begun st = [] := by unfold begun; rw [if_pos hpe]
              refine ⟨L1, _, _, rfl, rfl, L10, by decide, by decide, by show 1 * _ ≤ sizeLine; decide, fun L2 nL2 => ?_⟩
              have sL2 := same_new (o := HO.lst (List.replicate (Int.toNat 0) [V.ref T]).flatten) nL2
              have s5B := s5A.trans sL2
              have SB := S3.same s5B
              refine ⟨F, L2, _, _, rfl, rfl, SB.f, upd_same, by rw [sizeLine_eq]; show (fl.map fun x => V.ref x.1.T).length + 0 ≤ _; omega, fun F' nF' => ?_⟩
              have sF' := same_new (o := HO.lst ((fl.map fun x => V.ref x.1.T) ++ (List.replicate (Int.toNat 0) [V.ref T]).flatten)) nF'
              have SG := SB.grow (nw := []) sF' nF' (by rw [upd_same]; show some (HO.lst ((fl.map fun x => V.ref x.1.T) ++ [])) = _; rw [List.append_nil, List.append_nil]) (.inl rfl)
              rw [List.append_nil] at SG
              rw [eb, List.append_nil] at lb Mb
              refine ⟨_, rfl, _, _, rfl, rfl, left ss (ahead + 1) (fl.map Prod.snd), by omega, F', fl, ahead + 1, mem, a', _, _, _, _, by push_cast; rfl, rfl, SG, Mb, hml, by omega, by omega⟩
            · have hpe' : st.parts.isEmpty = false := by simpa using hpe
              rw [hpe']
              have eb : begun st = [⟨st.parts, []⟩] := by unfold begun; rw [if_neg (by rw [hpe']; exact fun z => by cases z)]
              refine ⟨L1, _, _, rfl, rfl, L10, by decide, by decide, by show 1 * _ ≤ sizeLine; decide, fun L2 nL2 => ?_⟩
              have sL2 := same_new (o := HO.lst (List.replicate (Int.toNat 1) [V.ref T]).flatten) nL2
              have s5B := s5A.trans sL2
              have SB := S3.same s5B
              refine ⟨F, L2, _, _, rfl, rfl, SB.f, upd_same, by rw [sizeLine_eq]; show (fl.map fun x => V.ref x.1.T).length + 1 ≤ _; omega, fun F' nF' => ?_⟩
              have sF' := same_new (o := HO.lst ((fl.map fun x => V.ref x.1.T) ++ (List.replicate (Int.toNat 1) [V.ref T]).flatten)) nF'
              have s7C := s7A.trans (sL2.trans sF')
              have nplF : pl ≠ F' := fun z => by
                have h9 : upd HA L2 (HO.lst (List.replicate (Int.toNat 1) [V.ref T]).flatten) pl = _ := s7A.trans sL2 _ _ l7
                rw [z] at h9; exact absurd (h9.symm.trans nF') (fun w => by cases w)
              have nhlF : hl ≠ F' := fun z => by
                have h9 : upd HA L2 (HO.lst (List.replicate (Int.toNat 1) [V.ref T]).flatten) hl = _ := s7A.trans sL2 _ _ h7
                rw [z] at h9; exact absurd (h9.symm.trans nF') (fun w => by cases w)
              have SG := S3.grow (F' := F') (nw := [((⟨T, pl, hl⟩ : Fl), (⟨st.parts, []⟩ : Fly))]) (s5B.trans sF') (s5B.free nF') (by rw [upd_same, List.map_append]; rfl) (.inr ⟨_, rfl, ⟨s7C _ _ t7, ⟨pas, s7C _ _ l7, hp7.mono (PtAt.kq (Kq.same s7C))⟩, s7C _ _ h7, by show 0 + st.parts.length ≤ 41; omega⟩, n5, hl0', hplhl, nplF, nhlF⟩)
              rw [eb] at lb Mb
              have em : (fl ++ [((⟨T, pl, hl⟩ : Fl), (⟨st.parts, []⟩ : Fly))]).map Prod.snd = fl.map Prod.snd ++ [⟨st.parts, []⟩] := by rw [List.map_append]; rfl
              rw [← em] at lb Mb
              refine ⟨_, rfl, _, _, rfl, rfl, left ss (ahead + 1) ((fl ++ [((⟨T, pl, hl⟩ : Fl), (⟨st.parts, []⟩ : Fly))]).map Prod.snd), by omega, F', _, ahead + 1, mem, a', _, _, _, _, by push_cast; rfl, rfl, SG, Mb, hml, by omega, by rw [List.length_append]; simp only [List.length_cons, List.length_nil]; omega⟩
          · have en : (fl.map fun x => V.ref x.1.T).isEmpty = false := by cases fl with
              | nil => exact absurd rfl hne
              | cons a b => rfl
            rw [en]
            refine iteF ?_
            refine ⟨_, rfl, d, 2, a', rfl, S3.dr, by decide, by decide, by have := M.le; omega, fun H4 r k4 dr4 hr4 => ?_⟩
            have S4 := S3.took k4 dr4
            refine ⟨rfl, _, rfl, ?_⟩
            by_cases hr0 : r = 0
            · subst hr0
              refine iteDT rfl ?_
              have hok := ho st (List.mem_of_getElem? hst)
              refine ⟨_, rfl, _, rfl, _, rfl, q, _, _, _, rfl, rfl, (hd.kt S4.k).sq hA, atI_nat hAi, aa, st, top, rfl, hsa.kt (hd.kt S4.k), hok, ht, fun H5 pl pas s5 n5 l5 hps => ?_⟩
              refine ⟨by show 0 ≤ sizeLine; decide, fun hl nhl => ?_⟩
              have s6 := same_new (o := HO.lst []) nhl
              refine ⟨by show 2 ≤ sizeLine; decide, fun T nT => ?_⟩
              have s7 := same_new (o := HO.tup [.ref pl, .ref hl]) nT
              have l6 := s6 _ _ l5
              have l7 := s7 _ _ l6
              have h7 := s7 _ _ (upd_same (H := H5) (a := hl) (o := HO.lst []))
              have t7 := upd_same (H := upd H5 hl (.lst [])) (a := T) (o := HO.tup [.ref pl, .ref hl])
              have hp7 := hps.mono (PtAt.kq (Kq.same (s6.trans s7)))
              have hplhl : pl ≠ hl := ne_of_none l5 nhl
              have s57 := s5.trans (s6.trans s7)
              have hl0' : H4 hl = none := s5.free nhl
              generalize upd (upd H5 hl (HO.lst [])) T (HO.tup [.ref pl, .ref hl]) = H7 at s57 l7 h7 t7 hp7 ⊢
              refine ⟨by show 1 ≤ sizeLine; decide, fun L1 nL1 => ?_⟩
              have s8 := same_new (o := HO.lst [.ref T]) nL1
              have s58 := s57.trans s8
              have k58 := S4.k.trans (Kd.same s58)
              refine ⟨_, rfl, _, rfl, q, _, _, _, rfl, rfl, (hd.kt k58).sq hA, atI_nat hAi, aa, st, top, rfl, hsa.kt (hd.kt k58), hok, ht, fun H9 t2 pas2 s9 n9 l9 hps2 => ?_⟩
              refine ⟨by show 0 ≤ sizeLine; decide, fun E2 nE2 => ?_⟩
              have s10 := same_new (o := HO.lst []) nE2
              refine ⟨t2, E2, _, rfl, rfl, .inl ⟨.of (s10 _ _ l9), .of upd_same⟩, .inr ⟨_, rfl, ?_⟩⟩
              have L10 := s10 _ _ (s9 _ _ (upd_same (H := H7) (a := L1) (o := HO.lst [.ref T])))
              have s5A := s58.trans (s9.trans s10)
              have s7A := s8.trans (s9.trans s10)
              generalize upd H9 E2 (HO.lst []) = HA at L10 s5A s7A ⊢
              have e2 : (pas2.map V.ref).isEmpty = st.parts.isEmpty := by
                have := hps2.1
                cases hz : st.parts with
                | nil => rw [hz] at this; cases pas2 with
                  | nil => rfl
                  | cons _ _ => cases this
                | cons _ _ => rw [hz] at this; cases pas2 with
                  | nil => cases this
                  | cons _ _ => rfl
              rw [e2]
              have lb := left_begin (ss := ss) (ahead := ahead) (fl := fl.map Prod.snd) hst
              have Mb := M.begin hcl hst (fun z => by rw [hm1 rfl z]; rfl)
              have fl64 : (fl.map fun x => V.ref x.1.T).length ≤ 64 := by rw [List.length_map]; have := M.le; omega
              have hpl2 := parts_len hok ht
              by_cases hpe : st.parts.isEmpty = true
              · rw [hpe]
                have eb : begun st = [] := by unfold begun; rw [if_pos hpe]
                refine ⟨L1, _, _, rfl, rfl, L10, by decide, by decide, by show 1 * _ ≤ sizeLine; decide, fun L2 nL2 => ?_⟩
                have sL2 := same_new (o := HO.lst (List.replicate (Int.toNat 0) [V.ref T]).flatten) nL2
                have s5B := s5A.trans sL2
                have SB := S4.same s5B
                refine ⟨F, L2, _, _, rfl, rfl, SB.f, upd_same, by rw [sizeLine_eq]; show (fl.map fun x => V.ref x.1.T).length + 0 ≤ _; omega, fun F' nF' => ?_⟩
                have sF' := same_new (o := HO.lst ((fl.map fun x => V.ref x.1.T) ++ (List.replicate (Int.toNat 0) [V.ref T]).flatten)) nF'
                have SG := SB.grow (nw := []) sF' nF' (by rw [upd_same]; show some (HO.lst ((fl.map fun x => V.ref x.1.T) ++ [])) = _; rw [List.append_nil, List.append_nil]) (.inl rfl)
                rw [List.append_nil] at SG
                rw [eb, List.append_nil] at lb Mb
                refine ⟨_, rfl, _, _, rfl, rfl, left ss (ahead + 1) (fl.map Prod.snd), by omega, F', fl, ahead + 1, mem, (a' + 1), _, _, _, _, by push_cast; rfl, rfl, SG, Mb, hml, by omega, by omega⟩
              · have hpe' : st.parts.isEmpty = false := by simpa using hpe
                rw [hpe']
                have eb : begun st = [⟨st.parts, []⟩] := by unfold begun; rw [if_neg (by rw [hpe']; exact fun z => by cases z)]
                refine ⟨L1, _, _, rfl, rfl, L10, by decide, by decide, by show 1 * _ ≤ sizeLine; decide, fun L2 nL2 => ?_⟩
                have sL2 := same_new (o := HO.lst (List.replicate (Int.toNat 1) [V.ref T]).flatten) nL2
                have s5B := s5A.trans sL2
                have SB := S4.same s5B
                refine ⟨F, L2, _, _, rfl, rfl, SB.f, upd_same, by rw [sizeLine_eq]; show (fl.map fun x => V.ref x.1.T).length + 1 ≤ _; omega, fun F' nF' => ?_⟩
                have sF' := same_new (o := HO.lst ((fl.map fun x => V.ref x.1.T) ++ (List.replicate (Int.toNat 1) [V.ref T]).flatten)) nF'
                have s7C := s7A.trans (sL2.trans sF')
                have nplF : pl ≠ F' := fun z => by
                  have h9 : upd HA L2 (HO.lst (List.replicate (Int.toNat 1) [V.ref T]).flatten) pl = _ := s7A.trans sL2 _ _ l7
                  rw [z] at h9; exact absurd (h9.symm.trans nF') (fun w => by cases w)
                have nhlF : hl ≠ F' := fun z => by
                  have h9 : upd HA L2 (HO.lst (List.replicate (Int.toNat 1) [V.ref T]).flatten) hl = _ := s7A.trans sL2 _ _ h7
                  rw [z] at h9; exact absurd (h9.symm.trans nF') (fun w => by cases w)
                have SG := S4.grow (F' := F') (nw := [((⟨T, pl, hl⟩ : Fl), (⟨st.parts, []⟩ : Fly))]) (s5B.trans sF') (s5B.free nF') (by rw [upd_same, List.map_append]; rfl) (.inr ⟨_, rfl, ⟨s7C _ _ t7, ⟨pas, s7C _ _ l7, hp7.mono (PtAt.kq (Kq.same s7C))⟩, s7C _ _ h7, by show 0 + st.parts.length ≤ 41; omega⟩, n5, hl0', hplhl, nplF, nhlF⟩)
                rw [eb] at lb Mb
                have em : (fl ++ [((⟨T, pl, hl⟩ : Fl), (⟨st.parts, []⟩ : Fly))]).map Prod.snd = fl.map Prod.snd ++ [⟨st.parts, []⟩] := by rw [List.map_append]; rfl
                rw [← em] at lb Mb
                refine ⟨_, rfl, _, _, rfl, rfl, left ss (ahead + 1) ((fl ++ [((⟨T, pl, hl⟩ : Fl), (⟨st.parts, []⟩ : Fly))]).map Prod.snd), by omega, F', _, ahead + 1, mem, (a' + 1), _, _, _, _, by push_cast; rfl, rfl, SG, Mb, hml, by omega, by rw [List.length_append]; simp only [List.length_cons, List.length_nil]; omega⟩
            · refine iteDF (fun z => hr0 (by have := V.int.inj z; omega)) ?_
              have hMle := M.le
              obtain ⟨kk, hkk⟩ : ∃ kk : Nat, kk = fl.length := ⟨_, rfl⟩
              have npos : 1 ≤ fl.length := List.length_pos_iff.mpr hne
              refine ⟨_, rfl, _, rfl, _, rfl, F, _, rfl, .inl (.of S4.f), d, _, (a' + 1), rfl, S4.dr, by rw [List.length_map]; exact npos, by rw [List.length_map]; omega, by omega, fun H5 ki k5 dr5 hki => ?_⟩
              have S5 := S4.took k5 dr5
              rw [List.length_map] at hki
              obtain ⟨l, r, x, pp, ps, hh, rfl, hki2⟩ : ∃ l r x pp ps hh, fl = l ++ (x, (⟨pp :: ps, hh⟩ : Fly)) :: r ∧ l.length = ki := split_at hki (fun F' hF' => (M.src F' hF').1)
              have hget : ((l ++ (x, (⟨pp :: ps, hh⟩ : Fly)) :: r).map fun x => V.ref x.1.T)[ki]? = some (.ref x.T) := by
                rw [List.map_append, List.getElem?_append_right (by rw [List.length_map]; omega), List.length_map, hki2, Nat.sub_self]; rfl
              have hm : (x, (⟨pp :: ps, hh⟩ : Fly)) ∈ l ++ (x, (⟨pp :: ps, hh⟩ : Fly)) :: r := List.mem_append_right _ List.mem_cons_self
              have A5 := S5.at_ _ hm
              have N5 := S5.new _ hm
              obtain ⟨pas0, hp5, hps5⟩ := A5.p
              cases pas0 with
              | nil => exact absurd hps5.1 (by simp)
              | cons b pas =>
                refine ⟨F, _, _, _, rfl, rfl, .of S5.f, atI_nat hget, ?_⟩
                refine ⟨x.T, _, rfl, .of A5.t, rfl, _, _, rfl, _, _, rfl, rfl, ?_⟩
                have hpb := hps5.tail.1
                have hflat : (l ++ (x, (⟨pp :: ps, hh⟩ : Fly)) :: r).map Prod.snd = l.map Prod.snd ++ ⟨pp :: ps, hh⟩ :: r.map Prod.snd := by rw [List.map_append]; rfl
                have hpo : PtOk mem.length pp := by
                  obtain ⟨_, i0, s0, g1, g2, g3, g4⟩ := M.src ⟨pp :: ps, hh⟩ (by rw [hflat]; exact List.mem_append_right _ List.mem_cons_self)
                  exact (parts_ok (ho s0 (List.mem_of_getElem? g2)) pp (g3 pp List.mem_cons_self)).mono (by rw [hml]; exact htm)
                have hn5 := A5.n
                refine ⟨_, rfl, _, rfl, .inl ⟨rfl, _, .of hp5⟩, x.pl, _, 0, 0, _, rfl, rfl, hp5, by decide, by decide, pop0 _, rfl, _, rfl, R, b, x.hl, mem, hh, pp, rfl, ?_, ?_, Ne.symm N5.hR, ?_, hpo, ?_, fun H6 kc r6 h6 => ?_⟩
                · rw [upd_ne (Ne.symm N5.pR)]; exact S5.r
                · rw [upd_ne (Ne.symm N5.ph)]; exact A5.h
                · exact PtAt.kq (Kq.upd hp5) _ _ hpb
                · have e2 : hh.length + (pp :: ps).length ≤ 41 := hn5
                  omega
                have S6 := S5.move hp5 hps5 kc r6 h6
                have M6 := M
                rw [hflat] at M6
                have M7 := M6.move
                have lm := left_move (ss := ss) (ahead := ahead) (l := l.map Prod.snd) (r := r.map Prod.snd) (p := pp) (ps := ps) (h := hh) (h' := pp.held mem hh)
                rw [hflat] at hb
                have hlen6 : (l ++ (x, (⟨ps, pp.held mem hh⟩ : Fly)) :: r).length ≤ ahead := by
                  rw [List.length_append, List.length_cons] at hfl ⊢; exact hfl
                have ek : (l ++ (x, (⟨ps, pp.held mem hh⟩ : Fly)) :: r).map Prod.snd = l.map Prod.snd ++ ⟨ps, pp.held mem hh⟩ :: r.map Prod.snd := by rw [List.map_append]; rfl
                generalize hfl2 : l ++ (x, (⟨ps, pp.held mem hh⟩ : Fly)) :: r = fl2 at S6 hlen6 ek
                rw [← ek] at M7 lm
                refine ⟨_, rfl, F, rfl, ⟨_, .of S6.f⟩, fun D nD => ?_⟩
                have F6 := S6.f
                refine it_gen (walk_list (K := K) (a := F) (xs := fl2.map fun x => V.ref x.1.T)) (fun i H7 => Same H6 H7 ∧ H7 D = some (.lst (((fl2.take i).filter keepB).map fun x => V.ref x.1.T))) ⟨same_new nD, upd_same⟩ (fun i H7 _ z => .of (z.1 _ _ F6)) (fun i y H7 H8 hi z y => ?_) (fun H7 z => ?_)
                · obtain ⟨q1, q2⟩ := z
                  obtain ⟨rfl, hy⟩ := y
                  rw [List.getElem?_map] at hy
                  have hi2 : i < fl2.length := by rw [List.length_map] at hi; exact hi
                  have gx := List.getElem?_eq_getElem hi2
                  generalize fl2[i] = u at gx
                  rw [gx] at hy
                  cases hy
                  have A6 := S6.at_ u (List.mem_of_getElem? gx)
                  obtain ⟨pas6, p6, ps6⟩ := A6.p
                  have hcnt : ((fl2.take i).filter keepB).length ≤ 64 := by
                    have h1 := List.length_filter_le keepB (fl2.take i)
                    have h2 := List.length_take_le i fl2
                    rw [List.length_take] at h1
                    have := M.le
                    omega
                  refine ⟨rfl, _, rfl, u.1.T, _, _, _, rfl, rfl, .of (q1 _ _ A6.t), atI_nat (j := 0) rfl, by show 0 ≤ sizeLine; decide, fun Em nE => ?_⟩
                  have sE := same_new (o := HO.lst []) nE
                  refine ⟨u.1.pl, Em, pas6.map V.ref, rfl, rfl, .inl ⟨.of (sE _ _ (q1 _ _ p6)), .of upd_same⟩, _, rfl, ?_⟩
                  have ekb : (!(pas6.map V.ref).isEmpty) = keepB u := by
                    unfold keepB
                    have := ps6.1
                    cases pas6 with
                    | nil => cases hz : u.2.ps with
                      | nil => rfl
                      | cons y z => rw [hz] at this; cases this
                    | cons y z => cases hz : u.2.ps with
                      | nil => rw [hz] at this; cases this
                      | cons y z => rfl
                  rw [ekb, take_snoc gx, List.filter_append, List.map_append]
                  cases hk : keepB u with
                  | true =>
                    refine iteT ⟨_, rfl, _, sE _ _ q2, by rw [List.length_map, sizeLine_eq]; omega, fun c o hc => ?_, ?_⟩
                    · rw [upd_ne (ne_of_none hc nD)]; exact sE _ _ (q1 _ _ hc)
                    · rw [upd_same, List.filter_cons, if_pos hk]; rfl
                  | false =>
                    refine iteF ⟨q1.trans sE, ?_⟩
                    rw [sE _ _ q2, List.filter_cons, if_neg (by rw [hk]; exact fun z => by cases z)]
                    rw [List.filter_nil, List.map_nil, List.append_nil]
                · obtain ⟨q1, q2⟩ := z
                  rw [List.length_map, List.take_of_length_le (Nat.le_refl _)] at q2
                  have S7 := S6.some_ q1 nD q2
                  have ekp : (fl2.filter keepB).map Prod.snd = kept (fl2.map Prod.snd) := by
                    unfold kept; rw [List.filter_map]; rfl
                  refine ⟨_, by rw [← hflat] at lm; exact Nat.lt_of_lt_of_eq (Nat.lt_succ_self _) lm, D, fl2.filter keepB, ahead, _, (a' + 1) + 1, _, _, _, _, rfl, by rw [ekp], S7, by rw [ekp]; exact M7, by rw [Part.row_length, hml], by omega, Nat.le_trans (List.length_filter_le _ _) hlen6⟩
    · have ltF : ¬ ((ahead : Nat) : Int) < (((as.map V.ref).length : Nat) : Int) := by rw [e]; omega
      refine ⟨_, rfl, _, rfl, q, _, rfl, .inr ((hd.kt S.k).sq hA), _, _, rfl, rfl, _, rfl, iteDF ltF ?_⟩
      refine ⟨_, rfl, by show 0 ≤ sizeLine; decide, fun E1 nE1 => ?_⟩
      have sE1 := same_new (o := HO.lst []) nE1
      have S1 := S.same sE1
      refine ⟨F, E1, _, rfl, rfl, .inl ⟨.of S1.f, .of upd_same⟩, _, rfl, ?_⟩
      by_cases hne : fl = []
      · subst hne
        refine iteF ?_
        have hae : ahead = ss.length := by have := M.le; omega
        have hdue := M.stop hae
        refine ⟨_, rfl, R, _, rfl, .inl ⟨.of S1.r, fun t nt => ?_⟩⟩
        have st := same_new (o := HO.tup (mem.map V.int)) nt
        exact hQ _ t a' (S1.k.trans (Kd.same st)) (S1.dr.same st) (by omega) (by rw [upd_same, hdue])
      · have en : (!(fl.map fun x => V.ref x.1.T).isEmpty) = true := by cases fl with
          | nil => exact absurd rfl hne
          | cons a b => rfl
        rw [en]
        refine iteT ⟨fun σ' H' => ∃ m', m' < left ss ahead (fl.map Prod.snd) ∧ ∃ F fl ahead mem a' x7 x8 x9 x10, σ' = [some (.ref d), some (.ref q), some (.ref p), some (.int ((wd : Nat) : Int)), some (.ref R), some (.int ((ahead : Nat) : Int)), some (.ref F), x7, x8, x9, x10] ∧ m' = left ss ahead (fl.map Prod.snd) ∧ Sky H R d mem a' H' F fl ∧ Moved ss (plain ss m) ahead (fl.map Prod.snd) mem ∧ mem.length = m.length ∧ a' + 2 * m' ≤ a + 5400 ∧ fl.length ≤ ahead, fun σ' H' z => z, ?_⟩
        refine ⟨_, rfl, _, rfl, q, _, rfl, .inr ((hd.kt S1.k).sq hA), _, _, rfl, rfl, _, rfl, iteDF ltF ?_⟩
        refine ⟨fun σ' H' => σ' = [some (.ref d), some (.ref q), some (.ref p), some (.int ((wd : Nat) : Int)), some (.ref R), some (.int ((ahead : Nat) : Int)), some (.ref F), some (.bl false), x8, x9, x10] ∧ Same (upd H1 E1 (.lst [])) H', ?_, fun σ' H2 hM => ?_⟩
        · refine ⟨_, rfl, _, rfl, q, _, rfl, .inr ((hd.kt S1.k).sq hA), _, _, rfl, rfl, _, rfl, iteDF ltF (iteF ⟨rfl, fun b o h => h⟩)⟩
        · obtain ⟨rfl, s2⟩ := hM
          have S2 := S1.same s2
          refine ⟨_, rfl, _, rfl, iteF (iteF ?_)⟩
          have hMle := M.le
          obtain ⟨kk, hkk⟩ : ∃ kk : Nat, kk = fl.length := ⟨_, rfl⟩
          have npos : 1 ≤ fl.length := List.length_pos_iff.mpr hne
          refine ⟨_, rfl, _, rfl, _, rfl, F, _, rfl, .inl (.of S2.f), d, _, a', rfl, S2.dr, by rw [List.length_map]; exact npos, by rw [List.length_map]; omega, by omega, fun H5 ki k5 dr5 hki => ?_⟩
          have S5 := S2.took k5 dr5
          rw [List.length_map] at hki
          obtain ⟨l, r, x, pp, ps, hh, rfl, hki2⟩ : ∃ l r x pp ps hh, fl = l ++ (x, (⟨pp :: ps, hh⟩ : Fly)) :: r ∧ l.length = ki := split_at hki (fun F' hF' => (M.src F' hF').1)
          have hget : ((l ++ (x, (⟨pp :: ps, hh⟩ : Fly)) :: r).map fun x => V.ref x.1.T)[ki]? = some (.ref x.T) := by
            rw [List.map_append, List.getElem?_append_right (by rw [List.length_map]; omega), List.length_map, hki2, Nat.sub_self]; rfl
          have hm : (x, (⟨pp :: ps, hh⟩ : Fly)) ∈ l ++ (x, (⟨pp :: ps, hh⟩ : Fly)) :: r := List.mem_append_right _ List.mem_cons_self
          have A5 := S5.at_ _ hm
          have N5 := S5.new _ hm
          obtain ⟨pas0, hp5, hps5⟩ := A5.p
          cases pas0 with
          | nil => exact absurd hps5.1 (by simp)
          | cons b pas =>
            refine ⟨F, _, _, _, rfl, rfl, .of S5.f, atI_nat hget, ?_⟩
            refine ⟨x.T, _, rfl, .of A5.t, rfl, _, _, rfl, _, _, rfl, rfl, ?_⟩
            have hpb := hps5.tail.1
            have hflat : (l ++ (x, (⟨pp :: ps, hh⟩ : Fly)) :: r).map Prod.snd = l.map Prod.snd ++ ⟨pp :: ps, hh⟩ :: r.map Prod.snd := by rw [List.map_append]; rfl
            have hpo : PtOk mem.length pp := by
              obtain ⟨_, i0, s0, g1, g2, g3, g4⟩ := M.src ⟨pp :: ps, hh⟩ (by rw [hflat]; exact List.mem_append_right _ List.mem_cons_self)
              exact (parts_ok (ho s0 (List.mem_of_getElem? g2)) pp (g3 pp List.mem_cons_self)).mono (by rw [hml]; exact htm)
            have hn5 := A5.n
            refine ⟨_, rfl, _, rfl, .inl ⟨rfl, _, .of hp5⟩, x.pl, _, 0, 0, _, rfl, rfl, hp5, by decide, by decide, pop0 _, rfl, _, rfl, R, b, x.hl, mem, hh, pp, rfl, ?_, ?_, Ne.symm N5.hR, ?_, hpo, ?_, fun H6 kc r6 h6 => ?_⟩
            · rw [upd_ne (Ne.symm N5.pR)]; exact S5.r
            · rw [upd_ne (Ne.symm N5.ph)]; exact A5.h
            · exact PtAt.kq (Kq.upd hp5) _ _ hpb
            · have e2 : hh.length + (pp :: ps).length ≤ 41 := hn5
              omega
            have S6 := S5.move hp5 hps5 kc r6 h6
            have M6 := M
            rw [hflat] at M6
            have M7 := M6.move
            have lm := left_move (ss := ss) (ahead := ahead) (l := l.map Prod.snd) (r := r.map Prod.snd) (p := pp) (ps := ps) (h := hh) (h' := pp.held mem hh)
            rw [hflat] at hb
            have hlen6 : (l ++ (x, (⟨ps, pp.held mem hh⟩ : Fly)) :: r).length ≤ ahead := by
              rw [List.length_append, List.length_cons] at hfl ⊢; exact hfl
            have ek : (l ++ (x, (⟨ps, pp.held mem hh⟩ : Fly)) :: r).map Prod.snd = l.map Prod.snd ++ ⟨ps, pp.held mem hh⟩ :: r.map Prod.snd := by rw [List.map_append]; rfl
            generalize hfl2 : l ++ (x, (⟨ps, pp.held mem hh⟩ : Fly)) :: r = fl2 at S6 hlen6 ek
            rw [← ek] at M7 lm
            refine ⟨_, rfl, F, rfl, ⟨_, .of S6.f⟩, fun D nD => ?_⟩
            have F6 := S6.f
            refine it_gen (walk_list (K := K) (a := F) (xs := fl2.map fun x => V.ref x.1.T)) (fun i H7 => Same H6 H7 ∧ H7 D = some (.lst (((fl2.take i).filter keepB).map fun x => V.ref x.1.T))) ⟨same_new nD, upd_same⟩ (fun i H7 _ z => .of (z.1 _ _ F6)) (fun i y H7 H8 hi z y => ?_) (fun H7 z => ?_)
            · obtain ⟨q1, q2⟩ := z
              obtain ⟨rfl, hy⟩ := y
              rw [List.getElem?_map] at hy
              have hi2 : i < fl2.length := by rw [List.length_map] at hi; exact hi
              have gx := List.getElem?_eq_getElem hi2
              generalize fl2[i] = u at gx
              rw [gx] at hy
              cases hy
              have A6 := S6.at_ u (List.mem_of_getElem? gx)
              obtain ⟨pas6, p6, ps6⟩ := A6.p
              have hcnt : ((fl2.take i).filter keepB).length ≤ 64 := by
                have h1 := List.length_filter_le keepB (fl2.take i)
                have h2 := List.length_take_le i fl2
                rw [List.length_take] at h1
                have := M.le
                omega
              refine ⟨rfl, _, rfl, u.1.T, _, _, _, rfl, rfl, .of (q1 _ _ A6.t), atI_nat (j := 0) rfl, by show 0 ≤ sizeLine; decide, fun Em nE => ?_⟩
              have sE := same_new (o := HO.lst []) nE
              refine ⟨u.1.pl, Em, pas6.map V.ref, rfl, rfl, .inl ⟨.of (sE _ _ (q1 _ _ p6)), .of upd_same⟩, _, rfl, ?_⟩
              have ekb : (!(pas6.map V.ref).isEmpty) = keepB u := by
                unfold keepB
                have := ps6.1
                cases pas6 with
                | nil => cases hz : u.2.ps with
                  | nil => rfl
                  | cons y z => rw [hz] at this; cases this
                | cons y z => cases hz : u.2.ps with
                  | nil => rw [hz] at this; cases this
                  | cons y z => rfl
              rw [ekb, take_snoc gx, List.filter_append, List.map_append]
              cases hk : keepB u with
              | true =>
                refine iteT ⟨_, rfl, _, sE _ _ q2, by rw [List.length_map, sizeLine_eq]; omega, fun c o hc => ?_, ?_⟩
                · rw [upd_ne (ne_of_none hc nD)]; exact sE _ _ (q1 _ _ hc)
                · rw [upd_same, List.filter_cons, if_pos hk]; rfl
              | false =>
                refine iteF ⟨q1.trans sE, ?_⟩
                rw [sE _ _ q2, List.filter_cons, if_neg (by rw [hk]; exact fun z => by cases z)]
                rw [List.filter_nil, List.map_nil, List.append_nil]
            · obtain ⟨q1, q2⟩ := z
              rw [List.length_map, List.take_of_length_le (Nat.le_refl _)] at q2
              have S7 := S6.some_ q1 nD q2
              have ekp : (fl2.filter keepB).map Prod.snd = kept (fl2.map Prod.snd) := by
                unfold kept; rw [List.filter_map]; rfl
              refine ⟨_, by rw [← hflat] at lm; exact Nat.lt_of_lt_of_eq (Nat.lt_succ_self _) lm, D, fl2.filter keepB, ahead, _, a' + 1, _, _, _, _, rfl, by rw [ekp], S7, by rw [ekp]; exact M7, by rw [Part.row_length, hml], by omega, Nat.le_trans (List.length_filter_le _ _) hlen6⟩
end
end K24
end
section
set_option Elab.async false
set_option linter.all false
set_option maxRecDepth 100000
set_option maxHeartbeats 2000000
namespace K24
open PySem PySem.Spec PyProof.Rows L2 C8
/-- all but the draw at d and the tables stays -/
def Ky (d : Addr) (H H' : Hp) : Prop := ∀ b o, H b = some o → b ≠ d → (∀ ps, o ≠ .tbl ps) → H' b = some o
section
variable {H H' H1 : Hp} {d d' : Addr} {a a' : Nat}
theorem Ky.refl : Ky d H H := fun _ _ h _ _ => h
theorem Ky.trans (x : Ky d H H1) (y : Ky d H1 H') : Ky d H H' := fun b o h n t => y b o (x b o h n t) n t
theorem Ky.same (s : Same H H') : Ky d H H' := fun b o h _ _ => s b o h
theorem Ky.kd (k : Kd d H H') : Ky d H H' := fun b o h n _ => k.kb b o h n
theorem Ky.ext (e : LamX.ExtN H H') : Ky d H H' := fun b o h _ t => e b o h t
theorem DrAt.ky (k : Ky d H H') (hd : DrAt H d a) (ne : d' ≠ d) (h : DrAt H d' a') : DrAt H' d' a' := by
  obtain ⟨kvs, h0⟩ := hd.dk
  obtain ⟨c, l, ns, h1, h2, h3⟩ := h
  exact ⟨c, l, ns, k _ _ h1 ne (fun _ z => by cases z), k _ _ h2 (fun z => by rw [z, h0] at h2; cases h2) (fun _ z => by cases z), h3⟩
theorem DrAt.ext (e : LamX.ExtN H H') (h : DrAt H d a) : DrAt H' d a := by
  obtain ⟨c, l, ns, h1, h2, h3⟩ := h
  exact ⟨c, l, ns, e _ _ h1 (fun _ z => by cases z), e _ _ h2 (fun _ z => by cases z), h3⟩
theorem Kt.ext (e : LamX.ExtN H H') : Kt H H' := fun p ys z => by
  rcases z with z | ⟨o, z⟩
  · exact .inl (e _ _ z (fun _ w => by cases w))
  · exact .inr ⟨o, e _ _ z (fun _ w => by cases w)⟩
theorem tabs_kd {T : List (Addr × Str)} (k : Kd d H H') (hd : DrAt H d a) (t : LamX.Tabs T H) : LamX.Tabs T H' := by
  obtain ⟨kvs, h0⟩ := hd.dk
  refine tabs_but t fun b o hb => ⟨fun ps e => ?_, fun c q e => ?_⟩
  · exact k.kb _ _ hb (fun z => by rw [z, h0] at hb; rw [e] at hb; cases hb)
  · exact k.kb _ _ hb (fun z => by rw [z, h0] at hb; rw [e] at hb; cases hb)
end
/-! ### tuples of numbers are alike -/
def intsD (m : List Int) : PyData := .tuple (m.map PyData.int)
theorem dp_ints {K : PySem.W.Frag} {H : Hp} {t : Addr} {m : List Int} (h : SqT K H t (m.map V.int)) : Dp K H (.ref t) (intsD m) := by
  refine .tup h ?_
  clear h
  induction m with
  | nil => exact .nil
  | cons x xs ih => exact .cons (.int x) ih
theorem lay_ints : ∀ m : List Int, PyData.canLayAll0 (m.map PyData.int) = true
  | [] => rfl
  | x :: xs => by
    show (true && PyData.canLayAll0 (xs.map PyData.int)) = true
    rw [lay_ints xs]; rfl
theorem deepAll_ints : ∀ m : List Int, PyData.depthAll (m.map PyData.int) ≤ 1
  | [] => by decide
  | x :: xs => by
    have := deepAll_ints xs
    show max _ (PyData.depthAll (xs.map PyData.int)) ≤ 1
    exact Nat.max_le.mpr ⟨Nat.zero_le 1, this⟩
theorem shaped_ints (m : List Int) : SeqAt.shaped (intsD m) = true := by
  have h1 : (intsD m).canLay0 = true := lay_ints m
  have h2 : (intsD m).depth ≤ 64 := by
    have := deepAll_ints m
    show PyData.depthAll (m.map PyData.int) + 1 ≤ 64
    omega
  unfold SeqAt.shaped
  rw [h1, decide_eq_true h2]; rfl
theorem eqv_ints (m : List Int) : PyData.eqv (intsD m) (intsD m) = true := SeqAt.eqv_refl _ (lay_ints m)
end K24
end
section
set_option Elab.async false
set_option linter.all false
set_option maxRecDepth 100000
set_option maxHeartbeats 2000000
namespace K24
open PySem PySem.Spec PyProof.Rows L2 C8
section
variable {P : Program} {w : World} {K : PySem.W.Frag} {mg : Str → Option Value} {base : Heap}
def Good (K : PySem.W.Frag) (top : Nat) (m : Mem) (ss : List Step) (H : Hp) (c : Addr) : Prop := ∃ s2 : List Step, LsAt K H c s2 ∧ AllOk top s2 ∧ Clear s2 ∧ plain s2 m = plain ss m ∧ 1 ≤ s2.length ∧ s2.length ≤ 64
theorem Good.kt {K : PySem.W.Frag} {top : Nat} {m : Mem} {ss : List Step} {H H' : Hp} {c : Addr} (k : Kt H H') (g : Good K top m ss H c) : Good K top m ss H' c := by
  obtain ⟨s2, h1, h2⟩ := g
  exact ⟨s2, h1.kt k, h2⟩
def spLaw (K : PySem.W.Frag) : Sp := fun vs H Q _ => ∃ (p : Addr) (ns : List Int), vs = [.ref p] ∧ SqL K H p (ns.map V.int) ∧ ns.length ≤ 63 ∧ LamX.Tabs (lamT K) H ∧ ∀ H', Q (.bl true) H'
abbrev NLaw : List Str := ["_law_script", "_law_draw", "_law_turn", "_law_top", "_law_k", "_law_steps", "_law_memory", "_law_closed", "_law_all_of", "_law_step_here", "_law_due", "_law_some", "_law_width"]
theorem scLaw : FnScope NLaw ["_law_script"] (defScope sLaw) := ⟨rfl, rfl, rfl, by decide +kernel, rfl, by decide +kernel, by decide +kernel⟩
theorem fn_Law (E : Wd w K mg) (TB : LamX.TabB base mg (He.cT K lsAt).1 (He.cT K lsAt).2) {fd : FuncData} (F : FunD K "law" "law" (defArgs sLaw) (defBody sLaw) (defScope sLaw) [] [] (He.ga K "law") fd) : FnOk P w K mg base C8.CX0 14 (He.ga K "law") fd ["_law_script"] (spLaw K) := by
  refine F.ok scLaw (fun vs H Q E h => ?_) (fun cdv A outer s H vs Q E' hr h => ⟨_, PSs.nox (pss_cons (ps_for PassesOwn.never rfl (pi_list (C8.pe_c (cal_LawDraws E) hr (by decide) (by rfl) (pa_cons (pv 0) pa_nil))) (pg_name (i := 1) scLaw.nd rfl (Or.inr rfl)) (pss_one (ps_for PassesOwn.never rfl (pi_range1 (by rfl) (n_range E) (pa_cons pe_int pa_nil)) (pg_name (i := 2) scLaw.nd rfl (Or.inl rfl)) (pss_cons (ps_set (i := 3) scLaw.nd rfl (.inl rfl) (pe_op op_add pe_int (C8.pe_c (cal_LawTake E) hr (by decide) (by rfl) (pa_cons (pv 1) (pa_cons pe_int pa_nil)))))
      (pss_cons (ps_par (i := 5) (j := 6) (by rfl) scLaw.nd rfl rfl (by decide) rfl rfl (pa_cons (C8.pe_c (cal_LawList E) hr (by decide) (by rfl) (pa_cons (pv 1) (pa_cons pe_int (pa_cons (pv 3) pa_nil)))) (pa_cons (pe_callTy call_tuple_of (by rfl) (n_tuple E) (by decide +kernel) (pa_cons (pe_lc (own := [("_law_k", 4)]) (by rfl) scLaw.nd (pi_range1 (by rfl) (n_range E) (pa_cons (pv 3) pa_nil)) (blkOk_by (own := [("_law_k", 4)]) (N := NLaw) (sc := defScope sLaw) (by decide +kernel)) (fun _ _ _ _ _ => (pg_name (i := 4) scLaw.nd rfl (Or.inl rfl))) (fun _ _ _ _ _ => pts_nil) (fun _ _ _ _ _ => (C8.pe_c (cal_LawTake E) hr (by decide) (by rfl) (pa_cons (pv 1) (pa_cons pe_int pa_nil))))) pa_nil)) pa_nil)) (by rfl))
      (pss_cons (ps_set (i := 7) scLaw.nd rfl (.inl rfl) (C8.pe_c (cal_Fenced E) hr (by decide) (by rfl) (pa_cons (pv 5) (pa_cons (C8.pe_c (cal_Fewest E TB) hr (by decide) (by rfl) (pa_cons (pv 5) pa_nil)) pa_nil))))
      (pss_cons (ps_set (i := 8) scLaw.nd rfl (.inl rfl) (pe_tup pa_nil))
      (pss_cons (ps_for PassesOwn.never rfl (pi_tup (pv 5)) (pg_name (i := 9) scLaw.nd rfl (Or.inl rfl)) (pss_one (ps_set (i := 8) scLaw.nd rfl (.inl rfl) (pe_op op_catA (pv 8) (pe_tup (pa_cons (pe_tup (pa_cons pe_str pa_nil)) (pa_cons (pv 9) pa_nil)))))))
      (pss_cons (ps_set (i := 10) scLaw.nd rfl (.inl rfl) (C8.pe_c (cal_LawPlainly E) hr (by decide) (by rfl) (pa_cons (pv 5) (pa_cons (pv 6) pa_nil))))
      (pss_one (ps_for PassesOwn.never rfl (pi_list (pe_op op_cat (pe_lst (pa_cons (pv 7) (pa_cons (pv 8) pa_nil))) (pe_op op_rep (pe_lst (pa_cons (pv 5) pa_nil)) (pe_callTy call_int1 (by rfl) (n_int E) (by decide +kernel) (pa_cons (C8.pe_c (cal_IsClear E) hr (by decide) (by rfl) (pa_cons (pv 5) pa_nil)) pa_nil))))) (pg_name (i := 11) scLaw.nd rfl (Or.inl rfl)) (pss_cons (ps_if (PW.pt (pw_or (pt_not (pt_val (C8.pe_c (cal_IsClear E) hr (by decide) (by rfl) (pa_cons (pv 11) pa_nil)))) (pw_or (pt_cmpR (op_neD hr.units) (C8.pe_c (cal_ListDone E) hr (by decide) (by rfl) (pa_cons (pv 6) (pa_cons (pv 11) pa_nil))) (pv 10) (nomark _)) (pw_or1 (pt_cmpR (op_neD hr.units) (C8.pe_c (cal_LawPlainly E) hr (by decide) (by rfl) (pa_cons (pv 11) (pa_cons (pv 6) pa_nil))) (pv 10) (nomark _)))))) (pss_one (ps_ret pe_bl)) pss_nil)
      (pss_one (ps_for PassesOwn.never rfl (pi_tup (pe_tup (pa_cons pe_int (pa_cons pe_int (pa_cons pe_int pa_nil))))) (pg_name (i := 12) scLaw.nd rfl (Or.inl rfl)) (pss_one (ps_if (pt_cmpR (op_neD hr.units) (C8.pe_c (cal_LawMoved E) hr (by decide) (by rfl) (pa_cons (pv 1) (pa_cons (pv 11) (pa_cons (pv 6) (pa_cons (pv 12) pa_nil))))) (pv 10) (nomark _)) (pss_one (ps_ret pe_bl)) pss_nil))))))))))))))))
      (pss_one (ps_ret pe_bl))), ?_⟩)
  · obtain ⟨p, ns, rfl, _⟩ := h; rfl
  · obtain ⟨p, ns, rfl, hp, hl, hT, hQ⟩ := h
    refine ⟨_, rfl, p, ns, rfl, hp, hl, fun H1 q ds s1 hq hnd hdr hdl => ⟨q, rfl, ⟨_, .of hq⟩, ?_⟩⟩
    refine for_it (walk_list (K := K) (a := q) (xs := ds.map V.ref)) (fun i σ H2 => (∃ x1 x2 x3 x4 x5 x6 x7 x8 x9 x10 x11 x12, σ = [some (.ref p), x1, x2, x3, x4, x5, x6, x7, x8, x9, x10, x11, x12]) ∧ H2 q = some (.lst (ds.map V.ref)) ∧ LamX.Tabs (lamT K) H2 ∧ ∀ (j : Nat) (d : Addr), i ≤ j → ds[j]? = some d → DrAt H2 d (89 * j)) ⟨⟨_, _, _, _, _, _, _, _, _, _, _, _, rfl⟩, hq, hT.ext s1, fun j d _ e => hdr j d e⟩ (fun i σ H2 _ z => .of z.2.1) (fun i x σ H2 H3 hi z y => ?_) (fun σ H2 z => hQ _)
    obtain ⟨⟨x1, x2, x3, x4, x5, x6, x7, x8, x9, x10, x11, x12, rfl⟩, zq, zT, zd⟩ := z
    obtain ⟨rfl, hx⟩ := y
    obtain ⟨d, rfl, hd⟩ := mapref_get hx
    have hdi := zd i d (Nat.le_refl _) hd
    have hi6 : i < 6 := by rw [List.length_map] at hi; omega
    refine ⟨_, rfl, by decide, by decide, ?_⟩
    refine for_it (walk_range (lo := 0) (n := Int.toNat 3)) (fun t σ H4 => (∃ x2 x3 x4 x5 x6 x7 x8 x9 x10 x11 x12, σ = [some (.ref p), some (.ref d), x2, x3, x4, x5, x6, x7, x8, x9, x10, x11, x12]) ∧ Ky d H3 H4 ∧ LamX.Tabs (lamT K) H4 ∧ ∃ a', DrAt H4 d a' ∧ a' ≤ 89 * i + 50000 * t) ⟨⟨_, _, _, _, _, _, _, _, _, _, _, rfl⟩, Ky.refl, zT, _, hdi, by omega⟩ (fun _ _ _ _ _ => trivial) (fun t x σ H4 H5 ht z y => ?_) (fun σ H4 z => ?_)
    · obtain ⟨⟨x2, x3, x4, x5, x6, x7, x8, x9, x10, x11, x12, rfl⟩, k0, T0, a0, dr0, ha0⟩ := z
      obtain ⟨rfl, rfl⟩ := y
      have ht3 : t < 3 := ht
      refine ⟨_, rfl, d, 14, a0, rfl, dr0, by decide, by decide, by omega, fun H6 tv k1 dr1 htv => ?_⟩
      have T1 := tabs_kd k1 dr0 T0
      refine ⟨_, _, rfl, rfl, ?_⟩
      have et : (6 : Int) + ((tv : Nat) : Int) = ((6 + tv : Nat) : Int) := by push_cast; rfl
      show tSeq _ _ _ [some (V.ref p), some (V.ref d), _, some (V.int ((6 : Int) + ((tv : Nat) : Int))), x4, x5, x6, x7, x8, x9, x10, x11, x12] H6
      rw [et]
      obtain ⟨top, htop⟩ : ∃ top, 6 + tv = top := ⟨_, rfl⟩
      rw [htop]
      have ht6 : 6 ≤ top := by omega
      have ht20 : top ≤ 20 := by omega
      refine ⟨_, rfl, _, rfl, d, 8, top, a0 + 1, rfl, dr1, by decide, by decide, ht6, ht20, by omega, fun H7 ls ss a1 k2 dr2 ha1 hls hok hl1 hl8 => ?_⟩
      have T2 := tabs_kd k2 dr1 T1
      refine ⟨_, rfl, _, rfl, by omega, by omega, fun D nD => ?_⟩
      have hdD := dr2.ne nD
      have etn : (((top : Nat) : Int)).toNat = top := by omega
      refine it_gen walk_range (fun j Hj => Kd d H7 Hj ∧ ∃ (a' : Nat) (m : Mem), DrAt Hj d a' ∧ a' ≤ a1 + j ∧ Hj D = some (.lst (m.map V.int)) ∧ MemOk m ∧ m.length = j) ⟨(Kd.refl d H7).put hdD nD, a1, [], dr2.put nD (Kd.refl d H7) dr2, Nat.le_refl _, upd_same, fun x hx => absurd hx List.not_mem_nil, rfl⟩ (fun _ _ _ _ => trivial) (fun j x Hj H8 hj z y => ?_) (fun H8 z => ?_)
      · obtain ⟨k3, a2, m, dr3, ha2, hm, hmo, hml⟩ := z
        obtain ⟨rfl, rfl⟩ := y
        rw [etn] at hj
        refine ⟨rfl, _, rfl, d, 256, a2, rfl, dr3, by decide, by decide, by omega, fun H9 r k4 dr4 hr => ?_⟩
        have hm9 := k4.kb _ _ hm (Ne.symm hdD)
        refine ⟨_, hm9, by rw [List.length_map, hml, sizeLine_eq]; omega, (k3.trans k4).put hdD nD, a2 + 1, m ++ [((r : Nat) : Int)], dr2.put nD (k3.trans k4) dr4, by omega, by rw [upd_same, List.map_append]; rfl, fun x hx => ?_, by rw [List.length_append, hml]; rfl⟩
        rcases List.mem_append.mp hx with hx | hx
        · exact hmo x hx
        · rw [List.mem_singleton.mp hx]; omega
      · obtain ⟨k3, a2, m, dr3, ha2, hm, hmo, hml⟩ := z
        rw [etn] at hml ha2
        refine ⟨D, _, rfl, .inl ⟨.of hm, fun M nM => ?_⟩⟩
        have sM := same_new (o := HO.tup (m.map V.int)) nM
        have hM := upd_same (H := H8) (a := M) (o := HO.tup (m.map V.int))
        have T3 := (tabs_kd k3 dr2 T2).ext sM
        have dr4 := dr3.same sM
        have hls4 := (hls.kt (dr2.kt k3)).kt (Kt.same sM)
        have k04 : Ky d H3 (upd H8 M (.tup (m.map V.int))) := k0.trans (((Ky.kd k1).trans (Ky.kd k2)).trans ((Ky.kd k3).trans (Ky.same sM)))
        generalize upd H8 M (HO.tup (m.map V.int)) = H9 at hM T3 dr4 hls4 k04 ⊢
        refine ⟨_, _, rfl, ?_⟩
        refine ⟨_, rfl, _, rfl, ls, ss, top, rfl, hls4, hok, by omega, hl1, by omega, T3, fun H10 fp sp ex T4 hfp hsv hup hlt => ?_⟩
        have hspl := up_length hup hlt
        have hls5 := hls4.kt (Kt.ext ex)
        have dr5 := dr4.ext ex
        have hM5 := ex _ _ hM (fun _ z => by cases z)
        refine ⟨ls, fp, ss, sp, top, rfl, hls5, hok, by omega, hl1, .of hfp, hup, hlt, by omega, fun H11 cl s11 ncl hcl => ?_⟩
        have hls6 := hls5.kt (Kt.same s11)
        have dr6 := dr5.same s11
        have T6 := T4.ext s11
        have hM6 := s11 _ _ hM5
        refine ⟨by show 0 ≤ sizeLine; decide, fun A0 nA0 => ?_⟩
        have sA0 := same_new (o := HO.tup []) nA0
        obtain ⟨as, hA, hSt⟩ := hls6
        have eas : (as.map V.ref).length = ss.length := by rw [List.length_map]; exact hSt.1
        have k11 : Ky d H3 H11 := (k04.trans (Ky.ext ex)).trans (Ky.same s11)
        refine ⟨_, rfl, ls, rfl, ⟨_, (Kt.same sA0).sq hA⟩, ?_⟩
        refine for_it (walk_tup (K := K) (a := ls) (xs := as.map V.ref)) (fun j σ H12 => (∃ A1 x9, σ = [some (.ref p), some (.ref d), some (.int (0 + ((t : Nat) : Int))), some (.int ((top : Nat) : Int)), x4, some (.ref ls), some (.ref M), some (.ref cl), some (.ref A1), x9, x10, x11, x12] ∧ LsAt K H12 A1 (allFenced (ss.take j))) ∧ Same H11 H12) ⟨⟨A0, _, rfl, [], .of upd_same, rfl, fun j a s e => by simp at e⟩, sA0⟩ (fun j σ H12 _ z => (Kt.same z.2).sq hA) (fun j x σ H12 H13 hj z y => ?_) (fun σ H12 z => ?_)
        · obtain ⟨⟨A1, x9, rfl, bs, hB, hBs⟩, s12⟩ := z
          obtain ⟨rfl, hx⟩ := y
          obtain ⟨b, rfl, hb⟩ := mapref_get hx
          obtain ⟨st, hs, hst⟩ := hSt.get hb
          refine ⟨_, rfl, by show 1 ≤ sizeLine; decide, fun F1 nF1 => ?_⟩
          have sF1 := same_new (o := HO.tup [.str "fence"]) nF1
          refine ⟨_, rfl, by show 2 ≤ sizeLine; decide, fun F2 nF2 => ?_⟩
          have sF2 := same_new (o := HO.tup [.ref F1, .ref b]) nF2
          have hf1 := sF2 _ _ (upd_same (H := H13) (a := F1) (o := HO.tup [.str "fence"]))
          have sF := sF1.trans sF2
          have hst2 := hst.kt (Kt.same (s12.trans sF))
          have hB2 := (Kt.same sF).sq hB
          have hBs2 := hBs.kt (Kt.same sF)
          have hf2 := upd_same (H := upd H13 F1 (.tup [.str "fence"])) (a := F2) (o := HO.tup [.ref F1, .ref b])
          have hblen : (bs.map V.ref).length ≤ 16 := by
            rw [List.length_map, hBs.1, allFenced_length, List.length_take]; omega
          have key : StsAt K (upd (upd H13 F1 (.tup [.str "fence"])) F2 (.tup [.ref F1, .ref b])) (bs ++ [F1, b]) (allFenced (ss.take (j + 1))) := by
            rw [take_snoc hs, allFenced_snoc, show bs ++ [F1, b] = (bs ++ [F1]) ++ [b] by rw [List.append_assoc]; rfl, show allFenced (ss.take j) ++ [Step.fence, st] = (allFenced (ss.take j) ++ [Step.fence]) ++ [st] by rw [List.append_assoc]; rfl]
            exact (hBs2.snoc (a := F1) (s := Step.fence) (show StAt K _ F1 Step.fence from SqT.of hf1)).snoc hst2
          refine ⟨A1, F2, _, _, rfl, rfl, hB2, .of hf2, by rw [sizeLine_eq]; simp only [List.length_cons, List.length_nil]; omega, fun he => ?_, fun _ he => (by cases he), fun _ _ A2 nA2 => ?_⟩
          · have hb0 : bs = [] := List.map_eq_nil_iff.mp he
            rw [hb0, List.nil_append] at key
            exact ⟨⟨F2, _, rfl, [F1, b], .of hf2, key⟩, s12.trans sF⟩
          · have sA2 := same_new (o := HO.tup (bs.map V.ref ++ [.ref F1, .ref b])) nA2
            exact ⟨⟨A2, _, rfl, bs ++ [F1, b], .of (by rw [upd_same, List.map_append]; rfl), key.kt (Kt.same sA2)⟩, (s12.trans sF).trans sA2⟩
        · obtain ⟨⟨A1, x9, rfl, hall⟩, s12⟩ := z
          rw [eas, List.take_of_length_le (Nat.le_refl _)] at hall
          have dr7 := dr6.same s12
          have T7 := T6.ext s12
          have hM7 := s12 _ _ hM6
          have hls7 : LsAt K H12 ls ss := ⟨as, (Kt.same s12).sq hA, hSt.kt (Kt.same s12)⟩
          have hcl7 := hcl.kt (Kt.same s12)
          have k12 := k11.trans (Ky.same s12)
          have fl := fenced_length (spots := sp) ss 0
          have al := allFenced_length ss
          refine ⟨_, rfl, _, rfl, ls, M, m, ss, top, rfl, .of hM7, hls7, hok, by omega, by omega, fun H14 due s14 ndue hdue => ?_⟩
          have dr8 := dr7.same s14
          have T8 := T7.ext s14
          have hM8 := s14 _ _ hM7
          have hls8 := hls7.kt (Kt.same s14)
          have hcl8 := hcl7.kt (Kt.same s14)
          have hall8 := hall.kt (Kt.same s14)
          have k14 := k12.trans (Ky.same s14)
          refine ⟨_, rfl, _, rfl, by show 2 ≤ sizeLine; decide, fun L1 nL1 => ?_⟩
          have sL1 := same_new (o := HO.lst [.ref cl, .ref A1]) nL1
          refine ⟨_, rfl, by show 1 ≤ sizeLine; decide, fun L2 nL2 => ?_⟩
          have sL2 := same_new (o := HO.lst [.ref ls]) nL2
          have sL12 := sL1.trans sL2
          refine ⟨_, rfl, ls, ss, top, rfl, hls8.kt (Kt.same sL12), hok, by omega, hl1, by omega, fun H15 bc s15 hbc => ?_⟩
          have eb : (List.replicate ((if bc = true then (1 : Int) else 0)).toNat [V.ref ls]).flatten = ((if bc = true then [ls] else []) : List Addr).map V.ref := by cases bc <;> rfl
          refine .inr ⟨_, rfl, ?_⟩
          have l1_15 := s15 _ _ (sL2 _ _ (upd_same (H := H14) (a := L1) (o := HO.lst [.ref cl, .ref A1])))
          have l2_15 := s15 _ _ (upd_same (H := upd H14 L1 (.lst [.ref cl, .ref A1])) (a := L2) (o := HO.lst [.ref ls]))
          refine ⟨L2, _, _, rfl, rfl, l2_15, by cases bc <;> decide, by cases bc <;> decide, by cases bc <;> (show 1 * _ ≤ sizeLine; decide), fun L3 nL3 => ?_⟩
          rw [eb]
          have sL3 := same_new (o := HO.lst (((if bc = true then [ls] else []) : List Addr).map V.ref)) nL3
          refine ⟨L1, L3, _, _, rfl, rfl, sL3 _ _ l1_15, upd_same, by cases bc with
            | true => exact (by decide : 2 + 1 ≤ sizeLine)
            | false => exact (by decide : 2 + 0 ≤ sizeLine), fun L4 nL4 => ?_⟩
          have sL4 := same_new (o := HO.lst ([.ref cl, .ref A1] ++ ((if bc = true then [ls] else []) : List Addr).map V.ref)) nL4
          have sJ := (sL12.trans s15).trans (sL3.trans sL4)
          have h4 := upd_same (H := upd H15 L3 (.lst (((if bc = true then [ls] else []) : List Addr).map V.ref))) (a := L4) (o := HO.lst ([.ref cl, .ref A1] ++ ((if bc = true then [ls] else []) : List Addr).map V.ref))
          generalize upd (upd H15 L3 (HO.lst (((if bc = true then [ls] else []) : List Addr).map V.ref))) L4 (HO.lst ([.ref cl, .ref A1] ++ ((if bc = true then [ls] else []) : List Addr).map V.ref)) = H16 at sJ h4 ⊢
          have e4 : [V.ref cl, V.ref A1] ++ ((if bc = true then [ls] else []) : List Addr).map V.ref = (cl :: A1 :: ((if bc = true then [ls] else []) : List Addr)).map V.ref := rfl
          rw [e4] at h4
          have good : ∀ c ∈ cl :: A1 :: ((if bc = true then [ls] else []) : List Addr), Good K top m ss H16 c := fun c hc => by
            rcases List.mem_cons.mp hc with rfl | hc
            · exact ⟨_, hcl8.kt (Kt.same sJ), fun s hs => (fenced_mem hs).elim (fun z => by rw [z]; trivial) (hok s), hsv.clear, plain_fenced ss 0 m, by omega, by omega⟩
            · rcases List.mem_cons.mp hc with rfl | hc
              · exact ⟨_, hall8.kt (Kt.same sJ), fun s hs => (allFenced_mem hs).elim (fun z => by rw [z]; trivial) (hok s), allFenced_clear.clear, plain_allFenced ss m, by omega, by omega⟩
              · have hb1 : bc = true := by cases bc with
                  | true => rfl
                  | false => cases hc
                rw [hb1] at hc
                rw [show c = ls from List.mem_singleton.mp hc]
                exact ⟨_, hls8.kt (Kt.same sJ), hok, hbc.mp hb1, rfl, hl1, by omega⟩
          have hcs : (cl :: A1 :: ((if bc = true then [ls] else []) : List Addr)).length ≤ 3 := by cases bc with
            | true => exact (by decide : 3 ≤ 3)
            | false => exact (by decide : 2 ≤ 3)
          generalize (cl :: A1 :: ((if bc = true then [ls] else []) : List Addr)) = cs at h4 good hcs
          have dr9 := dr8.same sJ
          have T9 := T8.ext sJ
          have hM9 := sJ _ _ hM8
          have hdue9 := sJ _ _ hdue
          have k16 := k14.trans (Ky.same sJ)
          refine ⟨L4, rfl, ⟨_, .of h4⟩, ?_⟩
          have hL4d : L4 ≠ d := fun z => by
            obtain ⟨kvs, h⟩ := dr9.dk
            rw [z, h] at h4; cases h4
          refine for_it (walk_list (K := K) (a := L4) (xs := cs.map V.ref)) (fun g σ H17 => (∃ x11 x12, σ = [some (.ref p), some (.ref d), some (.int (0 + ((t : Nat) : Int))), some (.int ((top : Nat) : Int)), x4, some (.ref ls), some (.ref M), some (.ref cl), some (.ref A1), x9, some (.ref due), x11, x12]) ∧ Kd d H16 H17 ∧ ∃ a', DrAt H17 d a' ∧ a' ≤ a2 + 16300 * g) ⟨⟨_, _, rfl⟩, Kd.refl d H16, a2, dr9, Nat.le_refl _⟩ (fun g σ H17 _ z => .of (z.2.1.kb _ _ h4 hL4d)) (fun g x σ H17 H18 hg z y => ?_) (fun σ H17 z => ?_)
          · obtain ⟨⟨x11, x12, rfl⟩, kg, a3, drg, ha3⟩ := z
            obtain ⟨rfl, hx⟩ := y
            obtain ⟨c, rfl, hc⟩ := mapref_get hx
            have hg3 : g < 3 := by rw [List.length_map] at hg; omega
            obtain ⟨s2, c1, c2, c3, c4, c5, c6⟩ := (good c (List.mem_of_getElem? hc)).kt (dr9.kt kg)
            have hMg := (dr9.kt kg) _ _ (.inl hM9)
            have hDg := (dr9.kt kg) _ _ (.inl hdue9)
            refine ⟨_, rfl, c, s2, top, rfl, c1, c2, by omega, c5, c6, fun H19 b s19 hb => ?_⟩
            rw [hb.mpr c3]
            refine ⟨_, rfl, ?_⟩
            have kt19 := Kt.same s19
            have eM : AllOk m.length s2 := by rw [hml]; exact c2
            refine ⟨_, rfl, _, rfl, M, c, m, s2, rfl, kt19.sq (.inl hMg), c1.kt kt19, eM, by omega, by omega, hmo, c5, c6, fun H20 t1 s20 n20 h20 => ?_⟩
            have s1920 := s19.trans s20
            refine ⟨_, rfl, intsD (plain s2 m), intsD (plain ss m), dp_ints (.of h20), dp_ints ((Kt.same s1920).sq (.inl hDg)), shaped_ints _, shaped_ints _, _, rfl, ?_⟩
            rw [c4, eqv_ints]
            refine iteF ?_
            refine ⟨_, rfl, _, rfl, c, M, m, s2, top, rfl, (Kt.same s1920).sq (.inl hMg), c1.kt (Kt.same s1920), c2, by omega, by omega, fun H21 t2 s21 n21 h21 => ?_⟩
            have s1921 := s1920.trans s21
            refine ⟨_, rfl, intsD (plain s2 m), intsD (plain ss m), dp_ints (.of h21), dp_ints ((Kt.same s1921).sq (.inl hDg)), shaped_ints _, shaped_ints _, _, rfl, ?_⟩
            rw [c4, eqv_ints]
            refine iteF ?_
            refine ⟨by show 3 ≤ sizeLine; decide, fun W nW => ⟨W, rfl, ⟨_, .of upd_same⟩, ?_⟩⟩
            have sW := same_new (o := HO.tup [.int 1, .int 2, .int 9]) nW
            have hW := upd_same (H := H21) (a := W) (o := HO.tup [.int 1, .int 2, .int 9])
            have s22 := s1921.trans sW
            generalize upd H21 W (HO.tup [V.int 1, V.int 2, V.int 9]) = H22 at s22 hW ⊢
            have kg2 := kg.trans (Kd.same s22)
            have dr22 := drg.same s22
            have hM22 := (Kt.same s22).sq (K := K) (.inl hMg)
            have hD22 := (Kt.same s22).sq (K := K) (.inl hDg)
            have c22 := c1.kt (Kt.same s22)
            refine for_it (walk_tup (K := K) (a := W) (xs := [.int 1, .int 2, .int 9])) (fun v σ H23 => (∃ x12, σ = [some (.ref p), some (.ref d), some (.int (0 + ((t : Nat) : Int))), some (.int ((top : Nat) : Int)), x4, some (.ref ls), some (.ref M), some (.ref cl), some (.ref A1), x9, some (.ref due), some (.ref c), x12]) ∧ Kd d H22 H23 ∧ ∃ a', DrAt H23 d a' ∧ a' ≤ a3 + 5400 * v) ⟨⟨_, rfl⟩, Kd.refl d H22, a3, dr22, Nat.le_refl _⟩ (fun v σ H23 _ z => (dr22.kt z.2.1).sq (.of hW)) (fun v x σ H23 H24 hv z y => ?_) (fun σ H23 z => ?_)
            · obtain ⟨⟨x12, rfl⟩, kv, a4, drv, ha4⟩ := z
              obtain ⟨rfl, hx⟩ := y
              have hv3 : v < 3 := hv
              obtain ⟨wd, hwd, rfl⟩ : ∃ wd : Nat, 1 ≤ wd ∧ x = .int ((wd : Nat) : Int) := by
                rcases (show v = 0 ∨ v = 1 ∨ v = 2 by omega) with rfl | rfl | rfl
                · exact ⟨1, by decide, (Option.some.inj hx).symm⟩
                · exact ⟨2, by decide, (Option.some.inj hx).symm⟩
                · exact ⟨9, by decide, (Option.some.inj hx).symm⟩
              have ktv := dr22.kt kv
              refine ⟨_, rfl, _, rfl, _, rfl, _, rfl, d, c, M, wd, a4, m, s2, top, rfl, drv, by omega, ktv.sq hM22, c22.kt ktv, c2, by omega, by omega, hwd, c6, c3, fun H25 t3 a5 k25 dr25 ha5 h25 => ?_⟩
              refine ⟨_, rfl, intsD (plain s2 m), intsD (plain ss m), dp_ints (.of h25), dp_ints ((ktv.trans (drv.kt k25)).sq hD22), shaped_ints _, shaped_ints _, _, rfl, ?_⟩
              rw [c4, eqv_ints]
              refine iteF ⟨⟨_, rfl⟩, kv.trans k25, a5, dr25, by omega⟩
            · obtain ⟨⟨x12, rfl⟩, kv, a4, drv, ha4⟩ := z
              have ha4 : a4 ≤ a3 + 5400 * 3 := ha4
              exact ⟨⟨_, _, rfl⟩, kg2.trans kv, a4, drv, by omega⟩
          · obtain ⟨⟨x11, x12, rfl⟩, kg, a3, drg, ha3⟩ := z
            rw [List.length_map] at ha3
            refine ⟨⟨_, _, _, _, _, _, _, _, _, _, _, rfl⟩, k16.trans (Ky.kd kg), tabs_kd kg dr9 T9, a3, drg, by omega⟩
    · obtain ⟨⟨x2, x3, x4, x5, x6, x7, x8, x9, x10, x11, x12, rfl⟩, k0, T0, a0, dr0, ha0⟩ := z
      obtain ⟨kvs, hdk⟩ := hdi.dk
      refine ⟨⟨_, _, _, _, _, _, _, _, _, _, _, _, rfl⟩, k0 _ _ zq (fun z => by rw [z, hdk] at zq; cases zq) (fun _ z => by cases z), T0, fun j d' hj e => DrAt.ky k0 hdi (fun z => ?_) (zd j d' (by omega) e)⟩
      rw [z] at e
      have := (List.getElem?_inj (List.getElem?_eq_some_iff.mp hd).1 hnd).mp (hd.trans e.symm)
      omega
end
end K24
end
section
set_option Elab.async false
set_option linter.all false
set_option maxRecDepth 100000
set_option maxHeartbeats 2000000
namespace K24
open PySem PySem.Spec PyProof.Rows L2 C8
theorem law_at {w : World} {K : PySem.W.Frag} {h : Heap} {mg : Str → Option Value} {fa : Addr} (X : K.In h) (G : h.Ns mainGlobals mg) (hfa : mg ("law" : Str) = some (.ref fa)) (c : He.SaysX faL fnL tsL tfL exB w h K) :
    LamX.LawAtS PySem.Challenge.rw_haulring_k24_whole_clear_lists_in_any_or w K C8.CX0 14 63 "_law_script" mg fa h := by
  have E : Wd w K mg := ⟨h, X, G, c⟩
  obtain ⟨fd, F⟩ := fLaw E
  have e := hfa.symm.trans (g_law E)
  cases e
  have b := FunD.bindsA (ps := ["_law_script"]) F fun _ _ _ _ _ _ us hl => match us, hl with | [_], _ => rfl
  refine ⟨fd, [He.cT K lsAt], spLaw K, fun p hp => ?_, fun p hp => ?_, fun p hp => ?_, fun s u => b s [u] rfl, fun H a ns hl _ hT hS => ?_, fun bs _ _ hB => fn_Law E (hB _ List.mem_cons_self) F⟩
  · rw [List.mem_singleton.mp hp]; exact c.empty _ List.mem_cons_self
  · rw [List.mem_singleton.mp hp]; exact c.out _ List.mem_cons_self
  · rw [List.mem_singleton.mp hp]; exact PySem.W.codeHd_of_K X (c.hd _ List.mem_cons_self)
  · refine ⟨a, ns, rfl, hS, hl, fun p hp => ?_, fun _ => rfl⟩
    rw [List.mem_singleton.mp hp]
    exact LamX.TabS.nil (hT _ List.mem_cons_self)
end K24
open PySem PySem.W PySem.Calls PyProof.Rows
theorem PySem.Challenge.cw_haulring_k24_whole_clear_lists_in_any_or_holds : PySem.Challenge.rw_haulring_k24_whole_clear_lists_in_any_or.Holds := by
  w_on; o_law
  refine HandSHeadRun.head_any (r := OpenLaw.row PySem.Challenge.rw_haulring_k24_whole_clear_lists_in_any_or) (q := view (OpenLaw.row PySem.Challenge.rw_haulring_k24_whole_clear_lists_in_any_or).prog [83]) (H := K24.hk) (ob := K24.ob) (M := 6000) (loose := K24.looseL) (d := HandSHeadRun.topDef (OpenLaw.row PySem.Challenge.rw_haulring_k24_whole_clear_lists_in_any_or).prog 83) (kwd := []) K24.ob_eq
    (by kernel_rfl) (fun s => by kernel_rfl) K24.run_top (by kernel_rfl) (by kernel_rfl) (by kernel_rfl) (by rfl) (by first | assumption | decide +kernel) (by decide +kernel) ⟨rfl, rfl, rfl, rfl, rfl, by decide +kernel⟩ ?hw ?hc
  case hw => w_witness2
  case hc =>
    refine LamX.walk_ofTsE (l := PySem.Challenge.rw_haulring_k24_whole_clear_lists_in_any_or) (n := 63) (k := 14) (x := "_law_script") (CX := fun _ => C8.CX0) rfl (by decide) (by kernel_rfl) ⟨rfl, by decide, by decide⟩ ?F (fun _ _ _ _ _ z => z)
    intro w mg fa h Y G hmg0
    obtain ⟨K, KX, c⟩ := Y
    have hmg : mg ("law" : PySem.Str) = some (.ref fa) := by
      have e : (HandSHeadRun.topDef (OpenLaw.row PySem.Challenge.rw_haulring_k24_whole_clear_lists_in_any_or).prog 83).name = ("law" : PySem.Str) := by kernel_rfl
      rw [← e]
      exact hmg0
    exact ⟨K, KX, K24.law_at KX G hmg c⟩
end
