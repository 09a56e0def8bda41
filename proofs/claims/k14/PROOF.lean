import PyProof.Rows.All
import Wide.All
import OpenK.AllK
import Wide.FinOn
import KE.KStateDown
import HandS.ForMost
import HandS.Defaults
import HandS.Head0
import HandS.Head1
import HandS.Head2
import HandS.HeadEnd
import HandS.HeadHook1
import HandS.HeadHook2
import PySem.Challenge.RW_deedranks_k14_whole_ways_walked
import HandS.Star
import HandS.MakeKwOnly
import HandS.IsInst
import HandS.Conv
import HandS.DictComp
import HandS.Iter
import KE.GoesMore
import PyProof.Draws
import HandS.Deep
import HandS.SortRule
import HandS.Style
import HandS.Base
import HandS.Call
import HandS.Dict
import HandS.Sort
import HandS.SortOrd
import HandS.Set
import HandS.SetBool
import HandS.SetFor
import HandS.Zip
import HandS.TupSets
import HandS.Comp
import HandS.Text
import PyProof.SumAny
import KE.DatumOrd
import HandS.List
import PyProof.ListStr
import KE.KDictDisplayH
import HandS.NoneIn

section
set_option Elab.async false
set_option linter.all false
set_option maxRecDepth 100000
set_option maxHeartbeats 4000000
namespace Dk
open PySem PySem.Spec PyProof.Rows L2
def top (i : Nat) : Stmt := PySem.Challenge.pw_deedranks_k14_whole_ways_walked.main.body.getD i (.Pass ⟨0, 0, 0, 0⟩)
abbrev sIsWhole : Stmt := top 13
abbrev sIsNumber : Stmt := top 14
abbrev sIsName : Stmt := top 15
abbrev sIsCell : Stmt := top 18
abbrev sBeside : Stmt := top 19
abbrev sCheckCells : Stmt := top 21
abbrev sGroupOf : Stmt := top 22
abbrev sGroups : Stmt := top 23
abbrev sHangsTogether : Stmt := top 24
abbrev sPieces : Stmt := top 25
abbrev sIsList : Stmt := top 29
abbrev sCheckRows : Stmt := top 30
abbrev sParcelsOf : Stmt := top 31
abbrev sIsEdge : Stmt := top 32
abbrev sCheckRoad : Stmt := top 33
abbrev sBordersOf : Stmt := top 34
abbrev sIsStep : Stmt := top 37
abbrev sCheckSteps : Stmt := top 38
abbrev sOnward : Stmt := top 39
abbrev sLawBag : Stmt := top 43
abbrev sLawDraw : Stmt := top 44
abbrev sLawPick : Stmt := top 45
abbrev sLawMixed : Stmt := top 46
abbrev sLawWord : Stmt := top 47
abbrev sLawNames : Stmt := top 48
abbrev sLawSame : Stmt := top 49
abbrev sLawFour : Stmt := top 50
abbrev sLawAllCells : Stmt := top 51
abbrev sLawSizes : Stmt := top 52
abbrev sLawSides : Stmt := top 53
abbrev sLawGrown : Stmt := top 54
abbrev sLawEdge : Stmt := top 55
abbrev sLawMap : Stmt := top 56
abbrev sLawMade : Stmt := top 57
abbrev sLawNamed : Stmt := top 58
abbrev sLawFronting : Stmt := top 59
abbrev sLawPossible : Stmt := top 60
abbrev sLawGiven : Stmt := top 61
abbrev sLawWalks : Stmt := top 62
abbrev sLawBest : Stmt := top 63
abbrev sLaw : Stmt := top 64
abbrev sPlatInit : Stmt := inClass (top 35) 1
abbrev sPlatNames : Stmt := inClass (top 35) 4
abbrev sPlatFronts : Stmt := inClass (top 35) 13
abbrev sPlatBorder : Stmt := inClass (top 35) 14
abbrev sPlatNeedParcel : Stmt := inClass (top 35) 19
abbrev sPlatContains : Stmt := inClass (top 35) 20
abbrev sWaysInit : Stmt := inClass (top 41) 0
abbrev sWaysWithSteps : Stmt := inClass (top 41) 2
abbrev sWaysComes : Stmt := inClass (top 41) 3
abbrev sWaysWay : Stmt := inClass (top 41) 4
abbrev sWaysBare : Stmt := inClass (top 41) 7
abbrev sWaysDistances : Stmt := inClass (top 41) 8
abbrev sWaysNeedParcel : Stmt := inClass (top 41) 9
abbrev FnP (K : PySem.W.Frag) (x q : Str) (st : Stmt) (f : Addr) (fd : FuncData) : Prop := FunD K x q (defArgs st) (defBody st) (defScope st) [] [] f fd
def dIsWhole : He.DefD := ⟨("is_whole", none), "is_whole", "is_whole", defArgs sIsWhole, defBody sIsWhole, defScope sIsWhole, [], []⟩
def dIsNumber : He.DefD := ⟨("is_number", none), "is_number", "is_number", defArgs sIsNumber, defBody sIsNumber, defScope sIsNumber, [], []⟩
def dIsName : He.DefD := ⟨("is_name", none), "is_name", "is_name", defArgs sIsName, defBody sIsName, defScope sIsName, [], []⟩
def dIsCell : He.DefD := ⟨("is_cell", none), "is_cell", "is_cell", defArgs sIsCell, defBody sIsCell, defScope sIsCell, [], []⟩
def dBeside : He.DefD := ⟨("beside", none), "beside", "beside", defArgs sBeside, defBody sBeside, defScope sBeside, [], []⟩
def dCheckCells : He.DefD := ⟨("check_cells", none), "check_cells", "check_cells", defArgs sCheckCells, defBody sCheckCells, defScope sCheckCells, [], []⟩
def dGroupOf : He.DefD := ⟨("group_of", none), "group_of", "group_of", defArgs sGroupOf, defBody sGroupOf, defScope sGroupOf, [], []⟩
def dGroups : He.DefD := ⟨("groups", none), "groups", "groups", defArgs sGroups, defBody sGroups, defScope sGroups, [], []⟩
def dHangsTogether : He.DefD := ⟨("hangs_together", none), "hangs_together", "hangs_together", defArgs sHangsTogether, defBody sHangsTogether, defScope sHangsTogether, [], []⟩
def dPieces : He.DefD := ⟨("pieces", none), "pieces", "pieces", defArgs sPieces, defBody sPieces, defScope sPieces, [], []⟩
def dIsList : He.DefD := ⟨("is_list", none), "is_list", "is_list", defArgs sIsList, defBody sIsList, defScope sIsList, [], []⟩
def dCheckRows : He.DefD := ⟨("check_rows", none), "check_rows", "check_rows", defArgs sCheckRows, defBody sCheckRows, defScope sCheckRows, [], []⟩
def dParcelsOf : He.DefD := ⟨("parcels_of", none), "parcels_of", "parcels_of", defArgs sParcelsOf, defBody sParcelsOf, defScope sParcelsOf, [], []⟩
def dIsEdge : He.DefD := ⟨("is_edge", none), "is_edge", "is_edge", defArgs sIsEdge, defBody sIsEdge, defScope sIsEdge, [], []⟩
def dCheckRoad : He.DefD := ⟨("check_road", none), "check_road", "check_road", defArgs sCheckRoad, defBody sCheckRoad, defScope sCheckRoad, [], []⟩
def dBordersOf : He.DefD := ⟨("borders_of", none), "borders_of", "borders_of", defArgs sBordersOf, defBody sBordersOf, defScope sBordersOf, [], []⟩
def dIsStep : He.DefD := ⟨("is_step", none), "is_step", "is_step", defArgs sIsStep, defBody sIsStep, defScope sIsStep, [], []⟩
def dCheckSteps : He.DefD := ⟨("check_steps", none), "check_steps", "check_steps", defArgs sCheckSteps, defBody sCheckSteps, defScope sCheckSteps, [], []⟩
def dOnward : He.DefD := ⟨("onward", none), "onward", "onward", defArgs sOnward, defBody sOnward, defScope sOnward, [], []⟩
def dLawBag : He.DefD := ⟨("_law_bag", none), "_law_bag", "_law_bag", defArgs sLawBag, defBody sLawBag, defScope sLawBag, [], []⟩
def dLawDraw : He.DefD := ⟨("_law_draw", none), "_law_draw", "_law_draw", defArgs sLawDraw, defBody sLawDraw, defScope sLawDraw, [], []⟩
def dLawPick : He.DefD := ⟨("_law_pick", none), "_law_pick", "_law_pick", defArgs sLawPick, defBody sLawPick, defScope sLawPick, [], []⟩
def dLawMixed : He.DefD := ⟨("_law_mixed", none), "_law_mixed", "_law_mixed", defArgs sLawMixed, defBody sLawMixed, defScope sLawMixed, [], []⟩
def dLawWord : He.DefD := ⟨("_law_word", none), "_law_word", "_law_word", defArgs sLawWord, defBody sLawWord, defScope sLawWord, [], []⟩
def dLawNames : He.DefD := ⟨("_law_names", none), "_law_names", "_law_names", defArgs sLawNames, defBody sLawNames, defScope sLawNames, [], []⟩
def dLawSame : He.DefD := ⟨("_law_same", none), "_law_same", "_law_same", defArgs sLawSame, defBody sLawSame, defScope sLawSame, [], []⟩
def dLawFour : He.DefD := ⟨("_law_four", none), "_law_four", "_law_four", defArgs sLawFour, defBody sLawFour, defScope sLawFour, [], []⟩
def dLawAllCells : He.DefD := ⟨("_law_all_cells", none), "_law_all_cells", "_law_all_cells", defArgs sLawAllCells, defBody sLawAllCells, defScope sLawAllCells, [], []⟩
def dLawSizes : He.DefD := ⟨("_law_sizes", none), "_law_sizes", "_law_sizes", defArgs sLawSizes, defBody sLawSizes, defScope sLawSizes, [], []⟩
def dLawSides : He.DefD := ⟨("_law_sides", none), "_law_sides", "_law_sides", defArgs sLawSides, defBody sLawSides, defScope sLawSides, [], []⟩
def dLawGrown : He.DefD := ⟨("_law_grown", none), "_law_grown", "_law_grown", defArgs sLawGrown, defBody sLawGrown, defScope sLawGrown, [], []⟩
def dLawEdge : He.DefD := ⟨("_law_edge", none), "_law_edge", "_law_edge", defArgs sLawEdge, defBody sLawEdge, defScope sLawEdge, [], []⟩
def dLawMap : He.DefD := ⟨("_law_map", none), "_law_map", "_law_map", defArgs sLawMap, defBody sLawMap, defScope sLawMap, [], []⟩
def dLawMade : He.DefD := ⟨("_law_made", none), "_law_made", "_law_made", defArgs sLawMade, defBody sLawMade, defScope sLawMade, [], []⟩
def dLawNamed : He.DefD := ⟨("_law_named", none), "_law_named", "_law_named", defArgs sLawNamed, defBody sLawNamed, defScope sLawNamed, [], []⟩
def dLawFronting : He.DefD := ⟨("_law_fronting", none), "_law_fronting", "_law_fronting", defArgs sLawFronting, defBody sLawFronting, defScope sLawFronting, [], []⟩
def dLawPossible : He.DefD := ⟨("_law_possible", none), "_law_possible", "_law_possible", defArgs sLawPossible, defBody sLawPossible, defScope sLawPossible, [], []⟩
def dLawGiven : He.DefD := ⟨("_law_given", none), "_law_given", "_law_given", defArgs sLawGiven, defBody sLawGiven, defScope sLawGiven, [], []⟩
def dLawWalks : He.DefD := ⟨("_law_walks", none), "_law_walks", "_law_walks", defArgs sLawWalks, defBody sLawWalks, defScope sLawWalks, [], []⟩
def dLawBest : He.DefD := ⟨("_law_best", none), "_law_best", "_law_best", defArgs sLawBest, defBody sLawBest, defScope sLawBest, [], []⟩
def dLaw : He.DefD := ⟨("law", none), "law", "law", defArgs sLaw, defBody sLaw, defScope sLaw, [], []⟩
def dPlatInit : He.DefD := ⟨("Plat", some "__init__"), "__init__", "Plat.__init__", defArgs sPlatInit, defBody sPlatInit, defScope sPlatInit, [], []⟩
def dPlatNames : He.DefD := ⟨("Plat", some "names"), "names", "Plat.names", defArgs sPlatNames, defBody sPlatNames, defScope sPlatNames, [], []⟩
def dPlatFronts : He.DefD := ⟨("Plat", some "fronts"), "fronts", "Plat.fronts", defArgs sPlatFronts, defBody sPlatFronts, defScope sPlatFronts, [], []⟩
def dPlatBorder : He.DefD := ⟨("Plat", some "border"), "border", "Plat.border", defArgs sPlatBorder, defBody sPlatBorder, defScope sPlatBorder, [], []⟩
def dPlatNeedParcel : He.DefD := ⟨("Plat", some "need_parcel"), "need_parcel", "Plat.need_parcel", defArgs sPlatNeedParcel, defBody sPlatNeedParcel, defScope sPlatNeedParcel, [], []⟩
def dPlatContains : He.DefD := ⟨("Plat", some "__contains__"), "__contains__", "Plat.__contains__", defArgs sPlatContains, defBody sPlatContains, defScope sPlatContains, [], []⟩
def dWaysInit : He.DefD := ⟨("Ways", some "__init__"), "__init__", "Ways.__init__", defArgs sWaysInit, defBody sWaysInit, defScope sWaysInit, [], []⟩
def dWaysWithSteps : He.DefD := ⟨("Ways", some "with_steps"), "with_steps", "Ways.with_steps", defArgs sWaysWithSteps, defBody sWaysWithSteps, defScope sWaysWithSteps, [], []⟩
def dWaysComes : He.DefD := ⟨("Ways", some "comes"), "comes", "Ways.comes", defArgs sWaysComes, defBody sWaysComes, defScope sWaysComes, [], []⟩
def dWaysWay : He.DefD := ⟨("Ways", some "way"), "way", "Ways.way", defArgs sWaysWay, defBody sWaysWay, defScope sWaysWay, [], []⟩
def dWaysBare : He.DefD := ⟨("Ways", some "bare"), "bare", "Ways.bare", defArgs sWaysBare, defBody sWaysBare, defScope sWaysBare, [], []⟩
def dWaysDistances : He.DefD := ⟨("Ways", some "distances"), "distances", "Ways.distances", defArgs sWaysDistances, defBody sWaysDistances, defScope sWaysDistances, [], []⟩
def dWaysNeedParcel : He.DefD := ⟨("Ways", some "need_parcel"), "need_parcel", "Ways.need_parcel", defArgs sWaysNeedParcel, defBody sWaysNeedParcel, defScope sWaysNeedParcel, [], []⟩
def fn : List He.DefD := [dIsWhole, dIsNumber, dIsName, dIsCell, dBeside, dCheckCells, dGroupOf, dGroups, dHangsTogether, dPieces, dIsList, dCheckRows, dParcelsOf, dIsEdge, dCheckRoad, dBordersOf, dIsStep, dCheckSteps, dOnward, dLawBag, dLawDraw, dLawPick, dLawMixed, dLawWord, dLawNames, dLawSame, dLawFour, dLawAllCells, dLawSizes, dLawSides, dLawGrown, dLawEdge, dLawMap, dLawMade, dLawNamed, dLawFronting, dLawPossible, dLawGiven, dLawWalks, dLawBest, dLaw, dPlatInit, dPlatNames, dPlatFronts, dPlatBorder, dPlatNeedParcel, dPlatContains, dWaysInit, dWaysWithSteps, dWaysComes, dWaysWay, dWaysBare, dWaysDistances, dWaysNeedParcel]
def fa0 : List He.Fa := [.glo "is_whole", .glo "is_number", .glo "is_name", .glo "is_cell", .glo "beside", .glo "check_cells", .glo "group_of", .glo "groups", .glo "hangs_together", .glo "pieces", .glo "is_list", .glo "check_rows", .glo "parcels_of", .glo "is_edge", .glo "check_road", .glo "borders_of", .glo "is_step", .glo "check_steps", .glo "onward", .glo "_law_bag", .glo "_law_draw", .glo "_law_pick", .glo "_law_mixed", .glo "_law_word", .glo "_law_names", .glo "_law_same", .glo "_law_four", .glo "_law_all_cells", .glo "_law_sizes", .glo "_law_sides"]
def fa1 : List He.Fa := [.glo "_law_grown", .glo "_law_edge", .glo "_law_map", .glo "_law_made", .glo "_law_named", .glo "_law_fronting", .glo "_law_possible", .glo "_law_given", .glo "_law_walks", .glo "_law_best", .glo "law", .free "isinstance", .free "int", .free "bool", .free "str", .free "tuple", .free "list", .free "dict", .free "len", .free "all", .free "any", .free "sorted", .free "range", .free "enumerate", .free "set", .free "zip", .free "min", .free "sum", .free "abs", .int "LAST" 11]
def fa2 : List He.Fa := [.int "MOST_LETTERS" 6, .int "MOST_SIZE" 12, .int "MOST_PARCELS" 12, .str "LETTERS" "abcdefghijklmnopqrstuvwxyz", .glo "Plat", .cls "Plat", .mkr "Plat", .noat "Plat" "own_rows", .noat "Plat" "own_cells", .noat "Plat" "height", .noat "Plat" "width", .noat "Plat" "own_road", .noat "Plat" "own_borders", .noat "Plat" "own_rims", .meth "Plat" "__init__", .meth "Plat" "names", .meth "Plat" "fronts", .meth "Plat" "border", .meth "Plat" "need_parcel", .meth "Plat" "__contains__", .glo "Ways", .cls "Ways", .mkr "Ways", .noat "Ways" "plat", .noat "Ways" "own_steps", .noat "Ways" "own_leads", .noat "Ways" "own_fronts", .meth "Ways" "__init__", .meth "Ways" "with_steps", .meth "Ways" "comes"]
def fa3 : List He.Fa := [.meth "Ways" "way", .meth "Ways" "bare", .meth "Ways" "distances", .meth "Ways" "need_parcel"]
def fa : List He.Fa := fa0 ++ fa1 ++ fa2 ++ fa3
end Dk
end

section
set_option Elab.async false
set_option linter.all false
set_option maxRecDepth 100000
set_option maxHeartbeats 0
namespace Dk
open PySem PySem.Spec PyProof.Rows L2
def lo0 : List PySem.Str := ["_wall", "__name__", "RollError", "Missing", "InvalidCell", "InvalidRow", "InvalidStep", "TooMany", "Apart", "UnknownParcel", "LETTERS", "MOST_LETTERS", "is_whole", "is_number", "is_name", "LAST", "is_cell", "beside", "around", "check_cells", "group_of", "groups", "hangs_together", "pieces", "MOST_SIZE", "MOST_PARCELS", "is_list", "check_rows", "parcels_of", "is_edge"]
def lo1 : List PySem.Str := ["check_road", "borders_of", "Plat", "is_step", "check_steps", "onward", "reached_from", "Ways", "_law_bag", "_law_draw", "_law_pick", "_law_mixed", "_law_word", "_law_names", "_law_same", "_law_four", "_law_all_cells", "_law_sizes", "_law_sides", "_law_grown", "_law_edge", "_law_map", "_law_made", "_law_named", "_law_fronting", "_law_possible", "_law_given", "_law_walks", "_law_best"]
def loose : List PySem.Str := lo0 ++ lo1
abbrev R : PySem.W.OpenRow := PySem.W.OpenLaw.row PySem.Challenge.rw_deedranks_k14_whole_ways_walked
abbrev hk : PySem.W.Hook := He.hookD 5 fa fn
def ob (s : PySem.W.SharedT) : He.AlD := He.obsDG 5 fa fn (HandSHeadRun.getT s)
theorem ob_eq (s : PySem.W.SharedT) : ob s = hk.obs s.abs := He.obsDG_eq (HandSHeadRun.getT_eq s)
theorem run (w : World) : HandSHeadRun.RunEq R (PySem.W.view R.prog [64]) hk ob 6000 loose w := by
  intro os
  kernel_rfl
end Dk
end

section
set_option Elab.async false
set_option linter.all false
set_option maxRecDepth 100000
set_option maxHeartbeats 4000000
/-! The data layer, part 1: data, states, what holds between them and the abstract heap. -/
namespace Dl
open PySem PySem.Spec PyProof.Rows L2

inductive Tag where
  | lst | tup | dk (ks : List Key) | dt (ks : List (List Key)) | ins (c : Nat) (ns : List Str)
inductive D where
  | non | bl (b : Bool) | int (i : Int) | str (x : Str) | node (t : Tag) (ds : List D)
abbrev D.lst (ds : List D) : D := .node .lst ds
abbrev D.tup (ds : List D) : D := .node .tup ds
abbrev D.dk (ks : List Key) (ds : List D) : D := .node (.dk ks) ds
abbrev D.dt (ks : List (List Key)) (ds : List D) : D := .node (.dt ks) ds
abbrev D.ins (c : Nat) (ns : List Str) (ds : List D) : D := .node (.ins c ns) ds

/-- how the fields vs stand in an object -/
def Is (CA : Nat → Addr) : Tag → List V → HO → Prop
  | .lst, vs, o => o = HO.lst vs
  | .tup, vs, o => o = .tup vs
  | .dk ks, vs, o => ∃ kvs, o = .dK kvs ∧ kvs.map (·.1) = ks ∧ kvs.map (·.2) = vs
  | .dt ks, vs, o => ∃ kvs, o = .dT kvs ∧ kvs.map (·.1) = ks ∧ kvs.map (·.2) = vs
  | .ins c ns, vs, o => ∃ dx fs, o = .ins (CA c) dx fs ∧ fs.map (·.1) = ns ∧ fs.map (·.2) = vs
def Tag.mutable : Tag → Prop
  | .lst => True
  | .dk _ => True
  | .dt _ => True
  | _ => False
/-- the law's bag and its cells' list, where they stand; the instance that an __init__ makes -/
abbrev Beta := Option (Addr × Addr) × Option Addr
/-- what a slot may own at a -/
def Tag.okAt (β : Beta) (a : Addr) : Tag → Prop
  | .tup => False
  | .ins _ _ => β.2 = some a
  | _ => True
theorem Tag.mutable.ok {t : Tag} (h : t.mutable) (β : Beta) (a : Addr) : t.okAt β a := by
  cases t with
  | tup => exact h
  | ins _ _ => exact h.elim
  | _ => exact True.intro
theorem Tag.okAt.ne {t : Tag} {β : Beta} {a : Addr} (h : t.okAt β a) : t ≠ .tup := by
  intro z
  subst z
  exact h
theorem Is.notup {CA : Nat → Addr} {t : Tag} {vs xs : List V} {o : HO} (h : Is CA t vs o) (m : t ≠ .tup) : o ≠ .tup xs := by
  cases t with
  | tup => exact (m rfl).elim
  | lst => subst h; intro z; cases z
  | dk ks => obtain ⟨_, rfl, _⟩ := h; intro z; cases z
  | dt ks => obtain ⟨_, rfl, _⟩ := h; intro z; cases z
  | ins c ns => obtain ⟨_, _, rfl, _⟩ := h; intro z; cases z
theorem Is.nofrz {CA : Nat → Addr} {t : Tag} {vs : List V} {o u : HO} {ob : Obj} (h : Is CA t vs o) : o ≠ .frz ob u := by
  cases t with
  | tup => subst h; intro z; cases z
  | lst => subst h; intro z; cases z
  | dk ks => obtain ⟨_, rfl, _⟩ := h; intro z; cases z
  | dt ks => obtain ⟨_, rfl, _⟩ := h; intro z; cases z
  | ins c ns => obtain ⟨_, _, rfl, _⟩ := h; intro z; cases z
def At (CA : Nat → Addr) (H : Hp) (t : Tag) (a : Addr) (vs : List V) : Prop := ∃ o, H a = some o ∧ Is CA t vs o

mutual
def Rep (CA : Nat → Addr) (F : Hp) : D → V → Prop
  | .non, v => v = .non
  | .bl b, v => v = .bl b
  | .int i, v => v = .int i
  | .str x, v => v = .str x
  | .node t ds, v => ∃ a vs, v = .ref a ∧ At CA F t a vs ∧ Reps CA F ds vs
def Reps (CA : Nat → Addr) (F : Hp) : List D → List V → Prop
  | [], vs => vs = []
  | d :: ds, vs => ∃ v r, vs = v :: r ∧ Rep CA F d v ∧ Reps CA F ds r
end

variable {CA : Nat → Addr} {F F' F1 F2 H H' H1 H2 : Hp}
mutual
theorem Rep.mono (e : Same F F') : ∀ {d : D} {v : V}, Rep CA F d v → Rep CA F' d v
  | .non, _, h => by unfold Rep at h ⊢; exact h
  | .bl _, _, h => by unfold Rep at h ⊢; exact h
  | .int _, _, h => by unfold Rep at h ⊢; exact h
  | .str _, _, h => by unfold Rep at h ⊢; exact h
  | .node t ds, _, h => by
    unfold Rep at h ⊢
    obtain ⟨a, vs, e1, ⟨o, e2, e3⟩, e4⟩ := h
    exact ⟨a, vs, e1, ⟨o, e a o e2, e3⟩, Reps.mono e e4⟩
theorem Reps.mono (e : Same F F') : ∀ {ds : List D} {vs : List V}, Reps CA F ds vs → Reps CA F' ds vs
  | [], _, h => by unfold Reps at h ⊢; exact h
  | d :: ds, _, h => by
    unfold Reps at h ⊢
    obtain ⟨v, r, e1, e2, e3⟩ := h
    exact ⟨v, r, e1, Rep.mono e e2, Reps.mono e e3⟩
end
theorem reps_nil : Reps CA F [] [] := by unfold Reps; rfl
theorem reps_cons {d : D} {v : V} {ds : List D} {vs : List V} (h : Rep CA F d v) (r : Reps CA F ds vs) : Reps CA F (d :: ds) (v :: vs) := by
  unfold Reps
  exact ⟨v, vs, rfl, h, r⟩
theorem Reps.length : ∀ {ds : List D} {vs : List V}, Reps CA F ds vs → ds.length = vs.length
  | [], vs, h => by unfold Reps at h; subst h; rfl
  | d :: ds, vs, h => by
    unfold Reps at h
    obtain ⟨v, r, rfl, _, h2⟩ := h
    exact congrArg Nat.succ (Reps.length h2)
theorem Reps.get : ∀ {ds : List D} {vs : List V} {i : Nat} {d : D}, Reps CA F ds vs → ds[i]? = some d → ∃ v, vs[i]? = some v ∧ Rep CA F d v
  | [], _, _, _, _, e => by simp at e
  | d :: ds, vs, 0, _, h, e => by
    unfold Reps at h
    obtain ⟨v, r, rfl, h1, h2⟩ := h
    simp at e
    subst e
    exact ⟨v, rfl, h1⟩
  | d :: ds, vs, i + 1, _, h, e => by
    unfold Reps at h
    obtain ⟨v, r, rfl, h1, h2⟩ := h
    obtain ⟨u, h3, h4⟩ := Reps.get (i := i) h2 (by simpa using e)
    exact ⟨u, by simpa using h3, h4⟩
theorem Reps.of_get : ∀ {ds : List D} {vs : List V} {i : Nat} {v : V}, Reps CA F ds vs → vs[i]? = some v → ∃ d, ds[i]? = some d ∧ Rep CA F d v
  | [], vs, i, v, h, e => by
    unfold Reps at h
    subst h
    simp at e
  | d :: ds, vs, 0, v, h, e => by
    unfold Reps at h
    obtain ⟨v', r, rfl, h1, h2⟩ := h
    simp at e
    subst e
    exact ⟨d, rfl, h1⟩
  | d :: ds, vs, i + 1, v, h, e => by
    unfold Reps at h
    obtain ⟨v', r, rfl, h1, h2⟩ := h
    obtain ⟨u, h3, h4⟩ := Reps.of_get (i := i) h2 (by simpa using e)
    exact ⟨u, by simpa using h3, h4⟩
theorem Reps.append : ∀ {ds es : List D} {vs ws : List V}, Reps CA F ds vs → Reps CA F es ws → Reps CA F (ds ++ es) (vs ++ ws)
  | [], es, vs, ws, h, k => by
    unfold Reps at h
    subst h
    exact k
  | d :: ds, es, vs, ws, h, k => by
    unfold Reps at h
    obtain ⟨v, r, rfl, h1, h2⟩ := h
    exact reps_cons h1 (Reps.append h2 k)
theorem Reps.take : ∀ {ds : List D} {vs : List V} (n : Nat), Reps CA F ds vs → Reps CA F (ds.take n) (vs.take n)
  | _, _, 0, _ => by simp [reps_nil]
  | [], vs, n + 1, h => by
    unfold Reps at h
    subst h
    exact reps_nil
  | d :: ds, vs, n + 1, h => by
    unfold Reps at h
    obtain ⟨v, r, rfl, h1, h2⟩ := h
    exact reps_cons h1 (Reps.take n h2)
theorem Reps.drop : ∀ {ds : List D} {vs : List V} (n : Nat), Reps CA F ds vs → Reps CA F (ds.drop n) (vs.drop n)
  | _, _, 0, h => h
  | [], vs, n + 1, h => by
    unfold Reps at h
    subst h
    exact reps_nil
  | d :: ds, vs, n + 1, h => by
    unfold Reps at h
    obtain ⟨v, r, rfl, h1, h2⟩ := h
    exact Reps.drop n h2
theorem Reps.set : ∀ {ds : List D} {vs : List V} (i : Nat) {d : D} {v : V}, Reps CA F ds vs → Rep CA F d v → Reps CA F (ds.set i d) (vs.set i v)
  | [], vs, i, d, v, h, _ => by
    unfold Reps at h
    subst h
    exact reps_nil
  | e :: ds, vs, 0, d, v, h, k => by
    unfold Reps at h
    obtain ⟨u, r, rfl, h1, h2⟩ := h
    exact reps_cons k h2
  | e :: ds, vs, i + 1, d, v, h, k => by
    unfold Reps at h
    obtain ⟨u, r, rfl, h1, h2⟩ := h
    exact reps_cons h1 (Reps.set i h2 k)
theorem reps_one {d : D} {v : V} (h : Rep CA F d v) : Reps CA F [d] [v] := reps_cons h reps_nil
theorem rep_non : Rep CA F .non .non := by unfold Rep; rfl
theorem rep_bl {b : Bool} : Rep CA F (.bl b) (.bl b) := by unfold Rep; rfl
theorem rep_int {i : Int} : Rep CA F (.int i) (.int i) := by unfold Rep; rfl
theorem rep_str {x : Str} : Rep CA F (.str x) (.str x) := by unfold Rep; rfl
theorem Rep.non_eq {v : V} (h : Rep CA F .non v) : v = .non := by unfold Rep at h; exact h
theorem Rep.bl_eq {b : Bool} {v : V} (h : Rep CA F (.bl b) v) : v = .bl b := by unfold Rep at h; exact h
theorem Rep.int_eq {i : Int} {v : V} (h : Rep CA F (.int i) v) : v = .int i := by unfold Rep at h; exact h
theorem Rep.str_eq {x : Str} {v : V} (h : Rep CA F (.str x) v) : v = .str x := by unfold Rep at h; exact h
theorem Rep.node_eq {t : Tag} {ds : List D} {v : V} (h : Rep CA F (.node t ds) v) : ∃ a vs, v = .ref a ∧ At CA F t a vs ∧ Reps CA F ds vs := by unfold Rep at h; exact h
theorem rep_node {t : Tag} {ds : List D} {a : Addr} {vs : List V} (h : At CA F t a vs) (r : Reps CA F ds vs) : Rep CA F (.node t ds) (.ref a) := by
  unfold Rep
  exact ⟨a, vs, rfl, h, r⟩
/-- scalars -/
theorem reps_ints : ∀ ns : List Int, Reps CA F (ns.map D.int) (ns.map V.int)
  | [] => reps_nil
  | n :: ns => reps_cons rep_int (reps_ints ns)
theorem reps_strs : ∀ ns : List Str, Reps CA F (ns.map D.str) (ns.map V.str)
  | [] => reps_nil
  | n :: ns => reps_cons rep_str (reps_strs ns)
theorem Reps.strs_eq : ∀ {ns : List Str} {vs : List V}, Reps CA F (ns.map D.str) vs → vs = ns.map V.str
  | [], vs, h => by unfold Reps at h; exact h
  | n :: ns, vs, h => by
    rw [List.map_cons] at h
    unfold Reps at h
    obtain ⟨v, r, rfl, h1, h2⟩ := h
    rw [h1.str_eq, Reps.strs_eq h2]
    rfl
theorem Reps.ints_eq : ∀ {ns : List Int} {vs : List V}, Reps CA F (ns.map D.int) vs → vs = ns.map V.int
  | [], vs, h => by unfold Reps at h; exact h
  | n :: ns, vs, h => by
    rw [List.map_cons] at h
    unfold Reps at h
    obtain ⟨v, r, rfl, h1, h2⟩ := h
    rw [h1.int_eq, Reps.ints_eq h2]
    rfl
theorem Reps.bls_eq : ∀ {ns : List Bool} {vs : List V}, Reps CA F (ns.map D.bl) vs → vs = ns.map V.bl
  | [], vs, h => by unfold Reps at h; exact h
  | n :: ns, vs, h => by
    rw [List.map_cons] at h
    unfold Reps at h
    obtain ⟨v, r, rfl, h1, h2⟩ := h
    rw [h1.bl_eq, Reps.bls_eq h2]
    rfl

/-! ### the frozen part of a heap -/
def isDict : HO → Prop
  | .dK _ => True
  | .dT _ => True
  | _ => False
/-- F holds within H; a dict may be locked there -/
def Sub (F H : Hp) : Prop := ∀ b o, F b = some o → H b = some o ∨ (isDict o ∧ ∃ ob, H b = some (.frz ob o))
theorem Sub.in_ (h : Sub F H) {b : Addr} {o : HO} (e : F b = some o) : H b ≠ none := by
  rcases h b o e with z | ⟨_, ob, z⟩ <;> rw [z] <;> intro q <;> cases q
theorem Sub.nd (h : Sub F H) {b : Addr} {o : HO} (e : F b = some o) (n : ¬ isDict o) : H b = some o := by
  rcases h b o e with z | ⟨z, _⟩
  · exact z
  · exact (n z).elim
theorem Sub.rd (h : Sub F H) {b : Addr} {o : HO} (e : F b = some o) : Rd H b o := by
  rcases h b o e with z | ⟨_, ob, z⟩
  · exact .inl z
  · exact .inr ⟨ob, z⟩
theorem Sub.free (h : Sub F H) {b : Addr} (e : H b = none) : F b = none := by
  cases q : F b with
  | none => rfl
  | some o => exact (h.in_ q e).elim

/-! ### states -/
inductive Slot where
  | val (d : D) | own (t : Tag) (ds : List D) | bag
abbrev Env := List (Option Slot)

def isB (β : Beta) (b : Addr) : Prop := β.1.map (·.1) = some b
/-- the law's bag at b: its cells, four ints -/
def BagAt (β : Beta) (H F : Hp) (b : Addr) : Prop := ∃ (c : Addr) (ns : List Int) (i r sd n : Int), H b = some (.lst [.ref c, .int i, .int r, .int sd, .int n]) ∧ F c = some (.lst (ns.map V.int)) ∧
  0 ≤ i ∧ i ≤ ns.length ∧ 0 ≤ r ∧ 0 ≤ sd ∧ sd < 2147483323 ∧ 0 ≤ n ∧ β.1 = some (b, c)
def BOk (β : Beta) (H F : Hp) : Prop := ∀ b, isB β b → BagAt β H F b ∧ F b = none
structure Rel (CA : Nat → Addr) (β : Beta) (s : Env) (σ : L2.St) (H F : Hp) : Prop where
  sub : Sub F H
  len : σ.length = s.length
  val : ∀ (i : Nat) (d : D), s[i]? = some (some (.val d)) → ∃ v, σ[i]? = some (some v) ∧ Rep CA F d v
  own : ∀ (i : Nat) (t : Tag) (ds : List D), s[i]? = some (some (.own t ds)) → ∃ a vs, σ[i]? = some (some (.ref a)) ∧ At CA H t a vs ∧ Reps CA F ds vs ∧ F a = none ∧ ¬ isB β a ∧ t.okAt β a
  inj : ∀ (i j : Nat) (t : Tag) (ds : List D) (u : Tag) (es : List D) (a : Addr), s[i]? = some (some (.own t ds)) → s[j]? = some (some (.own u es)) → σ[i]? = some (some (.ref a)) → σ[j]? = some (some (.ref a)) → i = j
  bag : ∀ (i : Nat), s[i]? = some (some .bag) → ∃ b, isB β b ∧ σ[i]? = some (some (.ref b))
  bok : BOk β H F
/-- what may change -/
def Owned (β : Beta) (s : Env) (σ : L2.St) (b : Addr) : Prop := isB β b ∨ ∃ (i : Nat) (t : Tag) (ds : List D), s[i]? = some (some (.own t ds)) ∧ σ[i]? = some (some (.ref b))
structure XT (M : Addr → Prop) (H F H' F' : Hp) : Prop where
  fz : ∀ b o, F b = some o → F' b = some o
  nw : ∀ b o, F' b = some o → F b = some o ∨ H b = none ∨ (∃ xs, o = .tup xs) ∨ M b
  kp : ∀ b o, H b = some o → ¬ M b → H' b = some o
  dm : ∀ b, H' b = none → H b = none
theorem XT.refl {M : Addr → Prop} : XT M H F H F := ⟨fun _ _ h => h, fun _ _ h => .inl h, fun _ _ h _ => h, fun _ h => h⟩
theorem XT.trans {M M' : Addr → Prop} (a : XT M H F H1 F1) (b : XT M' H1 F1 H2 F2) (w : ∀ x, M' x → M x ∨ H x = none) : XT M H F H2 F2 where
  fz := fun x o h => b.fz x o (a.fz x o h)
  nw := fun x o h => by
    rcases b.nw x o h with z | z | z | z
    · exact a.nw x o z
    · exact .inr (.inl (a.dm x z))
    · exact .inr (.inr (.inl z))
    · rcases w x z with q | q
      · exact .inr (.inr (.inr q))
      · exact .inr (.inl q)
  kp := fun x o h n => b.kp x o (a.kp x o h n) fun z => by
    rcases w x z with q | q
    · exact n q
    · rw [q] at h; cases h
  dm := fun x h => a.dm x (b.dm x h)
structure Ext (β : Beta) (s : Env) (σ : L2.St) (H F : Hp) (s' : Env) (σ' : L2.St) (H' F' : Hp) : Prop where
  xt : XT (Owned β s σ) H F H' F'
  ow : ∀ b, Owned β s' σ' b → Owned β s σ b ∨ H b = none
section
variable {β : Beta} {s s1 s2 : Env} {σ σ1 σ2 : L2.St}
theorem Ext.refl : Ext β s σ H F s σ H F := ⟨.refl, fun _ h => .inl h⟩
theorem Ext.trans (a : Ext β s σ H F s1 σ1 H1 F1) (b : Ext β s1 σ1 H1 F1 s2 σ2 H2 F2) : Ext β s σ H F s2 σ2 H2 F2 where
  xt := a.xt.trans b.xt a.ow
  ow := fun x h => by
    rcases b.ow x h with z | z
    · exact a.ow x z
    · exact .inr (a.xt.dm x z)
theorem Ext.fz (a : Ext β s σ H F s1 σ1 H1 F1) : Same F F1 := a.xt.fz
theorem Ext.dm (a : Ext β s σ H F s1 σ1 H1 F1) {b : Addr} (h : H1 b = none) : H b = none := a.xt.dm b h
/-- an object that nobody owns stays -/
theorem Ext.stays (a : Ext β s σ H F s1 σ1 H1 F1) (r : Sub F1 H1) {b : Addr} {o : HO} (e : H b = some o) (n : ¬ Owned β s σ b) (nf : F b = none) (nt : ∀ xs, o ≠ .tup xs) : H1 b = some o ∧ F1 b = none ∧ ¬ Owned β s1 σ1 b := by
  have k := a.xt.kp b o e n
  refine ⟨k, ?_, fun z => ?_⟩
  · cases q : F1 b with
    | none => rfl
    | some u =>
      rcases a.xt.nw b u q with z | z | ⟨xs, z⟩ | z
      · rw [nf] at z; cases z
      · rw [e] at z; cases z
      · subst z
        have := r.nd q (fun z => z)
        rw [k] at this
        exact (nt xs (Option.some.inj this)).elim
      · exact (n z).elim
  · rcases a.ow b z with z | z
    · exact n z
    · rw [e] at z; cases z
theorem Rel.at_ne (r : Rel CA β s σ H F) {i : Nat} {t : Tag} {ds : List D} {a : Addr} (e : s[i]? = some (some (.own t ds))) (e2 : σ[i]? = some (some (.ref a))) : Owned β s σ a := .inr ⟨i, t, ds, e, e2⟩
/-- the same slots over another heap: nothing of what the slots own has changed but perhaps the bag -/
theorem Rel.over (r : Rel CA β s σ H F) (x : XT (fun b => isB β b) H F H' F') (sub : Sub F' H') (bok : BOk β H' F') : Rel CA β s σ H' F' where
  sub := sub
  len := r.len
  val := fun i d e => let ⟨v, e1, e2⟩ := r.val i d e; ⟨v, e1, e2.mono x.fz⟩
  own := fun i t ds e => by
    obtain ⟨a, vs, e1, ⟨o, e2, e3⟩, e4, e5, e6, e7⟩ := r.own i t ds e
    have k := x.kp a o e2 e6
    refine ⟨a, vs, e1, ⟨o, k, e3⟩, e4.mono x.fz, ?_, e6, e7⟩
    cases q : F' a with
    | none => rfl
    | some u =>
      rcases x.nw a u q with z | z | ⟨xs, z⟩ | z
      · rw [e5] at z; cases z
      · rw [e2] at z; cases z
      · subst z
        have := sub.nd q (fun z => z)
        rw [k] at this
        exact (e3.notup e7.ne (Option.some.inj this)).elim
      · exact (e6 z).elim
  inj := r.inj
  bag := r.bag
  bok := bok
theorem Ext.over (x : XT (fun b => isB β b) H F H' F') : Ext β s σ H F s σ H' F' where
  xt := ⟨x.fz, fun b o h => (x.nw b o h).imp id (Or.imp id (Or.imp id .inl)), fun b o h n => x.kp b o h fun z => n (.inl z), x.dm⟩
  ow := fun _ h => .inl h
/-- a new object, not frozen -/
theorem XT.new {M : Addr → Prop} {p : Addr} {o : HO} (h : H p = none) : XT M H F (upd H p o) F where
  fz := fun _ _ e => e
  nw := fun _ _ e => .inl e
  kp := fun b u e _ => by rw [upd_ne (ne_of_none e h)]; exact e
  dm := fun b e => by
    by_cases q : b = p
    · rw [q]; exact h
    · rw [upd_ne q] at e; exact e
/-- .., frozen -/
theorem XT.newF {M : Addr → Prop} {p : Addr} {o : HO} (h : H p = none) (sub : Sub F H) : XT M H F (upd H p o) (upd F p o) where
  fz := fun b u e => by rw [upd_ne (ne_of_none e (sub.free h))]; exact e
  nw := fun b u e => by
    by_cases q : b = p
    · exact .inr (.inl (by rw [q]; exact h))
    · rw [upd_ne q] at e; exact .inl e
  kp := fun b u e _ => by rw [upd_ne (ne_of_none e h)]; exact e
  dm := fun b e => by
    by_cases q : b = p
    · rw [q]; exact h
    · rw [upd_ne q] at e; exact e
theorem Sub.new (sub : Sub F H) {p : Addr} {o : HO} (h : H p = none) : Sub F (upd H p o) := fun b u e => by
  have n : b ≠ p := fun z => by subst z; exact sub.in_ e h
  rw [upd_ne n]
  exact sub b u e
theorem Sub.newF (sub : Sub F H) {p : Addr} {o : HO} (h : H p = none) : Sub (upd F p o) (upd H p o) := fun b u e => by
  by_cases q : b = p
  · subst q
    rw [upd_same] at e ⊢
    exact .inl e
  · rw [upd_ne q] at e ⊢
    exact sub b u e
theorem BagAt.mono {b : Addr} (h : BagAt β H F b) (e1 : H' b = H b) (e2 : Same F F') : BagAt β H' F' b := by
  obtain ⟨c, ns, i, r, sd, n, h1, h2, h3⟩ := h
  exact ⟨c, ns, i, r, sd, n, e1.trans h1, e2 _ _ h2, h3⟩
theorem BagAt.in_ {b : Addr} (h : BagAt β H F b) : H b ≠ none := by
  obtain ⟨c, ns, i, r, sd, n, h1, _⟩ := h
  rw [h1]
  intro z
  cases z
theorem BOk.new (k : BOk β H F) {p : Addr} {o : HO} (h : H p = none) : BOk β (upd H p o) F := fun b e => by
  obtain ⟨k1, k2⟩ := k b e
  have n : b ≠ p := fun z => by subst z; exact k1.in_ h
  exact ⟨k1.mono (by rw [upd_ne n]) (fun _ _ z => z), k2⟩
theorem BOk.newF (k : BOk β H F) (sub : Sub F H) {p : Addr} {o : HO} (h : H p = none) : BOk β (upd H p o) (upd F p o) := fun b e => by
  obtain ⟨k1, k2⟩ := k b e
  have n : b ≠ p := fun z => by subst z; exact k1.in_ h
  exact ⟨k1.mono (by rw [upd_ne n]) (fun c u z => by rw [upd_ne (ne_of_none z (sub.free h))]; exact z), by rw [upd_ne n]; exact k2⟩
theorem Rel.new (r : Rel CA β s σ H F) {p : Addr} {o : HO} (h : H p = none) : Rel CA β s σ (upd H p o) F := r.over (.new h) (r.sub.new h) (r.bok.new h)
theorem Rel.newF (r : Rel CA β s σ H F) {p : Addr} {o : HO} (h : H p = none) : Rel CA β s σ (upd H p o) (upd F p o) := r.over (.newF h r.sub) (r.sub.newF h) (r.bok.newF r.sub h)
theorem Ext.new {p : Addr} {o : HO} (h : H p = none) : Ext β s σ H F s σ (upd H p o) F := .over (.new h)
theorem Ext.newF (r : Rel CA β s σ H F) {p : Addr} {o : HO} (h : H p = none) : Ext β s σ H F s σ (upd H p o) (upd F p o) := .over (.newF h r.sub)
theorem Rel.noown (r : Rel CA β s σ H F) {p : Addr} (h : H p = none) : ¬ Owned β s σ p := fun z => by
  rcases z with z | ⟨i, t, ds, e1, e2⟩
  · exact (r.bok p z).1.in_ h
  · obtain ⟨a, vs, e3, ⟨o, e4, _⟩, _⟩ := r.own i t ds e1
    rw [e3] at e2
    cases e2
    rw [h] at e4
    cases e4
theorem same_updF {a : Addr} {o : HO} (h : F a = none) : Same F (upd F a o) := fun b u e => by
  rw [upd_ne (ne_of_none e h)]
  exact e
/-- a fresh object is frozen -/
theorem Rel.freeze (r : Rel CA β s σ H F) {a : Addr} {o : HO} (h : H a = some o) (hf : F a = none) (n : ¬ Owned β s σ a) : Rel CA β s σ H (upd F a o) where
  sub := fun b u e => by
    by_cases q : b = a
    · subst q
      rw [upd_same] at e
      cases e
      exact .inl h
    · rw [upd_ne q] at e
      exact r.sub b u e
  len := r.len
  val := fun i d e => let ⟨v, e1, e2⟩ := r.val i d e; ⟨v, e1, e2.mono (same_updF hf)⟩
  own := fun i t ds e => by
    obtain ⟨b, vs, e1, e2, e4, e5, e6, e7⟩ := r.own i t ds e
    have q : b ≠ a := fun z => by subst z; exact n (r.at_ne e e1)
    exact ⟨b, vs, e1, e2, e4.mono (same_updF hf), by rw [upd_ne q]; exact e5, e6, e7⟩
  inj := r.inj
  bag := r.bag
  bok := fun b e => by
    obtain ⟨k1, k2⟩ := r.bok b e
    have q : b ≠ a := fun z => by subst z; exact n (.inl e)
    exact ⟨k1.mono rfl (same_updF hf), by rw [upd_ne q]; exact k2⟩
/-! ### slots that change -/
theorem set_in {α β' : Type} {s : List α} {σ : List β'} {i j : Nat} {x y : α} (l : σ.length = s.length) (e : (s.set i x)[j]? = some y) :
    (i = j ∧ y = x ∧ ∀ z, (σ.set i z)[j]? = some z) ∨ (i ≠ j ∧ s[j]? = some y ∧ ∀ z, (σ.set i z)[j]? = σ[j]?) := by
  by_cases q : i = j
  · subst q
    have hl : i < s.length := by
      have := (List.getElem?_eq_some_iff.mp e).1
      simpa using this
    rw [List.getElem?_set_self hl] at e
    exact .inl ⟨rfl, (Option.some.inj e).symm, fun z => List.getElem?_set_self (by omega)⟩
  · rw [List.getElem?_set_ne q] at e
    exact .inr ⟨q, e, fun z => List.getElem?_set_ne q⟩
theorem Rel.setV (r : Rel CA β s σ H F) (i : Nat) {d : D} {v : V} (h : Rep CA F d v) : Rel CA β (s.set i (some (.val d))) (σ.set i (some v)) H F where
  sub := r.sub
  len := by rw [List.length_set, List.length_set]; exact r.len
  val := fun j e q => by
    rcases set_in r.len q with ⟨_, e1, e2⟩ | ⟨_, e1, e2⟩
    · cases e1
      exact ⟨v, e2 _, h⟩
    · rw [e2]; exact r.val j e e1
  own := fun j t ds q => by
    rcases set_in r.len q with ⟨_, e1, e2⟩ | ⟨_, e1, e2⟩
    · cases e1
    · rw [e2]; exact r.own j t ds e1
  inj := fun j k t ds u es a q1 q2 q3 q4 => by
    rcases set_in r.len q1 with ⟨_, e1, e2⟩ | ⟨_, e1, e2⟩
    · cases e1
    · rcases set_in r.len q2 with ⟨_, e3, e4⟩ | ⟨_, e3, e4⟩
      · cases e3
      · rw [e2] at q3
        rw [e4] at q4
        exact r.inj j k t ds u es a e1 e3 q3 q4
  bag := fun j q => by
    rcases set_in r.len q with ⟨_, e1, e2⟩ | ⟨_, e1, e2⟩
    · cases e1
    · rw [e2]; exact r.bag j e1
  bok := r.bok
theorem Owned.setV (l : σ.length = s.length) {i : Nat} {d : D} {v : V} {b : Addr} (h : Owned β (s.set i (some (.val d))) (σ.set i (some v)) b) : Owned β s σ b := by
  rcases h with h | ⟨j, t, ds, q1, q2⟩
  · exact .inl h
  · rcases set_in l q1 with ⟨_, e1, e2⟩ | ⟨_, e1, e2⟩
    · cases e1
    · rw [e2] at q2; exact .inr ⟨j, t, ds, e1, q2⟩
theorem Ext.setV (l : σ.length = s.length) {i : Nat} {d : D} {v : V} : Ext β s σ H F (s.set i (some (.val d))) (σ.set i (some v)) H F := ⟨.refl, fun _ h => .inl (h.setV l)⟩
theorem Rel.setO (r : Rel CA β s σ H F) (i : Nat) {t : Tag} {ds : List D} {a : Addr} {vs : List V} (h : At CA H t a vs) (h2 : Reps CA F ds vs) (hf : F a = none) (n : ¬ Owned β s σ a) (m : t.mutable) : Rel CA β (s.set i (some (.own t ds))) (σ.set i (some (.ref a))) H F where
  sub := r.sub
  len := by rw [List.length_set, List.length_set]; exact r.len
  val := fun j e q => by
    rcases set_in r.len q with ⟨_, e1, e2⟩ | ⟨_, e1, e2⟩
    · cases e1
    · rw [e2]; exact r.val j e e1
  own := fun j u es q => by
    rcases set_in r.len q with ⟨_, e1, e2⟩ | ⟨_, e1, e2⟩
    · cases e1
      exact ⟨a, vs, e2 _, h, h2, hf, fun z => n (.inl z), m.ok β a⟩
    · rw [e2]; exact r.own j u es e1
  inj := fun j k u ds' w es b q1 q2 q3 q4 => by
    rcases set_in r.len q1 with ⟨d1, e1, e2⟩ | ⟨d1, e1, e2⟩
    · rcases set_in r.len q2 with ⟨d3, e3, e4⟩ | ⟨d3, e3, e4⟩
      · exact d1.symm.trans d3
      · rw [e2] at q3
        cases q3
        rw [e4] at q4
        exact (n (r.at_ne e3 q4)).elim
    · rcases set_in r.len q2 with ⟨d3, e3, e4⟩ | ⟨d3, e3, e4⟩
      · rw [e4] at q4
        cases q4
        rw [e2] at q3
        exact (n (r.at_ne e1 q3)).elim
      · rw [e2] at q3
        rw [e4] at q4
        exact r.inj j k u ds' w es b e1 e3 q3 q4
  bag := fun j q => by
    rcases set_in r.len q with ⟨_, e1, e2⟩ | ⟨_, e1, e2⟩
    · cases e1
    · rw [e2]; exact r.bag j e1
  bok := r.bok
theorem Owned.setO (l : σ.length = s.length) {i : Nat} {t : Tag} {ds : List D} {a b : Addr} (h : Owned β (s.set i (some (.own t ds))) (σ.set i (some (.ref a))) b) : Owned β s σ b ∨ b = a := by
  rcases h with h | ⟨j, u, es, q1, q2⟩
  · exact .inl (.inl h)
  · rcases set_in l q1 with ⟨_, e1, e2⟩ | ⟨_, e1, e2⟩
    · rw [e2] at q2
      cases q2
      exact .inr rfl
    · rw [e2] at q2; exact .inl (.inr ⟨j, u, es, e1, q2⟩)
/-- a slot's own object has changed -/
theorem Rel.mut (r : Rel CA β s σ H F) {i : Nat} {t t' : Tag} {ds ds' : List D} {a : Addr} {vs' : List V} {o' : HO} (e : s[i]? = some (some (.own t ds))) (ea : σ[i]? = some (some (.ref a))) (h : Is CA t' vs' o') (h2 : Reps CA F ds' vs') (m : t'.okAt β a) :
    Rel CA β (s.set i (some (.own t' ds'))) σ (upd H a o') F := by
  obtain ⟨a', vs, e1, ⟨o, e2, e3⟩, e4, e5, e6, e7⟩ := r.own i t ds e
  rw [ea] at e1
  cases e1
  have hi : i < s.length := (List.getElem?_eq_some_iff.mp e).1
  have nF : ∀ b u, F b = some u → b ≠ a := fun b u q => ne_of_none q e5
  refine ⟨fun b u q => ?_, ?_, fun j d q => ?_, fun j u es q => ?_, fun j k u ds'' w es b q1 q2 q3 q4 => ?_, fun j q => ?_, fun b q => ?_⟩
  · rw [upd_ne (nF b u q)]; exact r.sub b u q
  · rw [List.length_set]; exact r.len
  · by_cases z : i = j
    · subst z
      rw [List.getElem?_set_self hi] at q
      cases q
    · rw [List.getElem?_set_ne z] at q
      exact r.val j d q
  · by_cases z : i = j
    · subst z
      rw [List.getElem?_set_self hi] at q
      cases q
      exact ⟨a, vs', ea, ⟨o', upd_same, h⟩, h2, e5, e6, m⟩
    · rw [List.getElem?_set_ne z] at q
      obtain ⟨b, ws, f1, ⟨u', f2, f3⟩, f4⟩ := r.own j u es q
      have ne : b ≠ a := fun y => by subst y; exact z (r.inj i j t ds u es b e q ea f1)
      exact ⟨b, ws, f1, ⟨u', by rw [upd_ne ne]; exact f2, f3⟩, f4⟩
  · by_cases z : i = j
    · by_cases y : i = k
      · exact z.symm.trans y
      · subst z
        rw [List.getElem?_set_ne y] at q2
        exact r.inj i k t ds w es b e q2 q3 q4
    · rw [List.getElem?_set_ne z] at q1
      by_cases y : i = k
      · subst y
        exact r.inj j i u ds'' t ds b q1 e q3 q4
      · rw [List.getElem?_set_ne y] at q2
        exact r.inj j k u ds'' w es b q1 q2 q3 q4
  · by_cases z : i = j
    · subst z
      rw [List.getElem?_set_self hi] at q
      cases q
    · rw [List.getElem?_set_ne z] at q
      exact r.bag j q
  · obtain ⟨k1, k2⟩ := r.bok b q
    have ne : b ≠ a := fun y => by subst y; exact e6 q
    exact ⟨k1.mono (by rw [upd_ne ne]) (fun _ _ z => z), k2⟩
theorem Owned.mut {i : Nat} {t t' : Tag} {ds ds' : List D} (e : s[i]? = some (some (.own t ds))) {b : Addr} (h : Owned β (s.set i (some (.own t' ds'))) σ b) : Owned β s σ b := by
  rcases h with h | ⟨j, u, es, q1, q2⟩
  · exact .inl h
  · by_cases z : i = j
    · subst z
      exact .inr ⟨i, t, ds, e, q2⟩
    · rw [List.getElem?_set_ne z] at q1
      exact .inr ⟨j, u, es, q1, q2⟩
theorem Ext.mut {i : Nat} {t t' : Tag} {ds ds' : List D} {a : Addr} {o' : HO} (e : s[i]? = some (some (.own t ds))) (ea : σ[i]? = some (some (.ref a))) : Ext β s σ H F (s.set i (some (.own t' ds'))) σ (upd H a o') F where
  xt := ⟨fun _ _ h => h, fun _ _ h => .inl h, fun b o h n => by
    have ne : b ≠ a := fun z => by subst z; exact n (.inr ⟨i, t, ds, e, ea⟩)
    rw [upd_ne ne]; exact h, fun b h => by
    by_cases z : b = a
    · subst z; rw [upd_same] at h; cases h
    · rw [upd_ne z] at h; exact h⟩
  ow := fun _ h => .inl (h.mut e)
/-- a slot's own object is frozen -/
theorem Rel.frz (r : Rel CA β s σ H F) {i : Nat} {t : Tag} {ds : List D} (e : s[i]? = some (some (.own t ds))) : ∃ F' a, σ[i]? = some (some (.ref a)) ∧ Rel CA β (s.set i (some (.val (.node t ds)))) σ H F' ∧ Ext β s σ H F (s.set i (some (.val (.node t ds)))) σ H F' ∧ Rep CA F' (.node t ds) (.ref a) ∧ F' = (fun b => if b = a then H a else F b) := by
  obtain ⟨a, vs, ea, ⟨o, e2, e3⟩, e4, e5, e6, e7⟩ := r.own i t ds e
  have hi : i < s.length := (List.getElem?_eq_some_iff.mp e).1
  have sm : Same F (upd F a o) := same_updF e5
  have hr : Rep CA (upd F a o) (.node t ds) (.ref a) := rep_node ⟨o, upd_same, e3⟩ (e4.mono sm)
  refine ⟨upd F a o, a, ea, ⟨fun b u q => ?_, ?_, fun j d q => ?_, fun j u es q => ?_, fun j k u ds'' w es b q1 q2 q3 q4 => ?_, fun j q => ?_, fun b q => ?_⟩, ⟨⟨sm, fun b u q => ?_, fun _ _ h _ => h, fun _ h => h⟩, fun b h => .inl ?_⟩, hr, ?_⟩
  · by_cases z : b = a
    · subst z
      rw [upd_same] at q
      cases q
      exact .inl e2
    · rw [upd_ne z] at q; exact r.sub b u q
  · rw [List.length_set]; exact r.len
  · by_cases z : i = j
    · subst z
      rw [List.getElem?_set_self hi] at q
      cases q
      exact ⟨_, ea, hr⟩
    · rw [List.getElem?_set_ne z] at q
      obtain ⟨v, f1, f2⟩ := r.val j d q
      exact ⟨v, f1, f2.mono sm⟩
  · by_cases z : i = j
    · subst z
      rw [List.getElem?_set_self hi] at q
      cases q
    · rw [List.getElem?_set_ne z] at q
      obtain ⟨b, ws, f1, f2, f4, f5, f6⟩ := r.own j u es q
      have ne : b ≠ a := fun y => by subst y; exact z (r.inj i j t ds u es b e q ea f1)
      exact ⟨b, ws, f1, f2, f4.mono sm, by rw [upd_ne ne]; exact f5, f6⟩
  · by_cases z : i = j
    · subst z
      rw [List.getElem?_set_self hi] at q1
      cases q1
    · by_cases y : i = k
      · subst y
        rw [List.getElem?_set_self hi] at q2
        cases q2
      · rw [List.getElem?_set_ne z] at q1
        rw [List.getElem?_set_ne y] at q2
        exact r.inj j k u ds'' w es b q1 q2 q3 q4
  · by_cases z : i = j
    · subst z
      rw [List.getElem?_set_self hi] at q
      cases q
    · rw [List.getElem?_set_ne z] at q
      exact r.bag j q
  · obtain ⟨k1, k2⟩ := r.bok b q
    have ne : b ≠ a := fun y => by subst y; exact e6 q
    exact ⟨k1.mono rfl sm, by rw [upd_ne ne]; exact k2⟩
  · by_cases z : b = a
    · subst z
      exact .inr (.inr (.inr (.inr ⟨i, t, ds, e, ea⟩)))
    · rw [upd_ne z] at q; exact .inl q
  · rcases h with h | ⟨j, u, es, q1, q2⟩
    · exact .inl h
    · by_cases z : i = j
      · subst z
        rw [List.getElem?_set_self hi] at q1
        cases q1
      · rw [List.getElem?_set_ne z] at q1
        exact .inr ⟨j, u, es, q1, q2⟩
  · funext b
    unfold upd
    split
    · rw [e2]
    · rfl
end
end Dl
end

section
set_option Elab.async false
set_option linter.all false
set_option maxRecDepth 100000
set_option maxHeartbeats 4000000
/-! The data layer, part 2: judgements, expressions, calls, statements. -/
namespace Dl
open PySem PySem.Spec PyProof.Rows L2

inductive Arg where
  | val (d : D) | bag
abbrev VDen := Env → (D → Env → Prop) → Prop
abbrev TDen := Env → (Bool → Env → Prop) → Prop
abbrev ADen := Env → (List Arg → Env → Prop) → Prop
abbrev FDen := Env → (Tag → List D → Env → Prop) → Prop
/-- what is wanted behind a statement; rf: a return of an object that nobody else holds -/
structure DEnds where
  nx : Env → Prop
  rt : D → Prop
  rf : Tag → List D → Prop := fun _ _ => False
  bk : Env → Prop := fun _ => False
  ct : Env → Prop := fun _ => False
abbrev SDen := Env → DEnds → Prop
abbrev GDen := D → Env → (Env → Prop) → Prop

def RepA (CA : Nat → Addr) (β : Beta) (F : Hp) : Arg → V → Prop
  | .val d, v => Rep CA F d v
  | .bag, v => ∃ b, isB β b ∧ v = .ref b
def RepAs (CA : Nat → Addr) (β : Beta) (F : Hp) : List Arg → List V → Prop
  | [], vs => vs = []
  | a :: as, vs => ∃ v r, vs = v :: r ∧ RepA CA β F a v ∧ RepAs CA β F as r
section
variable {CA : Nat → Addr} {β : Beta} {F F' H H' : Hp}
theorem RepA.mono (e : Same F F') : ∀ {a : Arg} {v : V}, RepA CA β F a v → RepA CA β F' a v
  | .val _, _, h => Rep.mono e h
  | .bag, _, h => h
theorem RepAs.mono (e : Same F F') : ∀ {as : List Arg} {vs : List V}, RepAs CA β F as vs → RepAs CA β F' as vs
  | [], _, h => h
  | _ :: _, _, ⟨v, r, e1, e2, e3⟩ => ⟨v, r, e1, e2.mono e, RepAs.mono e e3⟩
theorem RepAs.length : ∀ {as : List Arg} {vs : List V}, RepAs CA β F as vs → as.length = vs.length
  | [], _, h => by cases (show _ = [] from h); rfl
  | _ :: _, _, ⟨v, r, e1, e2, e3⟩ => by subst e1; exact congrArg Nat.succ (RepAs.length e3)
end

def PV (CA : Nat → Addr) (β : Beta) (s : Env) (σ : L2.St) (H F : Hp) (P : D → Env → Prop) (Q : VK) : Prop :=
  ∀ d s', P d s' → ∀ v H' F', Rel CA β s' σ H' F' → Ext β s σ H F s' σ H' F' → Rep CA F' d v → Q v H'
def liftV (CA : Nat → Addr) (den : VDen) : TE := fun σ H Q => ∃ β s F P, Rel CA β s σ H F ∧ den s P ∧ PV CA β s σ H F P Q
def PF (CA : Nat → Addr) (β : Beta) (s : Env) (σ : L2.St) (H F : Hp) (P : Tag → List D → Env → Prop) (Q : VK) : Prop :=
  ∀ t ds s', P t ds s' → ∀ a vs H' F', Rel CA β s' σ H' F' → Ext β s σ H F s' σ H' F' → At CA H' t a vs → Reps CA F' ds vs → F' a = none → H a = none → ¬ Owned β s' σ a → t.mutable → Q (.ref a) H'
def liftF (CA : Nat → Addr) (den : FDen) : TE := fun σ H Q => ∃ β s F P, Rel CA β s σ H F ∧ den s P ∧ PF CA β s σ H F P Q
def liftT (CA : Nat → Addr) (den : TDen) : TT := fun σ H Q => ∃ β s F P, Rel CA β s σ H F ∧ den s P ∧
  ∀ b s', P b s' → ∀ H' F', Rel CA β s' σ H' F' → Ext β s σ H F s' σ H' F' → Q b H'
def liftA (CA : Nat → Addr) (den : ADen) : TA := fun σ H Q => ∃ β s F P, Rel CA β s σ H F ∧ den s P ∧
  ∀ as s', P as s' → ∀ vs H' F', Rel CA β s' σ H' F' → Ext β s σ H F s' σ H' F' → RepAs CA β F' as vs → Q vs H'
/-- no other slots than these have changed -/
def Off {α : Type} (ws : List Nat) (σ σ' : List α) : Prop := σ'.length = σ.length ∧ ∀ j, j ∉ ws → σ'[j]? = σ[j]?
theorem Off.refl {α : Type} {ws : List Nat} {σ : List α} : Off ws σ σ := ⟨rfl, fun _ _ => rfl⟩
theorem Off.trans {α : Type} {ws us : List Nat} {σ σ1 σ2 : List α} (a : Off ws σ σ1) (b : Off us σ1 σ2) : Off (ws ++ us) σ σ2 := ⟨b.1.trans a.1, fun j h => (b.2 j fun z => h (List.mem_append_right _ z)).trans (a.2 j fun z => h (List.mem_append_left _ z))⟩
theorem Off.mono {α : Type} {ws us : List Nat} {σ σ1 : List α} (a : Off ws σ σ1) (h : ∀ j ∈ ws, j ∈ us) : Off us σ σ1 := ⟨a.1, fun j z => a.2 j fun y => z (h j y)⟩
theorem Off.set {α : Type} {i : Nat} {σ : List α} {x : α} : Off [i] σ (σ.set i x) := ⟨List.length_set, fun j h => List.getElem?_set_ne fun z => h (by rw [z]; exact List.mem_singleton.mpr rfl)⟩
def liftG (CA : Nat → Addr) (ws : List Nat) (den : GDen) : TG := fun v σ H Q => ∃ β s F d P, Rel CA β s σ H F ∧ Rep CA F d v ∧ den d s P ∧
  ∀ s', P s' → ∀ σ' H' F', Rel CA β s' σ' H' F' → Ext β s σ H F s' σ' H' F' → Off ws σ σ' → Q σ' H'
structure PSt (CA : Nat → Addr) (β : Beta) (s : Env) (σ : L2.St) (H F : Hp) (E : DEnds) (D : Ends) : Prop where
  nx : ∀ s', E.nx s' → ∀ σ' H' F', Rel CA β s' σ' H' F' → Ext β s σ H F s' σ' H' F' → D.nx σ' H'
  rt : ∀ d, E.rt d → ∀ v H' F', XT (Owned β s σ) H F H' F' → Sub F' H' → BOk β H' F' → Rep CA F' d v → D.rt v H'
  rf : ∀ t ds, E.rf t ds → ∀ a vs H' F', XT (Owned β s σ) H F H' F' → Sub F' H' → BOk β H' F' → At CA H' t a vs → Reps CA F' ds vs → F' a = none → t.mutable → ¬ isB β a → (H a = none ∨ Owned β s σ a) → D.rt (.ref a) H'
  bk : ∀ s', E.bk s' → ∀ σ' H' F', Rel CA β s' σ' H' F' → Ext β s σ H F s' σ' H' F' → D.bk σ' H'
  ct : ∀ s', E.ct s' → ∀ σ' H' F', Rel CA β s' σ' H' F' → Ext β s σ H F s' σ' H' F' → D.ct σ' H'
theorem PSt.shift {CA : Nat → Addr} {β : Beta} {s s1 : Env} {σ σ1 : L2.St} {H F H1 F1 : Hp} {E : DEnds} {D : Ends} (q : PSt CA β s σ H F E D) (x : Ext β s σ H F s1 σ1 H1 F1) : PSt CA β s1 σ1 H1 F1 E D where
  nx := fun s' h σ' H' F' R' E' => q.nx s' h σ' H' F' R' (x.trans E')
  rt := fun d h v H' F' y => q.rt d h v H' F' (x.xt.trans y x.ow)
  rf := fun t ds h a vs H' F' y z1 z2 z3 z4 z5 z6 z7 z8 => q.rf t ds h a vs H' F' (x.xt.trans y x.ow) z1 z2 z3 z4 z5 z6 z7 (by
    rcases z8 with z | z
    · exact .inl (x.dm z)
    · exact (x.ow a z).symm)
  bk := fun s' h σ' H' F' R' E' => q.bk s' h σ' H' F' R' (x.trans E')
  ct := fun s' h σ' H' F' R' E' => q.ct s' h σ' H' F' R' (x.trans E')
def liftS (CA : Nat → Addr) (den : SDen) : TS := fun D σ H => ∃ β s F E, Rel CA β s σ H F ∧ den s E ∧ PSt CA β s σ H F E D
structure DV (CA : Nat → Addr) (X : Cx) (e : Expr) (den : VDen) : Prop where
  pe : PE X e (liftV CA den)
structure DF (CA : Nat → Addr) (X : Cx) (e : Expr) (den : FDen) : Prop where
  pe : PE X e (liftF CA den)
structure DT (CA : Nat → Addr) (X : Cx) (e : Expr) (den : TDen) : Prop where
  pt : PT X e (liftT CA den)
structure DA (CA : Nat → Addr) (X : Cx) (es : List Expr) (den : ADen) : Prop where
  pa : PA X es (liftA CA den)
structure DG (CA : Nat → Addr) (X : Cx) (e : Expr) (ws : List Nat) (den : GDen) : Prop where
  pg : PG X e (liftG CA ws den)
structure DS (CA : Nat → Addr) (X : Cx) (st : Stmt) (den : SDen) : Prop where
  ps : PS X st (liftS CA den)
structure DSs (CA : Nat → Addr) (X : Cx) (st : List Stmt) (den : SDen) : Prop where
  ps : PSs X st (liftS CA den)

section
variable {X : Cx} {e : Expr}
theorem pe_w {t t' : TE} (h : PE X e t) (w : ∀ σ H Q, t' σ H Q → t σ H Q) : PE X e t' := ⟨fun pins s σ H Q I q => h.run pins s σ H Q I (w σ H Q q)⟩
theorem pt_w {t t' : TT} (h : PT X e t) (w : ∀ σ H Q, t' σ H Q → t σ H Q) : PT X e t' := ⟨fun pins s σ H Q I q => h.run pins s σ H Q I (w σ H Q q)⟩
theorem pa_w {es : List Expr} {t t' : TA} (h : PA X es t) (w : ∀ σ H Q, t' σ H Q → t σ H Q) : PA X es t' := ⟨fun pos pins s σ H Q I q => h.run pos pins s σ H Q I (w σ H Q q)⟩
theorem pg_w {t t' : TG} (h : PG X e t) (w : ∀ v σ H Q, t' v σ H Q → t v σ H Q) : PG X e t' := ⟨fun pins s σ H v u Q I r q => h.run pins s σ H v u Q I r (w v σ H Q q)⟩
theorem ps_w {st : Stmt} {t t' : TS} (h : PS X st t) (w : ∀ D σ H, t' D σ H → t D σ H) : PS X st t' := ⟨fun pins s σ H D I q => h.run pins s σ H D I (w D σ H q)⟩
theorem pss_w {st : List Stmt} {t t' : TS} (h : PSs X st t) (w : ∀ D σ H, t' D σ H → t D σ H) : PSs X st t' := ⟨fun pins s σ H D I q => h.run pins s σ H D I (w D σ H q)⟩
end

/-! ### expressions -/
@[simp] def dVar (i : Nat) : VDen := fun s P => match s[i]? with
  | some (some (.val d)) => P d s
  | _ => False
@[simp] def dC (d : D) : VDen := fun s P => P d s
section
variable {CA : Nat → Addr} {X : Cx} {a b c e : Expr} {pos : Pos} {da db dc : VDen} {ta tb : TDen}
theorem dVar_ok {s : Env} {i : Nat} {P : D → Env → Prop} (h : dVar i s P) : ∃ d, s[i]? = some (some (.val d)) ∧ P d s := by
  unfold dVar at h
  split at h
  · next d e => exact ⟨d, e, h⟩
  · exact h.elim
theorem dv_of {i : Nat} (h : PE X e (tVar i)) : DV CA X e (dVar i) := ⟨pe_w h fun σ H Q ⟨β, s, F, P, R, h, q⟩ => by
  obtain ⟨d, e, hp⟩ := dVar_ok h
  obtain ⟨v, e1, e2⟩ := R.val i d e
  exact ⟨v, e1, q d s hp v H F R .refl e2⟩⟩
theorem dv_c {v : V} {d : D} (h : PE X e (tC v)) (r : ∀ F, Rep CA F d v) : DV CA X e (dC d) := ⟨pe_w h fun σ H Q ⟨β, s, F, P, R, h, q⟩ => q d s h v H F R .refl (r F)⟩
theorem dv_int {i j pos} : DV CA X (.Constant (.int i) j pos) (dC (.int i)) := dv_c pe_int fun _ => rep_int
theorem dv_bl {i j pos} : DV CA X (.Constant (.bool i) j pos) (dC (.bl i)) := dv_c pe_bl fun _ => rep_bl
theorem dv_non {j pos} : DV CA X (.Constant .none j pos) (dC .non) := dv_c pe_non fun _ => rep_non
theorem dv_str {i j pos} : DV CA X (.Constant (.str i) j pos) (dC (.str i)) := dv_c pe_str fun _ => rep_str
/-- a two-place operation on values, over data -/
def OpD (CA : Nat → Addr) (r : R2) (f : D → D → (D → Prop) → Prop) : Prop := ∀ {β : Beta} {s : Env} {σ : L2.St} {H F : Hp} {x y : V} {d1 d2 : D} {P : D → Prop} {Q : VK}, Rel CA β s σ H F → Rep CA F d1 x → Rep CA F d2 y → f d1 d2 P →
  (∀ d, P d → ∀ v H' F', Rel CA β s σ H' F' → Ext β s σ H F s σ H' F' → Rep CA F' d v → Q v H') → r x y H Q
@[simp] def dOp (f : D → D → (D → Prop) → Prop) (da db : VDen) : VDen := fun s P => da s fun d1 s1 => db s1 fun d2 s2 => f d1 d2 fun d => P d s2
theorem tOp_w {r : R2} {f : D → D → (D → Prop) → Prop} (hf : OpD CA r f) {σ : L2.St} {H : Hp} {Q : VK} (h : liftV CA (dOp f da db) σ H Q) : tOp r (liftV CA da) (liftV CA db) σ H Q := by
  obtain ⟨β, s, F, P, R, h, q⟩ := h
  exact ⟨β, s, F, _, R, h, fun d1 s1 h1 x H1 F1 R1 E1 r1 => ⟨β, s1, F1, _, R1, h1, fun d2 s2 h2 y H2 F2 R2 E2 r2 => hf R2 (r1.mono E2.fz) r2 h2 fun d hd v H3 F3 R3 E3 r3 => q d s2 hd v H3 F3 R3 ((E1.trans E2).trans E3) r3⟩⟩
theorem dv_op {op : Operator} {r : R2} {f : D → D → (D → Prop) → Prop} (ho : OpR X (binaryOp op) r) (hf : OpD CA r f) (ha : DV CA X a da) (hb : DV CA X b db) : DV CA X (.BinOp a op b pos) (dOp f da db) :=
  ⟨pe_w (pe_op ho ha.pe hb.pe) fun _ _ _ h => tOp_w hf h⟩
theorem dv_cmp {op : CmpOp} {r : R2} {f : D → D → (D → Prop) → Prop} (ho : OpR X (compareOp op) r) (hf : OpD CA r f) (ha : DV CA X a da) (hb : DV CA X b db) (hm : behindInMarks op b = false) : DV CA X (.Compare a [op] [b] pos) (dOp f da db) :=
  ⟨pe_w (pe_cmpR ho ha.pe hb.pe hm) fun _ _ _ h => tOp_w hf h⟩
/-- a value that is a truth value, as a test -/
@[simp] def dTest (da : VDen) : TDen := fun s P => da s fun d s1 => match d with
  | .bl b => P b s1
  | _ => False
theorem tTest_w {da : VDen} {t : TE} (w : ∀ σ H Q, liftV CA da σ H Q → t σ H Q) {σ : L2.St} {H : Hp} {Q : Bool → Hp → Prop} (h : liftT CA (dTest da) σ H Q) : tTest t σ H Q := by
  obtain ⟨β, s, F, P, R, h, q⟩ := h
  refine w σ H _ ⟨β, s, F, _, R, h, fun d s1 h1 x H1 F1 R1 E1 r1 => ?_⟩
  cases d with
  | bl b => exact ⟨b, r1.bl_eq, q b s1 h1 H1 F1 R1 E1⟩
  | _ => exact h1.elim
theorem dt_cmp {op : CmpOp} {r : R2} {f : D → D → (D → Prop) → Prop} (ho : OpR X (compareOp op) r) (hf : OpD CA r f) (ha : DV CA X a da) (hb : DV CA X b db) (hm : behindInMarks op b = false) : DT CA X (.Compare a [op] [b] pos) (dTest (dOp f da db)) :=
  ⟨pt_w (pt_cmpR ho ha.pe hb.pe hm) fun _ _ _ h => tTest_w (fun _ _ _ h => tOp_w hf h) h⟩
theorem dt_val (h : DV CA X e da) (he : ∀ whole, isTrue e X.env whole = (do let v ← whole; standAt e.pos; holding [v] (truthy v)) := by intro _; rfl) : DT CA X e (dTest da) :=
  ⟨pt_w (pt_val h.pe he) fun _ _ _ h => tTest_w (fun _ _ _ h => h) h⟩
/-! ints -/
@[simp] def fI (g : Int → Int → D) : D → D → (D → Prop) → Prop := fun a b k => match a, b with
  | .int i, .int j => k (g i j)
  | _, _ => False
@[simp] def fIC (C : Int → Int → Prop) (g : Int → Int → D) : D → D → (D → Prop) → Prop := fun a b k => match a, b with
  | .int i, .int j => C i j ∧ k (g i j)
  | _, _ => False
theorem od_I {g : Int → Int → V} {g' : Int → Int → D} (hg : ∀ F i j, Rep CA F (g' i j) (g i j)) : OpD CA (rI0 g) (fI g') := fun {β s σ H F x y d1 d2 P Q} R r1 r2 h q => by
  cases d1 with
  | int i => cases d2 with
    | int j => exact ⟨i, j, r1.int_eq, r2.int_eq, q _ h _ H F R .refl (hg F i j)⟩
    | _ => exact h.elim
  | _ => exact h.elim
theorem od_IC {C : Int → Int → Prop} {g : Int → Int → V} {g' : Int → Int → D} (hg : ∀ F i j, Rep CA F (g' i j) (g i j)) : OpD CA (rI C g) (fIC C g') := fun {β s σ H F x y d1 d2 P Q} R r1 r2 h q => by
  cases d1 with
  | int i => cases d2 with
    | int j => exact ⟨i, j, r1.int_eq, r2.int_eq, h.1, q _ h.2 _ H F R .refl (hg F i j)⟩
    | _ => exact h.elim
  | _ => exact h.elim
theorem od_add : OpD CA (rI0 fun i j => .int (i + j)) (fI fun i j => .int (i + j)) := od_I fun _ _ _ => rep_int
theorem od_sub : OpD CA (rI0 fun i j => .int (i - j)) (fI fun i j => .int (i - j)) := od_I fun _ _ _ => rep_int
theorem od_mul : OpD CA (rI CMul fun i j => .int (i * j)) (fIC CMul fun i j => .int (i * j)) := od_IC fun _ _ _ => rep_int
theorem od_fdiv : OpD CA (rI CDiv fun i j => .int (i / j)) (fIC CDiv fun i j => .int (i / j)) := od_IC fun _ _ _ => rep_int
theorem od_mod : OpD CA (rI (fun _ j => 0 < j) fun i j => .int (i % j)) (fIC (fun _ j => 0 < j) fun i j => .int (i % j)) := od_IC fun _ _ _ => rep_int
theorem od_pow : OpD CA (rI CPow fun i j => .int (i ^ j.toNat)) (fIC CPow fun i j => .int (i ^ j.toNat)) := od_IC fun _ _ _ => rep_int
abbrev fAdd := fI fun i j => .int (i + j)
abbrev fSub := fI fun i j => .int (i - j)
abbrev fMul := fIC CMul fun i j => .int (i * j)
abbrev fFdiv := fIC CDiv fun i j => .int (i / j)
abbrev fMod := fIC (fun _ j => 0 < j) fun i j => .int (i % j)
abbrev fPow := fIC CPow fun i j => .int (i ^ j.toNat)
abbrev fLt := fI fun i j => .bl (decide (i < j))
abbrev fLe := fI fun i j => .bl (decide (i ≤ j))
abbrev fGt := fI fun i j => .bl (decide (j < i))
abbrev fGe := fI fun i j => .bl (decide (j ≤ i))
theorem od_lt : OpD CA (rI0 fun i j => .bl (decide (i < j))) fLt := od_I fun _ _ _ => rep_bl
theorem od_le : OpD CA (rI0 fun i j => .bl (decide (i ≤ j))) fLe := od_I fun _ _ _ => rep_bl
theorem od_gt : OpD CA (rI0 fun i j => .bl (decide (j < i))) fGt := od_I fun _ _ _ => rep_bl
theorem od_ge : OpD CA (rI0 fun i j => .bl (decide (j ≤ i))) fGe := od_I fun _ _ _ => rep_bl
/-! == of scalars -/
@[simp] def scEq : D → D → Option Bool
  | .int i, .int j => some (decide (i = j))
  | .str i, .str j => some (decide (i = j))
  | .bl i, .bl j => some (decide (i = j))
  | .non, .non => some true
  | _, _ => none
@[simp] def fEq : D → D → (D → Prop) → Prop := fun a b k => match scEq a b with
  | some c => k (.bl c)
  | none => False
@[simp] def fNe : D → D → (D → Prop) → Prop := fun a b k => match scEq a b with
  | some c => k (.bl (!c))
  | none => False
theorem scEq_ok {F : Hp} {x y : V} {d1 d2 : D} {c : Bool} (r1 : Rep CA F d1 x) (r2 : Rep CA F d2 y) (h : scEq d1 d2 = some c) : scal x y = true ∧ decide (x = y) = c := by
  cases d1 with
  | int i => cases d2 with
    | int j =>
      rw [r1.int_eq, r2.int_eq]
      cases h
      exact ⟨rfl, by simp⟩
    | _ => cases h
  | str i => cases d2 with
    | str j =>
      rw [r1.str_eq, r2.str_eq]
      cases h
      exact ⟨rfl, by simp⟩
    | _ => cases h
  | bl i => cases d2 with
    | bl j =>
      rw [r1.bl_eq, r2.bl_eq]
      cases h
      exact ⟨rfl, by simp⟩
    | _ => cases h
  | non => cases d2 with
    | non =>
      rw [r1.non_eq, r2.non_eq]
      cases h
      exact ⟨rfl, by simp⟩
    | _ => cases h
  | node t ds => cases h
theorem od_eq : OpD CA rEq fEq := fun {β s σ H F x y d1 d2 P Q} R r1 r2 h q => by
  unfold fEq at h
  cases e : scEq d1 d2 with
  | none => rw [e] at h; exact h.elim
  | some c =>
    rw [e] at h
    obtain ⟨e1, e2⟩ := scEq_ok r1 r2 e
    exact ⟨e1, by rw [e2]; exact q _ h _ H F R .refl rep_bl⟩
theorem od_ne : OpD CA rNe fNe := fun {β s σ H F x y d1 d2 P Q} R r1 r2 h q => by
  unfold fNe at h
  cases e : scEq d1 d2 with
  | none => rw [e] at h; exact h.elim
  | some c =>
    rw [e] at h
    obtain ⟨e1, e2⟩ := scEq_ok r1 r2 e
    exact ⟨e1, by rw [e2]; exact q _ h _ H F R .refl rep_bl⟩
/-! is None -/
@[simp] def dIsN (neg : Bool) (da : VDen) : VDen := fun s P => da s fun d s1 => match d with
  | .non => P (.bl (!neg)) s1
  | _ => P (.bl neg) s1
theorem Rep.ne_non {F : Hp} {d : D} {v : V} (r : Rep CA F d v) (h : d ≠ .non) : decide (v = .non) = false := by
  cases d with
  | non => exact (h rfl).elim
  | bl b => rw [r.bl_eq]; rfl
  | int b => rw [r.int_eq]; rfl
  | str b => rw [r.str_eq]; rfl
  | node t ds => obtain ⟨a, vs, e, _⟩ := r.node_eq; rw [e]; rfl
theorem dv_isN {j pos'} (ha : DV CA X a da) : DV CA X (.Compare a [.Is] [.Constant .none j pos'] pos) (dIsN false da) := ⟨pe_w (pe_cmp (pc_isN ha.pe)) fun σ H Q ⟨β, s, F, P, R, h, q⟩ =>
  ⟨β, s, F, _, R, h, fun d s1 h1 x H1 F1 R1 E1 r1 => by
    cases d with
    | non => rw [r1.non_eq]; exact q _ s1 h1 _ H1 F1 R1 E1 rep_bl
    | _ => rw [r1.ne_non (by intro z; cases z)]; exact q _ s1 h1 _ H1 F1 R1 E1 rep_bl⟩⟩
theorem dv_notN {j pos'} (ha : DV CA X a da) : DV CA X (.Compare a [.IsNot] [.Constant .none j pos'] pos) (dIsN true da) := ⟨pe_w (pe_cmp (pc_notN ha.pe)) fun σ H Q ⟨β, s, F, P, R, h, q⟩ =>
  ⟨β, s, F, _, R, h, fun d s1 h1 x H1 F1 R1 E1 r1 => by
    cases d with
    | non => rw [r1.non_eq]; exact q _ s1 h1 _ H1 F1 R1 E1 rep_bl
    | _ => rw [r1.ne_non (by intro z; cases z)]; exact q _ s1 h1 _ H1 F1 R1 E1 rep_bl⟩⟩
/-! and, or, not; if-expressions; chains -/
@[simp] def dAndT (ta tb : TDen) : TDen := fun s P => ta s fun c s1 => if c = true then tb s1 P else P false s1
@[simp] def dOrT (ta tb : TDen) : TDen := fun s P => ta s fun c s1 => if c = true then P true s1 else tb s1 P
@[simp] def dNotT (ta : TDen) : TDen := fun s P => ta s fun c s1 => P (!c) s1
structure DW (CA : Nat → Addr) (X : Cx) (e : Expr) (den : TDen) : Prop where
  pw : PW X e (liftT CA den)
theorem pw_w {t t' : TT} (h : PW X e t) (w : ∀ σ H Q, t' σ H Q → t σ H Q) : PW X e t' := ⟨fun wh pins s σ H Q I q => h.run wh pins s σ H Q I (w σ H Q q)⟩
theorem DW.dt (h : DW CA X e ta) : DT CA X e ta := ⟨h.pw.pt⟩
theorem dw_and1 (h : DT CA X a ta) : DW CA X (.BoolOp .And [a] pos) ta := ⟨pw_and1 h.pt⟩
theorem dw_or1 (h : DT CA X a ta) : DW CA X (.BoolOp .Or [a] pos) ta := ⟨pw_or1 h.pt⟩
theorem dw_and {rest : List Expr} (h : DT CA X a ta) (k : DW CA X (.BoolOp .And (b :: rest) pos) tb) : DW CA X (.BoolOp .And (a :: b :: rest) pos) (dAndT ta tb) := ⟨pw_w (pw_and h.pt k.pw) fun σ H Q ⟨β, s, F, P, R, h, q⟩ =>
  ⟨β, s, F, _, R, h, fun c s1 h1 H1 F1 R1 E1 => by
    cases c with
    | true => exact ⟨β, s1, F1, P, R1, h1, fun d s2 h2 H2 F2 R2 E2 => q d s2 h2 H2 F2 R2 (E1.trans E2)⟩
    | false => exact q false s1 h1 H1 F1 R1 E1⟩⟩
theorem dw_or {rest : List Expr} (h : DT CA X a ta) (k : DW CA X (.BoolOp .Or (b :: rest) pos) tb) : DW CA X (.BoolOp .Or (a :: b :: rest) pos) (dOrT ta tb) := ⟨pw_w (pw_or h.pt k.pw) fun σ H Q ⟨β, s, F, P, R, h, q⟩ =>
  ⟨β, s, F, _, R, h, fun c s1 h1 H1 F1 R1 E1 => by
    cases c with
    | true => exact q true s1 h1 H1 F1 R1 E1
    | false => exact ⟨β, s1, F1, P, R1, h1, fun d s2 h2 H2 F2 R2 E2 => q d s2 h2 H2 F2 R2 (E1.trans E2)⟩⟩⟩
theorem dt_not (h : DT CA X a ta) : DT CA X (.UnaryOp .Not a pos) (dNotT ta) := ⟨pt_w (pt_not h.pt) fun σ H Q ⟨β, s, F, P, R, h, q⟩ =>
  ⟨β, s, F, _, R, h, fun c s1 h1 H1 F1 R1 E1 => q (!c) s1 h1 H1 F1 R1 E1⟩⟩
@[simp] def dAndV (da db : VDen) : VDen := fun s P => da s fun d s1 => match d with
  | .bl c => if c = true then db s1 P else P (.bl false) s1
  | _ => False
@[simp] def dOrV (da db : VDen) : VDen := fun s P => da s fun d s1 => match d with
  | .bl c => if c = true then P (.bl true) s1 else db s1 P
  | _ => False
@[simp] def dNotV (da : VDen) : VDen := fun s P => da s fun d s1 => match d with
  | .bl b => P (.bl (!b)) s1
  | _ => False
theorem dv_one {op} (h : DV CA X a da) : DV CA X (.BoolOp op [a] pos) da := ⟨pe_one h.pe⟩
theorem dv_and {rest : List Expr} (ha : DV CA X a da) (hb : DV CA X (.BoolOp .And (b :: rest) pos) db) : DV CA X (.BoolOp .And (a :: b :: rest) pos) (dAndV da db) := ⟨pe_w (pe_and ha.pe hb.pe) fun σ H Q ⟨β, s, F, P, R, h, q⟩ =>
  ⟨β, s, F, _, R, h, fun d s1 h1 x H1 F1 R1 E1 r1 => by
    cases d with
    | bl c => cases c with
      | true => exact ⟨true, r1.bl_eq, ⟨β, s1, F1, P, R1, h1, fun d s2 h2 y H2 F2 R2 E2 r2 => q d s2 h2 y H2 F2 R2 (E1.trans E2) r2⟩⟩
      | false => exact ⟨false, r1.bl_eq, q _ s1 h1 _ H1 F1 R1 E1 rep_bl⟩
    | _ => exact h1.elim⟩⟩
theorem dv_or {rest : List Expr} (ha : DV CA X a da) (hb : DV CA X (.BoolOp .Or (b :: rest) pos) db) : DV CA X (.BoolOp .Or (a :: b :: rest) pos) (dOrV da db) := ⟨pe_w (pe_or ha.pe hb.pe) fun σ H Q ⟨β, s, F, P, R, h, q⟩ =>
  ⟨β, s, F, _, R, h, fun d s1 h1 x H1 F1 R1 E1 r1 => by
    cases d with
    | bl c => cases c with
      | false => exact ⟨false, r1.bl_eq, ⟨β, s1, F1, P, R1, h1, fun d s2 h2 y H2 F2 R2 E2 r2 => q d s2 h2 y H2 F2 R2 (E1.trans E2) r2⟩⟩
      | true => exact ⟨true, r1.bl_eq, q _ s1 h1 _ H1 F1 R1 E1 rep_bl⟩
    | _ => exact h1.elim⟩⟩
theorem dv_not (ha : DV CA X a da) : DV CA X (.UnaryOp .Not a pos) (dNotV da) := ⟨pe_w (pe_not ha.pe) fun σ H Q ⟨β, s, F, P, R, h, q⟩ =>
  ⟨β, s, F, _, R, h, fun d s1 h1 x H1 F1 R1 E1 r1 => by
    cases d with
    | bl c => exact ⟨c, r1.bl_eq, q _ s1 h1 _ H1 F1 R1 E1 rep_bl⟩
    | _ => exact h1.elim⟩⟩
@[simp] def dIf (t : TDen) (da db : VDen) : VDen := fun s P => t s fun c s1 => if c = true then da s1 P else db s1 P
theorem dv_if (hc : DT CA X c ta) (ha : DV CA X a da) (hb : DV CA X b db) : DV CA X (.IfExp c a b pos) (dIf ta da db) := ⟨pe_w (pe_ifExp hc.pt ha.pe hb.pe) fun σ H Q ⟨β, s, F, P, R, h, q⟩ =>
  ⟨β, s, F, _, R, h, fun c s1 h1 H1 F1 R1 E1 => by
    cases c with
    | true => exact ⟨β, s1, F1, P, R1, h1, fun d s2 h2 y H2 F2 R2 E2 r2 => q d s2 h2 y H2 F2 R2 (E1.trans E2) r2⟩
    | false => exact ⟨β, s1, F1, P, R1, h1, fun d s2 h2 y H2 F2 R2 E2 r2 => q d s2 h2 y H2 F2 R2 (E1.trans E2) r2⟩⟩⟩
/-- a op b op' c -/
@[simp] def dChain (f g : D → D → (D → Prop) → Prop) (da db dc : VDen) : VDen := fun s P => da s fun d1 s1 => db s1 fun d2 s2 => f d1 d2 fun z => match z with
  | .bl c => if c = true then dc s2 fun d3 s3 => g d2 d3 fun d => P d s3 else P (.bl false) s2
  | _ => False
theorem tChain_w {r r' : R2} {f g : D → D → (D → Prop) → Prop} (hf : OpD CA r f) (hg : OpD CA r' g) {σ : L2.St} {H : Hp} {Q : VK} (h : liftV CA (dChain f g da db dc) σ H Q) : tChain r r' (liftV CA da) (liftV CA db) (liftV CA dc) σ H Q := by
  obtain ⟨β, s, F, P, R, h, q⟩ := h
  refine ⟨β, s, F, _, R, h, fun d1 s1 h1 x H1 F1 R1 E1 r1 => ⟨β, s1, F1, _, R1, h1, fun d2 s2 h2 y H2 F2 R2 E2 r2 => hf R2 (r1.mono E2.fz) r2 h2 fun d hd v H3 F3 R3 E3 r3 => ?_⟩⟩
  cases d with
  | bl c => cases c with
    | true => exact ⟨true, r3.bl_eq, ⟨β, s2, F3, _, R3, hd, fun d3 s3 h3 z H4 F4 R4 E4 r4 => hg R4 ((r2.mono E3.fz).mono E4.fz) r4 h3 fun d hd v H5 F5 R5 E5 r5 => q d s3 hd v H5 F5 R5 ((((E1.trans E2).trans E3).trans E4).trans E5) r5⟩⟩
    | false => exact ⟨false, r3.bl_eq, q _ s2 hd _ H3 F3 R3 ((E1.trans E2).trans E3) rep_bl⟩
  | _ => exact hd.elim
end
end Dl
end

section
set_option Elab.async false
set_option linter.all false
set_option maxRecDepth 100000
set_option maxHeartbeats 4000000
/-! The data layer, part 3: displays, subscripts, dicts, built-in calls, calls of own defs, attributes, methods. -/
namespace Dl
open PySem PySem.Spec PyProof.Rows L2

@[simp] def argsD : List Arg → Option (List D)
  | [] => some []
  | .val d :: as => (argsD as).map (d :: ·)
  | .bag :: _ => none
section
variable {CA : Nat → Addr} {β : Beta} {F F' H H' : Hp} {s : Env} {σ : L2.St}
theorem RepAs.vals : ∀ {as : List Arg} {vs : List V} {ds : List D}, RepAs CA β F as vs → argsD as = some ds → Reps CA F ds vs
  | [], _, _, h, e => by cases e; cases (show _ = [] from h); exact reps_nil
  | .val d :: as, _, ds, ⟨v, r, e1, e2, e3⟩, e => by
    unfold argsD at e
    cases q : argsD as with
    | none => rw [q] at e; cases e
    | some es =>
      rw [q] at e
      cases e
      subst e1
      exact reps_cons e2 (RepAs.vals e3 q)
  | .bag :: as, _, ds, _, e => by cases e

/-! ### dicts at the data's level -/
def look {κ : Type} [DecidableEq κ] : List κ → List D → κ → Option D
  | k :: ks, d :: ds, j => if k = j then some d else look ks ds j
  | _, _, _ => none
def putKs {κ : Type} [DecidableEq κ] (ks : List κ) (k : κ) : List κ := if k ∈ ks then ks else ks ++ [k]
def repl {κ : Type} [DecidableEq κ] : List κ → List D → κ → D → List D
  | j :: ks, e :: ds, k, d => (if j = k then d else e) :: repl ks ds k d
  | _, _, _, _ => []
def putDs {κ : Type} [DecidableEq κ] (ks : List κ) (ds : List D) (k : κ) (d : D) : List D := if k ∈ ks then repl ks ds k d else ds ++ [d]
@[simp] def keyOf : D → Option Key
  | .int i => some (.inl i)
  | .str x => some (.inr x)
  | _ => none
@[simp] def keysOf : List D → Option (List Key)
  | [] => some []
  | d :: ds => match keyOf d, keysOf ds with
    | some k, some ks => some (k :: ks)
    | _, _ => none
theorem keyOf_ok {d : D} {k : Key} {v : V} (h : keyOf d = some k) (r : Rep CA F d v) : v = kV k := by
  cases d with
  | int i => cases h; exact r.int_eq
  | str i => cases h; exact r.str_eq
  | _ => cases h
theorem keysOf_ok : ∀ {ds : List D} {ks : List Key} {vs : List V}, keysOf ds = some ks → Reps CA F ds vs → vs = ks.map kV
  | [], ks, vs, h, r => by cases h; unfold Reps at r; exact r
  | d :: ds, ks, vs, h, r => by
    unfold keysOf at h
    unfold Reps at r
    obtain ⟨v, w, rfl, r1, r2⟩ := r
    cases q1 : keyOf d with
    | none => rw [q1] at h; cases h
    | some k => cases q2 : keysOf ds with
      | none => rw [q1, q2] at h; cases h
      | some ks' =>
        rw [q1, q2] at h
        cases h
        rw [keyOf_ok q1 r1, keysOf_ok q2 r2]
        rfl
theorem look_ok {κ : Type} [DecidableEq κ] : ∀ {kvs : List (κ × V)} {ds : List D} (k : κ), Reps CA F ds (kvs.map (·.2)) →
    (∀ d, look (kvs.map (·.1)) ds k = some d → ∃ v, valV kvs k = some v ∧ Rep CA F d v) ∧ (look (kvs.map (·.1)) ds k = none → valV kvs k = none)
  | [], ds, k, r => ⟨fun d h => (by unfold look at h; cases h), fun _ => valV_nil⟩
  | p :: kvs, [], k, r => by
    unfold Reps at r
    cases r
  | p :: kvs, e :: ds, k, r => by
    rw [List.map_cons] at r
    unfold Reps at r
    obtain ⟨v, w, e0, r1, r2⟩ := r
    injection e0 with e1 e2
    subst e1
    subst e2
    have ih := look_ok k r2
    rw [List.map_cons]
    unfold look
    by_cases q : p.1 = k
    · rw [if_pos q, valV_pos q]
      exact ⟨fun d h => by cases h; exact ⟨_, rfl, r1⟩, fun h => by cases h⟩
    · rw [if_neg q, valV_neg q]
      exact ih
theorem any_mem {κ : Type} [DecidableEq κ] : ∀ (kvs : List (κ × V)) (k : κ), (kvs.any fun kv => decide (kv.1 = k)) = decide (k ∈ kvs.map (·.1))
  | [], k => by simp
  | p :: kvs, k => by
    rw [List.any_cons, any_mem kvs k, List.map_cons]
    by_cases q : p.1 = k
    · simp [q]
    · simp [q, Ne.symm q, List.mem_cons]
theorem repl_ok {κ : Type} [DecidableEq κ] : ∀ {kvs : List (κ × V)} {ds : List D} {k : κ} {d : D} {v : V}, Reps CA F ds (kvs.map (·.2)) → Rep CA F d v →
    Reps CA F (repl (kvs.map (·.1)) ds k d) ((kvs.map fun kv => if kv.1 = k then (kv.1, v) else kv).map (·.2)) ∧ ((kvs.map fun kv => if kv.1 = k then (kv.1, v) else kv).map (·.1)) = kvs.map (·.1)
  | [], ds, k, d, v, r, _ => by
    unfold repl
    exact ⟨reps_nil, rfl⟩
  | p :: kvs, [], k, d, v, r, _ => by
    unfold Reps at r
    cases r
  | p :: kvs, e :: ds, k, d, v, r, hd => by
    rw [List.map_cons] at r
    unfold Reps at r
    obtain ⟨u, w, e0, r1, r2⟩ := r
    injection e0 with e1 e2
    subst e1
    subst e2
    obtain ⟨i1, i2⟩ := repl_ok (k := k) r2 hd
    simp only [List.map_cons]
    rw [i2]
    refine ⟨?_, ?_⟩
    · unfold repl
      refine reps_cons ?_ i1
      by_cases q : p.1 = k
      · rw [if_pos q, if_pos q]; exact hd
      · rw [if_neg q, if_neg q]; exact r1
    · by_cases q : p.1 = k
      · rw [if_pos q]
      · rw [if_neg q]
theorem put_ok {κ : Type} [DecidableEq κ] {kvs : List (κ × V)} {ds : List D} {k : κ} {d : D} {v : V} (r : Reps CA F ds (kvs.map (·.2))) (hd : Rep CA F d v) :
    Reps CA F (putDs (kvs.map (·.1)) ds k d) ((putK kvs k v).map (·.2)) ∧ (putK kvs k v).map (·.1) = putKs (kvs.map (·.1)) k := by
  unfold putK putDs putKs
  rw [any_mem]
  by_cases q : k ∈ kvs.map (·.1)
  · rw [if_pos q, if_pos q, if_pos (decide_eq_true q)]
    exact repl_ok r hd
  · rw [if_neg q, if_neg q, if_neg (by rw [decide_eq_false q]; exact Bool.false_ne_true)]
    rw [List.map_append, List.map_append]
    exact ⟨r.append (reps_one hd), rfl⟩
/-- the value that a dict has at a key, data and heap -/
@[simp] def dlook : Tag → List D → D → Option (Option D)
  | .dk ks, ds, d => (keyOf d).map fun k => look ks ds k
  | .dt ks, ds, .node .tup es => (keysOf es).map fun k => look ks ds k
  | _, _, _ => none
theorem dlook_ok {t : Tag} {ds : List D} {d : D} {o : Option D} {x y : V} (sub : Sub F H) (h : dlook t ds d = some o) (rx : Rep CA F (.node t ds) x) (ry : Rep CA F d y) :
    ∃ a r, x = .ref a ∧ DGet H a y r ∧ (∀ e, o = some e → ∃ v, r = some v ∧ Rep CA F e v) ∧ (o = none → r = none) := by
  obtain ⟨a, vs, rfl, ⟨ob, e1, e2⟩, e3⟩ := rx.node_eq
  cases t with
  | dk ks =>
    obtain ⟨kvs, rfl, rfl, rfl⟩ := e2
    replace h : (keyOf d).map (fun k => look (kvs.map (·.1)) ds k) = some o := h
    cases q : keyOf d with
    | none => rw [q] at h; cases h
    | some k =>
      rw [q] at h
      cases h
      obtain ⟨l1, l2⟩ := look_ok k e3
      refine ⟨a, valV kvs k, rfl, .inl ⟨kvs, k, sub.rd e1, keyOf_ok q ry, rfl⟩, l1, l2⟩
  | dt ks =>
    obtain ⟨kvs, rfl, rfl, rfl⟩ := e2
    cases d with
    | node u es => cases u with
      | tup =>
        replace h : (keysOf es).map (fun k => look (kvs.map (·.1)) ds k) = some o := h
        cases q : keysOf es with
        | none => rw [q] at h; cases h
        | some k =>
          rw [q] at h
          cases h
          obtain ⟨b, ws, rfl, ⟨ob2, f1, f2⟩, f3⟩ := ry.node_eq
          cases (show ob2 = .tup ws from f2)
          obtain ⟨l1, l2⟩ := look_ok k e3
          rw [keysOf_ok q f3] at f1
          exact ⟨a, valV kvs k, rfl, .inr ⟨kvs, k, b, sub.rd e1, rfl, sub.nd f1 (fun z => z), rfl⟩, l1, l2⟩
      | _ => cases h
    | _ => cases h
  | _ => cases h
end

section
variable {CA : Nat → Addr} {X : Cx} {a b c e : Expr} {es : List Expr} {pos : Pos} {da db dc : VDen} {dA : ADen} {ta tb : TDen} {dF : FDen}
/-! ### arguments, displays -/
@[simp] def dNil : ADen := fun s P => P [] s
@[simp] def dCons (da : VDen) (dr : ADen) : ADen := fun s P => da s fun d s1 => dr s1 fun ds s2 => P (.val d :: ds) s2
@[simp] def dConsB (i : Nat) (dr : ADen) : ADen := fun s P => match s[i]? with
  | some (some .bag) => dr s fun ds s2 => P (.bag :: ds) s2
  | _ => False
theorem da_nil : DA CA X [] dNil := ⟨pa_w pa_nil fun σ H Q ⟨β, s, F, P, R, h, q⟩ => q [] s h [] H F R .refl rfl⟩
theorem da_cons (ha : DV CA X e da) (hr : DA CA X es dA) (hs : starEach (e :: es) X.env = (false, eval e X.env) :: starEach es X.env := by rfl) : DA CA X (e :: es) (dCons da dA) :=
  ⟨pa_w (pa_cons ha.pe hr.pa hs) fun σ H Q ⟨β, s, F, P, R, h, q⟩ => ⟨β, s, F, _, R, h, fun d s1 h1 x H1 F1 R1 E1 r1 => ⟨β, s1, F1, _, R1, h1, fun ds s2 h2 xs H2 F2 R2 E2 r2 =>
    q _ s2 h2 _ H2 F2 R2 (E1.trans E2) ⟨x, xs, rfl, Rep.mono E2.fz r1, r2⟩⟩⟩⟩
theorem da_bag {i : Nat} (ha : PE X e (tVar i)) (hr : DA CA X es dA) (hs : starEach (e :: es) X.env = (false, eval e X.env) :: starEach es X.env := by rfl) : DA CA X (e :: es) (dConsB i dA) :=
  ⟨pa_w (pa_cons ha hr.pa hs) fun σ H Q ⟨β, s, F, P, R, h, q⟩ => by
    unfold dConsB at h
    split at h
    · next e1 =>
      obtain ⟨b, eb, e2⟩ := R.bag i e1
      exact ⟨.ref b, e2, β, s, F, _, R, h, fun ds s2 h2 xs H2 F2 R2 E2 r2 => q _ s2 h2 _ H2 F2 R2 E2 ⟨_, xs, rfl, ⟨b, eb, rfl⟩, r2⟩⟩
    · exact h.elim⟩
@[simp] def dTup (dA : ADen) : VDen := fun s P => dA s fun as s1 => match argsD as with
  | some ds => ds.length ≤ 1000 ∧ P (.tup ds) s1
  | none => False
@[simp] def dLst (dA : ADen) : FDen := fun s P => dA s fun as s1 => match argsD as with
  | some ds => ds.length ≤ 1000 ∧ P .lst ds s1
  | none => False
theorem line1000 {n : Nat} (h : n ≤ 1000) : n ≤ sizeLine := Nat.le_trans h (by decide)
theorem dv_tup {x1} (h : DA CA X es dA) : DV CA X (.Tuple es x1 pos) (dTup dA) := ⟨pe_w (pe_tup h.pa) fun σ H Q ⟨β, s, F, P, R, h, q⟩ =>
  ⟨β, s, F, _, R, h, fun as s1 h1 vs H1 F1 R1 E1 r1 => by
    cases e : argsD as with
    | none => rw [e] at h1; exact h1.elim
    | some ds =>
      rw [e] at h1
      obtain ⟨hz, hp⟩ := h1
      have rr := r1.vals e
      refine ⟨by rw [← rr.length]; exact line1000 hz, fun p hp' => ?_⟩
      have hn := R1.sub.free hp'
      refine q _ s1 hp _ _ (upd F1 p (.tup vs)) (R1.newF hp') (E1.trans (.newF R1 hp')) (rep_node ⟨_, upd_same, rfl⟩ (rr.mono (same_updF hn)))⟩⟩
theorem df_lst (h : DA CA X es dA) : DF CA X (.List es pos) (dLst dA) := ⟨pe_w (pe_lst h.pa) fun σ H Q ⟨β, s, F, P, R, h, q⟩ =>
  ⟨β, s, F, _, R, h, fun as s1 h1 vs H1 F1 R1 E1 r1 => by
    cases e : argsD as with
    | none => rw [e] at h1; exact h1.elim
    | some ds =>
      rw [e] at h1
      obtain ⟨hz, hp⟩ := h1
      have rr := r1.vals e
      refine ⟨by rw [← rr.length]; exact line1000 hz, fun p hp' => ?_⟩
      exact q _ ds s1 hp p vs _ F1 (R1.new hp') (E1.trans (.new hp')) ⟨_, upd_same, rfl⟩ rr (R1.sub.free hp') (E1.dm hp') (R1.noown hp') True.intro⟩⟩
/-- a new object as data -/
@[simp] def dFz (dF : FDen) : VDen := fun s P => dF s fun t ds s1 => P (.node t ds) s1
theorem liftFz {σ : L2.St} {H : Hp} {Q : VK} (h : liftV CA (dFz dF) σ H Q) : liftF CA dF σ H Q := by
  obtain ⟨β, s, F, P, R, h, q⟩ := h
  refine ⟨β, s, F, _, R, h, fun t ds s1 h1 a vs H1 F1 R1 E1 hat hr hf hn ho hm => ?_⟩
  obtain ⟨o, e1, e2⟩ := hat
  refine q _ s1 h1 _ H1 (upd F1 a o) (R1.freeze e1 hf ho) ⟨⟨fun b u z => same_updF hf b u (E1.xt.fz b u z), fun b u z => ?_, E1.xt.kp, E1.xt.dm⟩, E1.ow⟩ (rep_node ⟨o, upd_same, e2⟩ (hr.mono (same_updF hf)))
  by_cases y : b = a
  · exact .inr (.inl (by rw [y]; exact hn))
  · rw [upd_ne y] at z
    exact E1.xt.nw b u z
theorem dv_fz (h : DF CA X e dF) : DV CA X e (dFz dF) := ⟨pe_w h.pe fun _ _ _ => liftFz⟩
/-! ### subscripts, slices -/
@[simp] def fIx : D → D → (D → Prop) → Prop := fun a b k => match a, b with
  | .node .lst ds, .int i => match atI ds i with
    | some d => k d
    | none => False
  | .node .tup ds, .int i => match atI ds i with
    | some d => k d
    | none => False
  | .str z, .int i => z.length ≤ sizeLine ∧ match atI z.cps.toList i with
    | some c => k (.str ⟨#[c]⟩)
    | none => False
  | _, _ => False
theorem atI_rep {F : Hp} {ds : List D} {vs : List V} {i : Int} {d : D} (r : Reps CA F ds vs) (h : atI ds i = some d) : ∃ v, atI vs i = some v ∧ Rep CA F d v := by
  unfold atI at h ⊢
  rw [r.length] at h
  cases q : ixN vs.length i with
  | none => rw [q] at h; cases h
  | some j =>
    rw [q] at h
    exact r.get h
theorem od_ix : OpD CA (rIx X.K) fIx := fun {β s σ H F x y d1 d2 P Q} R r1 r2 h q => by
  cases d2 with
  | int i =>
    cases d1 with
    | str z =>
      obtain ⟨h1, h2⟩ := (show z.length ≤ sizeLine ∧ _ from h)
      cases e : atI z.cps.toList i with
      | none => rw [e] at h2; exact h2.elim
      | some c =>
        rw [e] at h2
        exact .inr (.inr ⟨z, i, c, r1.str_eq, r2.int_eq, h1, e, q _ h2 _ H F R .refl rep_str⟩)
    | node t ds =>
      obtain ⟨p, vs, rfl, ⟨o, e1, e2⟩, e3⟩ := r1.node_eq
      cases t with
      | lst =>
        cases (show o = .lst vs from e2)
        cases e : atI ds i with
        | none => simp only [fIx, e] at h
        | some d =>
          simp only [fIx, e] at h
          obtain ⟨v, e4, e5⟩ := atI_rep e3 e
          exact .inl ⟨p, vs, i, v, rfl, r2.int_eq, .inl (R.sub.rd e1), e4, q _ h _ H F R .refl e5⟩
      | tup =>
        cases (show o = .tup vs from e2)
        cases e : atI ds i with
        | none => simp only [fIx, e] at h
        | some d =>
          simp only [fIx, e] at h
          obtain ⟨v, e4, e5⟩ := atI_rep e3 e
          exact .inr (.inl ⟨p, vs, i, v, rfl, r2.int_eq, .inl (R.sub.rd e1), e4, q _ h _ H F R .refl e5⟩)
      | _ => exact h.elim
    | _ => exact h.elim
  | _ => cases d1 with
    | node t ds => cases t <;> exact h.elim
    | _ => exact h.elim
theorem dv_ix (ha : DV CA X a da) (hb : DV CA X b db) (hs : PlainIx b := by exact fun _ _ => rfl) : DV CA X (.Subscript a b pos) (dOp fIx da db) := ⟨pe_w (pe_ix ix_seq ha.pe hb.pe hs) fun _ _ _ h => tOp_w od_ix h⟩
@[simp] def dDget (da db : VDen) : VDen := fun s P => da s fun d1 s1 => db s1 fun d2 s2 => match d1 with
  | .node t ds => match dlook t ds d2 with
    | some (some d) => P d s2
    | _ => False
  | _ => False
theorem dv_dget (hu : X.A.units + 1 < cLine) (ha : DV CA X a da) (hb : DV CA X b db) (hs : NoSl b := by exact fun _ _ => rfl) : DV CA X (.Subscript a b pos) (dDget da db) := ⟨pe_w (pe_dget hu ha.pe hb.pe hs) fun σ H Q ⟨β, s, F, P, R, h, q⟩ =>
  ⟨β, s, F, _, R, h, fun d1 s1 h1 x H1 F1 R1 E1 r1 => ⟨β, s1, F1, _, R1, h1, fun d2 s2 h2 y H2 F2 R2 E2 r2 => by
    cases d1 with
    | node t ds =>
      have h3 : (match dlook t ds d2 with
        | some (some d) => P d s2
        | _ => False) := h2
      cases e : dlook t ds d2 with
      | none => rw [e] at h3; exact h3.elim
      | some o => cases o with
        | none => rw [e] at h3; exact h3.elim
        | some d =>
          rw [e] at h3
          obtain ⟨p, r, rfl, g, g1, _⟩ := dlook_ok R2.sub e (r1.mono E2.fz) r2
          obtain ⟨v, rfl, rv⟩ := g1 d rfl
          exact ⟨p, v, rfl, g, q d s2 h3 v H2 F2 R2 (E1.trans E2) rv⟩
    | _ => exact h2.elim⟩⟩⟩
@[simp] def dDin (neg : Bool) (da db : VDen) : VDen := fun s P => da s fun d1 s1 => db s1 fun d2 s2 => match d2 with
  | .node t ds => match dlook t ds d1 with
    | some o => P (.bl (if neg then !o.isSome else o.isSome)) s2
    | _ => False
  | _ => False
theorem din_w {neg : Bool} {σ : L2.St} {H : Hp} {Q : VK} (h : liftV CA (dDin neg da db) σ H Q) : (if neg then tDNotIn (liftV CA da) (liftV CA db) else tDIn (liftV CA da) (liftV CA db)) σ H Q := by
  obtain ⟨β, s, F, P, R, h, q⟩ := h
  have key : liftV CA da σ H fun y H1 => liftV CA db σ H1 fun x H2 => ∃ a o, x = .ref a ∧ DGet H2 a y o ∧ Q (.bl (if neg then !o.isSome else o.isSome)) H2 := by
    refine ⟨β, s, F, _, R, h, fun d1 s1 h1 x H1 F1 R1 E1 r1 => ⟨β, s1, F1, _, R1, h1, fun d2 s2 h2 y H2 F2 R2 E2 r2 => ?_⟩⟩
    cases d2 with
    | node t ds =>
      have h3 : (match dlook t ds d1 with
        | some o => P (.bl (if neg then !o.isSome else o.isSome)) s2
        | _ => False) := h2
      cases e : dlook t ds d1 with
      | none => rw [e] at h3; exact h3.elim
      | some o =>
        rw [e] at h3
        obtain ⟨p, r, rfl, g, g1, g2⟩ := dlook_ok R2.sub e r2 (r1.mono E2.fz)
        refine ⟨p, r, rfl, g, ?_⟩
        have eo : r.isSome = o.isSome := by
          cases o with
          | none => rw [g2 rfl]
                    rfl
          | some d =>
            obtain ⟨v, rfl, _⟩ := g1 d rfl
            rfl
        rw [eo]
        exact q _ s2 h3 _ H2 F2 R2 (E1.trans E2) rep_bl
    | _ => exact h2.elim
  cases neg with
  | true => exact key
  | false => exact key
theorem dv_din (hu : X.A.units + 1 < cLine) (ha : DV CA X a da) (hb : DV CA X b db) (hm : behindInMarks .In b = false := by rfl) : DV CA X (.Compare a [.In] [b] pos) (dDin false da db) := ⟨pe_w (pe_cmp (pc_din hu ha.pe hb.pe) hm) fun _ _ _ h => din_w (neg := false) h⟩
theorem dv_dnotin (hu : X.A.units + 1 < cLine) (ha : DV CA X a da) (hb : DV CA X b db) (hm : behindInMarks .NotIn b = false := by rfl) : DV CA X (.Compare a [.NotIn] [b] pos) (dDin true da db) := ⟨pe_w (pe_cmp (pc_dnotin hu ha.pe hb.pe) hm) fun _ _ _ h => din_w (neg := true) h⟩
theorem dt_of_pt {t : TE} (hp : PT X e (tB t)) (w : ∀ σ H Q, liftV CA da σ H Q → t σ H Q) : DT CA X e (dTest da) := ⟨pt_w hp fun _ _ _ h => tTest_w w h⟩
theorem dt_din (hu : X.A.units + 1 < cLine) (ha : DV CA X a da) (hb : DV CA X b db) (hm : behindInMarks .In b = false := by rfl) : DT CA X (.Compare a [.In] [b] pos) (dTest (dDin false da db)) := dt_of_pt (pt_cmp (pc_din hu ha.pe hb.pe) hm) fun _ _ _ h => din_w (neg := false) h
theorem dt_dnotin (hu : X.A.units + 1 < cLine) (ha : DV CA X a da) (hb : DV CA X b db) (hm : behindInMarks .NotIn b = false := by rfl) : DT CA X (.Compare a [.NotIn] [b] pos) (dTest (dDin true da db)) := dt_of_pt (pt_cmp (pc_dnotin hu ha.pe hb.pe) hm) fun _ _ _ h => din_w (neg := true) h
/-- d.get(k, x) -/
@[simp] def Tag.isD : Tag → Prop
  | .dk _ => True
  | .dt _ => True
  | _ => False
@[simp] def dDget2 (da db dc : VDen) : VDen := fun s P => da s fun d1 s1 => match d1 with
  | .node t ds => t.isD ∧ db s1 fun d2 s2 => dc s2 fun d3 s3 => match dlook t ds d2 with
    | some o => P (o.getD d3) s3
    | _ => False
  | _ => False
theorem isD_of {F H : Hp} {t : Tag} {ds : List D} {x : V} (sub : Sub F H) (h : t.isD) (rx : Rep CA F (.node t ds) x) : ∃ a, x = .ref a ∧ IsD H a := by
  obtain ⟨a, vs, rfl, ⟨ob, e1, e2⟩, e3⟩ := rx.node_eq
  cases t with
  | dk ks => obtain ⟨kvs, rfl, rfl, rfl⟩ := e2; exact ⟨a, rfl, .inl ⟨kvs, sub.rd e1⟩⟩
  | dt ks => obtain ⟨kvs, rfl, rfl, rfl⟩ := e2; exact ⟨a, rfl, .inr ⟨kvs, sub.rd e1⟩⟩
  | _ => exact h.elim
end
end Dl
end

section
set_option Elab.async false
set_option linter.all false
set_option maxRecDepth 100000
set_option maxHeartbeats 4000000
/-! The data layer, part 4: slices, built-in calls, own defs, attributes, methods, new instances. -/
namespace Dl
open PySem PySem.Spec PyProof.Rows L2

section
variable {CA : Nat → Addr} {X : Cx} {a b c e o : Expr} {es : List Expr} {pos p apos : Pos} {da db dc : VDen} {dA : ADen} {ta tb : TDen} {dF : FDen}
theorem dv_dget2 (hu : X.A.units + 1 < cLine) (ha : DV CA X a da) (hb : DV CA X b db) (hc : DV CA X c dc) (m : M2 X a "get" apos b c pos := by exact ⟨rfl, rfl, rfl, rfl⟩) : DV CA X (.Call (.Attribute a "get" apos) [b, c] [] pos) (dDget2 da db dc) :=
  ⟨pe_w (pe_dget2 hu ha.pe hb.pe hc.pe m) fun σ H Q ⟨β, s, F, P, R, h, q⟩ => ⟨β, s, F, _, R, h, fun d1 s1 h1 x H1 F1 R1 E1 r1 => by
    cases d1 with
    | node t ds =>
      obtain ⟨h2, h3⟩ := h1
      obtain ⟨ad, rfl, isd⟩ := isD_of R1.sub h2 r1
      refine ⟨ad, rfl, isd, β, s1, F1, _, R1, h3, fun d2 s2 h2 y H2 F2 R2 E2 r2 => ⟨β, s2, F2, _, R2, h2, fun d3 s3 h3 z H3 F3 R3 E3 r3 => ?_⟩⟩
      cases e : dlook t ds d2 with
      | none => rw [e] at h3; exact h3.elim
      | some o =>
        rw [e] at h3
        obtain ⟨p, r, e1, g, g1, g2⟩ := dlook_ok R3.sub e ((r1.mono E2.fz).mono E3.fz) (r2.mono E3.fz)
        cases e1
        refine ⟨r, g, ?_⟩
        cases o with
        | none =>
          rw [g2 rfl]
          exact q _ s3 h3 _ H3 F3 R3 ((E1.trans E2).trans E3) r3
        | some d =>
          obtain ⟨v, rfl, rv⟩ := g1 d rfl
          exact q _ s3 h3 _ H3 F3 R3 ((E1.trans E2).trans E3) rv
    | _ => exact h1.elim⟩⟩
/-! ### slices -/
abbrev ODen := Env → (Option Int → Env → Prop) → Prop
def liftO (CA : Nat → Addr) (den : ODen) : TO := fun σ H Q => ∃ β s F P, Rel CA β s σ H F ∧ den s P ∧ ∀ o s', P o s' → ∀ H' F', Rel CA β s' σ H' F' → Ext β s σ H F s' σ H' F' → Q o H'
structure DO (CA : Nat → Addr) (X : Cx) (e : Option Expr) (den : ODen) : Prop where
  po : PO X e (liftO CA den)
theorem po_w {eo : Option Expr} {t t' : TO} (h : PO X eo t) (w : ∀ σ H Q, t' σ H Q → t σ H Q) : PO X eo t' := ⟨fun pins s σ H Q I q => h.run pins s σ H Q I (w σ H Q q)⟩
@[simp] def dNoPart : ODen := fun s P => P none s
@[simp] def dPart (da : VDen) : ODen := fun s P => da s fun d s1 => match d with
  | .int i => P (some i) s1
  | _ => False
theorem do_none : DO CA X none dNoPart := ⟨po_w po_none fun σ H Q ⟨β, s, F, P, R, h, q⟩ => q none s h H F R .refl⟩
theorem do_some (ha : DV CA X e da) : DO CA X (some e) (dPart da) := ⟨po_w (po_some ha.pe) fun σ H Q ⟨β, s, F, P, R, h, q⟩ => ⟨β, s, F, _, R, h, fun d s1 h1 x H1 F1 R1 E1 r1 => by
  cases d with
  | int i => exact ⟨i, r1.int_eq, q _ s1 h1 H1 F1 R1 E1⟩
  | _ => exact h1.elim⟩⟩
def cutD (xs : List D) (lo hi : Option Int) : List D := (xs.drop (HT.sIx xs.length 0 lo)).take (HT.sIx xs.length xs.length hi - HT.sIx xs.length 0 lo)
@[simp] def dSlL (da : VDen) (dl dh : ODen) : FDen := fun s P => da s fun d s1 => dl s1 fun l s2 => dh s2 fun u s3 => match d with
  | .node .lst ds => P .lst (cutD ds l u) s3
  | _ => False
@[simp] def dSlS (da : VDen) (dl dh : ODen) : VDen := fun s P => da s fun d s1 => dl s1 fun l s2 => dh s2 fun u s3 => match d with
  | .str z => z.length ≤ sizeLine ∧ P (.str (cutS z l u)) s3
  | _ => False
variable {lo hi : Option Expr} {dl dh : ODen} {p2 : Pos}
theorem cut_reps {F : Hp} {ds : List D} {vs : List V} (r : Reps CA F ds vs) (l u : Option Int) : Reps CA F (cutD ds l u) (cutV vs l u) := by
  unfold cutD cutV
  rw [r.length]
  exact (r.drop _).take _
theorem df_slL (ha : DV CA X e da) (hl : DO CA X lo dl) (hh : DO CA X hi dh) : DF CA X (.Subscript e (.Slice lo hi none p2) pos) (dSlL da dl dh) :=
  ⟨pe_w (pe_slice sl_list ha.pe hl.po hh.po) fun σ H Q ⟨β, s, F, P, R, h, q⟩ => ⟨β, s, F, _, R, h, fun d s1 h1 x H1 F1 R1 E1 r1 => ⟨β, s1, F1, _, R1, h1, fun l s2 h2 H2 F2 R2 E2 => ⟨β, s2, F2, _, R2, h2, fun u s3 h3 H3 F3 R3 E3 => by
    cases d with
    | node t ds => cases t with
      | lst =>
        obtain ⟨ad, vs, rfl, ⟨o, e1, e2⟩, e3⟩ := ((r1.mono E2.fz).mono E3.fz).node_eq
        cases (show o = .lst vs from e2)
        exact ⟨ad, vs, rfl, .inl (R3.sub.rd e1), fun p hp => q .lst _ s3 h3 p _ _ F3 (R3.new hp) (((E1.trans E2).trans E3).trans (.new hp)) ⟨_, upd_same, rfl⟩ (cut_reps e3 l u) (R3.sub.free hp) (((E1.trans E2).trans E3).dm hp) (R3.noown hp) True.intro⟩
      | _ => exact h3.elim
    | _ => exact h3.elim⟩⟩⟩⟩
theorem dv_slS (ha : DV CA X e da) (hl : DO CA X lo dl) (hh : DO CA X hi dh) : DV CA X (.Subscript e (.Slice lo hi none p2) pos) (dSlS da dl dh) :=
  ⟨pe_w (pe_slice sl_str ha.pe hl.po hh.po) fun σ H Q ⟨β, s, F, P, R, h, q⟩ => ⟨β, s, F, _, R, h, fun d s1 h1 x H1 F1 R1 E1 r1 => ⟨β, s1, F1, _, R1, h1, fun l s2 h2 H2 F2 R2 E2 => ⟨β, s2, F2, _, R2, h2, fun u s3 h3 H3 F3 R3 E3 => by
    cases d with
    | str z => exact ⟨z, r1.str_eq, h3.1, q _ s3 h3.2 _ H3 F3 R3 ((E1.trans E2).trans E3) rep_str⟩
    | _ => exact h3.elim⟩⟩⟩⟩
/-! ### built-in calls -/
def CallD (CA : Nat → Addr) (r : List V → Hp → VK → Prop) (f : List D → (D → Prop) → Prop) : Prop := ∀ {β : Beta} {s : Env} {σ : L2.St} {H F : Hp} {vs : List V} {ds : List D} {P : D → Prop} {Q : VK}, Rel CA β s σ H F → Reps CA F ds vs → f ds P →
  (∀ d, P d → ∀ v H' F', Rel CA β s σ H' F' → Ext β s σ H F s σ H' F' → Rep CA F' d v → Q v H') → r vs H Q
def CallF (CA : Nat → Addr) (r : List V → Hp → VK → Prop) (f : List D → (Tag → List D → Prop) → Prop) : Prop := ∀ {β : Beta} {s : Env} {σ : L2.St} {H F : Hp} {vs : List V} {ds : List D} {P : Tag → List D → Prop} {Q : VK}, Rel CA β s σ H F → Reps CA F ds vs → f ds P →
  (∀ t es, P t es → ∀ a ws H' F', Rel CA β s σ H' F' → Ext β s σ H F s σ H' F' → At CA H' t a ws → Reps CA F' es ws → F' a = none → H a = none → ¬ Owned β s σ a → t.mutable → Q (.ref a) H') → r vs H Q
@[simp] def dCB (f : List D → (D → Prop) → Prop) (dA : ADen) : VDen := fun s P => dA s fun as s1 => match argsD as with
  | some ds => f ds fun d => P d s1
  | none => False
@[simp] def dCF (f : List D → (Tag → List D → Prop) → Prop) (dA : ADen) : FDen := fun s P => dA s fun as s1 => match argsD as with
  | some ds => f ds fun t es => P t es s1
  | none => False
theorem tCB_w {r : List V → Hp → VK → Prop} {f : List D → (D → Prop) → Prop} (hf : CallD CA r f) {σ : L2.St} {H : Hp} {Q : VK} (h : liftV CA (dCB f dA) σ H Q) : tCB r (liftA CA dA) σ H Q := by
  obtain ⟨β, s, F, P, R, h, q⟩ := h
  refine ⟨β, s, F, _, R, h, fun as s1 h1 vs H1 F1 R1 E1 r1 => ?_⟩
  cases e : argsD as with
  | none => rw [e] at h1; exact h1.elim
  | some ds =>
    rw [e] at h1
    exact hf R1 (r1.vals e) h1 fun d hd v H2 F2 R2 E2 r2 => q d s1 hd v H2 F2 R2 (E1.trans E2) r2
theorem tCF_w {r : List V → Hp → VK → Prop} {f : List D → (Tag → List D → Prop) → Prop} (hf : CallF CA r f) {σ : L2.St} {H : Hp} {Q : VK} (h : liftF CA (dCF f dA) σ H Q) : tCB r (liftA CA dA) σ H Q := by
  obtain ⟨β, s, F, P, R, h, q⟩ := h
  refine ⟨β, s, F, _, R, h, fun as s1 h1 vs H1 F1 R1 E1 r1 => ?_⟩
  cases e : argsD as with
  | none => rw [e] at h1; exact h1.elim
  | some ds =>
    rw [e] at h1
    exact hf R1 (r1.vals e) h1 fun t es hd a ws H2 F2 R2 E2 z1 z2 z3 z4 z5 z6 => q t es s1 hd a ws H2 F2 R2 (E1.trans E2) z1 z2 z3 (E1.dm z4) z5 z6
theorem dv_callB {id : String} {x : Str} {r : List V → Hp → VK → Prop} {f : List D → (D → Prop) → Prop} (hc : CallR X (.builtin id) r) (hf : CallD CA r f) (hm : X.mg x = none) (hv : bootBuiltins x = some (.builtin id)) (ha : DA CA X (e :: es) dA) (hg : Gl X x := by rfl)
    (hn : x ≠ "__name__" := by decide) (hdb : (x == ("__debug__" : Str)) = false := by decide) (he : starEach (e :: es) X.env = (false, eval e X.env) :: starEach es X.env := by rfl) (hpl : (backTo pos (starEach es X.env)).any (·.1) = false := by rfl) :
    DV CA X (.Call (.Name x p) (e :: es) [] pos) (dCB f dA) := ⟨pe_w (pe_callB hc hg hm hv ha.pa hn hdb he hpl) fun _ _ _ h => tCB_w hf h⟩
theorem dv_callTy {id : String} {x : Str} {r : List V → Hp → VK → Prop} {f : List D → (D → Prop) → Prop} (hc : CallR X (.type id) r) (hf : CallD CA r f) (hm : X.mg x = none) (hv : bootBuiltins x = some (.type id)) (ha : DA CA X (e :: es) dA) (hg : Gl X x := by rfl)
    (hn : x ≠ "__name__" := by decide) (hdb : (x == ("__debug__" : Str)) = false := by decide) (he : starEach (e :: es) X.env = (false, eval e X.env) :: starEach es X.env := by rfl) (hpl : (backTo pos (starEach es X.env)).any (·.1) = false := by rfl) :
    DV CA X (.Call (.Name x p) (e :: es) [] pos) (dCB f dA) := ⟨pe_w (pe_callTy hc hg hm hv ha.pa hn hdb he hpl) fun _ _ _ h => tCB_w hf h⟩
theorem df_callB {id : String} {x : Str} {r : List V → Hp → VK → Prop} {f : List D → (Tag → List D → Prop) → Prop} (hc : CallR X (.builtin id) r) (hf : CallF CA r f) (hm : X.mg x = none) (hv : bootBuiltins x = some (.builtin id)) (ha : DA CA X (e :: es) dA) (hg : Gl X x := by rfl)
    (hn : x ≠ "__name__" := by decide) (hdb : (x == ("__debug__" : Str)) = false := by decide) (he : starEach (e :: es) X.env = (false, eval e X.env) :: starEach es X.env := by rfl) (hpl : (backTo pos (starEach es X.env)).any (·.1) = false := by rfl) :
    DF CA X (.Call (.Name x p) (e :: es) [] pos) (dCF f dA) := ⟨pe_w (pe_callB hc hg hm hv ha.pa hn hdb he hpl) fun _ _ _ h => tCF_w hf h⟩
theorem df_callTy {id : String} {x : Str} {r : List V → Hp → VK → Prop} {f : List D → (Tag → List D → Prop) → Prop} (hc : CallR X (.type id) r) (hf : CallF CA r f) (hm : X.mg x = none) (hv : bootBuiltins x = some (.type id)) (ha : DA CA X (e :: es) dA) (hg : Gl X x := by rfl)
    (hn : x ≠ "__name__" := by decide) (hdb : (x == ("__debug__" : Str)) = false := by decide) (he : starEach (e :: es) X.env = (false, eval e X.env) :: starEach es X.env := by rfl) (hpl : (backTo pos (starEach es X.env)).any (·.1) = false := by rfl) :
    DF CA X (.Call (.Name x p) (e :: es) [] pos) (dCF f dA) := ⟨pe_w (pe_callTy hc hg hm hv ha.pa hn hdb he hpl) fun _ _ _ h => tCF_w hf h⟩
theorem Reps.one {F : Hp} {d : D} {vs : List V} (h : Reps CA F [d] vs) : ∃ v, vs = [v] ∧ Rep CA F d v := by
  unfold Reps at h
  obtain ⟨v, r, e1, e2, e3⟩ := h
  unfold Reps at e3
  subst e3
  exact ⟨v, e1, e2⟩
theorem Reps.two {F : Hp} {d d' : D} {vs : List V} (h : Reps CA F [d, d'] vs) : ∃ v v', vs = [v, v'] ∧ Rep CA F d v ∧ Rep CA F d' v' := by
  unfold Reps at h
  obtain ⟨v, r, e1, e2, e3⟩ := h
  obtain ⟨v', e4, e5⟩ := Reps.one e3
  subst e4
  exact ⟨v, v', e1, e2, e5⟩
/-! len -/
@[simp] def fLen : List D → (D → Prop) → Prop := fun ds k => match ds with
  | [.node .lst es] => k (.int es.length)
  | [.node .tup es] => k (.int es.length)
  | [.node (.dk _) es] => k (.int es.length)
  | [.str z] => z.length ≤ sizeLine ∧ k (.int z.length)
  | _ => False
theorem call_lenR : CallR X (.builtin "len") (fun xs H Q => ∃ a kvs, xs = [V.ref a] ∧ Rd H a (.dK kvs) ∧ Q (.int kvs.length) H) := by
  intro pins s σ H xs us Q I r h
  obtain ⟨a, kvs, rfl, hd, q⟩ := h
  obtain ⟨u, rfl, rx⟩ := vals1 r
  cases (show u = Value.ref a from rx)
  exact d_len I hd fun t s' I' => ⟨.int kvs.length, H, I', ⟨t, rfl⟩, q⟩
abbrev rLenAll (X : Cx) : List V → Hp → VK → Prop := fun xs H Q => (∃ p ys, xs = [V.ref p] ∧ (SqL X.K H p ys ∨ SqT X.K H p ys) ∧ Q (.int ys.length) H) ∨ ((∃ z, xs = [V.str z] ∧ z.length ≤ sizeLine ∧ Q (.int z.length) H) ∨ (∃ a kvs, xs = [V.ref a] ∧ Rd H a (.dK kvs) ∧ Q (.int kvs.length) H))
theorem call_lenAll : CallR X (.builtin "len") (rLenAll X) := CallR.or call_len_seq (CallR.or call_len_str call_lenR)
theorem cd_len : CallD CA (rLenAll X) fLen := fun {β s σ H F vs ds P Q} R r h q => by
  match ds, h with
  | [.node .lst es], h =>
    obtain ⟨v, rfl, r1⟩ := r.one
    obtain ⟨a, ws, rfl, ⟨o, e1, e2⟩, e3⟩ := r1.node_eq
    cases (show o = .lst ws from e2)
    exact .inl ⟨a, ws, rfl, .inl (.inl (R.sub.rd e1)), by rw [← e3.length]; exact q _ h _ H F R .refl rep_int⟩
  | [.node .tup es], h =>
    obtain ⟨v, rfl, r1⟩ := r.one
    obtain ⟨a, ws, rfl, ⟨o, e1, e2⟩, e3⟩ := r1.node_eq
    cases (show o = .tup ws from e2)
    exact .inl ⟨a, ws, rfl, .inr (.inl (R.sub.rd e1)), by rw [← e3.length]; exact q _ h _ H F R .refl rep_int⟩
  | [.node (.dk ks) es], h =>
    obtain ⟨v, rfl, r1⟩ := r.one
    obtain ⟨a, ws, rfl, ⟨o, e1, kvs, rfl, e4, rfl⟩, e3⟩ := r1.node_eq
    have el : es.length = kvs.length := by rw [e3.length, List.length_map]
    exact .inr (.inr ⟨a, kvs, rfl, R.sub.rd e1, by rw [← el]; exact q _ h _ H F R .refl rep_int⟩)
  | [.str z], h =>
    obtain ⟨v, rfl, r1⟩ := r.one
    rw [r1.str_eq]
    exact .inr (.inl ⟨z, rfl, h.1, q _ h.2 _ H F R .refl rep_int⟩)
/-! list -/
def keyD : Key → D
  | .inl i => .int i
  | .inr x => .str x
theorem keyD_rep {F : Hp} (k : Key) : Rep CA F (keyD k) (kV k) := by
  cases k with
  | inl i => exact rep_int
  | inr x => exact rep_str
theorem keysD_reps {F : Hp} : ∀ ks : List Key, Reps CA F (ks.map keyD) (ks.map kV)
  | [] => reps_nil
  | k :: ks => reps_cons (keyD_rep k) (keysD_reps ks)
@[simp] def fList : List D → (Tag → List D → Prop) → Prop := fun ds k => match ds with
  | [.node .lst es] => k .lst es
  | [.node .tup es] => k .lst es
  | [.node (.dk ks) _] => k .lst (ks.map keyD)
  | [.node (.dt ks) _] => k .lst (ks.map fun l => .node .tup (l.map keyD))
  | _ => False
abbrev rListAll (X : Cx) : List V → Hp → VK → Prop := fun xs H Q => (∃ p ys, xs = [V.ref p] ∧ (SqL X.K H p ys ∨ SqT X.K H p ys) ∧ ∀ l, H l = none → Q (.ref l) (upd H l (.lst ys))) ∨
  ((∃ (a : Addr) (kvs : List (Key × V)), xs = [V.ref a] ∧ Rd H a (.dK kvs) ∧ ∀ p, H p = none → Q (.ref p) (upd H p (.lst (kvs.map fun kv => kV kv.1)))) ∨
   (∃ d kvs, xs = [V.ref d] ∧ Rd H d (.dT kvs) ∧ ∀ p bs, H p = none → IsKeys H kvs bs → Q (.ref p) (upd H p (.lst (bs.map V.ref)))))
theorem call_listAll (hc : X.calm = true) : CallR X (.type "list") (rListAll X) := CallR.or call_list_of (CallR.or (call_listD hc) (call_list_dT hc))
/-- F with the tuples at bs -/
def addT (F H : Hp) (bs : List Addr) : Hp := fun b => if b ∈ bs then H b else F b
theorem addT_in {F H : Hp} {bs : List Addr} {b : Addr} (h : b ∈ bs) : addT F H bs b = H b := if_pos h
theorem addT_out {F H : Hp} {bs : List Addr} {b : Addr} (h : b ∉ bs) : addT F H bs b = F b := if_neg h
theorem Rel.addT {β : Beta} {s : Env} {σ : L2.St} {H F : Hp} (R : Rel CA β s σ H F) {bs : List Addr} (hb : ∀ b ∈ bs, ∃ xs, H b = some (.tup xs)) : Rel CA β s σ H (addT F H bs) ∧ Ext β s σ H F s σ H (addT F H bs) := by
  have fz : Same F (Dl.addT F H bs) := fun b o e => by
    by_cases q : b ∈ bs
    · rw [addT_in q]
      obtain ⟨xs, e2⟩ := hb b q
      rcases R.sub b o e with z | ⟨z, ob, y⟩
      · exact z
      · rw [e2] at y; cases y
    · rw [addT_out q]; exact e
  have x : XT (fun b => isB β b) H F H (Dl.addT F H bs) := ⟨fz, fun b o e => by
    by_cases q : b ∈ bs
    · rw [addT_in q] at e
      obtain ⟨xs, e2⟩ := hb b q
      rw [e2] at e
      exact .inr (.inr (.inl ⟨xs, (Option.some.inj e).symm⟩))
    · rw [addT_out q] at e; exact .inl e, fun _ _ e _ => e, fun _ e => e⟩
  refine ⟨R.over x (fun b o e => ?_) fun b e => ?_, .over x⟩
  · by_cases q : b ∈ bs
    · rw [addT_in q] at e; exact .inl e
    · rw [addT_out q] at e; exact R.sub b o e
  · obtain ⟨k1, k2⟩ := R.bok b e
    refine ⟨k1.mono rfl fz, ?_⟩
    by_cases q : b ∈ bs
    · obtain ⟨xs, e2⟩ := hb b q
      obtain ⟨c, ns, i, r, sd, n, h1, _⟩ := k1
      rw [h1] at e2
      cases e2
    · rw [addT_out q]; exact k2
theorem isKeys_tup {H : Hp} : ∀ {kvs : List (List Key × V)} {bs : List Addr}, IsKeys H kvs bs → ∀ b ∈ bs, ∃ xs, H b = some (.tup xs)
  | _, _, .nil, _, h => by cases h
  | _, _, .cons r t, b, h => by
    rcases List.mem_cons.mp h with e | h
    · rw [e]; exact ⟨_, r⟩
    · exact isKeys_tup t b h
theorem isKeys_reps {H F : Hp} : ∀ {kvs : List (List Key × V)} {bs : List Addr}, IsKeys H kvs bs → (∀ b ∈ bs, F b = H b) → Reps CA F ((kvs.map (·.1)).map fun l => .node .tup (l.map keyD)) (bs.map V.ref)
  | _, _, .nil, _ => reps_nil
  | _, _, .cons (a := p) (b := b) r t, h => by
    refine reps_cons (rep_node ⟨_, ?_, rfl⟩ (keysD_reps p.1)) (isKeys_reps t fun c hc => h c (List.mem_cons_of_mem _ hc))
    rw [h _ List.mem_cons_self]
    exact r
theorem cf_list : CallF CA (rListAll X) fList := fun {β s σ H F vs ds P Q} R r h q => by
  match ds, h with
  | [.node .lst es], h =>
    obtain ⟨v, rfl, r1⟩ := r.one
    obtain ⟨a, ws, rfl, ⟨o, e1, e2⟩, e3⟩ := r1.node_eq
    cases (show o = .lst ws from e2)
    exact .inl ⟨a, ws, rfl, .inl (.inl (R.sub.rd e1)), fun l hl => q _ _ h l ws _ F (R.new hl) (.new hl) ⟨_, upd_same, rfl⟩ e3 (R.sub.free hl) hl (R.noown hl) True.intro⟩
  | [.node .tup es], h =>
    obtain ⟨v, rfl, r1⟩ := r.one
    obtain ⟨a, ws, rfl, ⟨o, e1, e2⟩, e3⟩ := r1.node_eq
    cases (show o = .tup ws from e2)
    exact .inl ⟨a, ws, rfl, .inr (.inl (R.sub.rd e1)), fun l hl => q _ _ h l ws _ F (R.new hl) (.new hl) ⟨_, upd_same, rfl⟩ e3 (R.sub.free hl) hl (R.noown hl) True.intro⟩
  | [.node (.dk ks) es], h =>
    obtain ⟨v, rfl, r1⟩ := r.one
    obtain ⟨a, ws, rfl, ⟨o, e1, kvs, rfl, rfl, rfl⟩, e3⟩ := r1.node_eq
    refine .inr (.inl ⟨a, kvs, rfl, R.sub.rd e1, fun l hl => q _ _ h l _ _ F (R.new hl) (.new hl) ⟨_, upd_same, rfl⟩ ?_ (R.sub.free hl) hl (R.noown hl) True.intro⟩)
    have := keysD_reps (CA := CA) (F := F) (kvs.map (·.1))
    rw [List.map_map] at this ⊢
    rw [show kvs.map (fun kv => kV kv.1) = (kvs.map (·.1)).map kV by rw [List.map_map]; rfl]
    simpa using this
  | [.node (.dt ks) es], h =>
    obtain ⟨v, rfl, r1⟩ := r.one
    obtain ⟨a, ws, rfl, ⟨o, e1, kvs, rfl, rfl, rfl⟩, e3⟩ := r1.node_eq
    refine .inr (.inr ⟨a, kvs, rfl, R.sub.rd e1, fun l bs hl hk => ?_⟩)
    obtain ⟨R1, E1⟩ := R.addT (isKeys_tup hk)
    exact q _ _ h l _ _ _ (R1.new hl) (E1.trans (.new hl)) ⟨_, upd_same, rfl⟩ (isKeys_reps hk fun b hb => addT_in hb) (R1.sub.free hl) hl (R1.noown hl) True.intro
/-! all, any, int, abs -/
def toBls : List D → Option (List Bool)
  | [] => some []
  | .bl b :: ds => (toBls ds).map (b :: ·)
  | _ => none
theorem toBls_eq : ∀ {ds : List D} {bs : List Bool}, toBls ds = some bs → ds = bs.map D.bl
  | [], bs, h => by cases h; rfl
  | .bl b :: ds, bs, h => by
    unfold toBls at h
    cases q : toBls ds with
    | none => rw [q] at h; cases h
    | some cs =>
      rw [q] at h
      cases h
      rw [toBls_eq q]
      rfl
  | .non :: ds, bs, h => by cases h
  | .int _ :: ds, bs, h => by cases h
  | .str _ :: ds, bs, h => by cases h
  | .node _ _ :: ds, bs, h => by cases h
theorem toBls_map (bs : List Bool) : toBls (bs.map D.bl) = some bs := by
  induction bs with
  | nil => rfl
  | cons b bs ih => rw [List.map_cons]; unfold toBls; rw [ih]; rfl
@[simp] def fAll : List D → (D → Prop) → Prop := fun ds k => match ds with
  | [.node .lst es] => match toBls es with
    | some bs => k (.bl (bs.all id))
    | none => False
  | _ => False
@[simp] def fAny : List D → (D → Prop) → Prop := fun ds k => match ds with
  | [.node .lst es] => match toBls es with
    | some bs => k (.bl (bs.any id))
    | none => False
  | _ => False
theorem cd_all : CallD CA (rAll X.K) fAll := fun {β s σ H F vs ds P Q} R r h q => by
  match ds, h with
  | [.node .lst es], h =>
    obtain ⟨v, rfl, r1⟩ := r.one
    obtain ⟨a, ws, rfl, ⟨o, e1, e2⟩, e3⟩ := r1.node_eq
    cases (show o = .lst ws from e2)
    cases e : toBls es with
    | none => simp only [fAll, e] at h
    | some bs =>
      simp only [fAll, e] at h
      rw [toBls_eq e] at e3
      rw [e3.bls_eq] at e1
      exact ⟨a, bs, rfl, .inl (R.sub.rd e1), q _ h _ H F R .refl rep_bl⟩
theorem cd_any : CallD CA (rAny X.K) fAny := fun {β s σ H F vs ds P Q} R r h q => by
  match ds, h with
  | [.node .lst es], h =>
    obtain ⟨v, rfl, r1⟩ := r.one
    obtain ⟨a, ws, rfl, ⟨o, e1, e2⟩, e3⟩ := r1.node_eq
    cases (show o = .lst ws from e2)
    cases e : toBls es with
    | none => simp only [fAny, e] at h
    | some bs =>
      simp only [fAny, e] at h
      rw [toBls_eq e] at e3
      rw [e3.bls_eq] at e1
      exact ⟨a, bs, rfl, .inl (R.sub.rd e1), q _ h _ H F R .refl rep_bl⟩
/-! isinstance -/
inductive Ty6 where
  | int | bool | str | tuple | list | dict
def Ty6.nm : Ty6 → String
  | .int => "int" | .bool => "bool" | .str => "str" | .tuple => "tuple" | .list => "list" | .dict => "dict"
/-- the type's name of data of which it is asked -/
def tyD : D → Option String
  | .non => some "NoneType"
  | .bl _ => some "bool"
  | .int _ => some "int"
  | .str _ => some "str"
  | .node .lst _ => some "list"
  | .node .tup _ => some "tuple"
  | .node (.dk _) _ => some "dict"
  | _ => none
@[simp] def isTy6 : Ty6 → D → Option Bool
  | .int, .bl _ => some true
  | .int, .int _ => some true
  | .bool, .bl _ => some true
  | .str, .str _ => some true
  | .tuple, .node .tup _ => some true
  | .list, .node .lst _ => some true
  | .dict, .node (.dk _) _ => some true
  | _, .node (.dt _) _ => none
  | _, .node (.ins _ _) _ => none
  | _, _ => some false
theorem isTy6_ok {T : Ty6} {d : D} {b : Bool} (h : isTy6 T d = some b) : ∃ n, tyD d = some n ∧ kitB n T.nm = some b := by
  cases d with
  | node t ds => cases t with
    | dt _ => cases T <;> cases h
    | ins _ _ => cases T <;> cases h
    | lst => cases T <;> cases h <;> exact ⟨_, rfl, by decide +kernel⟩
    | tup => cases T <;> cases h <;> exact ⟨_, rfl, by decide +kernel⟩
    | dk _ => cases T <;> cases h <;> exact ⟨_, rfl, by decide +kernel⟩
  | non => cases T <;> cases h <;> exact ⟨_, rfl, by decide +kernel⟩
  | bl _ => cases T <;> cases h <;> exact ⟨_, rfl, by decide +kernel⟩
  | int _ => cases T <;> cases h <;> exact ⟨_, rfl, by decide +kernel⟩
  | str _ => cases T <;> cases h <;> exact ⟨_, rfl, by decide +kernel⟩
theorem tyD_ok {K : PySem.W.Frag} {F H : Hp} {d : D} {v : V} {n : String} (sub : Sub F H) (h : tyD d = some n) (r : Rep CA F d v) : TyX K H v (.type n) := by
  cases d with
  | non => cases h; rw [r.non_eq]; exact .base .non
  | bl _ => cases h; rw [r.bl_eq]; exact .base (.bl _)
  | int _ => cases h; rw [r.int_eq]; exact .base (.int _)
  | str _ => cases h; rw [r.str_eq]; exact .base (.str _)
  | node t ds =>
    obtain ⟨a, ws, rfl, ⟨o, e1, e2⟩, e3⟩ := r.node_eq
    cases t with
    | lst => cases h; cases (show o = .lst ws from e2); exact .base (.lst (sub.nd e1 fun z => z))
    | tup => cases h; cases (show o = .tup ws from e2); exact .base (.tup (sub.nd e1 fun z => z))
    | dk ks =>
      cases h
      obtain ⟨kvs, rfl, _⟩ := e2
      rcases sub _ _ e1 with z | ⟨_, ob, z⟩
      · exact .base (.dK z)
      · exact .fDict z
    | _ => cases h
@[simp] def dIsi (T : Ty6) (da : VDen) : VDen := fun s P => da s fun d s1 => match isTy6 T d with
  | some b => P (.bl b) s1
  | none => False
@[simp] def dIsi2 (T U : Ty6) (da : VDen) : VDen := fun s P => da s fun d s1 => match isTy6 T d, isTy6 U d with
  | some b, some c => P (.bl (b || c)) s1
  | _, _ => False
theorem dv_isi (T : Ty6) (hm : X.mg "isinstance" = none) (ha : DV CA X a da) (hT : PE X b (tC (.ty T.nm))) (hg : Gl X "isinstance" := by rfl) (he : starEach [a, b] X.env = (false, eval a X.env) :: starEach [b] X.env := by rfl) (he2 : starEach [b] X.env = (false, eval b X.env) :: starEach [] X.env := by rfl) (hpl : (backTo pos (starEach [b] X.env)).any (·.1) = false := by rfl) :
    DV CA X (.Call (.Name "isinstance" p) [a, b] [] pos) (dIsi T da) := ⟨pe_w (pe_callB call_isi hg hm (by decide +kernel) (pa_cons ha.pe (pa_cons hT pa_nil he2) he) (by decide) (by decide) he hpl) fun σ H Q ⟨β, s, F, P, R, h, q⟩ =>
  ⟨β, s, F, _, R, h, fun d s1 h1 x H1 F1 R1 E1 r1 => by
    cases e : isTy6 T d with
    | none => rw [e] at h1; exact h1.elim
    | some b =>
      rw [e] at h1
      obtain ⟨n, e1, e2⟩ := isTy6_ok e
      exact ⟨x, .ty T.nm, .type n, .type T.nm, b, rfl, .ty _, tyD_ok R1.sub e1 r1, kit_ty e2, q _ s1 h1 _ H1 F1 R1 E1 rep_bl⟩⟩⟩
theorem dv_isi2 (T U : Ty6) {k : Nat} {tp : Pos} (hm : X.mg "isinstance" = none) (ha : DV CA X a da) (hT : PE X b (tC (.ty T.nm))) (hU : PE X c (tC (.ty U.nm))) (hg : Gl X "isinstance" := by rfl) (he : starEach [a, .Tuple [b, c] k tp] X.env = (false, eval a X.env) :: starEach [.Tuple [b, c] k tp] X.env := by rfl) (he2 : starEach [.Tuple [b, c] k tp] X.env = (false, eval (.Tuple [b, c] k tp) X.env) :: starEach [] X.env := by rfl)
    (he3 : starEach [b, c] X.env = (false, eval b X.env) :: starEach [c] X.env := by rfl) (he4 : starEach [c] X.env = (false, eval c X.env) :: starEach [] X.env := by rfl) (hpl : (backTo pos (starEach [.Tuple [b, c] k tp] X.env)).any (·.1) = false := by rfl) :
    DV CA X (.Call (.Name "isinstance" p) [a, .Tuple [b, c] k tp] [] pos) (dIsi2 T U da) := ⟨pe_w (pe_callB call_isiT hg hm (by decide +kernel) (pa_cons ha.pe (pa_cons (pe_tup (pa_cons hT (pa_cons hU pa_nil he4) he3)) pa_nil he2) he) (by decide) (by decide) he hpl) fun σ H Q ⟨β, s, F, P, R, h, q⟩ =>
  ⟨β, s, F, _, R, h, fun d s1 h1 x H1 F1 R1 E1 r1 => by
    refine ⟨by show 2 ≤ sizeLine; decide, fun tp' htp => ?_⟩
    cases e : isTy6 T d with
    | none => rw [e] at h1; exact h1.elim
    | some b =>
      cases e' : isTy6 U d with
      | none => rw [e, e'] at h1; exact h1.elim
      | some c =>
        rw [e, e'] at h1
        obtain ⟨n, e1, e2⟩ := isTy6_ok e
        obtain ⟨n', e1', e2'⟩ := isTy6_ok e'
        rw [e1] at e1'
        cases e1'
        have R2 := R1.new (o := .tup [.ty T.nm, .ty U.nm]) htp
        refine ⟨x, tp', [.ty T.nm, .ty U.nm], .type n, [.type T.nm, .type U.nm], b || c, rfl, upd_same, .cons (.ty _) (.cons (.ty _) .nil), tyD_ok R2.sub e1 r1, ?_, q _ s1 h1 _ _ F1 R2 (E1.trans (.new htp)) rep_bl⟩
        refine kitAny_cons (kit_ty e2) (fun hb => kitAny_cons (kit_ty e2') (fun hc => ?_) fun hc => ?_) fun hb => ?_
        · rw [hb, hc]; rfl
        · rw [hc, Bool.or_true]
        · rw [hb]; rfl⟩⟩
end
end Dl
end

section
set_option Elab.async false
set_option linter.all false
set_option maxRecDepth 100000
set_option maxHeartbeats 4000000
/-! The data layer, part 5: contracts of defs, their calls, attributes, methods, new instances. -/
namespace Dl
open PySem PySem.Spec PyProof.Rows L2

abbrev Con := List Arg → (D → Prop) → Prop
abbrev ConI := List Arg → (List Str → List D → Prop) → Prop
abbrev ConF := List Arg → (Tag → List D → Prop) → Prop
abbrev ofBag (β : Beta) (b : Addr) : Prop := isB β b
/-- a def's promise: data in, data out -/
def spD (CA : Nat → Addr) (n : Nat) (C : Con) : Sp := fun vs H Q _ => ∃ β F as P, Sub F H ∧ BOk β H F ∧ RepAs CA β F as vs ∧ as.length = n ∧ C as P ∧
  ∀ d, P d → ∀ v H' F', XT (ofBag β) H F H' F' → Sub F' H' → BOk β H' F' → Rep CA F' d v → Q v H'
/-- data in, an object out that nobody else holds -/
def spF (CA : Nat → Addr) (n : Nat) (C : ConF) : Sp := fun vs H Q _ => ∃ β F as P, Sub F H ∧ BOk β H F ∧ RepAs CA β F as vs ∧ as.length = n ∧ C as P ∧
  ∀ t ds, P t ds → ∀ a ws H' F', XT (ofBag β) H F H' F' → Sub F' H' → BOk β H' F' → At CA H' t a ws → Reps CA F' ds ws → F' a = none → t.mutable → H a = none → Q (.ref a) H'
/-- __init__ -/
def spI (CA : Nat → Addr) (c n : Nat) (C : ConI) : Sp := fun vs H Q _ => ∃ β F as P x dx rest, vs = .ref x :: rest ∧ H x = some (.ins (CA c) dx []) ∧ F x = none ∧ ¬ isB β x ∧ Sub F H ∧ BOk β H F ∧ RepAs CA β F as rest ∧ as.length + 1 = n ∧ C as P ∧
  ∀ ns ds, P ns ds → ∀ ws H' F', XT (fun b => isB β b ∨ b = x) H F H' F' → Sub F' H' → BOk β H' F' → At CA H' (.ins c ns) x ws → Reps CA F' ds ws → F' x = none → Q .non H'
section
variable {P : Program} {w : World} {K : PySem.W.Frag} {mg : Str → Option Value} {base : Heap} {CA : Nat → Addr} {n k c : Nat}
theorem spD_len {C : Con} {vs : List V} {H : Hp} {Q : VK} {E : XK} (h : spD CA n C vs H Q E) : vs.length = n := by
  obtain ⟨β, F, as, P, _, _, r, e, _⟩ := h
  rw [← r.length, e]
theorem spF_len {C : ConF} {vs : List V} {H : Hp} {Q : VK} {E : XK} (h : spF CA n C vs H Q E) : vs.length = n := by
  obtain ⟨β, F, as, P, _, _, r, e, _⟩ := h
  rw [← r.length, e]
theorem spI_len {C : ConI} {vs : List V} {H : Hp} {Q : VK} {E : XK} (h : spI CA c n C vs H Q E) : vs.length = n := by
  obtain ⟨β, F, as, P, x, dx, rest, rfl, _, _, _, _, _, r, e, _⟩ := h
  rw [List.length_cons, ← r.length, e]
/-- a global def that keeps a promise -/
structure Cal (P : Program) (w : World) (K : PySem.W.Frag) (mg : Str → Option Value) (base : Heap) (x : Str) (k n : Nat) (sp : Sp) : Prop where
  ex : ∃ (f : Addr) (fd : FuncData) (ps : List Str), FnOk P w K mg base CX0 k f fd ps sp ∧ mg x = some (.ref f) ∧ PySem.W.keepIn K (.ref f) = true ∧ Binds K fd ps [] ∧ ps.length = n
structure Met (P : Program) (w : World) (K : PySem.W.Frag) (mg : Str → Option Value) (base : Heap) (C : Addr) (m : Str) (k n : Nat) (sp : Sp) : Prop where
  ex : ∃ (f : Addr) (fd : FuncData) (ps : List Str), FnOk P w K mg base CX0 k f fd ps sp ∧ Meth K C m f ∧ Binds K fd ps [] ∧ ps.length = n
end

section
variable {CA : Nat → Addr} {X : Cx} {a b c e o : Expr} {es : List Expr} {pos p apos : Pos} {da db dc : VDen} {dA : ADen} {ta tb : TDen} {dF : FDen} {n k : Nat}
/-- behind a call -/
theorem called {β : Beta} {s : Env} {σ : L2.St} {H F H' F' : Hp} (R : Rel CA β s σ H F) (x : XT (ofBag β) H F H' F') (sub : Sub F' H') (bok : BOk β H' F') : Rel CA β s σ H' F' ∧ Ext β s σ H F s σ H' F' := ⟨R.over x sub bok, .over x⟩
@[simp] def dCall (n : Nat) (C : Con) (dA : ADen) : VDen := fun s P => dA s fun as s1 => as.length = n ∧ C as fun d => P d s1
theorem tCall_w {C : Con} {E : XK} {σ : L2.St} {H : Hp} {Q : VK} (h : liftV CA (dCall n C dA) σ H Q) : tCall (spD CA n C) [] E (liftA CA dA) σ H Q := by
  obtain ⟨β, s, F, P, R, h, q⟩ := h
  refine ⟨β, s, F, _, R, h, fun as s1 h1 vs H1 F1 R1 E1 r1 => ?_⟩
  dsimp only
  rw [List.append_nil]
  exact ⟨β, F1, as, _, R1.sub, R1.bok, r1, h1.1, h1.2, fun d hd v H2 F2 x sub bok rv => q d s1 hd v H2 F2 (called R1 x sub bok).1 (E1.trans (called R1 x sub bok).2) rv⟩
theorem dv_call {x : Str} {C : Con} (G : Cal X.prog X.w X.K X.mg X.base x k n (spD CA n C)) (hr : Room k X.A) (ha : DA CA X (e :: es) dA) (hg : Gl X x := by rfl)
    (hdb : (x == ("__debug__" : Str)) = false := by decide) (he : starEach (e :: es) X.env = (false, eval e X.env) :: starEach es X.env := by rfl) (hpl : (backTo pos (starEach es X.env)).any (·.1) = false := by rfl) :
    DV CA X (.Call (.Name x p) (e :: es) [] pos) (dCall n C dA) := by
  obtain ⟨f, fd, ps, F, hm, hk, hb, hl⟩ := G.ex
  exact ⟨pe_w (pe_call F hr hg hm hk hb .nil pass0 ha.pa hdb he hpl) fun _ _ _ h => tCall_w h⟩
theorem dv_call0 {x : Str} {C : Con} (G : Cal X.prog X.w X.K X.mg X.base x k 0 (spD CA 0 C)) (hr : Room k X.A) (hg : Gl X x := by rfl) (hdb : (x == ("__debug__" : Str)) = false := by decide) :
    DV CA X (.Call (.Name x p) [] [] pos) (dCall 0 C dNil) := by
  obtain ⟨f, fd, ps, F, hm, hk, hb, hl⟩ := G.ex
  refine ⟨pe_w (pe_call0 F hr hg hm hk hb .nil pass0 hdb) fun σ H Q ⟨β, s, F, P, R, h, q⟩ => ?_⟩
  show spD CA 0 C ([] ++ []) H Q E0
  exact ⟨β, F, [], _, R.sub, R.bok, rfl, rfl, h.2, fun d hd v H2 F2 x sub bok rv => q d s hd v H2 F2 (called R x sub bok).1 (called R x sub bok).2 rv⟩
/-! ### attributes -/
@[simp] def dAttr (c : Nat) (f : Str) (da : VDen) : VDen := fun s P => da s fun d s1 => match d with
  | .node (.ins c' ns) ds => c' = c ∧ match look ns ds f with
    | some e => P e s1
    | none => False
  | _ => False
theorem lookup_ok {F : Hp} : ∀ {fs : List (Str × V)} {ds : List D} (f : Str), Reps CA F ds (fs.map (·.2)) →
    (∀ d, look (fs.map (·.1)) ds f = some d → ∃ v, fs.lookup f = some v ∧ Rep CA F d v) ∧ (look (fs.map (·.1)) ds f = none → fs.lookup f = none)
  | [], ds, k, r => ⟨fun d h => (by unfold look at h; cases h), fun _ => rfl⟩
  | p :: fs, [], k, r => by
    unfold Reps at r
    cases r
  | p :: fs, e :: ds, k, r => by
    rw [List.map_cons] at r
    unfold Reps at r
    obtain ⟨v, w, e0, r1, r2⟩ := r
    injection e0 with e1 e2
    subst e1
    subst e2
    have ih := lookup_ok k r2
    rw [List.map_cons]
    unfold look
    obtain ⟨g, x⟩ := p
    by_cases q : g = k
    · have q' : (k == g) = true := by rw [q]; exact beq_self_eq_true k
      simp only [if_pos q, List.lookup_cons, q']
      exact ⟨fun d h => by cases h; exact ⟨_, rfl, r1⟩, fun h => by cases h⟩
    · have q' : (k == g) = false := by
        rw [beq_eq_false_iff_ne]
        exact fun z => q z.symm
      simp only [if_neg q, List.lookup_cons, q']
      exact ih
theorem dv_attr (c : Nat) {f : Str} (hc : Cls X.K (CA c)) (hn : NoAttr X.K (CA c) f) (ha : DV CA X a da) (hb : attributeBase a f X.env (eval a X.env) = eval a X.env := by rfl) : DV CA X (.Attribute a f pos) (dAttr c f da) := ⟨pe_w (pe_fld ha.pe hb) fun σ H Q ⟨β, s, F, P, R, h, q⟩ =>
  ⟨β, s, F, _, R, h, fun d s1 h1 x H1 F1 R1 E1 r1 => by
    cases d with
    | node t ds => cases t with
      | ins c' ns =>
        obtain ⟨rfl, h2⟩ := h1
        obtain ⟨ad, vs, rfl, ⟨ob, e1, dx, fs, rfl, rfl, rfl⟩, e3⟩ := r1.node_eq
        cases e : look (fs.map (·.1)) ds f with
        | none => rw [e] at h2; exact h2.elim
        | some d =>
          rw [e] at h2
          obtain ⟨v, e4, e5⟩ := (lookup_ok f e3).1 d e
          exact ⟨ad, CA c', dx, fs, v, rfl, R1.sub.nd e1 (fun z => z), hc, hn, e4, q d s1 h2 v H1 F1 R1 E1 e5⟩
      | _ => exact h1.elim
    | _ => exact h1.elim⟩⟩
/-- of the object that the slot i owns -/
@[simp] def dAttrO (c i : Nat) (f : Str) : VDen := fun s P => match s[i]? with
  | some (some (.own (.ins c' ns) ds)) => c' = c ∧ match look ns ds f with
    | some e => P e s
    | none => False
  | _ => False
theorem dv_attrO (c : Nat) {i : Nat} {f : Str} (hc : Cls X.K (CA c)) (hn : NoAttr X.K (CA c) f) (ha : PE X a (tVar i)) (hb : attributeBase a f X.env (eval a X.env) = eval a X.env := by rfl) : DV CA X (.Attribute a f pos) (dAttrO c i f) := ⟨pe_w (pe_fld ha hb) fun σ H Q ⟨β, s, F, P, R, h, q⟩ => by
  unfold dAttrO at h
  split at h
  · next c' ns ds e0 =>
    obtain ⟨rfl, h2⟩ := h
    obtain ⟨ad, vs, e0', ⟨ob, e1, dx, fs, rfl, rfl, rfl⟩, e3, _⟩ := R.own i _ _ e0
    cases e : look (fs.map (·.1)) ds f with
    | none => rw [e] at h2; exact h2.elim
    | some d =>
      rw [e] at h2
      obtain ⟨v, e4, e5⟩ := (lookup_ok f e3).1 d e
      exact ⟨.ref ad, e0', ad, CA c', dx, fs, v, rfl, e1, hc, hn, e4, q d s h2 v H F R .refl e5⟩
  · exact h.elim⟩
/-! ### methods of frozen instances -/
@[simp] def dMeth (c : Nat) (m : Str) (n : Nat) (C : Con) (da : VDen) (dA : ADen) : VDen := fun s P => da s fun d s1 => match d with
  | .node (.ins c' ns) ds => c' = c ∧ look ns ds m = none ∧ dA s1 fun as s2 => as.length + 1 = n ∧ C (.val d :: as) fun r => P r s2
  | _ => False
theorem tMeth_w {C : Con} {E : XK} {c : Nat} {m : Str} {σ : L2.St} {H : Hp} {Q : VK} (h : liftV CA (dMeth c m n C da dA) σ H Q) : tMeth (CA c) m (spD CA n C) [] E (liftV CA da) (liftA CA dA) σ H Q := by
  obtain ⟨β, s, F, P, R, h, q⟩ := h
  refine ⟨β, s, F, _, R, h, fun d s1 h1 x H1 F1 R1 E1 r1 => ?_⟩
  cases d with
  | node t ds => cases t with
    | ins c' ns =>
      obtain ⟨rfl, h2, h3⟩ := h1
      obtain ⟨ad, vs, rfl, ⟨ob, e1, dx, fs, rfl, rfl, rfl⟩, e3⟩ := (id r1).node_eq
      refine ⟨ad, dx, fs, rfl, R1.sub.nd e1 (fun z => z), (lookup_ok m e3).2 h2, β, s1, F1, _, R1, h3, fun as s2 h4 ws H2 F2 R2 E2 r2 => ?_⟩
      dsimp only
      rw [List.append_nil]
      exact ⟨β, F2, .val _ :: as, _, R2.sub, R2.bok, ⟨_, ws, rfl, Rep.mono E2.fz r1, r2⟩, h4.1, h4.2, fun d hd v H3 F3 x sub bok rv => q d s2 hd v H3 F3 (called R2 x sub bok).1 ((E1.trans E2).trans (called R2 x sub bok).2) rv⟩
    | _ => exact h1.elim
  | _ => exact h1.elim
theorem dv_meth (c : Nat) {m : Str} {C : Con} {pl : Sem Bool} (G : Met X.prog X.w X.K X.mg X.base (CA c) m k n (spD CA n C)) (hc : Cls X.K (CA c)) (hr : Room k X.A) (ho : DV CA X o da) (ha : DA CA X (e :: es) dA)
    (hst : starEach (e :: es) X.env = (false, eval e X.env) :: starEach es X.env := by rfl) (hpl : (backTo pos (starEach es X.env)).any (·.1) = false := by rfl)
    (ht : eval (.Call (.Attribute o m apos) (e :: es) [] pos) X.env = (do
      let ov ← eval o X.env
      standAt apos.atName
      let (f, first) ← holding [ov] (getMethod ov m pl)
      callWith pos f first (backTo pos (starEach (e :: es) X.env)) (backToKw pos (keywordEach [] X.env))) := by rfl) :
    DV CA X (.Call (.Attribute o m apos) (e :: es) [] pos) (dMeth c m n C da dA) := by
  obtain ⟨f, fd, ps, F, hm, hb, hl⟩ := G.ex
  exact ⟨pe_w (pe_meth ho.pe hc hm F hr hb .nil pass0 ha.pa hst hpl ht) fun _ _ _ h => tMeth_w h⟩
theorem dv_meth0 (c : Nat) {m : Str} {C : Con} {pl : Sem Bool} (G : Met X.prog X.w X.K X.mg X.base (CA c) m k 1 (spD CA 1 C)) (hc : Cls X.K (CA c)) (hr : Room k X.A) (ho : DV CA X o da)
    (ht : eval (.Call (.Attribute o m apos) [] [] pos) X.env = (do
      let ov ← eval o X.env
      standAt apos.atName
      let (f, first) ← holding [ov] (getMethod ov m pl)
      callWith pos f first (backTo pos (starEach [] X.env)) (backToKw pos (keywordEach [] X.env))) := by rfl) :
    DV CA X (.Call (.Attribute o m apos) [] [] pos) (dMeth c m 1 C da dNil) := by
  obtain ⟨f, fd, ps, F, hm, hb, hl⟩ := G.ex
  refine ⟨pe_w (pe_meth0 ho.pe hc hm F hr hb .nil pass0 ht) fun σ H Q h => ?_⟩
  have h2 := tMeth_w (E := E0) h
  obtain ⟨β, s, F, P, R, h, q⟩ := h2
  exact ⟨β, s, F, P, R, h, fun d s' hp v H' F' R' E' r' => by
    obtain ⟨a, dx, fs, e1, e2, e3, h4⟩ := q d s' hp v H' F' R' E' r'
    refine ⟨a, dx, fs, e1, e2, e3, ?_⟩
    obtain ⟨β2, s2, F2, P2, R2, h5, q2⟩ := h4
    exact q2 [] s2 h5 [] H' F2 R2 .refl rfl⟩
/-! .. that hand back a new object -/
@[simp] def dMethF (c : Nat) (m : Str) (n : Nat) (C : ConF) (da : VDen) (dA : ADen) : FDen := fun s P => da s fun d s1 => match d with
  | .node (.ins c' ns) ds => c' = c ∧ look ns ds m = none ∧ dA s1 fun as s2 => as.length + 1 = n ∧ C (.val d :: as) fun t es => P t es s2
  | _ => False
theorem noOwned_fresh {β : Beta} {s : Env} {σ : L2.St} {H F H' F' : Hp} (R : Rel CA β s σ H F) {a : Addr} (h : H a = none) : ¬ Owned β s σ a := R.noown h
theorem tMethF_w {C : ConF} {E : XK} {c : Nat} {m : Str} {σ : L2.St} {H : Hp} {Q : VK} (h : liftF CA (dMethF c m n C da dA) σ H Q) : tMeth (CA c) m (spF CA n C) [] E (liftV CA da) (liftA CA dA) σ H Q := by
  obtain ⟨β, s, F, P, R, h, q⟩ := h
  refine ⟨β, s, F, _, R, h, fun d s1 h1 x H1 F1 R1 E1 r1 => ?_⟩
  cases d with
  | node t ds => cases t with
    | ins c' ns =>
      obtain ⟨rfl, h2, h3⟩ := h1
      obtain ⟨ad, vs, rfl, ⟨ob, e1, dx, fs, rfl, rfl, rfl⟩, e3⟩ := (id r1).node_eq
      refine ⟨ad, dx, fs, rfl, R1.sub.nd e1 (fun z => z), (lookup_ok m e3).2 h2, β, s1, F1, _, R1, h3, fun as s2 h4 ws H2 F2 R2 E2 r2 => ?_⟩
      dsimp only
      rw [List.append_nil]
      exact ⟨β, F2, .val _ :: as, _, R2.sub, R2.bok, ⟨_, ws, rfl, Rep.mono E2.fz r1, r2⟩, h4.1, h4.2, fun t es hd a ys H3 F3 x sub bok z1 z2 z3 z4 z5 => q t es s2 hd a ys H3 F3 (called R2 x sub bok).1 ((E1.trans E2).trans (called R2 x sub bok).2) z1 z2 z3 ((E1.trans E2).dm z5) (R2.noown z5) z4⟩
    | _ => exact h1.elim
  | _ => exact h1.elim
theorem df_meth (c : Nat) {m : Str} {C : ConF} {pl : Sem Bool} (G : Met X.prog X.w X.K X.mg X.base (CA c) m k n (spF CA n C)) (hc : Cls X.K (CA c)) (hr : Room k X.A) (ho : DV CA X o da) (ha : DA CA X (e :: es) dA)
    (hst : starEach (e :: es) X.env = (false, eval e X.env) :: starEach es X.env := by rfl) (hpl : (backTo pos (starEach es X.env)).any (·.1) = false := by rfl)
    (ht : eval (.Call (.Attribute o m apos) (e :: es) [] pos) X.env = (do
      let ov ← eval o X.env
      standAt apos.atName
      let (f, first) ← holding [ov] (getMethod ov m pl)
      callWith pos f first (backTo pos (starEach (e :: es) X.env)) (backToKw pos (keywordEach [] X.env))) := by rfl) :
    DF CA X (.Call (.Attribute o m apos) (e :: es) [] pos) (dMethF c m n C da dA) := by
  obtain ⟨f, fd, ps, F, hm, hb, hl⟩ := G.ex
  exact ⟨pe_w (pe_meth ho.pe hc hm F hr hb .nil pass0 ha.pa hst hpl ht) fun _ _ _ h => tMethF_w h⟩
/-! ### new instances -/
@[simp] def dMake (c n : Nat) (C : ConI) (dA : ADen) : VDen := fun s P => dA s fun as s1 => as.length + 1 = n ∧ C as fun ns ds => P (.node (.ins c ns) ds) s1
/-- behind __init__ -/
theorem made {β : Beta} {s : Env} {σ : L2.St} {H F : Hp} {c : Nat} {C : ConI} {as : List Arg} {vs : List V} {P : D → Env → Prop} {x dx : Addr} {Q : V → Hp → Prop} (R : Rel CA β s σ H F) (r : RepAs CA β F as vs) (hl : as.length + 1 = n) (hC : C as fun ns ds => P (.node (.ins c ns) ds) s)
    (hx : H x = none) (hdx : H dx = none) (ne : dx ≠ x) (q : ∀ d, P d s → ∀ v H' F', Rel CA β s σ H' F' → Ext β s σ H F s σ H' F' → Rep CA F' d v → Q v H') (E : XK) :
    spI CA c n C (.ref x :: vs) (upd (upd H dx (.own x)) x (.ins (CA c) dx [])) (fun v H2 => v = .non ∧ Q (.ref x) H2) E := by
  have hx2 : upd H dx (.own x) x = none := by rw [upd_ne (Ne.symm ne)]; exact hx
  have R1 := R.new (o := .own x) hdx
  have R2 := R1.new (o := .ins (CA c) dx []) hx2
  have x0 : XT (ofBag β) H F (upd (upd H dx (.own x)) x (.ins (CA c) dx [])) F := (XT.new hdx).trans (XT.new (M := ofBag β) hx2) fun _ z => .inl z
  have nb : ¬ isB β x := fun z => (R.bok x z).1.in_ hx
  refine ⟨β, F, as, _, x, dx, vs, rfl, upd_same, R.sub.free hx, nb, R2.sub, R2.bok, r, hl, hC, fun ns ds hp ws H3 F3 xt sub bok hat hr hf => ⟨rfl, ?_⟩⟩
  obtain ⟨o, e1, e2⟩ := hat
  have x1 : XT (ofBag β) H F H3 F3 := by
    refine ⟨xt.fz, fun b u z => ?_, fun b u z nz => ?_, fun b z => x0.dm b (xt.dm b z)⟩
    · rcases xt.nw b u z with y | y | y | y
      · exact .inl y
      · exact .inr (.inl (x0.dm b y))
      · exact .inr (.inr (.inl y))
      · rcases y with y | y
        · exact .inr (.inr (.inr y))
        · exact .inr (.inl (by rw [y]; exact hx))
    · refine xt.kp b u (x0.kp b u z nz) fun y => ?_
      rcases y with y | y
      · exact nz y
      · rw [y, hx] at z
        cases z
  obtain ⟨R3, E3⟩ := called R x1 sub bok
  have n3 : ¬ Owned β s σ x := R.noown hx
  refine q _ hp (.ref x) H3 (upd F3 x o) (R3.freeze e1 hf n3) ⟨⟨fun b u z => same_updF hf b u (E3.xt.fz b u z), fun b u z => ?_, E3.xt.kp, E3.xt.dm⟩, E3.ow⟩ (rep_node ⟨o, upd_same, e2⟩ (hr.mono (same_updF hf)))
  by_cases y : b = x
  · exact .inr (.inl (by rw [y]; exact hx))
  · rw [upd_ne y] at z
    exact E3.xt.nw b u z
structure Mak (P : Program) (w : World) (K : PySem.W.Frag) (mg : Str → Option Value) (base : Heap) (CA : Nat → Addr) (x : Str) (c k n : Nat) (C : ConI) : Prop where
  ex : ∃ (f : Addr) (fd : FuncData) (ps : List Str), FnOk P w K mg base CX0 k f fd ps (spI CA c n C) ∧ Mk K (CA c) f ∧ mg x = some (.ref (CA c)) ∧ Binds K fd ps [] ∧ ps.length = n
theorem dv_make (c : Nat) {x : Str} {C : ConI} (G : Mak X.prog X.w X.K X.mg X.base CA x c k n C) (hr : Room (k + 1) X.A) (ha : DA CA X (e :: es) dA) (hg : Gl X x := by rfl)
    (hdb : (x == ("__debug__" : Str)) = false := by decide) (he : starEach (e :: es) X.env = (false, eval e X.env) :: starEach es X.env := by rfl) (hpl : (backTo pos (starEach es X.env)).any (·.1) = false := by rfl) :
    DV CA X (.Call (.Name x p) (e :: es) [] pos) (dMake c n C dA) := by
  obtain ⟨f, fd, ps, F, M, hm, hb, hl⟩ := G.ex
  refine ⟨pe_w (pe_make M F hr hg hm hb .nil pass0 ha.pa hdb he hpl) fun σ H Q ⟨β, s, F, P, R, h, q⟩ => ⟨β, s, F, _, R, h, fun as s1 h1 vs H1 F1 R1 E1 r1 x dx hx hdx ne => ?_⟩⟩
  rw [List.append_nil]
  exact made R1 r1 h1.1 h1.2 hx hdx ne (fun d hd v H2 F2 R2 E2 rv => q d s1 hd v H2 F2 R2 (E1.trans E2) rv) E0
/-- C(a, b = e): one keyword -/
structure MakK (P : Program) (w : World) (K : PySem.W.Frag) (mg : Str → Option Value) (base : Heap) (CA : Nat → Addr) (x : Str) (c k n m : Nat) (ks : List Str) (C : ConI) : Prop where
  ex : ∃ (f : Addr) (fd : FuncData) (ps : List Str) (g : List Value → List Value → List Value), FnOk P w K mg base CX0 k f fd ps (spI CA c n C) ∧ Mk K (CA c) f ∧ mg x = some (.ref (CA c)) ∧ KBn K fd ps (m + 1) ks g (fun vs zs => vs ++ zs) ∧ ps.length = n
structure DK (CA : Nat → Addr) (X : Cx) (kws : List Keyword) (den : ADen) : Prop where
  pk : PK X kws (liftA CA den)
theorem pk_w {kws : List Keyword} {t t' : TA} (h : PK X kws t) (w : ∀ σ H Q, t' σ H Q → t σ H Q) : PK X kws t' := ⟨fun pos pins s σ H Q I q => h.run pos pins s σ H Q I (w σ H Q q)⟩
theorem dk_nil : DK CA X [] dNil := ⟨pk_w pk_nil fun σ H Q ⟨β, s, F, P, R, h, q⟩ => q [] s h [] H F R .refl rfl⟩
theorem dk_cons {nm : Option Str} {kpos : Pos} {kws : List Keyword} (ha : DV CA X e da) (hr : DK CA X kws dA) : DK CA X (⟨nm, e, kpos⟩ :: kws) (dCons da dA) :=
  ⟨pk_w (pk_cons ha.pe hr.pk) fun σ H Q ⟨β, s, F, P, R, h, q⟩ => ⟨β, s, F, _, R, h, fun d s1 h1 x H1 F1 R1 E1 r1 => ⟨β, s1, F1, _, R1, h1, fun ds s2 h2 xs H2 F2 R2 E2 r2 =>
    q _ s2 h2 _ H2 F2 R2 (E1.trans E2) ⟨x, xs, rfl, Rep.mono E2.fz r1, r2⟩⟩⟩⟩
theorem RepAs.append {β : Beta} {F : Hp} : ∀ {as bs : List Arg} {vs ws : List V}, RepAs CA β F as vs → RepAs CA β F bs ws → RepAs CA β F (as ++ bs) (vs ++ ws)
  | [], _, _, _, h, k => by cases (show _ = [] from h); exact k
  | _ :: _, _, _, _, ⟨v, r, e1, e2, e3⟩, k => by
    subst e1
    exact ⟨v, _, rfl, e2, RepAs.append e3 k⟩
@[simp] def dMakeK (c n m l : Nat) (C : ConI) (dA dB : ADen) : VDen := fun s P => dA s fun as s1 => dB s1 fun bs s2 => as.length = m ∧ bs.length = l ∧ (as ++ bs).length + 1 = n ∧ C (as ++ bs) fun ns ds => P (.node (.ins c ns) ds) s2
theorem dv_makeK (c : Nat) {x : Str} {m : Nat} {ks : List Str} {C : ConI} {kws : List Keyword} {dB : ADen} (G : MakK X.prog X.w X.K X.mg X.base CA x c k n m ks C) (hr : Room (k + 1) X.A) (ha : DA CA X (e :: es) dA) (hkw : DK CA X kws dB) (hg : Gl X x := by rfl)
    (hall : (backToKw pos (keywordEach kws X.env)).all (·.1.isSome) = true := by rfl) (hks : (backToKw pos (keywordEach kws X.env)).filterMap (·.1) = ks := by rfl) (hdb : (x == ("__debug__" : Str)) = false := by decide)
    (he : starEach (e :: es) X.env = (false, eval e X.env) :: starEach es X.env := by rfl) (hpl : ((backTo pos (starEach (e :: es) X.env)).any (·.1) || (backToKw pos (keywordEach kws X.env)).any (·.1.isNone)) = false := by rfl) :
    DV CA X (.Call (.Name x p) (e :: es) kws pos) (dMakeK c n m ks.length C dA dB) := by
  obtain ⟨f, fd, ps, g, F, M, hm, hb, hl⟩ := G.ex
  refine ⟨pe_w (pe_makeK M F hr hg hm hb pass0 ha.pa hkw.pk hall hks hdb he hpl) fun σ H Q ⟨β, s, F, P, R, h, q⟩ => ⟨β, s, F, _, R, h, fun as s1 h1 vs H1 F1 R1 E1 r1 => ⟨β, s1, F1, _, R1, h1, fun bs s2 h2 zs H2 F2 R2 E2 r2 => ?_⟩⟩⟩
  obtain ⟨l1, l2, l3, hC⟩ := h2
  refine ⟨by rw [← r1.length, l1], by rw [← r2.length, l2], fun x dx hx hdx ne => ?_⟩
  exact made R2 ((r1.mono E2.fz).append r2) l3 hC hx hdx ne (fun d hd v H3 F3 R3 E3 rv => q d s2 hd v H3 F3 R3 ((E1.trans E2).trans E3) rv) E0
end
end Dl
end

section
set_option Elab.async false
set_option linter.all false
set_option maxRecDepth 100000
set_option maxHeartbeats 4000000
/-! The data layer, part 6: statements; a def's body. -/
namespace Dl
open PySem PySem.Spec PyProof.Rows L2

section
variable {CA : Nat → Addr} {X : Cx} {a b c e o : Expr} {es : List Expr} {st : Stmt} {sts rest : List Stmt} {pos p apos : Pos} {da db dc : VDen} {dA : ADen} {ta tb : TDen} {dF : FDen} {dS dT : SDen} {dG : GDen} {n k i : Nat}
@[simp] def dNext : SDen := fun s E => E.nx s
@[simp] def dSeq (dS dT : SDen) : SDen := fun s E => dS s { E with nx := fun s1 => dT s1 E }
theorem dss_nil : DSs CA X [] dNext := ⟨pss_w pss_nil fun D σ H ⟨β, s, F, E, R, h, q⟩ => q.nx s h σ H F R .refl⟩
theorem dss_cons (h1 : DS CA X st dS) (h2 : DSs CA X rest dT) : DSs CA X (st :: rest) (dSeq dS dT) := ⟨pss_w (pss_cons h1.ps h2.ps) fun D σ H ⟨β, s, F, E, R, h, q⟩ =>
  ⟨β, s, F, _, R, h, ⟨fun s' h' σ' H' F' R' E' => ⟨β, s', F', E, R', h', q.shift E'⟩, q.rt, q.rf, q.bk, q.ct⟩⟩⟩
theorem dss_one (h1 : DS CA X st dS) : DSs CA X [st] dS := ⟨pss_one h1.ps⟩
theorem ds_pass : DS CA X (.Pass pos) dNext := ⟨ps_w ps_pass fun D σ H ⟨β, s, F, E, R, h, q⟩ => q.nx s h σ H F R .refl⟩
@[simp] def dBreak : SDen := fun s E => E.bk s
@[simp] def dCont : SDen := fun s E => E.ct s
theorem ds_break : DS CA X (.Break pos) dBreak := ⟨ps_w ps_break fun D σ H ⟨β, s, F, E, R, h, q⟩ => q.bk s h σ H F R .refl⟩
theorem ds_continue : DS CA X (.Continue pos) dCont := ⟨ps_w ps_continue fun D σ H ⟨β, s, F, E, R, h, q⟩ => q.ct s h σ H F R .refl⟩
@[simp] def dNever : SDen := fun _ _ => False
theorem ds_never : DS CA X st dNever := ⟨ps_w ps_never fun D σ H ⟨β, s, F, E, R, h, q⟩ => h⟩
theorem dss_never : DSs CA X sts dNever := ⟨pss_w pss_never fun D σ H ⟨β, s, F, E, R, h, q⟩ => h⟩
@[simp] def dDrop (da : VDen) : SDen := fun s E => da s fun _ s1 => E.nx s1
theorem ds_expr (ha : DV CA X e da) (hs : swapsWith e none pos.line X.env = pure false := by rfl) : DS CA X (.Expr e pos) (dDrop da) := ⟨ps_w (ps_expr ha.pe hs) fun D σ H ⟨β, s, F, E, R, h, q⟩ =>
  ⟨β, s, F, _, R, h, fun d s1 h1 v H1 F1 R1 E1 r1 => q.nx s1 h1 σ H1 F1 R1 E1⟩⟩
/-! ### returns -/
theorem bagOf {β : Beta} {s : Env} {σ : L2.St} {H F : Hp} (R : Rel CA β s σ H F) : BOk β H F := R.bok
@[simp] def dRet (da : VDen) : SDen := fun s E => da s fun d _ => E.rt d
theorem ds_ret (ha : DV CA X e da) : DS CA X (.Return (some e) pos) (dRet da) := ⟨ps_w (ps_ret ha.pe) fun D σ H ⟨β, s, F, E, R, h, q⟩ =>
  ⟨β, s, F, _, R, h, fun d s1 h1 v H1 F1 R1 E1 r1 => q.rt d h1 v H1 F1 E1.xt R1.sub R1.bok r1⟩⟩
theorem ds_retN : DS CA X (.Return none pos) (fun s E => E.rt .non) := ⟨ps_w ps_retN fun D σ H ⟨β, s, F, E, R, h, q⟩ => q.rt .non h .non H F XT.refl R.sub R.bok rep_non⟩
/-- a slot's own object, frozen, handed back -/
@[simp] def dRetO (i : Nat) : SDen := fun s E => match s[i]? with
  | some (some (.own t ds)) => E.rt (.node t ds)
  | _ => False
theorem ds_retO (ha : PE X e (tVar i)) : DS CA X (.Return (some e) pos) (dRetO i) := ⟨ps_w (ps_ret ha) fun D σ H ⟨β, s, F, E, R, h, q⟩ => by
  unfold dRetO at h
  split at h
  · next t ds e0 =>
    obtain ⟨F', a, e1, R', E', r', _⟩ := R.frz e0
    exact ⟨.ref a, e1, q.rt _ h _ H F' E'.xt R'.sub R'.bok r'⟩
  · exact h.elim⟩
/-- .. as it is -/
@[simp] def dRetF (i : Nat) : SDen := fun s E => match s[i]? with
  | some (some (.own t ds)) => t.mutable ∧ E.rf t ds
  | _ => False
theorem ds_retF (ha : PE X e (tVar i)) : DS CA X (.Return (some e) pos) (dRetF i) := ⟨ps_w (ps_ret ha) fun D σ H ⟨β, s, F, E, R, h, q⟩ => by
  unfold dRetF at h
  split at h
  · next t ds e0 =>
    obtain ⟨a, vs, e1, e2, e3, e4, e5, e6⟩ := R.own i t ds e0
    exact ⟨.ref a, e1, q.rf t ds h.2 a vs H F XT.refl R.sub R.bok e2 e3 e4 h.1 e5 (.inr (R.at_ne e0 e1))⟩
  · exact h.elim⟩
/-! ### assignments -/
@[simp] def dSet (i : Nat) (da : VDen) : SDen := fun s E => da s fun d s1 => E.nx (s1.set i (some (.val d)))
theorem ds_set {x : Str} {pos' : Pos} (hN : X.N.Nodup) (ha : DV CA X e da) (hi : X.N[i]? = some x := by rfl) (hx : Loc X.env.scope x := by first | exact .inl rfl | exact .inr rfl) (hs : swapsWith e (some (.Name x pos')) pos.line X.env = pure false := by rfl) (hf : X.fn x = true ∨ X.env.scope.names.lookup x = some .local := by first | exact .inl rfl | exact .inr rfl) :
    DS CA X (.Assign [.Name x pos'] e pos) (dSet i da) := ⟨ps_w (ps_set hN hi hx ha.pe hs hf) fun D σ H ⟨β, s, F, E, R, h, q⟩ =>
  ⟨β, s, F, _, R, h, fun d s1 h1 v H1 F1 R1 E1 r1 => q.nx _ h1 _ H1 F1 (R1.setV i r1) (E1.trans (.setV R1.len))⟩⟩
@[simp] def dSetO (i : Nat) (dF : FDen) : SDen := fun s E => dF s fun t ds s1 => E.nx (s1.set i (some (.own t ds)))
theorem Ext.setO {β : Beta} {s s1 : Env} {σ : L2.St} {H F H1 F1 : Hp} {a : Addr} {t : Tag} {ds : List D} (E1 : Ext β s σ H F s1 σ H1 F1) (l : σ.length = s1.length) (h : H a = none) : Ext β s σ H F (s1.set i (some (.own t ds))) (σ.set i (some (.ref a))) H1 F1 where
  xt := E1.xt
  ow := fun b z => by
    rcases Owned.setO l z with y | y
    · exact E1.ow b y
    · rw [y]; exact .inr h
theorem ds_setO {x : Str} {pos' : Pos} (hN : X.N.Nodup) (ha : DF CA X e dF) (hi : X.N[i]? = some x := by rfl) (hx : Loc X.env.scope x := by first | exact .inl rfl | exact .inr rfl) (hs : swapsWith e (some (.Name x pos')) pos.line X.env = pure false := by rfl) (hf : X.fn x = true ∨ X.env.scope.names.lookup x = some .local := by first | exact .inl rfl | exact .inr rfl) :
    DS CA X (.Assign [.Name x pos'] e pos) (dSetO i dF) := ⟨ps_w (ps_set hN hi hx ha.pe hs hf) fun D σ H ⟨β, s, F, E, R, h, q⟩ =>
  ⟨β, s, F, _, R, h, fun t ds s1 h1 a vs H1 F1 R1 E1 z1 z2 z3 z4 z5 z6 => q.nx _ h1 _ H1 F1 (R1.setO i z1 z2 z3 z5 z6) (E1.setO R1.len z4)⟩⟩
@[simp] def dgName (i : Nat) : GDen := fun d s P => P (s.set i (some (.val d)))
theorem dg_name {x : Str} (hN : X.N.Nodup) (hi : X.N[i]? = some x := by rfl) (hx : Loc X.env.scope x := by first | exact .inl rfl | exact .inr rfl) (hf : X.fn x = true ∨ X.env.scope.names.lookup x = some .local := by first | exact .inl rfl | exact .inr rfl) : DG CA X (.Name x pos) [i] (dgName i) :=
  ⟨pg_w (pg_name hN hi hx hf) fun v σ H Q ⟨β, s, F, d, P, R, r, h, q⟩ => q _ h _ H F (R.setV i r) (.setV R.len) .set⟩
abbrev GsDen := List D → Env → (Env → Prop) → Prop
def liftGs (CA : Nat → Addr) (ws : List Nat) (den : GsDen) : TGs := fun vs σ H Q => ∃ β s F ds P, Rel CA β s σ H F ∧ Reps CA F ds vs ∧ den ds s P ∧
  ∀ s', P s' → ∀ σ' H' F', Rel CA β s' σ' H' F' → Ext β s σ H F s' σ' H' F' → Off ws σ σ' → Q σ' H'
structure DGs (CA : Nat → Addr) (X : Cx) (es : List Expr) (ws : List Nat) (den : GsDen) : Prop where
  pgs : PGs X es (liftGs CA ws den)
theorem pgs_w {t t' : TGs} (h : PGs X es t) (w : ∀ vs σ H Q, t' vs σ H Q → t vs σ H Q) : PGs X es t' := ⟨fun pins s σ H v u Q I r q => h.run pins s σ H v u Q I r (w v σ H Q q)⟩
@[simp] def dgNil : GsDen := fun ds s P => ds = [] ∧ P s
@[simp] def dgCons (dG : GDen) (dR : GsDen) : GsDen := fun ds s P => match ds with
  | d :: r => dG d s fun s1 => dR r s1 P
  | _ => False
theorem dgs_nil : DGs CA X [] [] dgNil := ⟨pgs_w pgs_nil fun vs σ H Q ⟨β, s, F, ds, P, R, r, h, q⟩ => by
  obtain ⟨rfl, h⟩ := h
  unfold Reps at r
  exact ⟨r, q s h σ H F R .refl .refl⟩⟩
theorem dgs_cons {ws us : List Nat} {dR : GsDen} (h1 : DG CA X e ws dG) (h2 : DGs CA X es us dR) (hs : (assignEach (e :: es) X.env).map (·.2) = assign e X.env :: (assignEach es X.env).map (·.2) := by rfl) : DGs CA X (e :: es) (ws ++ us) (dgCons dG dR) := ⟨pgs_w (pgs_cons h1.pg h2.pgs hs) fun vs σ H Q ⟨β, s, F, ds, P, R, r, h, q⟩ => by
  cases ds with
  | nil => exact h.elim
  | cons d ds =>
    unfold Reps at r
    obtain ⟨v, w, e1, r1, r2⟩ := r
    exact ⟨v, w, e1, β, s, F, d, _, R, r1, h, fun s1 h1 σ1 H1 F1 R1 E1 o1 => ⟨β, s1, F1, ds, P, R1, r2.mono E1.fz, h1, fun s2 h2 σ2 H2 F2 R2 E2 o2 => q s2 h2 σ2 H2 F2 R2 (E1.trans E2) (o1.trans o2)⟩⟩⟩
@[simp] def dgTup (n : Nat) (dR : GsDen) : GDen := fun d s P => match d with
  | .node .tup ds => ds.length = n ∧ dR ds s P
  | _ => False
theorem dg_tup {k : Nat} {ws : List Nat} {dR : GsDen} (hc : X.calm = true) (h : DGs CA X es ws dR) (hn : (assignEach es X.env).length = n := by rfl) (hst : (assignEach es X.env).findIdx? (·.1) = none := by rfl) : DG CA X (.Tuple es k pos) ws (dgTup n dR) :=
  ⟨pg_w (pg_tup hc h.pgs hn hst) fun v σ H Q ⟨β, s, F, d, P, R, r, h, q⟩ => by
    cases d with
    | node t ds => cases t with
      | tup =>
        obtain ⟨a, vs, rfl, ⟨o, e1, e2⟩, e3⟩ := r.node_eq
        cases (show o = .tup vs from e2)
        exact ⟨a, vs, rfl, .inl (R.sub.rd e1), by rw [← e3.length]; exact h.1, β, s, F, ds, P, R, e3, h.2, q⟩
      | _ => exact h.elim
    | _ => exact h.elim⟩
@[simp] def dAsg (da : VDen) (dG : GDen) : SDen := fun s E => da s fun d s1 => dG d s1 E.nx
theorem ds_asg {tg : Expr} {ws : List Nat} (ha : DV CA X e da) (hg : DG CA X tg ws dG) (hs : swapsWithSole [tg] e pos.line X.env = pure false := by rfl) (hw : swappedStores [tg] e X.env = pure none := by rfl) (h1 : (assignEach [tg] X.env).map (·.2) = [assign tg X.env] := by rfl) :
    DS CA X (.Assign [tg] e pos) (dAsg da dG) := ⟨ps_w (ps_asg ha.pe hg.pg hs hw h1) fun D σ H ⟨β, s, F, E, R, h, q⟩ =>
  ⟨β, s, F, _, R, h, fun d s1 h1 v H1 F1 R1 E1 r1 => ⟨β, s1, F1, d, _, R1, r1, h1, fun s2 h2 σ2 H2 F2 R2 E2 _ => q.nx s2 h2 σ2 H2 F2 R2 (E1.trans E2)⟩⟩⟩
/-! ### if, while, for -/
@[simp] def dIfS (ta : TDen) (dS dT : SDen) : SDen := fun s E => ta s fun c s1 => if c = true then dS s1 E else dT s1 E
theorem ds_if {bs cs : List Stmt} (hc : DT CA X c ta) (ha : DSs CA X bs dS) (hb : DSs CA X cs dT) : DS CA X (.If c bs cs pos) (dIfS ta dS dT) := ⟨ps_w (ps_if hc.pt ha.ps hb.ps) fun D σ H ⟨β, s, F, E, R, h, q⟩ =>
  ⟨β, s, F, _, R, h, fun c s1 h1 H1 F1 R1 E1 => by
    cases c with
    | true => exact ⟨β, s1, F1, E, R1, h1, q.shift E1⟩
    | false => exact ⟨β, s1, F1, E, R1, h1, q.shift E1⟩⟩⟩
def whileD (ta : TDen) (dS : SDen) : Nat → Env → DEnds → Prop
  | 0, _, _ => False
  | n + 1, s, E => ta s fun c s1 => if c = true then dS s1 { E with nx := fun s2 => whileD ta dS n s2 E, ct := fun s2 => whileD ta dS n s2 E, bk := E.nx } else E.nx s1
def dWhile (ta : TDen) (dS : SDen) : SDen := fun s E => ∃ n, whileD ta dS n s E
theorem ds_while {bs : List Stmt} (hp : PassesOwn (model X.prog X.w) X.A X.env X.xe) (hc : DT CA X c ta) (hb : DSs CA X bs dS) : DS CA X (.While c bs [] pos) (dWhile ta dS) := ⟨ps_w (ps_while hp hc.pt hb.ps) fun D σ H ⟨β, s, F, E, R, ⟨m0, h⟩, q⟩ => by
  refine ⟨fun m σ1 H1 => ∃ s1 F1, Rel CA β s1 σ1 H1 F1 ∧ Ext β s σ H F s1 σ1 H1 F1 ∧ whileD ta dS m s1 E, ⟨m0, s, F, R, .refl, h⟩, fun m σ1 H1 ⟨s1, F1, R1, E1, h1⟩ => ?_⟩
  cases m with
  | zero => exact h1.elim
  | succ m =>
    refine ⟨β, s1, F1, _, R1, h1, fun c s2 h2 H2 F2 R2 E2 => ?_⟩
    cases c with
    | false => exact q.nx s2 h2 σ1 H2 F2 R2 (E1.trans E2)
    | true =>
      rw [if_pos rfl] at h2 ⊢
      refine ⟨fun σ3 H3 => ∃ s3 F3, Rel CA β s3 σ3 H3 F3 ∧ Ext β s σ H F s3 σ3 H3 F3 ∧ whileD ta dS m s3 E, fun σ' H' z => ⟨m, Nat.lt_succ_self m, z⟩, β, s2, F2, _, R2, h2, ?_⟩
      have qq := (q.shift E1).shift E2
      exact ⟨fun s' h' σ' H' F' R' E' => ⟨s', F', R', (E1.trans E2).trans E', h'⟩, qq.rt, qq.rf, fun s' h' σ' H' F' R' E' => qq.nx s' h' σ' H' F' R' E', fun s' h' σ' H' F' R' E' => ⟨s', F', R', (E1.trans E2).trans E', h'⟩⟩⟩
/-- what a for walks: the data that come, in order -/
abbrev IDen := Env → (List D → Env → Prop) → Prop
/-- J yields these data while the heap grows as it may -/
def Drive (CA : Nat → Addr) (F0 H0 : Hp) (J : It) (ds : List D) : Prop := ∀ (i : Nat) (H F : Hp), Sub F H → Same F0 F → (∀ b o u, H0 b = some (.frz o u) → H b = some (.frz o u)) →
  (∀ d, ds[i]? = some d → J.go i H ∧ ∀ x H', J.yld i H x H' → ∃ F', Same F F' ∧ (∀ b o, F' b = some o → F b = some o ∨ H b = none ∨ ∃ xs, o = .tup xs) ∧ Same H H' ∧ (∀ b, H' b = none → H b = none) ∧ Sub F' H' ∧ Rep CA F' d x) ∧ (ds[i]? = none → J.stop i H)
def liftI (CA : Nat → Addr) (den : IDen) : TI := fun σ H Q => ∃ β s F P, Rel CA β s σ H F ∧ den s P ∧
  ∀ ds s', P ds s' → ∀ J H' F', Rel CA β s' σ H' F' → Ext β s σ H F s' σ H' F' → Drive CA F' H' J ds → Q J H'
structure DI (CA : Nat → Addr) (X : Cx) (tg e : Expr) (den : IDen) : Prop where
  pi : PI X tg e (liftI CA den)
theorem pi_w {tg : Expr} {t t' : TI} (h : PI X tg e t) (w : ∀ σ H Q, t' σ H Q → t σ H Q) : PI X tg e t' := ⟨fun pins s σ H Q I q => h.run pins s σ H Q I (w σ H Q q)⟩
@[simp] def forD (dG : GDen) (dS : SDen) : List D → Env → DEnds → Prop
  | [], s, E => E.nx s
  | d :: ds, s, E => dG d s fun s1 => dS s1 { E with nx := fun s2 => forD dG dS ds s2 E, ct := fun s2 => forD dG dS ds s2 E, bk := E.nx }
@[simp] def dFor (dI : IDen) (dG : GDen) (dS : SDen) : SDen := fun s E => dI s fun ds s1 => forD dG dS ds s1 E
/-- locks stay -/
theorem Ext.frzs {β : Beta} {s s1 : Env} {σ σ1 : L2.St} {H F H1 F1 : Hp} (x : Ext β s σ H F s1 σ1 H1 F1) (R : Rel CA β s σ H F) (b : Addr) (o : Obj) (u : HO) (e : H b = some (.frz o u)) : H1 b = some (.frz o u) := by
  refine x.xt.kp b _ e fun z => ?_
  rcases z with z | ⟨i, t, ds, e1, e2⟩
  · obtain ⟨⟨c, ns, i, r, sd, n, h1, _⟩, _⟩ := R.bok b z
    rw [h1] at e
    cases e
  · obtain ⟨a, vs, e3, ⟨o', e4, e5⟩, _⟩ := R.own i t ds e1
    rw [e3] at e2
    cases e2
    rw [e] at e4
    exact e5.nofrz (Option.some.inj e4).symm
/-- a step of the iterator, as an extension -/
theorem Rel.drive {β : Beta} {s : Env} {σ : L2.St} {H F H' F' : Hp} (R : Rel CA β s σ H F) (f : Same F F') (n : ∀ b o, F' b = some o → F b = some o ∨ H b = none ∨ ∃ xs, o = .tup xs) (sm : Same H H') (dm : ∀ b, H' b = none → H b = none) (sub : Sub F' H') : Rel CA β s σ H' F' ∧ Ext β s σ H F s σ H' F' := by
  have x : XT (ofBag β) H F H' F' := ⟨f, fun b o e => by
    rcases n b o e with z | z | z
    · exact .inl z
    · exact .inr (.inl z)
    · exact .inr (.inr (.inl z)), fun b o e _ => sm b o e, dm⟩
  refine called R x sub fun b e => ?_
  obtain ⟨k1, k2⟩ := R.bok b e
  obtain ⟨c, ns, i, r, sd, m, h1, h2, h3⟩ := k1
  refine ⟨⟨c, ns, i, r, sd, m, sm _ _ h1, f _ _ h2, h3⟩, ?_⟩
  cases q : F' b with
  | none => rfl
  | some o =>
    rcases n b o q with z | z | ⟨xs, z⟩
    · rw [k2] at z; cases z
    · rw [h1] at z; cases z
    · subst z
      have := sub.nd q (fun z => z)
      rw [sm _ _ h1] at this
      cases this
theorem for_w {ws : List Nat} {dI : IDen} {D : Ends} {σ : L2.St} {H : Hp} (h : liftS CA (dFor dI dG dS) D σ H) : tFor (liftI CA dI) (liftG CA ws dG) (liftS CA dS) D σ H := by
  obtain ⟨β, s, F, E, R, h, q⟩ := h
  refine ⟨β, s, F, _, R, h, fun ds s0 h0 J H0 F0 R0 E0 dr => ?_⟩
  refine ⟨fun i m σ1 H1 => m = ds.length - i ∧ i ≤ ds.length ∧ ∃ s1 F1, Rel CA β s1 σ1 H1 F1 ∧ Ext β s0 σ H0 F0 s1 σ1 H1 F1 ∧ forD dG dS (ds.drop i) s1 E, ⟨ds.length, by simp, Nat.zero_le _, s0, F0, R0, .refl, h0⟩, fun i m σ1 H1 ⟨em, hi, s1, F1, R1, E1, h1⟩ => ?_⟩
  obtain ⟨d1, d2⟩ := dr i H1 F1 R1.sub E1.fz (E1.frzs R0)
  by_cases hl : i < ds.length
  · right
    have hd : ds[i]? = some ds[i] := List.getElem?_eq_getElem hl
    obtain ⟨g1, g2⟩ := d1 _ hd
    have e0 : ds.drop i = ds[i] :: ds.drop (i + 1) := List.drop_eq_getElem_cons hl
    rw [e0] at h1
    refine ⟨g1, fun σ3 H3 => ∃ s3 F3, Rel CA β s3 σ3 H3 F3 ∧ Ext β s0 σ H0 F0 s3 σ3 H3 F3 ∧ forD dG dS (ds.drop (i + 1)) s3 E, fun σ' H' ⟨s3, F3, R3, E3, h3⟩ => ⟨ds.length - (i + 1), by omega, rfl, hl, s3, F3, R3, E3, h3⟩, fun x H2 y => ?_⟩
    obtain ⟨F2, f1, f2, f3, f4, f5, f6⟩ := g2 x H2 y
    obtain ⟨R2, E2⟩ := R1.drive f1 f2 f3 f4 f5
    refine ⟨β, s1, F2, _, _, R2, f6, h1, fun s3 h3 σ3 H3 F3 R3 E3 _ => ⟨β, s3, F3, _, R3, h3, ?_⟩⟩
    have EE := (E1.trans E2).trans E3
    have qq := (q.shift E0).shift EE
    exact ⟨fun s' h' σ' H' F' R' E' => ⟨s', F', R', EE.trans E', h'⟩, qq.rt, qq.rf, fun s' h' σ' H' F' R' E' => qq.nx s' h' σ' H' F' R' E', fun s' h' σ' H' F' R' E' => ⟨s', F', R', EE.trans E', h'⟩⟩
  · left
    have e0 : ds[i]? = none := List.getElem?_eq_none (by omega)
    have e1 : ds.drop i = [] := List.drop_eq_nil_of_le (by omega)
    rw [e1] at h1
    exact ⟨d2 e0, q.nx s1 h1 σ1 H1 F1 R1 (E0.trans E1)⟩
theorem ds_for {tg iter : Expr} {bs : List Stmt} {dI : IDen} {ws : List Nat} (hp : PassesOwn (model X.prog X.w) X.A X.env X.xe) (hc : X.calm = true) (hi : DI CA X tg iter dI) (hg : DG CA X tg ws dG) (hb : DSs CA X bs dS) (hs : ∀ x, foldedSetIterable iter X.env x = pure x := by intro _; rfl) :
    DS CA X (.For tg iter bs [] pos) (dFor dI dG dS) := ⟨ps_w (ps_for hp hc hi.pi hg.pg hb.ps hs) fun _ _ _ h => for_w h⟩
/-! ### what a for walks -/
theorem drive_list {K : PySem.W.Frag} {F H : Hp} {a : Addr} {vs : List V} {ds : List D} (e : F a = some (.lst vs)) (r : Reps CA F ds vs) : Drive CA F H (Itl K a) ds := fun i H1 F1 sub f _ => by
  have e1 : Rd H1 a (.lst vs) := sub.rd (f _ _ e)
  refine ⟨fun d hd => ?_, fun hd => ?_⟩
  · obtain ⟨v, g1, g2⟩ := r.get hd
    refine ⟨⟨vs, v, .inl e1, g1⟩, fun x H' y => ?_⟩
    obtain ⟨rfl, y⟩ := y
    have := y vs (.inl e1)
    rw [g1] at this
    cases this
    exact ⟨F1, fun _ _ z => z, fun _ _ z => .inl z, fun _ _ z => z, fun _ z => z, sub, g2.mono f⟩
  · refine ⟨vs, .inl e1, ?_⟩
    have := List.getElem?_eq_none_iff.mp hd
    rw [r.length] at this
    exact this
@[simp] def diL (da : VDen) : IDen := fun s P => da s fun d s1 => match d with
  | .node .lst ds => P ds s1
  | _ => False
theorem di_list {tg : Expr} (ha : DV CA X e da) : DI CA X tg e (diL da) := ⟨pi_w (pi_list ha.pe) fun σ H Q ⟨β, s, F, P, R, h, q⟩ => ⟨β, s, F, _, R, h, fun d s1 h1 x H1 F1 R1 E1 r1 => by
    cases d with
    | node t ds => cases t with
      | lst =>
        obtain ⟨a, vs, rfl, ⟨o, e1, e2⟩, e3⟩ := r1.node_eq
        cases (show o = .lst vs from e2)
        exact ⟨a, rfl, ⟨vs, .inl (R1.sub.rd e1)⟩, q ds s1 h1 _ H1 F1 R1 E1 (drive_list e1 e3)⟩
      | _ => exact h1.elim
    | _ => exact h1.elim⟩⟩
end
end Dl
end

section
set_option Elab.async false
set_option linter.all false
set_option maxRecDepth 100000
set_option maxHeartbeats 4000000
/-! The data layer, part 7: owned objects changed, borrowed, frozen; what a for walks; list comprehensions. -/
namespace Dl
open PySem PySem.Spec PyProof.Rows L2

section
variable {CA : Nat → Addr} {X : Cx} {a b c e o : Expr} {es : List Expr} {st : Stmt} {sts rest : List Stmt} {pos p apos : Pos} {da db dc : VDen} {dA : ADen} {ta tb : TDen} {dF : FDen} {dS dT : SDen} {dG : GDen} {n k i : Nat}
/-! ### lists of a slot's own -/
theorem own_lst {β : Beta} {s : Env} {σ : L2.St} {H F : Hp} {i : Nat} {ds : List D} (R : Rel CA β s σ H F) (e : s[i]? = some (some (.own .lst ds))) : ∃ a vs, σ[i]? = some (some (.ref a)) ∧ H a = some (.lst vs) ∧ Reps CA F ds vs := by
  obtain ⟨a, vs, e1, ⟨o, e2, e3⟩, e4, _⟩ := R.own i _ _ e
  cases (show o = .lst vs from e3)
  exact ⟨a, vs, e1, e2, e4⟩
@[simp] def dApp (i : Nat) (da : VDen) : SDen := fun s E => (∃ ds, s[i]? = some (some (.own .lst ds))) ∧ da s fun d s1 => match s1[i]? with
  | some (some (.own .lst ds)) => ds.length < 100000 ∧ E.nx (s1.set i (some (.own .lst (ds ++ [d]))))
  | _ => False
theorem line5 {n : Nat} (h : n < 100000) : n < sizeLine := Nat.lt_of_lt_of_le h (by decide)
/-- x.append(e), x the i-th slot's own list -/
theorem ds_app {x : Str} {px : Pos} (hx : PE X (.Name x px) (tVar i)) (ha : DV CA X e da) (hbase : attributeBase (.Name x px) "append" X.env (eval (.Name x px) X.env) = eval (.Name x px) X.env := by rfl)
    (hfew : ((backTo p (starEach [e] X.env)).all (fun x => !x.1) && (backToKw p (keywordEach [] X.env)).all (fun x => x.1.isSome)
      && decide (([e] : List Expr).length + ([] : List Keyword).length + (if ([] : List Keyword).isEmpty then 0 else 1) < 30)) = true := by rfl)
    (hline : (apos.endLine == p.line) = true := by rfl) (hs : starEach [e] X.env = (false, eval e X.env) :: starEach [] X.env := by rfl) (hplain : (backTo p (starEach [] X.env)).any (·.1) = false := by rfl)
    (hsw : swapsWith (.Call (.Attribute (.Name x px) "append" apos) [e] [] p) none pos.line X.env = pure false := by rfl) :
    DS CA X (.Expr (.Call (.Attribute (.Name x px) "append" apos) [e] [] p) pos) (dApp i da) :=
  ⟨ps_w (ps_expr (pe_bm PySem.F.plainAttrs_list PySem.F.slot_list_append PySem.F.type_list_append mt_append hx (pa_cons ha.pe pa_nil hs) hbase hfew hline hs hplain) hsw) fun D σ H ⟨β, s, F, E, R, ⟨⟨ds0, h0⟩, h⟩, q⟩ => by
    obtain ⟨a, vs, e1, e2, e3⟩ := own_lst R h0
    refine ⟨.ref a, e1, .inl ⟨rfl, _, .inl (.inl e2)⟩, β, s, F, _, R, h, fun d s1 h1 v H1 F1 R1 E1 r1 => ?_⟩
    have h2 : (match s1[i]? with
      | some (some (.own .lst ds)) => ds.length < 100000 ∧ E.nx (s1.set i (some (.own .lst (ds ++ [d]))))
      | _ => False) := h1
    split at h2
    · next ds e4 =>
      obtain ⟨b, ws, f1, f2, f3⟩ := own_lst R1 e4
      rw [e1] at f1
      cases f1
      refine ⟨a, ws, v, rfl, rfl, f2, by rw [← f3.length]; exact line5 h2.1, ?_⟩
      exact q.nx _ h2.2 σ _ F1 (R1.mut e4 e1 (t' := .lst) rfl (f3.append (reps_one r1)) True.intro) (E1.trans (.mut e4 e1))
    · exact h2.elim⟩
@[simp] def dPop (i : Nat) : VDen := fun s P => match s[i]? with
  | some (some (.own .lst ds)) => match ds[ds.length - 1]? with
    | some d => P d (s.set i (some (.own .lst ds.dropLast)))
    | none => False
  | _ => False
theorem Reps.dropLast {F : Hp} {ds : List D} {vs : List V} (r : Reps CA F ds vs) : Reps CA F ds.dropLast vs.dropLast := by
  rw [List.dropLast_eq_take, List.dropLast_eq_take, r.length]
  exact r.take _
theorem dv_pop {x : Str} {px : Pos} (hx : PE X (.Name x px) (tVar i)) (hbase : attributeBase (.Name x px) "pop" X.env (eval (.Name x px) X.env) = eval (.Name x px) X.env := by rfl) (hline : (apos.endLine == p.line) = true := by rfl) :
    DV CA X (.Call (.Attribute (.Name x px) "pop" apos) [] [] p) (dPop i) :=
  ⟨pe_w (pe_bm0 PySem.F.plainAttrs_list PySem.F.slot_list_pop PySem.F.type_list_pop mt_pop hx hbase hline) fun σ H Q ⟨β, s, F, P, R, h, q⟩ => by
    unfold dPop at h
    split at h
    · next ds e4 =>
      obtain ⟨a, vs, e1, e2, e3⟩ := own_lst R e4
      split at h
      · next d ed =>
        obtain ⟨v, g1, g2⟩ := e3.get ed
        rw [e3.length] at g1
        exact ⟨.ref a, e1, .inl ⟨rfl, _, .inl (.inl e2)⟩, a, vs, v, rfl, rfl, e2, g1, q d _ h v _ F (R.mut e4 e1 (t' := .lst) rfl e3.dropLast True.intro) (.mut e4 e1) g2⟩
      · exact h.elim
    · exact h.elim⟩
theorem Reps.eraseIdx {F : Hp} : ∀ {ds : List D} {vs : List V} (k : Nat), Reps CA F ds vs → Reps CA F (ds.eraseIdx k) (vs.eraseIdx k)
  | [], vs, k, h => by
    unfold Reps at h
    subst h
    exact reps_nil
  | d :: ds, vs, 0, h => by
    unfold Reps at h
    obtain ⟨v, r, rfl, h1, h2⟩ := h
    exact h2
  | d :: ds, vs, k + 1, h => by
    unfold Reps at h
    obtain ⟨v, r, rfl, h1, h2⟩ := h
    exact reps_cons h1 (Reps.eraseIdx k h2)
/-- x.pop(j), 0 ≤ j < len -/
@[simp] def popEnd (i : Nat) (j : Int) (s1 : Env) (P : D → Env → Prop) : Prop := match s1[i]? with
  | some (some (.own .lst ds)) => 0 ≤ j ∧ ds.length < 100000 ∧ match ds[j.toNat]? with
    | some d => P d (s1.set i (some (.own .lst (ds.eraseIdx j.toNat))))
    | none => False
  | _ => False
@[simp] def dPopAt (i : Nat) (da : VDen) : VDen := fun s P => (∃ ds, s[i]? = some (some (.own .lst ds))) ∧ da s fun d s1 => match d with
  | .int j => popEnd i j s1 P
  | _ => False
theorem seqIx {n : Nat} {j : Int} (h0 : 0 ≤ j) (h : j.toNat < n) : seqIndex? j n = some j.toNat := by
  have e : ixN n j = some j.toNat := by
    unfold ixN
    rw [if_pos h0, if_pos (by omega)]
  exact (ixN_seq e).1
theorem dv_popAt {x : Str} {px : Pos} (hx : PE X (.Name x px) (tVar i)) (ha : DV CA X e da) (hbase : attributeBase (.Name x px) "pop" X.env (eval (.Name x px) X.env) = eval (.Name x px) X.env := by rfl)
    (hfew : ((backTo p (starEach [e] X.env)).all (fun x => !x.1) && (backToKw p (keywordEach [] X.env)).all (fun x => x.1.isSome)
      && decide (([e] : List Expr).length + ([] : List Keyword).length + (if ([] : List Keyword).isEmpty then 0 else 1) < 30)) = true := by rfl)
    (hline : (apos.endLine == p.line) = true := by rfl) (hs : starEach [e] X.env = (false, eval e X.env) :: starEach [] X.env := by rfl) (hplain : (backTo p (starEach [] X.env)).any (·.1) = false := by rfl) :
    DV CA X (.Call (.Attribute (.Name x px) "pop" apos) [e] [] p) (dPopAt i da) :=
  ⟨pe_w (pe_bm PySem.F.plainAttrs_list PySem.F.slot_list_pop PySem.F.type_list_pop mt_popAt hx (pa_cons ha.pe pa_nil hs) hbase hfew hline hs hplain) fun σ H Q ⟨β, s, F, P, R, ⟨⟨ds0, h0⟩, h⟩, q⟩ => by
    obtain ⟨a, vs, e1, e2, e3⟩ := own_lst R h0
    refine ⟨.ref a, e1, .inl ⟨rfl, _, .inl (.inl e2)⟩, β, s, F, _, R, h, fun d s1 h1 v H1 F1 R1 E1 r1 => ?_⟩
    cases d with
    | int j =>
      have h2 : popEnd i j s1 P := h1
      unfold popEnd at h2
      split at h2
      · next ds e4 =>
        obtain ⟨h3, h4, h5⟩ := h2
        obtain ⟨b, ws, f1, f2, f3⟩ := own_lst R1 e4
        rw [e1] at f1
        cases f1
        cases ed : ds[j.toNat]? with
        | none => rw [ed] at h5; exact h5.elim
        | some d =>
          rw [ed] at h5
          obtain ⟨u, g1, g2⟩ := f3.get ed
          have hlt : j.toNat < ws.length := (List.getElem?_eq_some_iff.mp g1).1
          have hl2 : ws.length < 100000 := by rw [← f3.length]; exact h4
          exact ⟨a, ws, j, j.toNat, u, rfl, by rw [r1.int_eq], f2, by omega, by omega, seqIx h3 hlt, g1, q d _ h5 u _ F1 (R1.mut e4 e1 (t' := .lst) rfl (f3.eraseIdx _) True.intro) (E1.trans (.mut e4 e1)) g2⟩
      · exact h2.elim
    | _ => exact h1.elim⟩
/-- x.insert(j, e) -/
@[simp] def insEnd (i : Nat) (j : Int) (d' : D) (s2 : Env) (P : Env → Prop) : Prop := match s2[i]? with
  | some (some (.own .lst ds)) => 0 ≤ j ∧ j < 100000 ∧ ds.length < 100000 ∧ P (s2.set i (some (.own .lst (ds.take j.toNat ++ [d'] ++ ds.drop j.toNat))))
  | _ => False
@[simp] def dIns (i : Nat) (da db : VDen) : SDen := fun s E => (∃ ds, s[i]? = some (some (.own .lst ds))) ∧ da s fun d s1 => db s1 fun d' s2 => match d with
  | .int j => insEnd i j d' s2 E.nx
  | _ => False
theorem ds_ins {x : Str} {px : Pos} (hx : PE X (.Name x px) (tVar i)) (ha : DV CA X a da) (hb : DV CA X b db) (hbase : attributeBase (.Name x px) "insert" X.env (eval (.Name x px) X.env) = eval (.Name x px) X.env := by rfl)
    (hfew : ((backTo p (starEach [a, b] X.env)).all (fun x => !x.1) && (backToKw p (keywordEach [] X.env)).all (fun x => x.1.isSome)
      && decide (([a, b] : List Expr).length + ([] : List Keyword).length + (if ([] : List Keyword).isEmpty then 0 else 1) < 30)) = true := by rfl)
    (hline : (apos.endLine == p.line) = true := by rfl) (hs : starEach [a, b] X.env = (false, eval a X.env) :: starEach [b] X.env := by rfl) (hs2 : starEach [b] X.env = (false, eval b X.env) :: starEach [] X.env := by rfl) (hplain : (backTo p (starEach [b] X.env)).any (·.1) = false := by rfl)
    (hsw : swapsWith (.Call (.Attribute (.Name x px) "insert" apos) [a, b] [] p) none pos.line X.env = pure false := by rfl) :
    DS CA X (.Expr (.Call (.Attribute (.Name x px) "insert" apos) [a, b] [] p) pos) (dIns i da db) :=
  ⟨ps_w (ps_expr (pe_bm PySem.F.plainAttrs_list PySem.F.slot_list_insert PySem.F.type_list_insert mt_insert hx (pa_cons ha.pe (pa_cons hb.pe pa_nil hs2) hs) hbase hfew hline hs hplain) hsw) fun D σ H ⟨β, s, F, E, R, ⟨⟨ds0, h0⟩, h⟩, q⟩ => by
    obtain ⟨ad, vs, e1, e2, e3⟩ := own_lst R h0
    refine ⟨.ref ad, e1, .inl ⟨rfl, _, .inl (.inl e2)⟩, β, s, F, _, R, h, fun d s1 h1 v H1 F1 R1 E1 r1 => ⟨β, s1, F1, _, R1, h1, fun d' s2 h2' v' H2 F2 R2 E2 r2 => ?_⟩⟩
    cases d with
    | int j =>
      have h2 : insEnd i j d' s2 E.nx := h2'
      unfold insEnd at h2
      split at h2
      · next ds e4 =>
        obtain ⟨h3, h4, h5, h6⟩ := h2
        obtain ⟨b', ws, f1, f2, f3⟩ := own_lst R2 e4
        rw [e1] at f1
        cases f1
        refine ⟨ad, ws, j, v', rfl, by rw [r1.int_eq], f2, by rw [← f3.length]; exact line5 h5, h3, by omega, ?_⟩
        exact q.nx _ h6 σ _ F2 (R2.mut e4 e1 (t' := .lst) rfl (((f3.take _).append (reps_one r2)).append (f3.drop _)) True.intro) ((E1.trans E2).trans (.mut e4 e1))
      · exact h2.elim
    | _ => exact h2'.elim⟩
/-! ### dicts of a slot's own -/
/-- behind d[k] = v -/
@[simp] def dputE : Tag → List D → D → D → Option (Tag × List D)
  | .dk ks, ds, k, d => (keyOf k).map fun j => (.dk (putKs ks j), putDs ks ds j d)
  | .dt ks, ds, .node .tup es, d => (keysOf es).map fun j => (.dt (putKs ks j), putDs ks ds j d)
  | _, _, _, _ => none
theorem dputE_ok {t t' : Tag} {ds ds' : List D} {k d : D} {H F : Hp} {a : Addr} {vs : List V} {o : HO} {y v : V} (sub : Sub F H) (h : dputE t ds k d = some (t', ds')) (e : H a = some o) (is : Is CA t vs o) (r : Reps CA F ds vs) (ry : Rep CA F k y) (rv : Rep CA F d v) (hl : ds.length < 100000) :
    ∃ o' vs', DPut H a y v (upd H a o') ∧ Is CA t' vs' o' ∧ Reps CA F ds' vs' ∧ t'.mutable := by
  cases t with
  | dk ks =>
    obtain ⟨kvs, rfl, rfl, rfl⟩ := is
    replace h : (keyOf k).map (fun j => (Tag.dk (putKs (kvs.map (·.1)) j), putDs (kvs.map (·.1)) ds j d)) = some (t', ds') := h
    cases q : keyOf k with
    | none => rw [q] at h; cases h
    | some j =>
      rw [q] at h
      cases h
      obtain ⟨p1, p2⟩ := put_ok (k := j) r rv
      have hl' : kvs.length < sizeLine := by
        have := r.length
        rw [List.length_map] at this
        rw [← this]
        exact line5 hl
      refine ⟨.dK (putK kvs j v), _, ?_, ⟨_, rfl, p2, rfl⟩, p1, True.intro⟩
      rw [keyOf_ok q ry]
      exact .k e hl'
  | dt ks =>
    obtain ⟨kvs, rfl, rfl, rfl⟩ := is
    cases k with
    | node u es => cases u with
      | tup =>
        replace h : (keysOf es).map (fun j => (Tag.dt (putKs (kvs.map (·.1)) j), putDs (kvs.map (·.1)) ds j d)) = some (t', ds') := h
        cases q : keysOf es with
        | none => rw [q] at h; cases h
        | some j =>
          rw [q] at h
          cases h
          obtain ⟨p1, p2⟩ := put_ok (k := j) r rv
          have hl' : kvs.length < sizeLine := by
            have := r.length
            rw [List.length_map] at this
            rw [← this]
            exact line5 hl
          obtain ⟨b, ws, rfl, ⟨ob, f1, f2⟩, f3⟩ := ry.node_eq
          cases (show ob = .tup ws from f2)
          rw [keysOf_ok q f3] at f1
          exact ⟨.dT (putK kvs j v), _, .t e (sub.nd f1 fun z => z) hl', ⟨_, rfl, p2, rfl⟩, p1, True.intro⟩
      | _ => cases h
    | _ => cases h
  | _ => cases h
/-- x[k] = v, x the i-th slot's own dict -/
@[simp] def dPut (i : Nat) (dk dv : VDen) : SDen := fun s E => dv s fun d s1 => (∃ t ds, s1[i]? = some (some (.own t ds))) ∧ dk s1 fun k s2 => match s2[i]? with
  | some (some (.own t ds)) => ds.length < 100000 ∧ match dputE t ds k d with
    | some (t', ds') => E.nx (s2.set i (some (.own t' ds')))
    | none => False
  | _ => False
theorem ds_put (hu : X.A.units + 1 < cLine) {pos' : Pos} (hx : PE X o (tVar i)) (hk : DV CA X a da) (hv : DV CA X e db) (hs : swapsWith e (some (.Subscript o a pos')) pos.line X.env = pure false := by rfl) :
    DS CA X (.Assign [.Subscript o a pos'] e pos) (dPut i da db) := ⟨ps_w (ps_dput hu hx hk.pe hv.pe hs) fun D σ H ⟨β, s, F, E, R, h, q⟩ =>
  ⟨β, s, F, _, R, h, fun d s1 h1 v H1 F1 R1 E1 r1 => by
    obtain ⟨⟨t0, ds0, h0⟩, h2⟩ := h1
    obtain ⟨ad, vs, e1, _⟩ := R1.own i _ _ h0
    refine ⟨.ref ad, e1, β, s1, F1, _, R1, h2, fun k s2 h3 y H2 F2 R2 E2 r2 => ?_⟩
    have h4 : (match s2[i]? with
      | some (some (.own t ds)) => ds.length < 100000 ∧ match dputE t ds k d with
        | some (t', ds') => E.nx (s2.set i (some (.own t' ds')))
        | none => False
      | _ => False) := h3
    split at h4
    · next t ds e4 =>
      obtain ⟨hl, h5⟩ := h4
      obtain ⟨b, ws, f1, ⟨ob, f2, f3⟩, f4, f5⟩ := R2.own i _ _ e4
      rw [e1] at f1
      cases f1
      cases ep : dputE t ds k d with
      | none => rw [ep] at h5; exact h5.elim
      | some td =>
        obtain ⟨t', ds'⟩ := td
        rw [ep] at h5
        obtain ⟨o', vs', g1, g2, g3, g4⟩ := dputE_ok R2.sub ep f2 f3 f4 r2 (r1.mono E2.fz) hl
        exact ⟨ad, _, rfl, g1, q.nx _ h5 σ _ F2 (R2.mut e4 e1 g2 g3 (g4.ok β ad)) ((E1.trans E2).trans (.mut e4 e1))⟩
    · exact h4.elim⟩⟩
/-! ### a field stored in the slot's own instance -/
@[simp] def fputNs (ns : List Str) (f : Str) : List Str := match ns with
  | [] => [f]
  | g :: r => if g = f then g :: r else g :: fputNs r f
@[simp] def fputDs (ns : List Str) (ds : List D) (f : Str) (d : D) : List D := match ns, ds with
  | [], _ => [d]
  | g :: r, e :: ds => if g = f then d :: ds else e :: fputDs r ds f d
  | _ :: _, [] => []
theorem fput_ok {F : Hp} {f : Str} {d : D} {v : V} (rv : Rep CA F d v) : ∀ {fs : List (Str × V)} {ds : List D}, Reps CA F ds (fs.map (·.2)) → (putF f v fs).map (·.1) = fputNs (fs.map (·.1)) f ∧ Reps CA F (fputDs (fs.map (·.1)) ds f d) ((putF f v fs).map (·.2))
  | [], ds, r => ⟨rfl, reps_one rv⟩
  | (g, x) :: fs, [], r => by
    unfold Reps at r
    cases r
  | (g, x) :: fs, e :: ds, r => by
    rw [List.map_cons] at r
    unfold Reps at r
    obtain ⟨u, w, e0, r1, r2⟩ := r
    injection e0 with e1 e2
    subst e1
    subst e2
    obtain ⟨i1, i2⟩ := fput_ok rv r2
    unfold putF
    rw [List.map_cons]
    unfold fputNs fputDs
    by_cases q : g = f
    · simp only [if_pos q, List.map_cons]
      exact ⟨trivial, reps_cons rv r2⟩
    · simp only [if_neg q, List.map_cons]
      exact ⟨congrArg _ i1, reps_cons r1 i2⟩
@[simp] def dFld (c i : Nat) (f : Str) (da : VDen) : SDen := fun s E => da s fun d s1 => match s1[i]? with
  | some (some (.own (.ins c' ns) ds)) => c' = c ∧ ds.length < 100 ∧ E.nx (s1.set i (some (.own (.ins c (fputNs ns f)) (fputDs ns ds f d))))
  | _ => False
theorem ds_fld (c : Nat) {f : Str} {pos' : Pos} (hc : Cls X.K (CA c)) (hn : NoAttr X.K (CA c) f) (hx : PE X o (tVar i)) (hv : DV CA X e da) (hs : swapsWith e (some (.Attribute o f pos')) pos.line X.env = pure false := by rfl) :
    DS CA X (.Assign [.Attribute o f pos'] e pos) (dFld c i f da) := ⟨ps_w (ps_fld hx hv.pe hs) fun D σ H ⟨β, s, F, E, R, h, q⟩ =>
  ⟨β, s, F, _, R, h, fun d s1 h1 v H1 F1 R1 E1 r1 => by
    have h2 : (match s1[i]? with
      | some (some (.own (.ins c' ns) ds)) => c' = c ∧ ds.length < 100 ∧ E.nx (s1.set i (some (.own (.ins c (fputNs ns f)) (fputDs ns ds f d))))
      | _ => False) := h1
    split at h2
    · next c' ns ds e4 =>
      obtain ⟨rfl, hl, h3⟩ := h2
      obtain ⟨ad, ws, f1, ⟨ob, f2, dx, fs, rfl, rfl, rfl⟩, f4, f5, f6, f7⟩ := R1.own i _ _ e4
      obtain ⟨p1, p2⟩ := fput_ok (f := f) r1 f4
      have hl' : fs.length < 1000 := by
        have := f4.length
        rw [List.length_map] at this
        omega
      exact ⟨.ref ad, f1, ad, CA c', dx, fs, rfl, f2, hc, hn, hl', q.nx _ h3 σ _ F1 (R1.mut e4 f1 (t' := .ins c' _) ⟨dx, _, rfl, p1, rfl⟩ p2 f7) (E1.trans (.mut e4 f1))⟩
    · exact h2.elim⟩⟩
/-! ### ghosts: a slot's own object frozen for good, or for the time of an expression -/
@[simp] def dFrz (i : Nat) (dS : SDen) : SDen := fun s E => match s[i]? with
  | some (some (.own t ds)) => dS (s.set i (some (.val (.node t ds)))) E
  | _ => False
theorem dss_frz (i : Nat) (h : DSs CA X sts dS) : DSs CA X sts (dFrz i dS) := ⟨pss_w h.ps fun D σ H ⟨β, s, F, E, R, h, q⟩ => by
  unfold dFrz at h
  split at h
  · next t ds e0 =>
    obtain ⟨F', a, e1, R', E', r', _⟩ := R.frz e0
    exact ⟨β, _, F', E, R', h, q.shift E'⟩
  · exact h.elim⟩
/-- data without lists, dicts, instances -/
@[simp] def light : D → Bool
  | .node .tup ds => lights ds
  | .node _ _ => false
  | _ => true
where lights : List D → Bool
  | [] => true
  | d :: ds => light d && lights ds
/-- F and the tuples of F2 -/
def tupsOf (F F2 : Hp) : Hp := fun b => match F b with
  | some o => some o
  | none => match F2 b with
    | some (.tup xs) => some (.tup xs)
    | _ => none
theorem tupsOf_tup {F F2 : Hp} (h : Same F F2) {b : Addr} {xs : List V} (e : F2 b = some (.tup xs)) : tupsOf F F2 b = some (.tup xs) := by
  unfold tupsOf
  cases q : F b with
  | none => simp only [e]
  | some o =>
    have := h b o q
    rw [e] at this
    exact this.symm
mutual
theorem light_rep {F F2 : Hp} (h : Same F F2) : ∀ {d : D} {v : V}, light d = true → Rep CA F2 d v → Rep CA (tupsOf F F2) d v
  | .non, _, _, r => by unfold Rep at r ⊢; exact r
  | .bl _, _, _, r => by unfold Rep at r ⊢; exact r
  | .int _, _, _, r => by unfold Rep at r ⊢; exact r
  | .str _, _, _, r => by unfold Rep at r ⊢; exact r
  | .node .tup ds, _, l, r => by
    obtain ⟨a, vs, rfl, ⟨o, e1, e2⟩, e3⟩ := r.node_eq
    cases (show o = .tup vs from e2)
    exact rep_node ⟨_, tupsOf_tup h e1, rfl⟩ (lights_rep h (by unfold light at l; exact l) e3)
  | .node .lst _, _, l, _ => by unfold light at l; cases l
  | .node (.dk _) _, _, l, _ => by unfold light at l; cases l
  | .node (.dt _) _, _, l, _ => by unfold light at l; cases l
  | .node (.ins _ _) _, _, l, _ => by unfold light at l; cases l
theorem lights_rep {F F2 : Hp} (h : Same F F2) : ∀ {ds : List D} {vs : List V}, light.lights ds = true → Reps CA F2 ds vs → Reps CA (tupsOf F F2) ds vs
  | [], _, _, r => by unfold Reps at r ⊢; exact r
  | d :: ds, _, l, r => by
    unfold light.lights at l
    rw [Bool.and_eq_true] at l
    unfold Reps at r ⊢
    obtain ⟨v, w, e1, e2, e3⟩ := r
    exact ⟨v, w, e1, light_rep h l.1 e2, lights_rep h l.2 e3⟩
end
/-- all slots' own objects as data -/
@[simp] def frzE (s : Env) : Env := s.map fun x => match x with
  | some (.own t ds) => some (.val (.node t ds))
  | x => x
def OwnAt (s : Env) (σ : L2.St) (b : Addr) : Prop := ∃ (i : Nat) (t : Tag) (ds : List D), s[i]? = some (some (.own t ds)) ∧ σ[i]? = some (some (.ref b))
theorem frzE_get {s : Env} {i : Nat} {x : Slot} (h : (frzE s)[i]? = some (some x)) : (s[i]? = some (some x) ∧ ∀ t ds, x ≠ .own t ds) ∨ ∃ t ds, s[i]? = some (some (.own t ds)) ∧ x = .val (.node t ds) := by
  unfold frzE at h
  rw [List.getElem?_map] at h
  cases q : s[i]? with
  | none => rw [q] at h; cases h
  | some y =>
    rw [q] at h
    cases y with
    | none => cases h
    | some z => cases z with
      | val d => cases h; exact .inl ⟨rfl, fun _ _ z => by cases z⟩
      | bag => cases h; exact .inl ⟨rfl, fun _ _ z => by cases z⟩
      | own t ds => cases h; exact .inr ⟨t, ds, rfl, rfl⟩
open Classical in
theorem Rel.frzAllK {β : Beta} {s : Env} {σ : L2.St} {H F : Hp} (R : Rel CA β s σ H F) : ∃ F1, Rel CA β (frzE s) σ H F1 ∧ Same F F1 ∧ (∀ b, Owned β (frzE s) σ b → isB β b) ∧ ∀ b, OwnAt s σ b → F1 b = H b := by
  let F1 : Hp := fun b => if OwnAt s σ b then H b else F b
  have in1 : ∀ b, OwnAt s σ b → F1 b = H b := fun b h => if_pos h
  have out1 : ∀ b, ¬ OwnAt s σ b → F1 b = F b := fun b h => if_neg h
  have sm : Same F F1 := fun b o e => by
    by_cases q : OwnAt s σ b
    · obtain ⟨i, t, ds, q1, q2⟩ := q
      obtain ⟨a, vs, e1, _, _, e5, _⟩ := R.own i t ds q1
      rw [e1] at q2
      cases q2
      rw [e5] at e
      cases e
    · rw [out1 b q]; exact e
  refine ⟨F1, ⟨fun b o e => ?_, by unfold frzE; rw [List.length_map]; exact R.len, fun i d e => ?_, fun i t ds e => ?_, fun i j t ds u es a e1 => ?_, fun i e => ?_, fun b e => ?_⟩, sm, fun b h => ?_, in1⟩
  · by_cases q : OwnAt s σ b
    · rw [in1 b q] at e; exact .inl e
    · rw [out1 b q] at e; exact R.sub b o e
  · rcases frzE_get e with ⟨e1, _⟩ | ⟨t, ds, e1, e2⟩
    · obtain ⟨v, g1, g2⟩ := R.val i d e1
      exact ⟨v, g1, g2.mono sm⟩
    · cases e2
      obtain ⟨a, vs, g1, ⟨o, g2, g3⟩, g4, _⟩ := R.own i t ds e1
      exact ⟨.ref a, g1, rep_node ⟨o, by rw [in1 a ⟨i, t, ds, e1, g1⟩]; exact g2, g3⟩ (g4.mono sm)⟩
  · rcases frzE_get e with ⟨_, e1⟩ | ⟨_, _, _, e2⟩
    · exact (e1 t ds rfl).elim
    · cases e2
  · rcases frzE_get e1 with ⟨_, e1⟩ | ⟨_, _, _, e2⟩
    · exact (e1 t ds rfl).elim
    · cases e2
  · rcases frzE_get e with ⟨e1, _⟩ | ⟨_, _, _, e2⟩
    · exact R.bag i e1
    · cases e2
  · obtain ⟨k1, k2⟩ := R.bok b e
    refine ⟨k1.mono rfl sm, ?_⟩
    rw [out1 b ?_]
    · exact k2
    · rintro ⟨i, t, ds, q1, q2⟩
      obtain ⟨a, vs, e1, _, _, _, e6, _⟩ := R.own i t ds q1
      rw [e1] at q2
      cases q2
      exact e6 e
  · rcases h with h | ⟨i, t, ds, q1, _⟩
    · exact h
    · rcases frzE_get q1 with ⟨_, e1⟩ | ⟨_, _, _, e2⟩
      · exact (e1 t ds rfl).elim
      · cases e2
theorem Rel.frzAll {β : Beta} {s : Env} {σ : L2.St} {H F : Hp} (R : Rel CA β s σ H F) : ∃ F1, Rel CA β (frzE s) σ H F1 ∧ Same F F1 ∧ ∀ b, Owned β (frzE s) σ b → isB β b := by
  obtain ⟨F1, h1, h2, h3, _⟩ := R.frzAllK
  exact ⟨F1, h1, h2, h3⟩
/-- back from a borrowing: the slots own their objects again -/
theorem Rel.unborrow {β : Beta} {s : Env} {σ : L2.St} {H F F1 H2 F2 : Hp} (R : Rel CA β s σ H F) (sm : Same F F1) (ow : ∀ b, Owned β (frzE s) σ b → isB β b) (R2 : Rel CA β (frzE s) σ H2 F2) (E2 : Ext β (frzE s) σ H F1 (frzE s) σ H2 F2) :
    Rel CA β s σ H2 (tupsOf F F2) ∧ Ext β s σ H F s σ H2 (tupsOf F F2) := by
  have sF2 : Same F F2 := fun b u z => E2.fz b u (sm b u z)
  have f1 : Same F (tupsOf F F2) := fun b u z => by unfold tupsOf; rw [z]
  have tOut : ∀ b u, tupsOf F F2 b = some u → F b = some u ∨ (F2 b = some u ∧ ∃ xs, u = .tup xs) := fun b u z => by
    unfold tupsOf at z
    cases q : F b with
    | some w => rw [q] at z; exact .inl z
    | none =>
      rw [q] at z
      simp only at z
      cases q2 : F2 b with
      | none => rw [q2] at z; cases z
      | some w =>
        rw [q2] at z
        cases w with
        | tup xs => cases z; exact .inr ⟨rfl, xs, rfl⟩
        | _ => cases z
  have x : XT (isB β) H F H2 (tupsOf F F2) := ⟨f1, fun b u z => by
    rcases tOut b u z with y | ⟨_, y⟩
    · exact .inl y
    · exact .inr (.inr (.inl y)), fun b u z n => E2.xt.kp b u z fun w => n (ow b w), E2.xt.dm⟩
  refine called R x (fun b u z => ?_) fun b e => ?_
  · rcases tOut b u z with y | ⟨y, _⟩
    · exact R2.sub b u (sF2 b u y)
    · exact R2.sub b u y
  · obtain ⟨⟨c, ns, i, r, sd, m, h1, h2, h3, h4, h5, h6, h7, h8, hb⟩, k2⟩ := R.bok b e
    obtain ⟨⟨c', ns', i', r', sd', m', h1', h2', h3', h4', h5', h6', h7', h8', hb'⟩, k2'⟩ := R2.bok b e
    rw [hb] at hb'
    have ec : c = c' := congrArg Prod.snd (Option.some.inj hb')
    subst ec
    have := sF2 _ _ h2
    rw [h2'] at this
    refine ⟨⟨c, ns', i', r', sd', m', h1', ?_, h3', h4', h5', h6', h7', h8', hb⟩, ?_⟩
    · rw [← this] at h2; exact f1 _ _ h2
    · unfold tupsOf
      rw [k2, k2']
@[simp] def dBor (da : VDen) : VDen := fun s P => da (frzE s) fun d s2 => s2 = frzE s ∧ light d = true ∧ P d s
@[simp] def dBorT (ta : TDen) : TDen := fun s P => ta (frzE s) fun c s2 => s2 = frzE s ∧ P c s
theorem dv_bor (h : DV CA X e da) : DV CA X e (dBor da) := ⟨pe_w h.pe fun σ H Q ⟨β, s, F, P, R, h, q⟩ => by
  obtain ⟨F1, R1, sm, ow⟩ := R.frzAll
  refine ⟨β, frzE s, F1, _, R1, h, fun d s2 h2 v H2 F2 R2 E2 r2 => ?_⟩
  obtain ⟨rfl, hl, hp⟩ := h2
  obtain ⟨R3, E3⟩ := R.unborrow sm ow R2 E2
  exact q d s hp v H2 _ R3 E3 (light_rep (fun b u z => E2.fz b u (sm b u z)) hl r2)⟩
theorem dt_bor (h : DT CA X e ta) : DT CA X e (dBorT ta) := ⟨pt_w h.pt fun σ H Q ⟨β, s, F, P, R, h, q⟩ => by
  obtain ⟨F1, R1, sm, ow⟩ := R.frzAll
  refine ⟨β, frzE s, F1, _, R1, h, fun c s2 h2 H2 F2 R2 E2 => ?_⟩
  obtain ⟨rfl, hp⟩ := h2
  obtain ⟨R3, E3⟩ := R.unborrow sm ow R2 E2
  exact q c s hp H2 _ R3 E3⟩
end
end Dl
end

section
set_option Elab.async false
set_option linter.all false
set_option maxRecDepth 100000
set_option maxHeartbeats 4000000
/-! enumerate() of a tuple. -/
namespace Sx
open PySem PySem.Spec PyProof.Rows L2
open Sem (wp)
open AutoSeq1 (wpAny_loadPart')
abbrev tiOf (tp : Addr) : Obj := { cls := .type "tuple_iterator", data := .fields #[.ref tp, .int 0 0] }
abbrev enOf (z : Addr) : Obj := { cls := .type "enumerate", data := .fields #[.none, .bool false, .ref z, rawInt 0, .none, .none] }
set_option maxHeartbeats 8000000 in
theorem enum_new_tup (tp : Addr) (its : Array Value) : Meets (Builtin.«enumerate.__new__» ⟨[.type "enumerate", .ref tp], []⟩)
    (fun _ R s => s.heap.IsTuple tp its ∧ R (.ok (.ret (.ref (s.heap.push (tiOf tp)).objs.size))) { s with heap := (s.heap.push (tiOf tp)).push (enOf s.heap.objs.size) }) :=
  .of_wp fun prog w A R s h => by
    obtain ⟨hp, g, d, tk, os⟩ := s
    obtain ⟨ht, hr⟩ := h
    have hsubs := sub_enumerate
    have stp : ∀ {B : Around} {E Q : Value → Shared → Prop}, Q (.ref hp.objs.size) ⟨hp.push (tiOf tp), g, d, tk, os⟩ → wpAny (model prog w) B (pyIter (.ref tp)) Q E ⟨hp, g, d, tk, os⟩ := fun q => wpAny_pyIter_tuple ht q
    obtain ⟨ot, hot, hct, nt, hdt⟩ := id ht
    wp_walk using stp, wpAny_loadPart' hot
    refine wpAny_stack_any fun sk => wpAny_pure ?_
    split
    · rename_i cc _ _ _ _ _
      cases (cc == Value.type "enumerate") <;>
      · wp_walk using stp, wpAny_loadPart' hot
        exact ⟨_, rfl, hr⟩
    · wp_walk using stp, wpAny_loadPart' hot
      exact ⟨_, rfl, hr⟩
theorem call_enum_tup {prog : Program} {w : World} {A : Around} {E Q : Value → Shared → Prop} {s : Shared} {tp : Addr} {its : Array Value} (ht : s.heap.IsTuple tp its)
    (q : ∀ hz, IsEnum hz (s.heap.objs.size + 1) s.heap.objs.size 0 .none → hz.IsTupleIter s.heap.objs.size tp 0 → hz.objs.size = s.heap.objs.size + 2 → (∀ b o, s.heap.get? b = some o → hz.get? b = some o) → Q (.ref (s.heap.objs.size + 1)) { s with heap := hz }) :
    wpAny (model prog w) A (call (.type "enumerate") [.ref tp]) Q E s := by
  refine callType_new F.called_enumerate (by decide) (F.typeCall_enumerate_1 _) (F.newCall_enumerate_1 _) (fun ob => F.args_object_init_2 ob _) F.entry_enumerate_new (enum_new_tup tp its) ⟨ht, ?_⟩
  have sz : (s.heap.push (tiOf tp)).objs.size = s.heap.objs.size + 1 := Heap.size_push ..
  show _ ∧ _
  rw [sz]
  have hen : IsEnum ((s.heap.push (tiOf tp)).push (enOf s.heap.objs.size)) (s.heap.objs.size + 1) s.heap.objs.size 0 .none := by
    have z := Heap.get?_push_size (s.heap.push (tiOf tp)) (o := enOf s.heap.objs.size) rfl
    rw [sz] at z
    exact z
  exact ⟨⟨_, hen, rfl⟩, q _ hen ⟨_, Heap.get?_push_of_some _ (Heap.get?_push_size _ rfl), rfl, rfl⟩ (by rw [Heap.size_push, sz]) fun b o y => Heap.get?_push_of_some _ (Heap.get?_push_of_some _ y)⟩
theorem next_enum_tup_end {prog : Program} {w : World} {A : Around} {E : Value → Shared → Prop} {s : Shared} {e it tp : Addr} {i : Nat} {its : Array Value} {old : Value} {Q : Option Value → Shared → Prop} (hn : A.handled = none) (he : IsEnum s.heap e it i old) (hit : s.heap.IsTupleIter it tp i) (ht : s.heap.IsTuple tp its) (hx : its[i]? = none)
    (q : ∀ hz, Heap.ExtBut it s.heap hz → Q none { s with heap := hz }) : wpAny (model prog w) A (pyNext (.ref e)) Q E s := by
  have ty : s.TypeIs (.ref e) "enumerate" := ⟨_, he, rfl⟩
  unfold pyNext
  refine wpAny_bind (wpAny_attempt (wpAny_callSpecial?_slot (name := Str.ofString "__next__") ty F.slot_enumerate_next (wpAny_call_entry F.slot_enumerate_next ty F.entry_enumerate_next ?_ (F.args_enumerate_next_1 _))))
  show wpAny _ _ (field (.ref e) 2 >>= fun _ => _) _ _ _
  refine wpAny_bind (wpAny_field he rfl (x := .ref it) rfl (wpAny_bind (wpAny_nextOf_tuple_end hn hit ht hx fun hz ex h1 h2 => ?_)))
  obtain ⟨ox, hox, hcx⟩ := h2
  exact wpAny_bind (wpAny_isInstance (T := "StopIteration") (b := true) ⟨ox, hox, hcx⟩ isSubtype_stop (wpAny_pure (q _ h1)))
/-- the pairs (0, t[0]), (1, t[1]), .. of a tuple -/
def Itt (K : PySem.W.Frag) (a : Addr) : It where
  go := fun i H => ∃ (xs : List V) (x : V), SqT K H a xs ∧ xs[i]? = some x
  yld := fun i H v H' => ∃ T x, v = .ref T ∧ H T = none ∧ H' = upd H T (.tup [.int (i : Nat), x]) ∧ ∀ xs, SqT K H a xs → xs[i]? = some x
  stop := fun i H => ∃ xs : List V, SqT K H a xs ∧ xs.length ≤ i
theorem turn_enumT {P : Program} {w : World} {K : PySem.W.Frag} {elts : List Expr} {kk : Nat} {tpos : Pos} (a e it : Addr) (hae : a ≠ it) (hea : e ≠ a) :
    Turn P w K (.Tuple elts kk tpos) (Itt K a) [e, it] e (fun i h => (∃ old, IsEnum h e it ((i : Nat) : Int) old) ∧ h.IsTupleIter it a i ∧ e ≠ it) where
  mem := by simp
  obj := fun i h st b hb => by
    obtain ⟨⟨old, he⟩, ⟨o, ho, hc, hd⟩, _⟩ := st
    rcases (show b = e ∨ b = it by simpa using hb) with z | z
    · subst z; exact ⟨_, he, fun v q => nomatch q⟩
    · subst z; exact ⟨o, ho, fun v q => by rw [hd] at q; cases q⟩
  keep := fun i h h' st k => by
    obtain ⟨⟨old, he⟩, hi, ne⟩ := st
    exact ⟨⟨old, k e (by simp) _ he⟩, hi.at fun o q => k it (by simp) o q, ne⟩
  item := by
    intro X hP hw hK hc i pins s σ H E I hf st hg
    subst hP hw hK
    obtain ⟨⟨old, he⟩, hit, ne⟩ := st
    obtain ⟨xs, x, hq, hx⟩ := hg
    obtain ⟨its, rv, pt, hz⟩ := I.tuple hq
    obtain ⟨u, hu, ru⟩ := rv.get hx
    have l1 : e < s.heap.objs.size := Heap.lt_size he
    have l2 : it < s.heap.objs.size := by
      obtain ⟨_, q, _⟩ := hit
      exact Heap.lt_size q
    have ilt : i < its.toArray.size := by
      have := (List.getElem?_eq_some_iff.mp hu).1
      simpa using this
    have DR : Draws X.prog X.w X.A.in1 it [it, a] its.toArray.size (fun i v => its.toArray[i]? = some v) (fun i h => h.IsTupleIter it a i ∧ h.IsTuple a its.toArray) := Draws.tuple (show X.A.in1.handled = none from I.ok.hd hc) it a hae its.toArray
    refine wpAny_pyNext_enum_itemD DR he ⟨hit, pt⟩ ilt ne (by simp [ne, hea]) fun y h' tk py ho sit hT hsz hk => ?_
    have ey : y = u := by
      have : its.toArray[i]? = some u := by simpa using hu
      rw [this] at py
      exact (Option.some.inj py).symm
    subst ey
    refine ⟨_, rfl, wpAny_letOwnedTupleGo_enum (s := { s with heap := h', toks := tk + 1 }) ho fun h2 he2 sb => ?_⟩
    have hT2 : h2.get? s.heap.objs.size = some { cls := .type "tuple", data := .seq #[.int i tk, y] } := (sb.2 _ (Nat.ne_of_gt l1)).trans hT
    have nw : ObjOk X.prog X.w (upd H s.heap.objs.size (.tup [.int (i : Nat), x])) h2 s.heap.objs.size (.tup [.int (i : Nat), x]) := ⟨by show 2 ≤ sizeLine; decide, [.int i tk, y], .cons ⟨_, rfl⟩ (.cons ru .nil), ⟨_, hT2, rfl, _, rfl⟩⟩
    have I1 : Inv X pins σ (upd H s.heap.objs.size (.tup [.int (i : Nat), x])) { s with heap := h2, toks := tk + 1 } :=
      I.turnedNew (ch := [e, it]) (fun b ob nb q => (sb.2 b fun z => nb (by simp [z])).trans (hk b ob (fun z => nb (by simp [z])) (fun z => nb (by simp [z])) q)) hf (Nat.le_refl _) nw
    refine ⟨.ref s.heap.objs.size, _, I1, rfl, ⟨_, x, rfl, I.hok.fresh (Nat.le_refl _), rfl, fun ys hy => by rw [I.tuple_inj hy hq]; exact hx⟩, ⟨⟨y, ?_⟩, sit.1.at fun o q => (sb.2 it (Ne.symm ne)).trans q, ne⟩, fun b hb => ?_⟩
    · rw [show ((i + 1 : Nat) : Int) = (i : Int) + 1 by omega]
      exact he2
    · have lb : b < s.heap.objs.size := by
        rcases (show b = e ∨ b = it by simpa using hb) with z | z
        · rw [z]; exact l1
        · rw [z]; exact l2
      rw [upd_ne (Nat.ne_of_lt lb)]
      exact (hf b hb).1
  done := by
    intro X hP hw hK hc i pins s σ H E I hf st hg
    subst hP hw hK
    obtain ⟨⟨old, he⟩, hit, ne⟩ := st
    obtain ⟨xs, hq, hx⟩ := hg
    obtain ⟨its, rv, pt, hz⟩ := I.tuple hq
    obtain ⟨f0, f1, f2, f3, f4, f5⟩ := hf it (by simp)
    have ll := rv.length
    exact next_enum_tup_end (I.ok.hd hc) he hit pt (by simp; omega) fun hh eb => ⟨rfl, I.turned (t' := s.toks) (fun b o nb q => eb b o nb q) f0 f1 f3 f4 f5⟩
  self := fun A i s Q E st h => by
    obtain ⟨⟨_, he⟩, _⟩ := st
    exact wpAny_pyIter_enum he h
/-- enumerate of a list or of a tuple -/
def iEnum2 (K : PySem.W.Frag) (ta : TA) : TI := fun σ H R => ta σ H fun vs H1 => ∃ a xs, vs = [.ref a] ∧ ((SqL K H1 a xs ∧ R (Ite K a) H1) ∨ (SqT K H1 a xs ∧ R (Itt K a) H1))
theorem pi_enum2 {X : Cx} {e : Expr} {ta : TA} {p pos tpos : Pos} {elts : List Expr} {kk : Nat} (hg : Gl X "enumerate") (hm : X.mg "enumerate" = none) (ha : PA X [e] ta) (hs : starEach [e] X.env = [(false, eval e X.env)] := by rfl) :
    PI X (.Tuple elts kk tpos) (.Call (.Name "enumerate" p) [e] [] pos) (iEnum2 X.K ta) := by
  refine ⟨fun pins s σ H R I h => Call_ (ld_blt I hg hm boot_enumerate (PyProof.Rows.callWith_type1 (thn (ha.run pos pins s σ H _ I h) fun us s1 ⟨vs, H1, I1, r1, q1⟩ => ?_) hs rfl))⟩
  obtain ⟨a, xs, ex, q1⟩ := q1
  subst ex
  cases r1 with
  | cons r rr =>
    cases rr
    cases r
    have fresh : ∀ b, b ∈ [s1.heap.objs.size + 1, s1.heap.objs.size] → s1.heap.objs.size ≤ b := fun b hb => by
      rcases (show b = s1.heap.objs.size + 1 ∨ b = s1.heap.objs.size by simpa using hb) with z | z
      · subst z; exact Nat.le_succ _
      · subst z; exact Nat.le_refl _
    rcases q1 with ⟨hq, q⟩ | ⟨hq, q⟩
    · obtain ⟨its, rv, pl, hz⟩ := I1.list hq
      refine call_enumerate_list pl.isList fun h2 he hit hsz hk => wpAny_pyIter_enum he ?_
      have I2 : Inv X pins σ H1 { s1 with heap := h2 } := I1.kept (t' := s1.toks) hk
      exact ⟨s1.heap.objs.size + 1, [s1.heap.objs.size + 1, s1.heap.objs.size], _, _, H1, rfl, I2, turn_enum a (s1.heap.objs.size + 1) s1.heap.objs.size, ⟨⟨.none, he⟩, hit, Nat.succ_ne_self _⟩, fun b hb => I1.fpOk (fresh b hb) (I1.hok.fresh (fresh b hb)), q⟩
    · obtain ⟨its, rv, pt, hz⟩ := I1.tuple hq
      have al : a < s1.heap.objs.size := by
        obtain ⟨o, ho, _⟩ := pt
        exact Heap.lt_size ho
      refine call_enum_tup pt fun h2 he hit hsz hk => wpAny_pyIter_enum he ?_
      have I2 : Inv X pins σ H1 { s1 with heap := h2 } := I1.kept (t' := s1.toks) hk
      exact ⟨s1.heap.objs.size + 1, [s1.heap.objs.size + 1, s1.heap.objs.size], _, _, H1, rfl, I2, turn_enumT a (s1.heap.objs.size + 1) s1.heap.objs.size (Nat.ne_of_lt al) (Nat.ne_of_gt (Nat.lt_succ_of_lt al)), ⟨⟨.none, he⟩, hit, Nat.succ_ne_self _⟩, fun b hb => I1.fpOk (fresh b hb) (I1.hok.fresh (fresh b hb)), q⟩
end Sx
end

section
set_option Elab.async false
set_option linter.all false
set_option maxRecDepth 100000
set_option maxHeartbeats 4000000
/-! The data layer, part 8: iterators; comprehensions. -/
namespace Dl
open PySem PySem.Spec PyProof.Rows L2

section
variable {CA : Nat → Addr} {X : Cx} {a b c e o : Expr} {es : List Expr} {st : Stmt} {sts rest : List Stmt} {pos p apos : Pos} {da db dc : VDen} {dA : ADen} {ta tb : TDen} {dF : FDen} {dS dT : SDen} {dG : GDen} {n k i : Nat}
/-! ### iterators -/
@[simp] def diRange (da : VDen) : IDen := fun s P => da s fun d s1 => match d with
  | .int j => -(2 ^ 62) ≤ j ∧ j < 2 ^ 62 ∧ P ((List.range j.toNat).map fun k => .int (k : Nat)) s1
  | _ => False
theorem drive_range {F H : Hp} {n : Nat} : Drive CA F H (Itr 0 n) ((List.range n).map fun k : Nat => D.int (k : Nat)) := fun i H1 F1 sub f _ => by
  refine ⟨fun d hd => ?_, fun hd => ?_⟩
  · rw [List.getElem?_map] at hd
    by_cases hl : i < n
    · rw [List.getElem?_range hl] at hd
      cases hd
      refine ⟨hl, fun x H' y => ?_⟩
      obtain ⟨rfl, rfl⟩ := y
      exact ⟨F1, fun _ _ z => z, fun _ _ z => .inl z, fun _ _ z => z, fun _ z => z, sub, by rw [Int.zero_add]; exact rep_int⟩
    · rw [List.getElem?_eq_none (by simpa using Nat.le_of_not_lt hl)] at hd
      cases hd
  · have : ((List.range n).map fun k : Nat => D.int (k : Nat)).length ≤ i := List.getElem?_eq_none_iff.mp hd
    show n ≤ i
    simpa using this
theorem di_range {tg : Expr} (hm : X.mg "range" = none) (ha : DV CA X a da) (hg : Gl X "range" := by rfl) (he : starEach [a] X.env = (false, eval a X.env) :: starEach [] X.env := by rfl) (hs : starEach [a] X.env = [(false, eval a X.env)] := by rfl) :
    DI CA X tg (.Call (.Name "range" p) [a] [] pos) (diRange da) := ⟨pi_w (pi_range1 hg hm (pa_cons ha.pe pa_nil he) hs) fun σ H Q ⟨β, s, F, P, R, h, q⟩ => ⟨β, s, F, _, R, h, fun d s1 h1 x H1 F1 R1 E1 r1 => by
    cases d with
    | int j => exact ⟨j, by rw [r1.int_eq], h1.1, h1.2.1, q _ s1 h1.2.2 _ H1 F1 R1 E1 drive_range⟩
    | _ => exact h1.elim⟩⟩
/-- the signs of a text -/
def signs (z : Str) : List D := z.cps.toList.map fun c => .str ⟨#[c]⟩
@[simp] def diStr (da : VDen) : IDen := fun s P => da s fun d s1 => match d with
  | .str z => P (signs z) s1
  | _ => False
theorem drive_str {F H : Hp} {z : Str} : Drive CA F H (Its z) (signs z) := fun i H1 F1 sub f _ => by
  unfold signs
  refine ⟨fun d hd => ?_, fun hd => ?_⟩
  · rw [List.getElem?_map] at hd
    cases q : z.cps.toList[i]? with
    | none => rw [q] at hd; cases hd
    | some c =>
      rw [q] at hd
      cases hd
      have q2 : z.cps[i]? = some c := by rw [← Array.getElem?_toList]; exact q
      refine ⟨(Array.getElem?_eq_some_iff.mp q2).1, fun x H' y => ?_⟩
      obtain ⟨rfl, c', e1, rfl⟩ := y
      rw [q2] at e1
      cases e1
      exact ⟨F1, fun _ _ z => z, fun _ _ z => .inl z, fun _ _ z => z, fun _ z => z, sub, rep_str⟩
  · have := List.getElem?_eq_none_iff.mp hd
    rw [List.length_map, Array.length_toList] at this
    exact this
theorem di_str {tg : Expr} (ha : DV CA X e da) : DI CA X tg e (diStr da) := ⟨pi_w (pi_str ha.pe) fun σ H Q ⟨β, s, F, P, R, h, q⟩ => ⟨β, s, F, _, R, h, fun d s1 h1 x H1 F1 R1 E1 r1 => by
    cases d with
    | str z => exact ⟨z, r1.str_eq, q _ s1 h1 _ H1 F1 R1 E1 drive_str⟩
    | _ => exact h1.elim⟩⟩
/-- enumerate -/
def pairsOf (ds : List D) : List D := (ds.zipIdx).map fun x => .tup [.int (x.2 : Nat), x.1]
@[simp] def diEnum (da : VDen) : IDen := fun s P => da s fun d s1 => match d with
  | .node .lst ds => P (pairsOf ds) s1
  | .node .tup ds => P (pairsOf ds) s1
  | _ => False
theorem pairsOf_get (ds : List D) (i : Nat) : (pairsOf ds)[i]? = (ds[i]?).map fun d => .tup [.int (i : Nat), d] := by
  unfold pairsOf
  rw [List.getElem?_map, List.getElem?_zipIdx]
  cases ds[i]? with
  | none => rfl
  | some d => simp
theorem yielded {F H : Hp} {T : Addr} {vs : List V} {ds : List D} (sub : Sub F H) (hT : H T = none) (r : Reps CA F ds vs) : ∃ F', Same F F' ∧ (∀ b o, F' b = some o → F b = some o ∨ H b = none ∨ ∃ xs, o = .tup xs) ∧ Same H (upd H T (.tup vs)) ∧ (∀ b, (upd H T (.tup vs)) b = none → H b = none) ∧ Sub F' (upd H T (.tup vs)) ∧ Rep CA F' (.node .tup ds) (.ref T) := by
  have x := XT.newF (M := fun _ => False) (o := .tup vs) hT sub
  refine ⟨upd F T (.tup vs), x.fz, fun b o e => ?_, same_updF hT, x.dm, sub.newF hT, rep_node ⟨_, upd_same, rfl⟩ (r.mono x.fz)⟩
  rcases x.nw b o e with z | z | z | z
  · exact .inl z
  · exact .inr (.inl z)
  · exact .inr (.inr z)
  · exact z.elim
theorem drive_enum {K : PySem.W.Frag} {F H : Hp} {a : Addr} {vs : List V} {ds : List D} (e : F a = some (.lst vs)) (r : Reps CA F ds vs) : Drive CA F H (Ite K a) (pairsOf ds) := fun i H1 F1 sub f _ => by
  have e1 : Rd H1 a (.lst vs) := sub.rd (f _ _ e)
  rw [pairsOf_get]
  refine ⟨fun d hd => ?_, fun hd => ?_⟩
  · cases q : ds[i]? with
    | none => rw [q] at hd; cases hd
    | some d0 =>
      rw [q] at hd
      cases hd
      obtain ⟨v, g1, g2⟩ := r.get q
      refine ⟨⟨vs, v, .inl e1, g1⟩, fun x H' y => ?_⟩
      obtain ⟨T, x0, rfl, hT, rfl, y⟩ := y
      have := y vs (.inl e1)
      rw [g1] at this
      cases this
      exact yielded sub hT (reps_cons rep_int (reps_one (g2.mono f)))
  · refine ⟨vs, .inl e1, ?_⟩
    cases q : ds[i]? with
    | some d0 => rw [q] at hd; cases hd
    | none =>
      have := List.getElem?_eq_none_iff.mp q
      rw [r.length] at this
      exact this
theorem drive_enumT {K : PySem.W.Frag} {F H : Hp} {a : Addr} {vs : List V} {ds : List D} (e : F a = some (.tup vs)) (r : Reps CA F ds vs) : Drive CA F H (Sx.Itt K a) (pairsOf ds) := fun i H1 F1 sub f _ => by
  have e1 : Rd H1 a (.tup vs) := sub.rd (f _ _ e)
  rw [pairsOf_get]
  refine ⟨fun d hd => ?_, fun hd => ?_⟩
  · cases q : ds[i]? with
    | none => rw [q] at hd; cases hd
    | some d0 =>
      rw [q] at hd
      cases hd
      obtain ⟨v, g1, g2⟩ := r.get q
      refine ⟨⟨vs, v, .inl e1, g1⟩, fun x H' y => ?_⟩
      obtain ⟨T, x0, rfl, hT, rfl, y⟩ := y
      have := y vs (.inl e1)
      rw [g1] at this
      cases this
      exact yielded sub hT (reps_cons rep_int (reps_one (g2.mono f)))
  · refine ⟨vs, .inl e1, ?_⟩
    cases q : ds[i]? with
    | some d0 => rw [q] at hd; cases hd
    | none =>
      have := List.getElem?_eq_none_iff.mp q
      rw [r.length] at this
      exact this
theorem di_enum {elts : List Expr} {kk : Nat} {tpos : Pos} (hm : X.mg "enumerate" = none) (ha : DV CA X a da) (hg : Gl X "enumerate" := by rfl) (he : starEach [a] X.env = (false, eval a X.env) :: starEach [] X.env := by rfl) (hs : starEach [a] X.env = [(false, eval a X.env)] := by rfl) :
    DI CA X (.Tuple elts kk tpos) (.Call (.Name "enumerate" p) [a] [] pos) (diEnum da) := ⟨pi_w (Sx.pi_enum2 hg hm (pa_cons ha.pe pa_nil he) hs) fun σ H Q ⟨β, s, F, P, R, h, q⟩ => ⟨β, s, F, _, R, h, fun d s1 h1 x H1 F1 R1 E1 r1 => by
    cases d with
    | node t ds => cases t with
      | lst =>
        obtain ⟨ad, vs, rfl, ⟨o, e1, e2⟩, e3⟩ := r1.node_eq
        cases (show o = .lst vs from e2)
        exact ⟨ad, vs, rfl, .inl ⟨.inl (R1.sub.rd e1), q _ s1 h1 _ H1 F1 R1 E1 (drive_enum e1 e3)⟩⟩
      | tup =>
        obtain ⟨ad, vs, rfl, ⟨o, e1, e2⟩, e3⟩ := r1.node_eq
        cases (show o = .tup vs from e2)
        exact ⟨ad, vs, rfl, .inr ⟨.inl (R1.sub.rd e1), q _ s1 h1 _ H1 F1 R1 E1 (drive_enumT e1 e3)⟩⟩
      | _ => exact h1.elim
    | _ => exact h1.elim⟩⟩
/-- zip -/
def zipOf (ds es : List D) : List D := (ds.zip es).map fun x => .tup [x.1, x.2]
@[simp] def diZip (da db : VDen) : IDen := fun s P => da s fun d s1 => db s1 fun d' s2 => match d, d' with
  | .node .lst ds, .node .lst es => P (zipOf ds es) s2
  | _, _ => False
theorem drive_zip {K : PySem.W.Frag} {F H : Hp} {a b : Addr} {vs ws : List V} {ds es : List D} (e : F a = some (.lst vs)) (r : Reps CA F ds vs) (e' : F b = some (.lst ws)) (r' : Reps CA F es ws) : Drive CA F H (Itz K a b) (zipOf ds es) := fun i H1 F1 sub f _ => by
  have e1 : Rd H1 a (.lst vs) := sub.rd (f _ _ e)
  have e2 : Rd H1 b (.lst ws) := sub.rd (f _ _ e')
  unfold zipOf
  refine ⟨fun d hd => ?_, fun hd => ?_⟩
  · rw [List.getElem?_map] at hd
    cases q : (ds.zip es)[i]? with
    | none => rw [q] at hd; cases hd
    | some d0 =>
      rw [q] at hd
      cases hd
      obtain ⟨q1, q2⟩ := List.getElem?_zip_eq_some.mp q
      obtain ⟨v, g1, g2⟩ := r.get q1
      obtain ⟨u, g3, g4⟩ := r'.get q2
      refine ⟨⟨vs, ws, v, u, .inl e1, .inl e2, g1, g3⟩, fun x H' y => ?_⟩
      obtain ⟨T, x0, y0, rfl, hT, rfl, y1, y2⟩ := y
      have z1 := y1 vs (.inl e1)
      have z2 := y2 ws (.inl e2)
      rw [g1] at z1
      rw [g3] at z2
      cases z1
      cases z2
      exact yielded sub hT (reps_cons (g2.mono f) (reps_one (g4.mono f)))
  · refine ⟨vs, ws, .inl e1, .inl e2, ?_⟩
    have := List.getElem?_eq_none_iff.mp hd
    rw [List.length_map, List.length_zip, r.length, r'.length] at this
    omega
theorem di_zip {elts : List Expr} {kk : Nat} {tpos : Pos} (hm : X.mg "zip" = none) (ha : DV CA X a da) (hb : DV CA X b db) (hg : Gl X "zip" := by rfl) (he : starEach [a, b] X.env = (false, eval a X.env) :: starEach [b] X.env := by rfl) (he2 : starEach [b] X.env = (false, eval b X.env) :: starEach [] X.env := by rfl) (hpl : (backTo pos (starEach [b] X.env)).any (·.1) = false := by rfl) :
    DI CA X (.Tuple elts kk tpos) (.Call (.Name "zip" p) [a, b] [] pos) (diZip da db) := ⟨pi_w (pi_zip hg hm (pa_cons ha.pe (pa_cons hb.pe pa_nil he2) he) he hpl) fun σ H Q ⟨β, s, F, P, R, h, q⟩ => ⟨β, s, F, _, R, h, fun d s1 h1 x H1 F1 R1 E1 r1 => ⟨β, s1, F1, _, R1, h1, fun d' s2 h2 y H2 F2 R2 E2 r2 => by
    cases d with
    | node t ds => cases t with
      | lst => cases d' with
        | node t' es => cases t' with
          | lst =>
            obtain ⟨ad, vs, rfl, ⟨o, e1, e2⟩, e3⟩ := (r1.mono E2.fz).node_eq
            cases (show o = .lst vs from e2)
            obtain ⟨bd, ws, rfl, ⟨o', f1, f2⟩, f3⟩ := r2.node_eq
            cases (show o' = .lst ws from f2)
            exact ⟨ad, bd, vs, ws, rfl, .inl (R2.sub.rd e1), .inl (R2.sub.rd f1), q _ s2 h2 _ H2 F2 R2 (E1.trans E2) (drive_zip e1 e3 f1 f3)⟩
          | _ => exact h2.elim
        | _ => exact h2.elim
      | _ => cases d' <;> exact h2.elim
    | _ => exact h2.elim⟩⟩⟩
/-! ### list comprehensions -/
@[simp] def wipeE (s : Env) : List Nat → Env
  | [] => s
  | v :: vs => (wipeE s vs).set v none
def PTsD (CA : Nat → Addr) (X : Cx) (ifs : List Expr) (den : TDen) : Prop := PTs X ifs (liftT CA den)
@[simp] def dYes : TDen := fun s P => P true s
theorem dts_nil : PTsD CA X [] dYes := ⟨fun pins s σ H Q I ⟨β, s', F, P, R, h, q⟩ => pts_nil.run pins s σ H Q I (q true s' h H F R .refl)⟩
theorem dts_one (h : DT CA X c ta) : PTsD CA X [c] ta := pts_one h.pt
/-- the slots of a block hold nothing of their own -/
def plainAt (s : Env) (vs : List Nat) : Prop := ∀ i ∈ vs, ∀ t ds, s[i]? ≠ some (some (.own t ds)) ∧ s[i]? ≠ some (some .bag)
def lcD (dG : GDen) (tt : TDen) (te : VDen) (vs : List Nat) (s0 : Env) : List D → List D → (List D → Prop) → Prop
  | [], acc, P => P acc
  | d :: ds, acc, P => dG d (wipeE s0 vs) fun s2 => tt s2 fun b s3 => if b = true then te s3 fun r s4 => wipeE s4 vs = wipeE s0 vs ∧ acc.length < 100000 ∧ lcD dG tt te vs s0 ds (acc ++ [r]) P
      else wipeE s3 vs = wipeE s0 vs ∧ lcD dG tt te vs s0 ds acc P
@[simp] def dLc (dI : IDen) (dG : GDen) (tt : TDen) (te : VDen) (vs : List Nat) : FDen := fun s P => dI s fun ds s0 => plainAt s0 vs ∧ lcD dG tt te vs s0 ds [] fun acc => P .lst acc s0
theorem wipe_get {σ : L2.St} {j : Nat} : ∀ {vs : List Nat}, (j ∈ vs → (wipe σ vs)[j]? = if j < σ.length then some none else none) ∧ (j ∉ vs → (wipe σ vs)[j]? = σ[j]?)
  | [] => ⟨fun h => (by cases h), fun _ => rfl⟩
  | v :: vs => by
    obtain ⟨i1, i2⟩ := wipe_get (σ := σ) (j := j) (vs := vs)
    unfold wipe
    by_cases q : v = j
    · subst q
      refine ⟨fun _ => ?_, fun h => (h List.mem_cons_self).elim⟩
      by_cases hl : v < σ.length
      · rw [if_pos hl, List.getElem?_set_self (by rw [wipe_length]; exact hl)]
      · rw [if_neg hl, List.getElem?_eq_none (by rw [List.length_set, wipe_length]; omega)]
    · rw [List.getElem?_set_ne q]
      exact ⟨fun h => i1 ((List.mem_cons.mp h).resolve_left fun z => q z.symm), fun h => i2 fun z => h (List.mem_cons_of_mem _ z)⟩
theorem wipeE_length (s : Env) : ∀ vs : List Nat, (wipeE s vs).length = s.length
  | [] => rfl
  | v :: vs => by unfold wipeE; rw [List.length_set, wipeE_length s vs]
theorem wipeE_get {s : Env} {j : Nat} : ∀ {vs : List Nat}, (j ∈ vs → ∀ x, (wipeE s vs)[j]? ≠ some (some x)) ∧ (j ∉ vs → (wipeE s vs)[j]? = s[j]?)
  | [] => ⟨fun h => (by cases h), fun _ => rfl⟩
  | v :: vs => by
    obtain ⟨i1, i2⟩ := wipeE_get (s := s) (j := j) (vs := vs)
    unfold wipeE
    by_cases q : v = j
    · subst q
      refine ⟨fun _ x z => ?_, fun h => (h List.mem_cons_self).elim⟩
      by_cases hl : v < s.length
      · rw [List.getElem?_set_self (by rw [wipeE_length]; exact hl)] at z
        cases z
      · rw [List.getElem?_eq_none (by rw [List.length_set, wipeE_length]; omega)] at z
        cases z
    · rw [List.getElem?_set_ne q]
      exact ⟨fun h => i1 ((List.mem_cons.mp h).resolve_left fun z => q z.symm), fun h => i2 fun z => h (List.mem_cons_of_mem _ z)⟩
theorem off_wipe {σ σ' : L2.St} {vs : List Nat} (h : Off vs σ σ') : wipe σ' vs = wipe σ vs := by
  refine List.ext_getElem? fun j => ?_
  by_cases q : j ∈ vs
  · rw [wipe_get.1 q, wipe_get.1 q, h.1]
  · rw [wipe_get.2 q, wipe_get.2 q]
    exact h.2 j q
theorem wipe_off {σ : L2.St} {vs : List Nat} : Off vs σ (wipe σ vs) := ⟨wipe_length σ vs, fun j q => wipe_get.2 q⟩
/-- into a block -/
theorem Rel.wiped {β : Beta} {s : Env} {σ : L2.St} {H F : Hp} (R : Rel CA β s σ H F) (vs : List Nat) : Rel CA β (wipeE s vs) (wipe σ vs) H F where
  sub := R.sub
  len := by rw [wipe_length, wipeE_length]; exact R.len
  val := fun i d e => by
    by_cases q : i ∈ vs
    · exact (wipeE_get.1 q _ e).elim
    · rw [wipeE_get.2 q] at e
      rw [wipe_get.2 q]
      exact R.val i d e
  own := fun i t ds e => by
    by_cases q : i ∈ vs
    · exact (wipeE_get.1 q _ e).elim
    · rw [wipeE_get.2 q] at e
      rw [wipe_get.2 q]
      exact R.own i t ds e
  inj := fun i j t ds u es a e1 e2 e3 e4 => by
    by_cases q : i ∈ vs
    · exact (wipeE_get.1 q _ e1).elim
    · by_cases q' : j ∈ vs
      · exact (wipeE_get.1 q' _ e2).elim
      · rw [wipeE_get.2 q] at e1
        rw [wipeE_get.2 q'] at e2
        rw [wipe_get.2 q] at e3
        rw [wipe_get.2 q'] at e4
        exact R.inj i j t ds u es a e1 e2 e3 e4
  bag := fun i e => by
    by_cases q : i ∈ vs
    · exact (wipeE_get.1 q _ e).elim
    · rw [wipeE_get.2 q] at e
      rw [wipe_get.2 q]
      exact R.bag i e
  bok := R.bok
theorem Owned.wiped {β : Beta} {s : Env} {σ : L2.St} {vs : List Nat} {b : Addr} (h : Owned β (wipeE s vs) (wipe σ vs) b) : Owned β s σ b := by
  rcases h with h | ⟨i, t, ds, e1, e2⟩
  · exact .inl h
  · by_cases q : i ∈ vs
    · exact (wipeE_get.1 q _ e1).elim
    · rw [wipeE_get.2 q] at e1
      rw [wipe_get.2 q] at e2
      exact .inr ⟨i, t, ds, e1, e2⟩
/-- out of a block's turn -/
theorem Rel.unwiped {β : Beta} {s s4 : Env} {σ σ2 : L2.St} {H F H4 F4 : Hp} {vs : List Nat} (R : Rel CA β s σ H F) (pl : plainAt s vs) (R4 : Rel CA β s4 σ2 H4 F4) (E4 : Ext β (wipeE s vs) (wipe σ vs) H F s4 σ2 H4 F4) (ho : Off vs (wipe σ vs) σ2) (hs : wipeE s4 vs = wipeE s vs) :
    Rel CA β s σ H4 F4 ∧ Ext β s σ H F s σ H4 F4 := by
  have hσ : ∀ i, i ∉ vs → σ2[i]? = σ[i]? := fun i q => (ho.2 i q).trans (wipe_get.2 q)
  have hE : ∀ i, i ∉ vs → s4[i]? = s[i]? := fun i q => by
    rw [← wipeE_get (vs := vs) |>.2 q, hs, wipeE_get.2 q]
  refine ⟨⟨R4.sub, R.len, fun i d e => ?_, fun i t ds e => ?_, R.inj, R.bag, R4.bok⟩, ⟨⟨E4.fz, fun b o e => ?_, fun b o e n => E4.xt.kp b o e fun z => n z.wiped, E4.xt.dm⟩, fun _ h => .inl h⟩⟩
  · obtain ⟨v, g1, g2⟩ := R.val i d e
    exact ⟨v, g1, g2.mono E4.fz⟩
  · by_cases q : i ∈ vs
    · exact ((pl i q t ds).1 e).elim
    · have e4 := e
      rw [← hE i q] at e4
      obtain ⟨a, ws, g1, g⟩ := R4.own i t ds e4
      rw [hσ i q] at g1
      exact ⟨a, ws, g1, g⟩
  · rcases E4.xt.nw b o e with z | z | z | z
    · exact .inl z
    · exact .inr (.inl z)
    · exact .inr (.inr (.inl z))
    · exact .inr (.inr (.inr z.wiped))
/-- an object that nobody knows changes -/
theorem Rel.tmp {β : Beta} {s : Env} {σ : L2.St} {H F : Hp} {p : Addr} {o : HO} (R : Rel CA β s σ H F) (hf : F p = none) (no : ¬ Owned β s σ p) : Rel CA β s σ (upd H p o) F where
  sub := fun b u e => by
    have n : b ≠ p := ne_of_none e hf
    rw [upd_ne n]
    exact R.sub b u e
  len := R.len
  val := R.val
  own := fun i t ds e => by
    obtain ⟨a, vs, e1, ⟨u, e2, e3⟩, e4⟩ := R.own i t ds e
    have n : a ≠ p := fun z => by subst z; exact no (R.at_ne e e1)
    exact ⟨a, vs, e1, ⟨u, by rw [upd_ne n]; exact e2, e3⟩, e4⟩
  inj := R.inj
  bag := R.bag
  bok := fun b e => by
    obtain ⟨k1, k2⟩ := R.bok b e
    have n : b ≠ p := fun z => by subst z; exact no (.inl e)
    exact ⟨k1.mono (by rw [upd_ne n]) (fun _ _ z => z), k2⟩
theorem Ext.tmp {β : Beta} {s s' : Env} {σ σ' : L2.St} {H F H' F' : Hp} {p : Addr} {o : HO} (E : Ext β s σ H F s' σ' H' F') (h : H p = none) : Ext β s σ H F s' σ' (upd H' p o) F' where
  xt := ⟨E.xt.fz, E.xt.nw, fun b u e n => by
    have ne : b ≠ p := ne_of_none e h
    rw [upd_ne ne]
    exact E.xt.kp b u e n, fun b e => by
    by_cases q : b = p
    · rw [q]; exact h
    · rw [upd_ne q] at e; exact E.xt.dm b e⟩
  ow := E.ow
theorem lc_w {ws vs : List Nat} {dI : IDen} {tt : TDen} {te : VDen} (hsub : ∀ j ∈ ws, j ∈ vs) {σ : L2.St} {H : Hp} {Q : VK} (h : liftF CA (dLc dI dG tt te vs) σ H Q) : tLc (liftI CA dI) (liftG CA ws dG) (liftT CA tt) (liftV CA te) vs σ H Q := by
  obtain ⟨β, s, F, P, R, h, q⟩ := h
  refine ⟨β, s, F, _, R, h, fun ds s0 ⟨pl, h0⟩ J H0 F0 R0 E0 dr A hA => ?_⟩
  -- the new list at A
  have hA0 : H A = none := E0.dm hA
  refine ⟨fun i m H1 => m = ds.length - i ∧ i ≤ ds.length ∧ ∃ F1 acc vacc, Rel CA β s0 σ H1 F1 ∧ Ext β s0 σ H0 F0 s0 σ H1 F1 ∧ H1 A = some (.lst vacc) ∧ Reps CA F1 acc vacc ∧ F1 A = none ∧ lcD dG tt te vs s0 (ds.drop i) acc fun acc => P .lst acc s0,
    ⟨ds.length, by simp, Nat.zero_le _, F0, [], [], R0.new hA, .new hA, upd_same, reps_nil, R0.sub.free hA, h0⟩, fun i m H1 ⟨em, hi, F1, acc, vacc, R1, E1, a1, a2, a3, h1⟩ => ?_⟩
  have noA : ¬ Owned β s0 σ A := R0.noown hA
  obtain ⟨d1, d2⟩ := dr i H1 F1 R1.sub E1.fz (E1.frzs R0)
  by_cases hl : i < ds.length
  · right
    have hd : ds[i]? = some ds[i] := List.getElem?_eq_getElem hl
    obtain ⟨g1, g2⟩ := d1 _ hd
    have e0 : ds.drop i = ds[i] :: ds.drop (i + 1) := List.drop_eq_getElem_cons hl
    rw [e0] at h1
    refine ⟨g1, fun H3 => ∃ F3 acc vacc, Rel CA β s0 σ H3 F3 ∧ Ext β s0 σ H0 F0 s0 σ H3 F3 ∧ H3 A = some (.lst vacc) ∧ Reps CA F3 acc vacc ∧ F3 A = none ∧ lcD dG tt te vs s0 (ds.drop (i + 1)) acc fun acc => P .lst acc s0,
      fun H' z => ⟨ds.length - (i + 1), by omega, rfl, hl, z⟩, fun x H2 y => ?_⟩
    obtain ⟨F2, f1, f2, f3, f4, f5, f6⟩ := g2 x H2 y
    obtain ⟨R2, E2⟩ := R1.drive f1 f2 f3 f4 f5
    have a1' : H2 A = some (.lst vacc) := f3 _ _ a1
    have a3' : F2 A = none := (E2.stays R2.sub a1 noA a3 (fun xs z => by cases z)).2.1
    have Rw := R2.wiped vs
    have noAw : ¬ Owned β (wipeE s0 vs) (wipe σ vs) A := fun z => noA z.wiped
    refine ⟨β, _, F2, _, _, Rw, f6, h1, fun s3 h3 σ3 H3 F3 R3 E3 o3 => ⟨off_wipe ((wipe_off (σ := σ)).trans o3 |>.mono fun j hj => ?_), β, s3, F3, _, R3, h3, fun b s4 h4 H4 F4 R4 E4 => ?_⟩⟩
    · rcases List.mem_append.mp hj with z | z
      · exact z
      · exact hsub j z
    have o3' : Off vs (wipe σ vs) σ3 := o3.mono hsub
    have E34 := E3.trans E4
    cases b with
    | false =>
      simp only [Bool.false_eq_true, if_false] at h4 ⊢
      obtain ⟨hw, h5⟩ := h4
      obtain ⟨R5, E5⟩ := R2.unwiped pl R4 E34 o3' hw
      obtain ⟨t1, t2, t3⟩ := E34.stays R4.sub a1' noAw a3' (fun xs z => by cases z)
      exact ⟨F4, acc, vacc, R5, (E1.trans E2).trans E5, t1, a2.mono (E2.trans E5).fz, t2, h5⟩
    | true =>
      simp only [if_true] at h4 ⊢
      refine ⟨β, s4, F4, _, R4, h4, fun r s5 h5 z H5 F5 R5 E5 r5 => ?_⟩
      obtain ⟨hw, hz, h6⟩ := h5
      have E35 := E34.trans E5
      obtain ⟨R6, E6⟩ := R2.unwiped pl R5 E35 o3' hw
      obtain ⟨t1, t2, t3⟩ := E35.stays R5.sub a1' noAw a3' (fun xs z => by cases z)
      have hlen : vacc.length < sizeLine := by rw [← a2.length]; exact line5 hz
      exact ⟨vacc, t1, hlen, F5, acc ++ [r], vacc ++ [z], R6.tmp t2 noA, ((E1.trans E2).trans E6).tmp hA, upd_same, (a2.mono (E2.trans E6).fz).append (reps_one r5), t2, h6⟩
  · left
    have e0 : ds[i]? = none := List.getElem?_eq_none (by omega)
    have e1 : ds.drop i = [] := List.drop_eq_nil_of_le (by omega)
    rw [e1] at h1
    exact ⟨d2 e0, q .lst acc s0 h1 A vacc H1 F1 R1 (E0.trans E1) ⟨_, a1, rfl⟩ a2 a3 hA0 noA True.intro⟩
theorem df_lc {ws vs : List Nat} {elt tg iter : Expr} {ifs : List Expr} {scope : Scope} {own : List (Str × Nat)} {dI : IDen} {tt : TDen} {te : VDen} (hc : X.calm = true) (hN : X.N.Nodup) (hi : DI CA X tg iter dI) (ok : BlkOk X.N X.env.scope scope own) (hv : own.map (·.2) = vs) (hsub : ∀ j ∈ ws, j ∈ vs)
    (hg : ∀ (s : Shared) (H : Hp) (C : Addr) (cl : List (Str × Addr)) (fp : List Addr), DG CA (X.blk s H scope (compEnvC scope cl C X.env) fp) tg ws dG) (ht : ∀ (s : Shared) (H : Hp) (C : Addr) (cl : List (Str × Addr)) (fp : List Addr), PTsD CA (X.blk s H scope (compEnvC scope cl C X.env) fp) ifs tt)
    (he : ∀ (s : Shared) (H : Hp) (C : Addr) (cl : List (Str × Addr)) (fp : List Addr), DV CA (X.blk s H scope (compEnvC scope cl C X.env) fp) elt te) (hs : ∀ x, foldedSetIterable iter X.env x = pure x := by intro _; rfl) :
    DF CA X (.ListComp elt [⟨tg, iter, ifs, 0⟩] scope pos) (dLc dI dG tt te vs) := by
  subst hv
  exact ⟨pe_w (pe_lc hc hN hi.pi ok (fun s H C cl fp => (hg s H C cl fp).pg) ht (fun s H C cl fp => (he s H C cl fp).pe) hs) fun _ _ _ h => lc_w hsub h⟩
/-- name = [..], the list the name's own, or frozen -/
theorem ds_setLcO {ws vs : List Nat} {y : Str} {py spos : Pos} {elt tg iter : Expr} {ifs : List Expr} {scope : Scope} {own : List (Str × Nat)} {dI : IDen} {tt : TDen} {te : VDen} (hc : X.calm = true) (hN : X.N.Nodup) (hi : DI CA X tg iter dI) (ok : BlkOk X.N X.env.scope scope own) (hv : own.map (·.2) = vs) (hsub : ∀ j ∈ ws, j ∈ vs)
    (hg : ∀ (s : Shared) (H : Hp) (C : Addr) (cl : List (Str × Addr)) (fp : List Addr), DG CA (X.blk s H scope (compEnvC scope cl C X.env) fp) tg ws dG) (ht : ∀ (s : Shared) (H : Hp) (C : Addr) (cl : List (Str × Addr)) (fp : List Addr), PTsD CA (X.blk s H scope (compEnvC scope cl C X.env) fp) ifs tt)
    (he : ∀ (s : Shared) (H : Hp) (C : Addr) (cl : List (Str × Addr)) (fp : List Addr), DV CA (X.blk s H scope (compEnvC scope cl C X.env) fp) elt te) (hy : X.N[i]? = some y := by rfl) (hyl : X.env.scope.names.lookup y = some .local := by rfl)
    (hsw : swapsWith (.ListComp elt [⟨tg, iter, ifs, 0⟩] scope pos) (some (.Name y py)) spos.line X.env = pure true := by exact sw_true rfl rfl rfl (by decide +kernel)) (hs : ∀ x, foldedSetIterable iter X.env x = pure x := by intro _; rfl) :
    DS CA X (.Assign [.Name y py] (.ListComp elt [⟨tg, iter, ifs, 0⟩] scope pos) spos) (dSetO i (dLc dI dG tt te vs)) := by
  subst hv
  exact ⟨ps_w (ps_setLc hc hN hy hyl hsw hi.pi ok (fun s H C cl fp => (hg s H C cl fp).pg) ht (fun s H C cl fp => (he s H C cl fp).pe) hs) fun D σ H ⟨β, s, F, E, R, h, q⟩ =>
  lc_w hsub ⟨β, s, F, _, R, h, fun t ds s1 h1 a vs H1 F1 R1 E1 z1 z2 z3 z4 z5 z6 => q.nx _ h1 _ H1 F1 (R1.setO i z1 z2 z3 z5 z6) (E1.setO R1.len z4)⟩⟩
theorem ds_setLc {ws vs : List Nat} {y : Str} {py spos : Pos} {elt tg iter : Expr} {ifs : List Expr} {scope : Scope} {own : List (Str × Nat)} {dI : IDen} {tt : TDen} {te : VDen} (hc : X.calm = true) (hN : X.N.Nodup) (hi : DI CA X tg iter dI) (ok : BlkOk X.N X.env.scope scope own) (hv : own.map (·.2) = vs) (hsub : ∀ j ∈ ws, j ∈ vs)
    (hg : ∀ (s : Shared) (H : Hp) (C : Addr) (cl : List (Str × Addr)) (fp : List Addr), DG CA (X.blk s H scope (compEnvC scope cl C X.env) fp) tg ws dG) (ht : ∀ (s : Shared) (H : Hp) (C : Addr) (cl : List (Str × Addr)) (fp : List Addr), PTsD CA (X.blk s H scope (compEnvC scope cl C X.env) fp) ifs tt)
    (he : ∀ (s : Shared) (H : Hp) (C : Addr) (cl : List (Str × Addr)) (fp : List Addr), DV CA (X.blk s H scope (compEnvC scope cl C X.env) fp) elt te) (hy : X.N[i]? = some y := by rfl) (hyl : X.env.scope.names.lookup y = some .local := by rfl)
    (hsw : swapsWith (.ListComp elt [⟨tg, iter, ifs, 0⟩] scope pos) (some (.Name y py)) spos.line X.env = pure true := by exact sw_true rfl rfl rfl (by decide +kernel)) (hs : ∀ x, foldedSetIterable iter X.env x = pure x := by intro _; rfl) :
    DS CA X (.Assign [.Name y py] (.ListComp elt [⟨tg, iter, ifs, 0⟩] scope pos) spos) (dSet i (dFz (dLc dI dG tt te vs))) := by
  subst hv
  exact ⟨ps_w (ps_setLc hc hN hy hyl hsw hi.pi ok (fun s H C cl fp => (hg s H C cl fp).pg) ht (fun s H C cl fp => (he s H C cl fp).pe) hs) fun D σ H ⟨β, s, F, E, R, h, q⟩ =>
  lc_w hsub (liftFz ⟨β, s, F, _, R, h, fun d s1 h1 v H1 F1 R1 E1 r1 => q.nx _ h1 _ H1 F1 (R1.setV i r1) (E1.trans (.setV R1.len))⟩)⟩
end
end Dl
end

section
set_option Elab.async false
set_option linter.all false
set_option maxRecDepth 100000
set_option maxHeartbeats 4000000
/-! The data layer, part 9: a def by its body. -/
namespace Dl
open PySem PySem.Spec PyProof.Rows L2

@[simp] def Arg.slot : Arg → Slot
  | .val d => .val d
  | .bag => .bag
@[simp] def envOf (N : List Str) (as : List Arg) : Env := as.map (fun a => some a.slot) ++ List.replicate (N.length - as.length) none
section
variable {P : Program} {w : World} {K : PySem.W.Frag} {mg : Str → Option Value} {base : Heap} {CA : Nat → Addr} {n k c : Nat} {β : Beta} {H F : Hp}
theorem RepAs.get : ∀ {as : List Arg} {vs : List V} {i : Nat} {a : Arg}, RepAs CA β F as vs → as[i]? = some a → ∃ v, vs[i]? = some v ∧ RepA CA β F a v
  | [], _, _, _, _, e => by simp at e
  | a :: as, vs, 0, _, ⟨v, r, e1, e2, e3⟩, e => by
    simp at e
    subst e e1
    exact ⟨v, rfl, e2⟩
  | a :: as, vs, i + 1, _, ⟨v, r, e1, e2, e3⟩, e => by
    subst e1
    obtain ⟨u, h3, h4⟩ := RepAs.get (i := i) e3 (by simpa using e)
    exact ⟨u, by simpa using h3, h4⟩
theorem env_get {N : List Str} {as : List Arg} {i : Nat} {x : Slot} (h : (envOf N as)[i]? = some (some x)) : ∃ a, as[i]? = some a ∧ x = a.slot := by
  unfold envOf at h
  rw [List.getElem?_append] at h
  split at h
  · rw [List.getElem?_map] at h
    cases q : as[i]? with
    | none => rw [q] at h; cases h
    | some a =>
      rw [q] at h
      cases h
      exact ⟨a, rfl, rfl⟩
  · rw [List.getElem?_replicate] at h
    split at h <;> cases h
theorem start_get {N : List Str} {vs : List V} {i : Nat} {v : V} (h : vs[i]? = some v) : (L2.start N vs)[i]? = some (some v) := by
  unfold L2.start
  rw [List.getElem?_append]
  have hl : i < vs.length := (List.getElem?_eq_some_iff.mp h).1
  rw [if_pos (by rw [List.length_map]; exact hl), List.getElem?_map, h]
  rfl
/-- a body's entry -/
theorem rel_start {N : List Str} {as : List Arg} {vs : List V} (hl : as.length ≤ N.length) (sub : Sub F H) (bok : BOk β H F) (r : RepAs CA β F as vs) : Rel CA β (envOf N as) (L2.start N vs) H F where
  sub := sub
  len := by
    unfold L2.start envOf
    rw [List.length_append, List.length_append, List.length_map, List.length_map, List.length_replicate, List.length_replicate, r.length]
  val := fun i d e => by
    obtain ⟨a, e1, e2⟩ := env_get e
    obtain ⟨v, e3, e4⟩ := r.get e1
    cases a with
    | val d' => cases e2; exact ⟨v, start_get e3, e4⟩
    | bag => cases e2
  own := fun i t ds e => by
    obtain ⟨a, e1, e2⟩ := env_get e
    cases a <;> cases e2
  inj := fun i j t ds u es a e => by
    obtain ⟨a, e1, e2⟩ := env_get e
    cases a <;> cases e2
  bag := fun i e => by
    obtain ⟨a, e1, e2⟩ := env_get e
    obtain ⟨v, e3, e4⟩ := r.get e1
    cases a with
    | val d' => cases e2
    | bag =>
      obtain ⟨b, e5, e6⟩ := e4
      subst e6
      exact ⟨b, e5, start_get e3⟩
  bok := bok
theorem XT.mono {M M' : Addr → Prop} {H F H' F' : Hp} (x : XT M H F H' F') (h : ∀ b, M b → M' b) : XT M' H F H' F' :=
  ⟨x.fz, fun b o e => (x.nw b o e).imp id (Or.imp id (Or.imp id (h b))), fun b o e n => x.kp b o e fun z => n (h b z), x.dm⟩
theorem start_owned {N : List Str} {as : List Arg} {vs : List V} {b : Addr} (h : Owned β (envOf N as) (L2.start N vs) b) : isB β b := by
  rcases h with h | ⟨i, t, ds, e1, _⟩
  · exact h
  · obtain ⟨a, e3, e2⟩ := env_get e1
    cases a <;> cases e2
/-- the body's meaning keeps the contract -/
def Keeps (N : List Str) (n : Nat) (C : Con) (den : SDen) : Prop := ∀ as Pp, as.length = n → C as Pp → den (envOf N as) { nx := fun _ => Pp .non, rt := Pp }
def KeepsF (N : List Str) (n : Nat) (C : ConF) (den : SDen) : Prop := ∀ as Pp, as.length = n → C as Pp → den (envOf N as) { nx := fun _ => False, rt := fun _ => False, rf := Pp }
/-- a def's promise by its body -/
theorem fn_D {C : Con} {N ps : List Str} {x qual : Str} {st : Stmt} {f : Addr} {fd : FuncData} {den : SDen} (F : FunD K x qual (defArgs st) (defBody st) (defScope st) [] [] f fd) (S : FnScope N ps (defScope st)) (hn : ps.length = n) (hN : n ≤ N.length)
    (hb : ∀ (cdv : Value) (A : Around) (outer : List PySem.Env) (s : Shared) (H : Hp) (E : XK), Room k (A.deeper (envOfC qual (defScope st) s.heap.objs.size f cdv)) → DSs CA (cxOf CX0 P w K mg base N qual (defScope st) f cdv A outer s H E).nox (defBody st) den)
    (hC : Keeps N n C den) : FnOk P w K mg base CX0 (k + 1) f fd ps (spD CA n C) := by
  refine F.ok S (fun vs H Q E h => (spD_len h).trans hn.symm) fun cdv A outer s H vs Q E hr h => ⟨_, (hb cdv A outer s H E hr).ps.nox, ?_⟩
  obtain ⟨β, F0, as, Pp, sub, bok, r, hl, hc, q⟩ := h
  refine ⟨β, envOf N as, F0, _, rel_start (by rw [hl]; exact hN) sub bok r, hC as Pp hl hc, ⟨fun s' hp σ' H' F' R' E' => ?_, fun d hp v H' F' x sub' bok' rv => ?_, fun t ds z => z.elim, fun s' z => z.elim, fun s' z => z.elim⟩⟩
  · exact q .non hp .non H' F' (E'.xt.mono fun b z => start_owned z) R'.sub R'.bok rep_non
  · exact q d hp v H' F' (x.mono fun b z => start_owned z) sub' bok' rv
/-- .. that hands back an object of its own -/
theorem fn_F {C : ConF} {N ps : List Str} {x qual : Str} {st : Stmt} {f : Addr} {fd : FuncData} {den : SDen} (F : FunD K x qual (defArgs st) (defBody st) (defScope st) [] [] f fd) (S : FnScope N ps (defScope st)) (hn : ps.length = n) (hN : n ≤ N.length)
    (hb : ∀ (cdv : Value) (A : Around) (outer : List PySem.Env) (s : Shared) (H : Hp) (E : XK), Room k (A.deeper (envOfC qual (defScope st) s.heap.objs.size f cdv)) → DSs CA (cxOf CX0 P w K mg base N qual (defScope st) f cdv A outer s H E).nox (defBody st) den)
    (hC : KeepsF N n C den) : FnOk P w K mg base CX0 (k + 1) f fd ps (spF CA n C) := by
  refine F.ok S (fun vs H Q E h => (spF_len h).trans hn.symm) fun cdv A outer s H vs Q E hr h => ⟨_, (hb cdv A outer s H E hr).ps.nox, ?_⟩
  obtain ⟨β, F0, as, Pp, sub, bok, r, hl, hc, q⟩ := h
  refine ⟨β, envOf N as, F0, _, rel_start (by rw [hl]; exact hN) sub bok r, hC as Pp hl hc, ⟨fun s' hp => hp.elim, fun d hp => hp.elim, fun t ds hp a vs H' F' x sub' bok' z1 z2 z3 z4 z5 z6 => ?_, fun s' z => z.elim, fun s' z => z.elim⟩⟩
  refine q t ds hp a vs H' F' (x.mono fun b z => start_owned z) sub' bok' z1 z2 z3 z4 ?_
  rcases z6 with z | z
  · exact z
  · exact (z5 (start_owned z)).elim
/-- an __init__: the slot 0 owns the new instance -/
@[simp] def envI (c : Nat) (N : List Str) (as : List Arg) : Env := some (.own (.ins c []) []) :: (as.map (fun a => some a.slot) ++ List.replicate (N.length - (as.length + 1)) none)
@[simp] def nxI (c : Nat) (Pp : List Str → List D → Prop) : Env → Prop := fun s' => match s' with
  | some (.own (.ins c' ns) ds) :: _ => c' = c ∧ Pp ns ds
  | _ => False
def KeepsI (c : Nat) (N : List Str) (n : Nat) (C : ConI) (den : SDen) : Prop := ∀ as Pp, as.length + 1 = n → C as Pp → den (envI c N as) { nx := nxI c Pp, rt := fun _ => False }
theorem bag2 {β : Beta} {y : Option Addr} {H F : Hp} (b : BOk β H F) : BOk (β.1, y) H F := fun a e => b a e
theorem RepAs.beta {β β' : Beta} (h : β'.1 = β.1) : ∀ {as : List Arg} {vs : List V}, RepAs CA β F as vs → RepAs CA β' F as vs
  | [], _, e => e
  | .val d :: as, _, ⟨v, r, e1, e2, e3⟩ => ⟨v, r, e1, e2, RepAs.beta h e3⟩
  | .bag :: as, _, ⟨v, r, e1, ⟨b, e4, e5⟩, e3⟩ => ⟨v, r, e1, ⟨b, by unfold isB; rw [h]; exact e4, e5⟩, RepAs.beta h e3⟩
theorem envI_get {N : List Str} {as : List Arg} {i : Nat} {x : Slot} (h : (envI c N as)[i]? = some (some x)) : (i = 0 ∧ x = .own (.ins c []) []) ∨ ∃ a j, i = j + 1 ∧ as[j]? = some a ∧ x = a.slot := by
  cases i with
  | zero => unfold envI at h; simp at h; exact .inl ⟨rfl, h.symm⟩
  | succ j =>
    right
    unfold envI at h
    rw [List.getElem?_cons_succ, List.getElem?_append] at h
    split at h
    · rw [List.getElem?_map] at h
      cases q : as[j]? with
      | none => rw [q] at h; cases h
      | some a =>
        rw [q] at h
        cases h
        exact ⟨a, j, rfl, q, rfl⟩
    · rw [List.getElem?_replicate] at h
      split at h <;> cases h
theorem fn_I {C : ConI} {N ps : List Str} {x qual : Str} {st : Stmt} {f : Addr} {fd : FuncData} {den : SDen} (F : FunD K x qual (defArgs st) (defBody st) (defScope st) [] [] f fd) (S : FnScope N ps (defScope st)) (hn : ps.length = n) (hN : n ≤ N.length)
    (hb : ∀ (cdv : Value) (A : Around) (outer : List PySem.Env) (s : Shared) (H : Hp) (E : XK), Room k (A.deeper (envOfC qual (defScope st) s.heap.objs.size f cdv)) → DSs CA (cxOf CX0 P w K mg base N qual (defScope st) f cdv A outer s H E).nox (defBody st) den)
    (hC : KeepsI c N n C den) : FnOk P w K mg base CX0 (k + 1) f fd ps (spI CA c n C) := by
  refine F.ok S (fun vs H Q E h => (spI_len h).trans hn.symm) fun cdv A outer s H vs Q E hr h => ⟨_, (hb cdv A outer s H E hr).ps.nox, ?_⟩
  obtain ⟨β, F0, as, Pp, x, dx, rest, rfl, hx, hf, nb, sub, bok, r, hl, hc, q⟩ := h
  have r' : RepAs CA (β.1, some x) F0 as rest := RepAs.beta (β := β) (β' := (β.1, some x)) rfl r
  have ow : ∀ b, Owned (β.1, some x) (envI c N as) (L2.start N (.ref x :: rest)) b → isB β b ∨ b = x := fun b z => by
    rcases z with z | ⟨i, t, ds, e1, e2⟩
    · exact .inl z
    · rcases envI_get e1 with ⟨rfl, _⟩ | ⟨a, j, _, _, e3⟩
      · have e4 : (L2.start N (.ref x :: rest))[0]? = some (some (.ref x)) := start_get rfl
        rw [e4] at e2
        cases e2
        exact .inr rfl
      · cases a <;> cases e3
  refine ⟨(β.1, some x), envI c N as, F0, _, ⟨sub, ?_, fun i d e => ?_, fun i t ds e => ?_, fun i j t ds u es a e1 e2 _ _ => ?_, fun i e => ?_, bag2 bok⟩, hC as Pp hl hc, ⟨fun s' hp σ' H' F' R' E' => ?_, fun d hp => hp.elim, fun t ds z => z.elim, fun s' z => z.elim, fun s' z => z.elim⟩⟩
  · unfold L2.start envI
    simp only [List.length_append, List.length_cons, List.length_map, List.length_replicate, r.length]
    omega
  · rcases envI_get e with ⟨_, e1⟩ | ⟨a, j, rfl, e1, e2⟩
    · cases e1
    · obtain ⟨v, e3, e4⟩ := r'.get e1
      cases a with
      | val d' => cases e2; exact ⟨v, start_get (by rw [List.getElem?_cons_succ]; exact e3), e4⟩
      | bag => cases e2
  · rcases envI_get e with ⟨rfl, e1⟩ | ⟨a, j, rfl, e1, e2⟩
    · cases e1
      exact ⟨x, [], start_get rfl, ⟨_, hx, dx, [], rfl, rfl, rfl⟩, reps_nil, hf, nb, rfl⟩
    · cases a <;> cases e2
  · rcases envI_get e1 with ⟨e3, _⟩ | ⟨a, j, _, _, e3⟩
    · rcases envI_get e2 with ⟨e4, _⟩ | ⟨a, j, _, _, e4⟩
      · exact e3.trans e4.symm
      · cases a <;> cases e4
    · cases a <;> cases e3
  · rcases envI_get e with ⟨_, e1⟩ | ⟨a, j, rfl, e1, e2⟩
    · cases e1
    · obtain ⟨v, e3, e4⟩ := r'.get e1
      cases a with
      | val d' => cases e2
      | bag =>
        obtain ⟨b, e5, e6⟩ := e4
        subst e6
        exact ⟨b, e5, start_get (by rw [List.getElem?_cons_succ]; exact e3)⟩
  · replace hp : nxI c Pp s' := hp
    unfold nxI at hp
    split at hp
    · next c' ns ds tl =>
      obtain ⟨rfl, hp⟩ := hp
      have e0 : (some (Slot.own (.ins c' ns) ds) :: tl)[0]? = some (some (.own (.ins c' ns) ds)) := rfl
      obtain ⟨a, vs, e1, e2, e3, e4, e5, e6⟩ := R'.own 0 _ _ e0
      have ea : x = a := Option.some.inj e6
      subst ea
      exact q ns ds hp vs H' F' (E'.xt.mono ow) R'.sub (fun b z => R'.bok b z) e2 e3 e4
    · exact hp.elim
end
/-! ### loops and comprehensions by what they keep -/
theorem forD_by {dG : GDen} {dS : SDen} {E : DEnds} (I : Nat → Env → Prop) : ∀ (ds : List D) (k : Nat) (s : Env), I k s →
    (∀ (i : Nat) (d : D) (s : Env) (Kk : Env → Prop), ds[i]? = some d → I (k + i) s → (∀ s', I (k + i + 1) s' → Kk s') → dG d s fun s1 => dS s1 { E with nx := Kk, ct := Kk, bk := E.nx }) → (∀ s, I (k + ds.length) s → E.nx s) → forD dG dS ds s E
  | [], k, s, h0, _, he => he s h0
  | d :: ds, k, s, h0, hs, he => by
    refine hs 0 d s _ rfl h0 fun s' h' => ?_
    refine forD_by I ds (k + 1) s' h' (fun i e t Kk h1 h2 h3 => ?_) fun t h => he t ?_
    · refine hs (i + 1) e t Kk (by simpa using h1) ?_ fun s2 h4 => h3 s2 ?_
      · rw [show k + (i + 1) = k + 1 + i by omega]; exact h2
      · rw [show k + 1 + i + 1 = k + (i + 1) + 1 by omega]; exact h4
    · rw [List.length_cons, show k + (ds.length + 1) = k + 1 + ds.length by omega]; exact h
/-- for: I by the number of turns done -/
theorem for_by {dG : GDen} {dS : SDen} {E : DEnds} {ds : List D} {s : Env} (I : Nat → Env → Prop) (h0 : I 0 s)
    (hs : ∀ (i : Nat) (d : D) (s : Env) (Kk : Env → Prop), ds[i]? = some d → I i s → (∀ s', I (i + 1) s' → Kk s') → dG d s fun s1 => dS s1 { E with nx := Kk, ct := Kk, bk := E.nx }) (he : ∀ s, I ds.length s → E.nx s) : forD dG dS ds s E :=
  forD_by I ds 0 s h0 (fun i d s Kk h1 h2 h3 => hs i d s Kk h1 (by rw [Nat.zero_add] at h2; exact h2) fun s' h => h3 s' (by rw [Nat.zero_add]; exact h)) fun s h => he s (by rw [Nat.zero_add] at h; exact h)
/-- while: I by a number that falls -/
theorem while_dby {ta : TDen} {dS : SDen} {E : DEnds} {s : Env} (I : Nat → Env → Prop) (n : Nat) (h0 : I n s)
    (hs : ∀ (n : Nat) (s : Env) (Kk : Env → Prop), I n s → (∀ m s', m < n → I m s' → Kk s') → ta s fun c s1 => if c = true then dS s1 { E with nx := Kk, ct := Kk, bk := E.nx } else E.nx s1) : dWhile ta dS s E := by
  have key : ∀ (fuel n : Nat) (s : Env), n < fuel → I n s → whileD ta dS fuel s E := by
    intro fuel
    induction fuel with
    | zero => intro n s h; exact absurd h (Nat.not_lt_zero _)
    | succ fuel ih =>
      intro n s h h1
      exact hs n s _ h1 fun m s' hm h2 => ih m s' (by omega) h2
  exact ⟨n + 1, key (n + 1) n s (Nat.lt_succ_self n) h0⟩
/-- a comprehension: what each item may give -/
theorem lcD_rel {dG : GDen} {tt : TDen} {te : VDen} {vs : List Nat} {s0 : Env} (R : D → Option D → Prop) : ∀ (ds acc : List D) (P : List D → Prop), acc.length + ds.length ≤ 100000 →
    (∀ d ∈ ds, ∀ Kk : Option D → Prop, (∀ o, R d o → Kk o) → dG d (wipeE s0 vs) fun s2 => tt s2 fun b s3 => if b = true then te s3 fun r s4 => wipeE s4 vs = wipeE s0 vs ∧ Kk (some r) else wipeE s3 vs = wipeE s0 vs ∧ Kk none) →
    (∀ outs : List (Option D), outs.length = ds.length → (∀ (i : Nat) (d : D) (o : Option D), ds[i]? = some d → outs[i]? = some o → R d o) → P (acc ++ outs.filterMap id)) → lcD dG tt te vs s0 ds acc P
  | [], acc, P, _, _, h => by
    have := h [] rfl (fun i d o e => by simp at e)
    simpa [lcD] using this
  | d :: ds, acc, P, hl, hs, h => by
    rw [List.length_cons] at hl
    unfold lcD
    have key : ∀ (o : Option D), R d o → match o with
        | some r => acc.length < 100000 ∧ lcD dG tt te vs s0 ds (acc ++ [r]) P
        | none => lcD dG tt te vs s0 ds acc P := fun o ho => by
      cases o with
      | none =>
        refine lcD_rel R ds acc P (by omega) (fun d hd => hs d (List.mem_cons_of_mem _ hd)) fun outs h1 h2 => ?_
        have := h (none :: outs) (by simp [h1]) fun i e u q1 q2 => by
          cases i with
          | zero => simp at q1 q2; subst q1 q2; exact ho
          | succ i => exact h2 i e u (by simpa using q1) (by simpa using q2)
        simpa using this
      | some r =>
        refine ⟨by omega, lcD_rel R ds (acc ++ [r]) P (by rw [List.length_append, List.length_singleton]; omega) (fun d hd => hs d (List.mem_cons_of_mem _ hd)) fun outs h1 h2 => ?_⟩
        have := h (some r :: outs) (by simp [h1]) fun i e u q1 q2 => by
          cases i with
          | zero => simp at q1 q2; subst q1 q2; exact ho
          | succ i => exact h2 i e u (by simpa using q1) (by simpa using q2)
        simpa using this
    exact hs d List.mem_cons_self (fun o => match o with
      | some r => acc.length < 100000 ∧ lcD dG tt te vs s0 ds (acc ++ [r]) P
      | none => lcD dG tt te vs s0 ds acc P) key
/-- .. by a function -/
theorem lcD_by {dG : GDen} {tt : TDen} {te : VDen} {vs : List Nat} {s0 : Env} (f : D → Option D) {ds : List D} {P : List D → Prop} (hl : ds.length ≤ 100000)
    (hs : ∀ d ∈ ds, ∀ Kk : Option D → Prop, Kk (f d) → dG d (wipeE s0 vs) fun s2 => tt s2 fun b s3 => if b = true then te s3 fun r s4 => wipeE s4 vs = wipeE s0 vs ∧ Kk (some r) else wipeE s3 vs = wipeE s0 vs ∧ Kk none)
    (h : P (ds.filterMap f)) : lcD dG tt te vs s0 ds [] P := by
  refine lcD_rel (fun d o => o = f d) ds [] P (by simpa using hl) (fun d hd Kk hk => hs d hd Kk (hk _ rfl)) fun outs h1 h2 => ?_
  have e : outs = ds.map f := by
    refine List.ext_getElem? fun i => ?_
    rw [List.getElem?_map]
    cases q : ds[i]? with
    | none =>
      have := List.getElem?_eq_none_iff.mp q
      rw [List.getElem?_eq_none (by omega)]
      rfl
    | some d =>
      have hi : i < outs.length := by rw [h1]; exact (List.getElem?_eq_some_iff.mp q).1
      rw [List.getElem?_eq_getElem hi]
      have := h2 i d outs[i] q (List.getElem?_eq_getElem hi)
      rw [this]
      rfl
  rw [e, List.nil_append, List.filterMap_map]
  exact h
@[simp] theorem atI_0 {α : Type} (a : α) (l : List α) : atI (a :: l) 0 = some a := by
  unfold atI ixN
  simp
@[simp] theorem atI_1 {α : Type} (a b : α) (l : List α) : atI (a :: b :: l) 1 = some b := by
  unfold atI ixN
  have h : (1 : Int) < ((a :: b :: l).length : Nat) := by simp only [List.length_cons]; omega
  rw [if_pos (by decide), if_pos h]
  rfl
theorem atI_n {α : Type} (l : List α) (j : Nat) : atI l (j : Int) = l[j]? := by
  unfold atI ixN
  rw [if_pos (by omega)]
  by_cases h : j < l.length
  · rw [if_pos (by omega)]
    simp
  · rw [if_neg (by omega), List.getElem?_eq_none (by omega)]
    rfl
end Dl
end

section
set_option Elab.async false
set_option linter.all false
set_option maxRecDepth 100000
set_option maxHeartbeats 4000000
/-! The data layer, part 10: constants of the module, more operators. -/
namespace Dl
open PySem PySem.Spec PyProof.Rows L2

section
variable {CA : Nat → Addr} {X : Cx} {a b c e o : Expr} {es : List Expr} {st : Stmt} {sts rest : List Stmt} {pos p apos : Pos} {da db dc : VDen} {dA : ADen} {ta tb : TDen} {dF : FDen} {dS dT : SDen} {dG : GDen} {n k i : Nat}
theorem dv_gint {x : Str} {i : Int} (h : ∃ t, X.mg x = some (.int i t)) (hg : Gl X x := by rfl) (hd : (x == ("__debug__" : Str)) = false := by decide) : DV CA X (.Name x pos) (dC (.int i)) := by
  obtain ⟨t, h⟩ := h
  exact dv_c (v := .int i) (pe_glob hg h ⟨t, rfl⟩ hd) fun _ => rep_int
theorem dv_gstr {x : Str} {z : Str} (h : ∃ t, X.mg x = some (.str z t)) (hg : Gl X x := by rfl) (hd : (x == ("__debug__" : Str)) = false := by decide) : DV CA X (.Name x pos) (dC (.str z)) := by
  obtain ⟨t, h⟩ := h
  exact dv_c (v := .str z) (pe_glob hg h ⟨t, rfl⟩ hd) fun _ => rep_str
theorem pe_ty {x : Str} {n : String} (hm : X.mg x = none) (hv : bootBuiltins x = some (.type n)) (hg : Gl X x := by rfl) (hn : x ≠ "__name__" := by decide) (hd : (x == ("__debug__" : Str)) = false := by decide) : PE X (.Name x pos) (tC (.ty n)) := pe_bltn hg hm hv rfl hn hd
/-! chains -/
theorem dv_chain {op op' : CmpOp} {r r' : R2} {f g : D → D → (D → Prop) → Prop} (ho : OpR X (compareOp op) r) (ho' : OpR X (compareOp op') r') (hf : OpD CA r f) (hg : OpD CA r' g) (ha : DV CA X a da) (hb : DV CA X b db) (hc : DV CA X c dc) (hm : lastMarks [op, op'] [b, c] = false := by with_unfolding_all rfl) :
    DV CA X (.Compare a [op, op'] [b, c] pos) (dChain f g da db dc) := ⟨pe_w (pe_chain ho ho' ha.pe hb.pe hc.pe hm) fun _ _ _ h => tChain_w hf hg h⟩
theorem dt_chain {op op' : CmpOp} {r r' : R2} {f g : D → D → (D → Prop) → Prop} (ho : OpR X (compareOp op) r) (ho' : OpR X (compareOp op') r') (hf : OpD CA r f) (hg : OpD CA r' g) (ha : DV CA X a da) (hb : DV CA X b db) (hc : DV CA X c dc) (hm : lastMarks [op, op'] [b, c] = false := by with_unfolding_all rfl) :
    DT CA X (.Compare a [op, op'] [b, c] pos) (dTest (dChain f g da db dc)) := ⟨pt_w (pt_chain ho ho' ha.pe hb.pe hc.pe hm) fun _ _ _ h => tTest_w (fun _ _ _ h => tChain_w hf hg h) h⟩
/-! texts put together -/
@[simp] def fCatS : D → D → (D → Prop) → Prop := fun a b k => match a, b with
  | .str x, .str y => x.length + y.length ≤ sizeLine ∧ k (.str (x ++ y))
  | _, _ => False
abbrev rCatS : R2 := fun x y H Q => ∃ i j, x = .str i ∧ y = .str j ∧ i.length + j.length ≤ sizeLine ∧ Q (.str (i ++ j)) H
theorem od_catS : OpD CA rCatS fCatS := fun {β s σ H F x y d1 d2 P Q} R r1 r2 h q => by
  cases d1 with
  | str i => cases d2 with
    | str j => exact ⟨i, j, r1.str_eq, r2.str_eq, h.1, q _ h.2 _ H F R .refl rep_str⟩
    | _ => exact h.elim
  | _ => exact h.elim
/-! lists put together -/
def OpF (CA : Nat → Addr) (r : R2) (f : D → D → (Tag → List D → Prop) → Prop) : Prop := ∀ {β : Beta} {s : Env} {σ : L2.St} {H F : Hp} {x y : V} {d1 d2 : D} {P : Tag → List D → Prop} {Q : VK}, Rel CA β s σ H F → Rep CA F d1 x → Rep CA F d2 y → f d1 d2 P →
  (∀ t es, P t es → ∀ a ws H' F', Rel CA β s σ H' F' → Ext β s σ H F s σ H' F' → At CA H' t a ws → Reps CA F' es ws → F' a = none → H a = none → ¬ Owned β s σ a → t.mutable → Q (.ref a) H') → r x y H Q
@[simp] def dOpF (f : D → D → (Tag → List D → Prop) → Prop) (da db : VDen) : FDen := fun s P => da s fun d1 s1 => db s1 fun d2 s2 => f d1 d2 fun t ds => P t ds s2
theorem df_op {op : Operator} {r : R2} {f : D → D → (Tag → List D → Prop) → Prop} (ho : OpR X (binaryOp op) r) (hf : OpF CA r f) (ha : DV CA X a da) (hb : DV CA X b db) : DF CA X (.BinOp a op b pos) (dOpF f da db) :=
  ⟨pe_w (pe_op ho ha.pe hb.pe) fun σ H Q ⟨β, s, F, P, R, h, q⟩ => ⟨β, s, F, _, R, h, fun d1 s1 h1 x H1 F1 R1 E1 r1 => ⟨β, s1, F1, _, R1, h1, fun d2 s2 h2 y H2 F2 R2 E2 r2 =>
    hf R2 (r1.mono E2.fz) r2 h2 fun t es hp a ws H3 F3 R3 E3 z1 z2 z3 z4 z5 z6 => q t es s2 hp a ws H3 F3 R3 ((E1.trans E2).trans E3) z1 z2 z3 ((E1.trans E2).dm z4) z5 z6⟩⟩⟩
@[simp] def fCat : D → D → (Tag → List D → Prop) → Prop := fun a b k => match a, b with
  | .node .lst xs, .node .lst ys => xs.length + ys.length < 100000 ∧ k .lst (xs ++ ys)
  | _, _ => False
theorem of_cat : OpF CA rCat fCat := fun {β s σ H F x y d1 d2 P Q} R r1 r2 h q => by
  cases d1 with
  | node t xs => cases t with
    | lst => cases d2 with
      | node t' ys => cases t' with
        | lst =>
          obtain ⟨a, vs, rfl, ⟨o, e1, e2⟩, e3⟩ := r1.node_eq
          cases (show o = .lst vs from e2)
          obtain ⟨b, ws, rfl, ⟨o', f1, f2⟩, f3⟩ := r2.node_eq
          cases (show o' = .lst ws from f2)
          have hl : vs.length + ws.length ≤ sizeLine := by
            rw [← e3.length, ← f3.length]
            exact Nat.le_of_lt (line5 h.1)
          exact ⟨a, b, vs, ws, rfl, rfl, R.sub.nd e1 (fun z => z), R.sub.nd f1 (fun z => z), hl, fun p hp => q .lst _ h.2 p _ _ F (R.new hp) (.new hp) ⟨_, upd_same, rfl⟩ (e3.append f3) (R.sub.free hp) hp (R.noown hp) True.intro⟩
        | _ => exact h.elim
      | _ => exact h.elim
    | _ => cases d2 <;> exact h.elim
  | _ => exact h.elim
/-! x in xs -/
def flatD : D → Bool
  | .node _ _ => false
  | _ => true
def eqF : D → D → Bool
  | .non, .non => true
  | .bl a, .bl b => decide (a = b)
  | .int a, .int b => decide (a = b)
  | .str a, .str b => decide (a = b)
  | _, _ => false
/-- a member test is only asked of texts among texts, of ints among ints -/
def sameK : D → D → Bool
  | .int _, .int _ => true
  | .str _, .str _ => true
  | _, _ => false
@[simp] def fIn (neg : Bool) : D → D → (D → Prop) → Prop := fun x y k => match y with
  | .node .lst ds => ds.all (sameK x) = true ∧ flatD x = true ∧ k (.bl (if neg then !(ds.any fun z => eqF z x) else ds.any fun z => eqF z x))
  | .node .tup ds => ds.all (sameK x) = true ∧ flatD x = true ∧ k (.bl (if neg then !(ds.any fun z => eqF z x) else ds.any fun z => eqF z x))
  | _ => False
theorem sameK_ok {F : Hp} {x z : D} {u v : V} (h : sameK x z = true) (r1 : Rep CA F x u) (r2 : Rep CA F z v) : flatV v = true ∧ eqV v u = eqF z x := by
  cases x with
  | int i => cases z with
    | int j => rw [r1.int_eq, r2.int_eq]; exact ⟨rfl, rfl⟩
    | _ => cases h
  | str i => cases z with
    | str j => rw [r1.str_eq, r2.str_eq]; exact ⟨rfl, rfl⟩
    | _ => cases h
  | _ => cases h
theorem allK_ok {F : Hp} {x : D} {u : V} (r1 : Rep CA F x u) : ∀ {ds : List D} {vs : List V}, ds.all (sameK x) = true → Reps CA F ds vs → vs.all flatV = true ∧ inV u vs = ds.any fun z => eqF z x
  | [], vs, _, r => by unfold Reps at r; subst r; exact ⟨rfl, rfl⟩
  | d :: ds, vs, h, r => by
    rw [List.all_cons, Bool.and_eq_true] at h
    unfold Reps at r
    obtain ⟨v, w, rfl, e2, e3⟩ := r
    obtain ⟨h1, h2⟩ := sameK_ok h.1 r1 e2
    obtain ⟨h3, h4⟩ := allK_ok r1 h.2 e3
    refine ⟨by rw [List.all_cons, h1, h3]; rfl, ?_⟩
    unfold inV at h4 ⊢
    rw [List.any_cons, List.any_cons, h2, h4]
theorem flatD_ok {F : Hp} {d : D} {v : V} (h : flatD d = true) (r : Rep CA F d v) : flatV v = true := by
  cases d with
  | node _ _ => cases h
  | non => rw [r.non_eq]; rfl
  | bl b => rw [r.bl_eq]; rfl
  | int i => rw [r.int_eq]; rfl
  | str x => rw [r.str_eq]; rfl
theorem od_in {neg : Bool} : OpD CA (rIn X.K neg) (fIn neg) := fun {β s σ H F x y d1 d2 P Q} R r1 r2 h q => by
  cases d2 with
  | node t ds =>
    obtain ⟨a, vs, rfl, ⟨o, e1, e2⟩, e3⟩ := r2.node_eq
    cases t with
    | lst =>
      cases (show o = .lst vs from e2)
      obtain ⟨h1, h2, h3⟩ := h
      obtain ⟨g1, g2⟩ := allK_ok r1 h1 e3
      exact ⟨a, vs, rfl, .inl (.inl (R.sub.rd e1)), flatD_ok h2 r1, g1, by rw [g2]; exact q _ h3 _ H F R .refl rep_bl⟩
    | tup =>
      cases (show o = .tup vs from e2)
      obtain ⟨h1, h2, h3⟩ := h
      obtain ⟨g1, g2⟩ := allK_ok r1 h1 e3
      exact ⟨a, vs, rfl, .inr (.inl (R.sub.rd e1)), flatD_ok h2 r1, g1, by rw [g2]; exact q _ h3 _ H F R .refl rep_bl⟩
    | _ => exact h.elim
  | _ => exact h.elim
/-! one sign in a text -/
@[simp] def fInS : D → D → (D → Prop) → Prop := fun x y k => match x, y with
  | .str z, .str w => ∃ c, z = ⟨#[c]⟩ ∧ k (.bl (decide (c ∈ w.cps.toList)))
  | _, _ => False
abbrev rInS1 : R2 := fun x y H Q => ∃ (c : Nat) (z : Str), x = .str ⟨#[c]⟩ ∧ y = .str z ∧ Q (.bl (decide (c ∈ z.cps.toList))) H
theorem od_inS : OpD CA rInS1 fInS := fun {β s σ H F x y d1 d2 P Q} R r1 r2 h q => by
  cases d1 with
  | str z => cases d2 with
    | str w =>
      obtain ⟨c, rfl, h⟩ := h
      exact ⟨c, w, r1.str_eq, r2.str_eq, q _ h _ H F R .refl rep_bl⟩
    | _ => exact h.elim
  | _ => exact h.elim
/-! == [] and != [] -/
mutual
def toP : D → Option PyData
  | .non => some .none
  | .bl b => some (.bool b)
  | .int i => some (.int i)
  | .str x => some (.str x)
  | .node .lst ds => (toPs ds).map .list
  | .node .tup ds => (toPs ds).map .tuple
  | .node _ _ => none
def toPs : List D → Option (List PyData)
  | [] => some []
  | d :: ds => match toP d, toPs ds with
    | some x, some xs => some (x :: xs)
    | _, _ => none
end
mutual
theorem toP_ok {K : PySem.W.Frag} {F H : Hp} (sub : Sub F H) : ∀ {d : D} {v : V} {x : PyData}, toP d = some x → Rep CA F d v → Dp K H v x
  | .non, _, _, h, r => by unfold toP at h; cases h; rw [r.non_eq]; exact .non
  | .bl _, _, _, h, r => by unfold toP at h; cases h; rw [r.bl_eq]; exact .bl _
  | .int _, _, _, h, r => by unfold toP at h; cases h; rw [r.int_eq]; exact .int _
  | .str _, _, _, h, r => by unfold toP at h; cases h; rw [r.str_eq]; exact .str _
  | .node .lst ds, _, _, h, r => by
    unfold toP at h
    cases q : toPs ds with
    | none => rw [q] at h; cases h
    | some xs =>
      rw [q] at h
      cases h
      obtain ⟨a, vs, rfl, ⟨o, e1, e2⟩, e3⟩ := r.node_eq
      cases (show o = .lst vs from e2)
      exact .lst (.inl (sub.rd e1)) (toPs_ok sub q e3)
  | .node .tup ds, _, _, h, r => by
    unfold toP at h
    cases q : toPs ds with
    | none => rw [q] at h; cases h
    | some xs =>
      rw [q] at h
      cases h
      obtain ⟨a, vs, rfl, ⟨o, e1, e2⟩, e3⟩ := r.node_eq
      cases (show o = .tup vs from e2)
      exact .tup (.inl (sub.rd e1)) (toPs_ok sub q e3)
  | .node (.dk _) _, _, _, h, _ => by unfold toP at h; cases h
  | .node (.dt _) _, _, _, h, _ => by unfold toP at h; cases h
  | .node (.ins _ _) _, _, _, h, _ => by unfold toP at h; cases h
theorem toPs_ok {K : PySem.W.Frag} {F H : Hp} (sub : Sub F H) : ∀ {ds : List D} {vs : List V} {xs : List PyData}, toPs ds = some xs → Reps CA F ds vs → DpAll K H vs xs
  | [], _, _, h, r => by
    unfold toPs at h
    cases h
    unfold Reps at r
    subst r
    exact .nil
  | d :: ds, _, _, h, r => by
    unfold toPs at h
    unfold Reps at r
    obtain ⟨v, w, rfl, e2, e3⟩ := r
    cases q1 : toP d with
    | none => rw [q1] at h; cases h
    | some x => cases q2 : toPs ds with
      | none => rw [q1, q2] at h; cases h
      | some xs =>
        rw [q1, q2] at h
        cases h
        exact .cons (toP_ok sub q1 e2) (toPs_ok sub q2 e3)
end
@[simp] def fNil (neg : Bool) : D → D → (D → Prop) → Prop := fun x y k => match x, y with
  | .node .lst ds, .node .lst [] => (∃ xs, toPs ds = some xs ∧ SeqAt.shaped (.list xs) = true) ∧ k (.bl (if neg then !ds.isEmpty else ds.isEmpty))
  | _, _ => False
theorem eqv_nil (xs : List PyData) : PyData.eqv (.list xs) (.list []) = xs.isEmpty := by
  cases xs with
  | nil => rfl
  | cons x xs => rfl
theorem toPs_len : ∀ {ds : List D} {xs : List PyData}, toPs ds = some xs → xs.isEmpty = ds.isEmpty
  | [], _, h => by unfold toPs at h; cases h; rfl
  | d :: ds, xs, h => by
    unfold toPs at h
    cases q1 : toP d with
    | none => rw [q1] at h; cases h
    | some x => cases q2 : toPs ds with
      | none => rw [q1, q2] at h; cases h
      | some xs =>
        rw [q1, q2] at h
        cases h
        rfl
theorem nil_ok {d1 d2 : D} {neg : Bool} {F H : Hp} {K : PySem.W.Frag} {x y : V} {P : D → Prop} (sub : Sub F H) (r1 : Rep CA F d1 x) (r2 : Rep CA F d2 y) (h : fNil neg d1 d2 P) : ∃ d e, Dp K H x d ∧ Dp K H y e ∧ SeqAt.shaped d = true ∧ SeqAt.shaped e = true ∧ P (.bl (if neg then !PyData.eqv d e else PyData.eqv d e)) := by
  cases d1 with
  | node t ds => cases t with
    | lst => cases d2 with
      | node t' es => cases t' with
        | lst => cases es with
          | nil =>
            obtain ⟨⟨xs, h1, h2⟩, h3⟩ := h
            refine ⟨.list xs, .list [], toP_ok sub (by unfold toP; rw [h1]; rfl) r1, toP_ok sub (by unfold toP toPs; rfl) r2, h2, by decide, ?_⟩
            rw [eqv_nil, toPs_len h1]
            exact h3
          | cons _ _ => exact h.elim
        | _ => exact h.elim
      | _ => exact h.elim
    | _ => exact h.elim
  | _ => exact h.elim
theorem od_eqNil : OpD CA (rEqD X.K) (fNil false) := fun {β s σ H F x y d1 d2 P Q} R r1 r2 h q => by
  obtain ⟨d, e, z1, z2, z3, z4, z5⟩ := nil_ok (K := X.K) R.sub r1 r2 h
  exact ⟨d, e, z1, z2, z3, z4, q _ z5 _ H F R .refl rep_bl⟩
theorem od_neNil : OpD CA (rNeD X.K) (fNil true) := fun {β s σ H F x y d1 d2 P Q} R r1 r2 h q => by
  obtain ⟨d, e, z1, z2, z3, z4, z5⟩ := nil_ok (K := X.K) R.sub r1 r2 h
  exact ⟨d, e, z1, z2, z3, z4, q _ z5 _ H F R .refl rep_bl⟩
/-! unary minus -/
@[simp] def dNeg (da : VDen) : VDen := fun s P => da s fun d s1 => match d with
  | .int i => P (.int (-i)) s1
  | _ => False
theorem dv_neg (ha : DV CA X a da) : DV CA X (.UnaryOp .USub a pos) (dNeg da) := ⟨pe_w (pe_un un_neg ha.pe) fun σ H Q ⟨β, s, F, P, R, h, q⟩ => ⟨β, s, F, _, R, h, fun d s1 h1 x H1 F1 R1 E1 r1 => by
  cases d with
  | int i => exact ⟨i, r1.int_eq, q _ s1 h1 _ H1 F1 R1 E1 rep_int⟩
  | _ => exact h1.elim⟩⟩
end
end Dl
end

section
set_option Elab.async false
set_option linter.all false
set_option maxRecDepth 100000
set_option maxHeartbeats 4000000
/-! The data layer, part 11: empty dicts, parallel assignments, own __contains__, int, abs, pairs in lists. -/
namespace Dl
open PySem PySem.Spec PyProof.Rows L2
section
variable {CA : Nat → Addr} {X : Cx} {a b c e o : Expr} {es : List Expr} {st : Stmt} {sts rest : List Stmt} {pos p apos : Pos} {da db dc : VDen} {dA : ADen} {ta tb : TDen} {dF : FDen} {dS dT : SDen} {dG : GDen} {n k : Nat}
@[simp] def dNewT : FDen := fun s P => P (.dt []) [] s
@[simp] def dNewK : FDen := fun s P => P (.dk []) [] s
theorem df_newT : DF CA X (.Dict [] [] pos) dNewT := ⟨pe_w pe_dnewT fun σ H Q ⟨β, s, F, P, R, h, q⟩ => fun l hl =>
  q _ _ s h l [] _ F (R.new hl) (.new hl) ⟨_, upd_same, [], rfl, rfl, rfl⟩ reps_nil (R.sub.free hl) hl (R.noown hl) True.intro⟩
theorem df_newK : DF CA X (.Dict [] [] pos) dNewK := ⟨pe_w pe_dnewK fun σ H Q ⟨β, s, F, P, R, h, q⟩ => fun l hl =>
  q _ _ s h l [] _ F (R.new hl) (.new hl) ⟨_, upd_same, [], rfl, rfl, rfl⟩ reps_nil (R.sub.free hl) hl (R.noown hl) True.intro⟩
@[simp] def dNeverV : VDen := fun _ _ => False
theorem dv_never : DV CA X e dNeverV := ⟨⟨fun pins s σ H Q I ⟨β, s', F, P, R, h, q⟩ => h.elim⟩⟩
/-! ### a, b = x, y -/
abbrev PDen := Env → (Slot → Env → Prop) → Prop
def Holds (CA : Nat → Addr) (β : Beta) (s : Env) (σ : L2.St) (H F : Hp) : Slot → V → Prop
  | .val d, v => Rep CA F d v
  | .own t ds, v => ∃ ad vs, v = .ref ad ∧ At CA H t ad vs ∧ Reps CA F ds vs ∧ F ad = none ∧ ¬ Owned β s σ ad ∧ t.mutable
  | .bag, _ => False
def newAt (H : Hp) : Slot → V → Prop
  | .own _ _, v => ∀ ad, v = .ref ad → H ad = none
  | _, _ => True
theorem Holds.ext {β : Beta} {s s1 : Env} {σ σ1 : L2.St} {H F H1 F1 : Hp} {sl : Slot} {v : V} (h : Holds CA β s σ H F sl v) (E : Ext β s σ H F s1 σ1 H1 F1) (sub : Sub F1 H1) : Holds CA β s1 σ1 H1 F1 sl v := by
  cases sl with
  | val d => exact Rep.mono E.fz h
  | bag => exact h
  | own t ds =>
    obtain ⟨ad, vs, rfl, ⟨ob, e1, e2⟩, e3, e4, e5, e6⟩ := h
    obtain ⟨k1, k2, k3⟩ := E.stays sub e1 e5 e4 (fun xs z => (e2.notup (xs := xs) (by intro y; subst y; exact e6)) z)
    exact ⟨ad, vs, rfl, ⟨ob, k1, e2⟩, e3.mono E.fz, k2, k3, e6⟩
theorem Rel.setS {β : Beta} {s : Env} {σ : L2.St} {H F : Hp} (R : Rel CA β s σ H F) (i : Nat) {sl : Slot} {v : V} (h : Holds CA β s σ H F sl v) : Rel CA β (s.set i (some sl)) (σ.set i (some v)) H F := by
  cases sl with
  | val d => exact R.setV i h
  | bag => exact h.elim
  | own t ds =>
    obtain ⟨ad, vs, rfl, e1, e3, e4, e5, e6⟩ := h
    exact R.setO i e1 e3 e4 e5 e6
theorem Owned.setS {β : Beta} {s : Env} {σ : L2.St} {H F : Hp} (l : σ.length = s.length) {i : Nat} {sl : Slot} {v : V} (h : Holds CA β s σ H F sl v) {ad : Addr} (o : Owned β (s.set i (some sl)) (σ.set i (some v)) ad) : Owned β s σ ad ∨ ((∃ t ds, sl = .own t ds) ∧ v = .ref ad) := by
  cases sl with
  | val d => exact .inl (o.setV l)
  | bag => exact h.elim
  | own t ds =>
    obtain ⟨a2, vs, rfl, _⟩ := h
    rcases Owned.setO l o with z | z
    · exact .inl z
    · exact .inr ⟨⟨t, ds, rfl⟩, by rw [z]⟩
theorem Ext.setS {β : Beta} {s s1 : Env} {σ : L2.St} {H F H1 F1 : Hp} (E : Ext β s σ H F s1 σ H1 F1) (l : σ.length = s1.length) {i : Nat} {sl : Slot} {v : V} (h : Holds CA β s1 σ H1 F1 sl v) (nw : newAt H sl v) : Ext β s σ H F (s1.set i (some sl)) (σ.set i (some v)) H1 F1 where
  xt := E.xt
  ow := fun ad z => by
    rcases Owned.setS l h z with y | ⟨⟨t, ds, rfl⟩, rfl⟩
    · exact E.ow ad y
    · exact .inr (nw ad rfl)
def liftP (CA : Nat → Addr) (den : PDen) : TE := fun σ H Q => ∃ β s F P, Rel CA β s σ H F ∧ den s P ∧
  ∀ sl s', P sl s' → ∀ v H' F', Rel CA β s' σ H' F' → Ext β s σ H F s' σ H' F' → Holds CA β s' σ H' F' sl v → newAt H sl v → Q v H'
structure DP (CA : Nat → Addr) (X : Cx) (e : Expr) (den : PDen) : Prop where
  pe : PE X e (liftP CA den)
@[simp] def dpV (da : VDen) : PDen := fun s P => da s fun d s1 => P (.val d) s1
@[simp] def dpO (dF : FDen) : PDen := fun s P => dF s fun t ds s1 => P (.own t ds) s1
theorem dp_v (h : DV CA X e da) : DP CA X e (dpV da) := ⟨pe_w h.pe fun σ H Q ⟨β, s, F, P, R, h, q⟩ => ⟨β, s, F, _, R, h, fun d s1 h1 v H1 F1 R1 E1 r1 => q _ s1 h1 v H1 F1 R1 E1 r1 True.intro⟩⟩
theorem dp_o (h : DF CA X e dF) : DP CA X e (dpO dF) := ⟨pe_w h.pe fun σ H Q ⟨β, s, F, P, R, h, q⟩ => ⟨β, s, F, _, R, h, fun t ds s1 h1 ad vs H1 F1 R1 E1 z1 z2 z3 z4 z5 z6 =>
  q _ s1 h1 _ H1 F1 R1 E1 ⟨ad, vs, rfl, z1, z2, z3, z5, z6⟩ fun a2 z => by cases z; exact z4⟩⟩
variable {p1 p2 p3 : PDen}
@[simp] def dPar2 (i j : Nat) (p1 p2 : PDen) : SDen := fun s E => p1 s fun x s1 => p2 s1 fun y s2 => E.nx ((s2.set i (some x)).set j (some y))
@[simp] def dPar3 (i j l : Nat) (p1 p2 p3 : PDen) : SDen := fun s E => p1 s fun x s1 => p2 s1 fun y s2 => p3 s2 fun z s3 => E.nx (((s3.set i (some x)).set j (some y)).set l (some z))
theorem Holds.inH {β : Beta} {s : Env} {σ : L2.St} {H F : Hp} {sl : Slot} {t : Tag} {ds : List D} {ad : Addr} (h : Holds CA β s σ H F (.own t ds) (.ref ad)) : H ad ≠ none := by
  obtain ⟨a2, vs, e, ⟨o, e1, _⟩, _⟩ := h
  cases e
  rw [e1]
  intro z
  cases z
/-- a second one, behind the first has been stored -/
theorem Holds.beside {β : Beta} {s : Env} {σ : L2.St} {H F H0 : Hp} (l : σ.length = s.length) {i : Nat} {x y : Slot} {v u : V} (hx : Holds CA β s σ H F x v) (hy : Holds CA β s σ H F y u) (ne : ∀ ad t ds t' ds', x = .own t ds → y = .own t' ds' → v = .ref ad → u = .ref ad → False) :
    Holds CA β (s.set i (some x)) (σ.set i (some v)) H F y u := by
  cases y with
  | val d => exact hy
  | bag => exact hy
  | own t ds =>
    obtain ⟨ad, vs, rfl, e1, e3, e4, e5, e6⟩ := hy
    refine ⟨ad, vs, rfl, e1, e3, e4, fun z => ?_, e6⟩
    rcases Owned.setS l hx z with w | ⟨⟨t2, ds2, rfl⟩, rfl⟩
    · exact e5 w
    · exact ne ad t2 ds2 t ds rfl rfl rfl rfl
theorem ds_par2 {i j : Nat} {x y : Str} {px py pt : Pos} {kt k2 : Nat} {pt2 : Pos} (hc : X.calm = true) (hN : X.N.Nodup) (ha : DP CA X a p1) (hb : DP CA X b p2) (hi : X.N[i]? = some x := by rfl) (hj : X.N[j]? = some y := by rfl) (hij : i ≠ j := by decide)
    (hx : X.env.scope.names.lookup x = some .local := by rfl) (hy : X.env.scope.names.lookup y = some .local := by rfl)
    (s1 : starEach [a, b] X.env = (false, eval a X.env) :: starEach [b] X.env := by rfl) (s2 : starEach [b] X.env = (false, eval b X.env) :: starEach [] X.env := by rfl)
    (hw : swappedStores [.Tuple [.Name x px, .Name y py] kt pt] (.Tuple [a, b] k2 pt2) X.env = pure (some [x, y]) := by rfl)
    (hs : swapsWithSole [.Tuple [.Name x px, .Name y py] kt pt] (.Tuple [a, b] k2 pt2) pos.line X.env = pure false := by rfl) :
    DS CA X (.Assign [.Tuple [.Name x px, .Name y py] kt pt] (.Tuple [a, b] k2 pt2) pos) (dPar2 i j p1 p2) := ⟨ps_w (ps_par hc hN hi hj hij hx hy (pa_cons ha.pe (pa_cons hb.pe pa_nil s2) s1) hw hs) fun D σ H ⟨β, s, F, E, R, h, q⟩ =>
  ⟨β, s, F, _, R, h, fun x1 s1 h1 v H1 F1 R1 E1 g1 n1 => ⟨β, s1, F1, _, R1, h1, fun x2 s2 h2 u H2 F2 R2 E2 g2 n2 => by
    have g1' := g1.ext E2 R2.sub
    refine ⟨v, u, rfl, q.nx _ h2 _ H2 F2 ((R2.setS i g1').setS j (g1'.beside (H0 := H) R2.len g2 ?_)) ?_⟩
    · intro ad t ds t' ds' z1 z2 z3 z4
      subst z1 z2 z3 z4
      exact g1.inH (sl := .bag) (n2 ad rfl)
    · have E12 := E1.trans E2
      have n2' : newAt H x2 u := by
        cases x2 with
        | own t ds => exact fun ad z => E1.dm (n2 ad z)
        | _ => exact True.intro
      refine ⟨E12.xt, fun ad z => ?_⟩
      have g2' : Holds CA β (s2.set i (some x1)) (σ.set i (some v)) H2 F2 x2 u := g1'.beside (H0 := H) R2.len g2 fun ad t ds t' ds' z1 z2 z3 z4 => by
        subst z1 z2 z3 z4
        exact g1.inH (sl := .bag) (n2 ad rfl)
      rcases Owned.setS (by rw [List.length_set, List.length_set]; exact R2.len) g2' z with y | ⟨⟨t, ds, rfl⟩, rfl⟩
      · rcases Owned.setS R2.len g1' y with y | ⟨⟨t, ds, rfl⟩, rfl⟩
        · exact E12.ow ad y
        · exact .inr (n1 ad rfl)
      · exact .inr (n2' ad rfl)⟩⟩⟩
theorem ds_par3 {i j l : Nat} {x y z : Str} {px py pz pt : Pos} {kt k2 : Nat} {pt2 : Pos} (hc : X.calm = true) (hN : X.N.Nodup) (ha : DP CA X a p1) (hb : DP CA X b p2) (hc3 : DP CA X c p3) (hi : X.N[i]? = some x := by rfl) (hj : X.N[j]? = some y := by rfl) (hl : X.N[l]? = some z := by rfl) (hij : i ≠ j := by decide) (hil : i ≠ l := by decide) (hjl : j ≠ l := by decide)
    (hx : X.env.scope.names.lookup x = some .local := by rfl) (hy : X.env.scope.names.lookup y = some .local := by rfl) (hz : X.env.scope.names.lookup z = some .local := by rfl)
    (s1 : starEach [a, b, c] X.env = (false, eval a X.env) :: starEach [b, c] X.env := by rfl) (s2 : starEach [b, c] X.env = (false, eval b X.env) :: starEach [c] X.env := by rfl) (s3 : starEach [c] X.env = (false, eval c X.env) :: starEach [] X.env := by rfl)
    (hw : swappedStores [.Tuple [.Name x px, .Name y py, .Name z pz] kt pt] (.Tuple [a, b, c] k2 pt2) X.env = pure (some [x, y, z]) := by rfl)
    (hs : swapsWithSole [.Tuple [.Name x px, .Name y py, .Name z pz] kt pt] (.Tuple [a, b, c] k2 pt2) pos.line X.env = pure false := by rfl) :
    DS CA X (.Assign [.Tuple [.Name x px, .Name y py, .Name z pz] kt pt] (.Tuple [a, b, c] k2 pt2) pos) (dPar3 i j l p1 p2 p3) := ⟨ps_w (ps_par3 hc hN hi hj hl hij hil hjl hx hy hz (pa_cons ha.pe (pa_cons hb.pe (pa_cons hc3.pe pa_nil s3) s2) s1) hw hs) fun D σ H ⟨β, s, F, E, R, h, q⟩ =>
  ⟨β, s, F, _, R, h, fun x1 s1 h1 v H1 F1 R1 E1 g1 n1 => ⟨β, s1, F1, _, R1, h1, fun x2 s2 h2 u H2 F2 R2 E2 g2 n2 => ⟨β, s2, F2, _, R2, h2, fun x3 s3 h3 r H3 F3 R3 E3 g3 n3 => by
    have g1' := (g1.ext E2 R2.sub)
    have g1'' := g1'.ext E3 R3.sub
    have g2' := g2.ext E3 R3.sub
    have d12 : ∀ ad t ds t' ds', x1 = .own t ds → x2 = .own t' ds' → v = .ref ad → u = .ref ad → False := fun ad t ds t' ds' z1 z2 z3 z4 => by
      subst z1 z2 z3 z4
      exact g1.inH (sl := .bag) (n2 ad rfl)
    have d13 : ∀ ad t ds t' ds', x1 = .own t ds → x3 = .own t' ds' → v = .ref ad → r = .ref ad → False := fun ad t ds t' ds' z1 z2 z3 z4 => by
      subst z1 z2 z3 z4
      exact g1'.inH (sl := .bag) (n3 ad rfl)
    have d23 : ∀ ad t ds t' ds', x2 = .own t ds → x3 = .own t' ds' → u = .ref ad → r = .ref ad → False := fun ad t ds t' ds' z1 z2 z3 z4 => by
      subst z1 z2 z3 z4
      exact g2.inH (sl := .bag) (n3 ad rfl)
    have k2 : Holds CA β (s3.set i (some x1)) (σ.set i (some v)) H3 F3 x2 u := g1''.beside (H0 := H) R3.len g2' d12
    have k3 : Holds CA β (s3.set i (some x1)) (σ.set i (some v)) H3 F3 x3 r := g1''.beside (H0 := H) R3.len g3 d13
    have l2 : (σ.set i (some v)).length = (s3.set i (some x1)).length := by rw [List.length_set, List.length_set]; exact R3.len
    have k3' : Holds CA β ((s3.set i (some x1)).set j (some x2)) ((σ.set i (some v)).set j (some u)) H3 F3 x3 r := k2.beside (H0 := H) l2 k3 d23
    refine ⟨v, u, r, rfl, q.nx _ h3 _ H3 F3 (((R3.setS i g1'').setS j k2).setS l k3') ⟨((E1.trans E2).trans E3).xt, fun ad z => ?_⟩⟩
    rcases Owned.setS (by simp only [List.length_set]; exact R3.len) k3' z with y | ⟨⟨t, ds, rfl⟩, rfl⟩
    · rcases Owned.setS l2 k2 y with y | ⟨⟨t, ds, rfl⟩, rfl⟩
      · rcases Owned.setS R3.len g1'' y with y | ⟨⟨t, ds, rfl⟩, rfl⟩
        · exact ((E1.trans E2).trans E3).ow ad y
        · exact .inr (n1 ad rfl)
      · exact .inr (E1.dm (n2 ad rfl))
    · exact .inr (E1.dm (E2.dm (n3 ad rfl)))⟩⟩⟩⟩
/-! ### x in o, o with its own __contains__ -/
def rHas (CC : Addr) (neg : Bool) (sp : Sp) : R2 := fun x y H Q => ∃ ad dx fs, y = .ref ad ∧ H ad = some (.ins CC dx fs) ∧ sp [y, x] H (fun v H' => ∃ b, v = .bl b ∧ Q (.bl (if neg then !b else b)) H') E0
theorem run_has {C' : Addr} {neg : Bool} {sp : Sp} {pins : List (Addr × Obj)} {s : Shared} {σ : L2.St} {H : Hp} {x y : V} {v u : Value} {Q : VK} (G : Met X.prog X.w X.K X.mg X.base C' "__contains__" k 2 sp) (hr : Room k X.A) (I : Inv X pins σ H s) (rx : RelV x v) (ry : RelV y u) (h : rHas C' neg sp x y H Q) :
    ∃ (f ad : Addr) (ox : Obj) (od : Obj) (L : Addr) (m : Str → Option Value), u = .ref ad ∧ Fr X.base L s.heap m ∧ PySem.W.InstAt s.heap ad ox C' (some od) ∧ PySem.W.findIn X.K (.ref C') "__contains__" = some (some (.ref f)) ∧ PySem.W.isFn X.K (.ref f) = true ∧
      wpAny (model X.prog X.w) X.A (call (.ref f) [.ref ad, v]) (fun r s' => wpAny (model X.prog X.w) X.A (truthy r) (fun b s2 => EP X pins σ Q (.bool (if neg then !b else b)) s2) X.xe s') X.xe s := by
  obtain ⟨f, fd, ps, F, hm, hb, hl⟩ := G.ex
  obtain ⟨ad, dx, fs, rfl, ha, q⟩ := h
  cases (show u = Value.ref ad from ry)
  obtain ⟨mA, J, _⟩ := ins_get I.hok ha
  obtain ⟨od, J, _⟩ := J.look
  obtain ⟨m, hF⟩ := I.fr
  refine ⟨f, ad, _, od, _, m, rfl, hF, J, hm.at_, hm.fn, ?_⟩
  refine wpAny_mono (run_fn (dvs := []) (us := [.ref ad, v]) (vs := [.ref ad, x]) F hr hb .nil pass0 I (.cons rfl (.cons rx .nil)) q) (fun r s' z => ?_) fun _ _ z => z
  obtain ⟨z', H', I', rz, b, rfl, qz⟩ := z
  cases (show r = Value.bool b from rz)
  exact wpAny_truthy_bool ⟨.bl (if neg then !b else b), H', I', rfl, qz⟩
theorem op_has {C' : Addr} {sp : Sp} (G : Met X.prog X.w X.K X.mg X.base C' "__contains__" k 2 sp) (hr : Room k X.A) : OpR X (compareOp .In) (rHas C' false sp) := by
  intro pins s σ H x y v u Q I rx ry h
  obtain ⟨f, ad, ox, od, L, m, rfl, hF, J, h1, h2, h3⟩ := run_has G hr I rx ry h
  exact PySem.W.in_K hF I.ok.mod.kin J h1 h2 h3
theorem op_nothas {C' : Addr} {sp : Sp} (G : Met X.prog X.w X.K X.mg X.base C' "__contains__" k 2 sp) (hr : Room k X.A) : OpR X (compareOp .NotIn) (rHas C' true sp) := by
  intro pins s σ H x y v u Q I rx ry h
  obtain ⟨f, ad, ox, od, L, m, rfl, hF, J, h1, h2, h3⟩ := run_has G hr I rx ry h
  exact PySem.W.notIn_K hF I.ok.mod.kin J h1 h2 h3
@[simp] def fHas (neg : Bool) (c : Nat) (C : Con) : D → D → (D → Prop) → Prop := fun x y k => match y with
  | .node (.ins c' ns) ds => c' = c ∧ C [.val (.node (.ins c' ns) ds), .val x] fun r => match r with
    | .bl b => k (.bl (if neg then !b else b))
    | _ => False
  | _ => False
theorem od_has {neg : Bool} {c : Nat} {C : Con} : OpD CA (rHas (CA c) neg (spD CA 2 C)) (fHas neg c C) := fun {β s σ H F x y d1 d2 P Q} R r1 r2 h q => by
  cases d2 with
  | node t ds => cases t with
    | ins c' ns =>
      obtain ⟨rfl, h⟩ := h
      obtain ⟨ad, vs, rfl, ⟨ob, e1, dx, fs, rfl, rfl, rfl⟩, e3⟩ := (id r2).node_eq
      refine ⟨ad, dx, fs, rfl, R.sub.nd e1 (fun z => z), β, F, [.val (.node (.ins c' (fs.map fun x : Str × V => x.1)) ds), .val d1], _, R.sub, R.bok, ⟨_, _, rfl, r2, _, _, rfl, r1, rfl⟩, rfl, h, fun d hd v H2 F2 x sub bok rv => ?_⟩
      cases d with
      | bl b => exact ⟨b, rv.bl_eq, q _ hd _ H2 F2 (called R x sub bok).1 (called R x sub bok).2 rep_bl⟩
      | _ => exact hd.elim
    | _ => exact h.elim
  | _ => exact h.elim
/-! ### int, abs -/
@[simp] def fInt : List D → (D → Prop) → Prop := fun ds k => match ds with
  | [.int i] => k (.int i)
  | _ => False
theorem cd_int : CallD CA (fun xs H Q => (∃ i, xs = [V.int i] ∧ Q (.int i) H) ∨ ∃ k, xs = [V.bl k] ∧ Q (.int (if k then 1 else 0)) H) fInt := fun {β s σ H F vs ds P Q} R r h q => by
  match ds, h with
  | [.int i], h =>
    obtain ⟨v, rfl, r1⟩ := r.one
    exact .inl ⟨i, by rw [r1.int_eq], q _ h _ H F R .refl rep_int⟩
@[simp] def fAbs : List D → (D → Prop) → Prop := fun ds k => match ds with
  | [.int i] => k (.int (if i < 0 then -i else i))
  | _ => False
theorem cd_abs : CallD CA (fun xs H Q => ∃ i, xs = [V.int i] ∧ Q (.int (if i < 0 then -i else i)) H) fAbs := fun {β s σ H F vs ds P Q} R r h q => by
  match ds, h with
  | [.int i], h =>
    obtain ⟨v, rfl, r1⟩ := r.one
    exact ⟨i, by rw [r1.int_eq], q _ h _ H F R .refl rep_int⟩
end
end Dl
end

section
set_option Elab.async false
set_option linter.all false
set_option maxRecDepth 100000
set_option maxHeartbeats 4000000
/-! Sorting texts and pairs of texts, by the model. -/
namespace Sx
open PySem PyProof.Rows SrtO
/-- text before text -/
def ltT (x y : Str) : Bool := decide (x.cps.toList < y.cps.toList)
theorem str_ext {x y : Str} (h : x.cps.toList = y.cps.toList) : x = y := by
  cases x; cases y
  simp only [Str.mk.injEq]
  exact Array.toList_inj.mp h
theorem ltT_irrefl (x : Str) : ltT x x = false := decide_eq_false (List.lt_irrefl _)
theorem ltT_trans {x y z : Str} (h1 : ltT x y = true) (h2 : ltT y z = true) : ltT x z = true := decide_eq_true (List.lt_trans (of_decide_eq_true h1) (of_decide_eq_true h2))
theorem ltT_total {x y : Str} (h1 : ltT x y = false) (h2 : ltT y x = false) : x = y := str_ext (List.le_antisymm (List.not_lt.mp (of_decide_eq_false h2)) (List.not_lt.mp (of_decide_eq_false h1)))
theorem ltT_asym {x y : Str} (h : ltT x y = true) : ltT y x = false := by
  cases q : ltT y x with
  | false => rfl
  | true => exact (Bool.false_ne_true ((ltT_irrefl x).symm.trans (ltT_trans h q))).elim
/-- a strict order that is total -/
structure Tot {α : Type} (lt : α → α → Bool) : Prop where
  irr : ∀ x, lt x x = false
  tr : ∀ {x y z}, lt x y = true → lt y z = true → lt x z = true
  tot : ∀ {x y}, lt x y = false → lt y x = false → x = y
theorem tot_T : Tot ltT := ⟨ltT_irrefl, ltT_trans, ltT_total⟩
section
variable {α β : Type} {lt : α → α → Bool}
theorem Tot.asym (T : Tot lt) {x y : α} (h : lt x y = true) : lt y x = false := by
  cases q : lt y x with
  | false => rfl
  | true => exact (Bool.false_ne_true ((T.irr x).symm.trans (T.tr h q))).elim
theorem Tot.cas (T : Tot lt) (x y : α) : lt x y = true ∨ x = y ∨ lt y x = true := by
  cases q : lt x y with
  | true => exact .inl rfl
  | false => cases q2 : lt y x with
    | true => exact .inr (.inr rfl)
    | false => exact .inr (.inl (T.tot q q2))
theorem Tot.neg (T : Tot lt) {x y z : α} (h1 : lt y x = false) (h2 : lt z y = false) : lt z x = false := by
  cases q : lt z x with
  | false => rfl
  | true =>
    rcases T.cas y z with e | e | e
    · rw [T.tr e q] at h1; cases h1
    · subst e; rw [q] at h1; cases h1
    · rw [e] at h2; cases h2
theorem Tot.swo (T : Tot lt) (k : β → α) : Swo fun v u => lt (k v) (k u) := ⟨fun x y h => T.asym h, fun x y z h1 h2 => T.neg h1 h2⟩
/-- pairs, by the first, then by the second -/
def lex2 (lt : α → α → Bool) [DecidableEq α] (p q : α × α) : Bool := if p.1 = q.1 then lt p.2 q.2 else lt p.1 q.1
theorem Tot.lex [DecidableEq α] (T : Tot lt) : Tot (lex2 lt) where
  irr := fun x => by unfold lex2; rw [if_pos rfl]; exact T.irr _
  tr := fun {x y z} h1 h2 => by
    unfold lex2 at h1 h2 ⊢
    by_cases e1 : x.1 = y.1
    · rw [if_pos e1] at h1
      by_cases e2 : y.1 = z.1
      · rw [if_pos e2] at h2; rw [if_pos (e1.trans e2)]; exact T.tr h1 h2
      · rw [if_neg e2] at h2; rw [if_neg (by rw [e1]; exact e2), e1]; exact h2
    · rw [if_neg e1] at h1
      by_cases e2 : y.1 = z.1
      · rw [if_neg (by rw [← e2]; exact e1), ← e2]; exact h1
      · rw [if_neg e2] at h2
        have h3 := T.tr h1 h2
        by_cases e3 : x.1 = z.1
        · rw [e3, T.irr] at h3; cases h3
        · rw [if_neg e3]; exact h3
  tot := fun {x y} h1 h2 => by
    unfold lex2 at h1 h2
    by_cases e : x.1 = y.1
    · rw [if_pos e] at h1
      rw [if_pos e.symm] at h2
      exact Prod.ext e (T.tot h1 h2)
    · rw [if_neg e] at h1
      rw [if_neg (fun z => e z.symm)] at h2
      exact (e (T.tot h1 h2)).elim
end
abbrev ltTT : Str × Str → Str × Str → Bool := lex2 ltT
theorem tot_TT : Tot ltTT := tot_T.lex
section
variable {prog : Program} {w : World} {A : Around} {E : Value → Shared → Prop} {s : Shared}
/-! ### texts -/
def txV : Value → Str
  | .str x _ => x
  | _ => ⟨#[]⟩
def IsTx (v : Value) : Prop := ∃ x t, v = .str x t
theorem tx_cmp {vs : List Value} (h : ∀ v ∈ vs, IsTx v) : Cmp prog w A s oneType' (fun p => p.1 ∈ vs) (lt2 fun v u => ltT (txV v) (txV u)) := by
  intro p q hp hq
  obtain ⟨x, t, e1⟩ := h _ hp
  obtain ⟨y, u, e2⟩ := h _ hq
  show wpAny (model prog w) A (keyLt' oneType' p.1 q.1) (fun r s' => s' = s ∧ r = ltT (txV p.1) (txV q.1)) (fun _ _ => False) s
  rw [e1, e2, keyLt'_oneType]
  exact oneLt_str ⟨rfl, rfl⟩
theorem strs_of : ∀ (l : List Value), (∀ v ∈ l, IsTx v) → StrsAre l (l.map txV)
  | [], _ => .nil
  | v :: l, h => by
    obtain ⟨x, t, rfl⟩ := h v List.mem_cons_self
    exact .cons x t (strs_of l fun u hu => h u (List.mem_cons_of_mem _ hu))
theorem txs_sortable {a : Addr} {vs : List Value} (h2 : 2 ≤ vs.length) (h : ∀ v ∈ vs, IsTx v) : SortableO prog w A s a vs fun v u => ltT (txV v) (txV u) := by
  intro h' _
  refine ⟨oneType', fun Q E hq => ?_, tx_cmp h⟩
  match vs, h2 with
  | v :: u :: vs, _ =>
    rw [keyKind_strs (strs_of _ h)]
    exact wpAny_pure hq
/-! ### pairs of texts -/
def IsTP (h : Heap) (v : Value) (p : Str × Str) : Prop := ∃ a o t u n, v = .ref a ∧ h.get? a = some o ∧ o.cls = .type "tuple" ∧ o.data = .seq #[.str p.1 t, .str p.2 u] n
theorem IsTP.keeps {h h' : Heap} {v : Value} {p : Str × Str} (x : IsTP h v p) (k : ∀ b o, h.get? b = some o → o.cls = .type "tuple" → h'.get? b = some o) : IsTP h' v p := by
  obtain ⟨a, o, t, u, n, e, ho, hc, hd⟩ := x
  exact ⟨a, o, t, u, n, e, k a o ho hc, hc, hd⟩
theorem tp_cmp {vs : List Value} {k : Value → Str × Str} (hp : ∀ v ∈ vs, IsTP s.heap v (k v)) : Cmp prog w A s (tuples' true) (fun p => p.1 ∈ vs) (lt2 fun v u => ltTT (k v) (k u)) := by
  intro p q hm hm'
  have h1 := hp _ hm
  have h2 := hp _ hm'
  show wpAny (model prog w) A (keyLt' (tuples' true) p.1 q.1) (fun r s' => s' = s ∧ r = ltTT (k p.1) (k q.1)) (fun _ _ => False) s
  generalize k p.1 = x at h1 ⊢
  generalize k q.1 = y at h2 ⊢
  obtain ⟨a, o, t, u, n, e1, ho, hc, hd⟩ := h1
  obtain ⟨a', o', t', u', n', e2, ho', hc', hd'⟩ := h2
  rw [e1, e2]
  refine PySem.W.kat_lt ho hd ho' hd' ?_
  show PySem.W.KatLex prog w A true (decide (2 < 2)) _ [(.str x.1 t, .str y.1 t'), (.str x.2 u, .str y.2 u')] 0 s
  have eqq : ∀ (a b : Str) (t u : Tok) (Q : Bool → Shared → Prop) (E : Value → Shared → Prop), Q (decide (a = b)) s → wpAny (model prog w) A (eqBool (.str a t) (.str b u)) Q E s := fun a b t u Q E h => wpAny_eqBool_str h
  refine PySem.W.kat_cons (eqq _ _ _ _ _ _ ?_)
  refine PySem.W.kat_go (fun g1 => ?_) (fun g1 => ?_)
  · have ex : x.1 = y.1 := of_decide_eq_true g1
    refine PySem.W.kat_yes (PySem.W.kat_cons (eqq _ _ _ _ _ _ ?_))
    refine PySem.W.kat_go (fun g2 => ?_) (fun g2 => ?_)
    · have ey : x = y := Prod.ext ex (of_decide_eq_true g2)
      subst ey
      exact PySem.W.kat_yes (PySem.W.kat_nil ⟨rfl, (tot_TT.irr _).symm⟩)
    · refine PySem.W.kat_no (PySem.W.kat_one _ _ (PyProof.Rows.lt_str ?_))
      refine (show s = s ∧ decide (x.2.cps.toList < y.2.cps.toList) = ltTT x y from ⟨rfl, ?_⟩)
      unfold ltTT lex2
      rw [if_pos ex]
      rfl
  · have ex : ¬ x.1 = y.1 := of_decide_eq_false g1
    refine PySem.W.kat_no (oneLt_str ?_)
    refine ⟨rfl, ?_⟩
    unfold ltTT lex2
    rw [if_neg ex]
    rfl
theorem tp_firsts {h : Heap} : ∀ {vs : List Value} {k : Value → Str × Str}, (∀ v ∈ vs, IsTP h v (k v)) → ∃ fs : List Value, PySem.W.KatTups h vs fs ∧ fs.length = vs.length ∧ ∀ f ∈ fs, IsTx f
  | [], _, _ => ⟨[], PySem.W.KatTups.nil, rfl, fun f hf => by simp at hf⟩
  | v :: vs, k, x => by
    obtain ⟨fs, g, hl, hi⟩ := tp_firsts (vs := vs) (k := k) fun u hu => x u (List.mem_cons_of_mem _ hu)
    obtain ⟨a, o, t, u, n, rfl, ho, hc, hd⟩ := x v List.mem_cons_self
    refine ⟨.str _ t :: fs, PySem.W.KatTups.cons ho hc hd rfl g, by rw [List.length_cons, List.length_cons, hl], fun f hf => ?_⟩
    rcases List.mem_cons.mp hf with rfl | hf
    · exact ⟨_, t, rfl⟩
    · exact hi f hf
theorem tps_sortable {a : Addr} {vs : List Value} {k : Value → Str × Str} (h0 : 0 < vs.length) (hp : ∀ v ∈ vs, IsTP s.heap v (k v)) (ha : ∀ o, s.heap.get? a = some o → o.cls ≠ .type "tuple") : SortableO prog w A s a vs fun v u => ltTT (k v) (k u) := by
  intro h' keep
  have hp' : ∀ v ∈ vs, IsTP h' v (k v) := fun v hm => (hp v hm).keeps fun b o e c => keep b o (fun z => ha o (z ▸ e) c) e
  obtain ⟨fs, h1, h2, h3⟩ := tp_firsts hp'
  refine ⟨tuples' true, fun Q E hq => ?_, tp_cmp hp'⟩
  refine PySem.W.kat_kind (T := .type "str") h1 (by omega) (fun f hm => ?_) (by rfl) ?_
  · obtain ⟨x, t, rfl⟩ := h3 f hm
    exact PySem.W.Looks.of_pure rfl
  · rw [show (Value.type "str" != Value.type "tuple") = true by first | decide +kernel | rfl | decide]
    exact hq
end
end Sx
namespace L2
open PySem PySem.Spec PyProof.Rows
/-- sorted(xs), xs a list of pairs of texts of any length -/
def rSortedTP (K : PySem.W.Frag) : List V → Hp → VK → Prop := fun vs H Q => ∃ (a : Addr) (xs : List V) (k : V → Str × Str), vs = [V.ref a] ∧ SqL K H a xs ∧ (∀ x ∈ xs, ∃ t, x = V.ref t ∧ H t = some (.tup [.str (k x).1, .str (k x).2])) ∧
  ∀ ys p, SrtO.Srtd (fun x y => Sx.ltTT (k x) (k y)) ys → ys.Perm xs → H p = none → Q (.ref p) (upd H p (.lst ys))
theorem tp_of {P : Program} {w : World} {H : Hp} {h : Heap} {t : Addr} {x y : Str} (hok : HOk P w H h) (e : H t = some (.tup [.str x, .str y])) : Sx.IsTP h (.ref t) (x, y) := by
  obtain ⟨_, its2, r2, o, ho, hc, n, hd⟩ := hok _ _ e
  obtain ⟨u1, u2, rfl, ri, rj⟩ := vals2 r2
  obtain ⟨t1, rfl⟩ := ri
  obtain ⟨t2, rfl⟩ := rj
  exact ⟨t, o, t1, t2, n, rfl, ho, hc, hd⟩
theorem cr_sortedTP {X : Cx} : CallR X (.builtin "sorted") (rSortedTP X.K) := by
  intro pins s σ H vs us Q I r h
  obtain ⟨a, xs, k, rfl, hs, hx, q⟩ := h
  obtain ⟨its, rv, hl, hz⟩ := I.list hs
  obtain ⟨u, rfl, ru⟩ := vals1 r
  cases (show u = Value.ref a from ru)
  obtain ⟨e1, e2⟩ := refs_back rv fun x m => (hx x m).imp fun t z => z.1
  have hz' : its.length ≤ sizeLine := by rw [← rv.length]; exact hz
  have tps : ∀ v ∈ its, Sx.IsTP s.heap v (k (backV v)) := fun v hv => by
    obtain ⟨t, rfl⟩ := e2 v hv
    obtain ⟨t', e, ht⟩ := hx (V.ref t) (by rw [e1]; exact List.mem_map.mpr ⟨_, hv, rfl⟩)
    cases e
    exact tp_of I.hok ht
  refine SrtO.sorted_ord (Sx.tot_TT.swo fun v => k (backV v)) hl.isList hz' (fun h2 h1 b hb kk => ?_) fun out hs' hb => ?_
  · refine Sx.tps_sortable (s := { s with heap := h1 }) (by omega) (fun v hm => (tps v hm).keeps fun c o e _ => (kk c o e).2) fun o e c => ?_
    have e' : some o = some (seqObj "list" its.toArray 0) := e.symm.trans hb
    cases e'
    exact absurd (Value.type.inj c) (by decide)
  · have h3 : ∀ u ∈ out, ∃ a, u = Value.ref a := fun u hu => e2 u (hb.perm.mem_iff.mp hu)
    obtain ⟨n, hn⟩ := sortedAll_at s.heap its out.toArray
    have hp : (out.map backV).Perm xs := by rw [e1]; exact hb.perm.map backV
    refine ⟨.ref _, upd H (s.heap.objs.size + 1) (.lst (out.map backV)), I.laid (t' := s.toks) (fun _ _ => sortedAll_old) (Nat.le_succ _) ⟨?_, out, n, vals_back h3, hn⟩, rfl, q _ _ (SrtO.srtd_map hs') hp (I.hok.fresh (Nat.le_succ _))⟩
    rw [hp.length_eq]
    exact hz
end L2
end

section
set_option Elab.async false
set_option linter.all false
set_option maxRecDepth 100000
set_option maxHeartbeats 4000000
/-! Sets of texts that can be walked, by the model. -/
namespace Sx
open PySem PyProof.Rows L2
variable {P : Program} {w : World} {A : Around} {E : Value → Shared → Prop} {s : Shared} {a : Addr} {ks : List Str}
/-- the keys of a set's entries -/
def keysE (es : Array (Int × Value)) : List Str := es.toList.map fun e => txV e.2
/-- a good table of texts -/
structure Tb (P : Program) (w : World) (es : Array (Int × Value)) (t : SetTable) : Prop where
  el : ElemsOf (PySem.strKind P w) es.toList
  nd : (keysE es).Nodup
  sz : es.size < scanBound
  ft : t.fits es.size = true
  ri : Ris t.place.toList
  ld : w.params.followText "set-order" = true ∨ t.led = true
/-- the set at a has the texts ks, each once, in some order -/
def SetTx (P : Program) (w : World) (h : Heap) (a : Addr) (ks : List Str) : Prop := ∃ o es ep t, h.get? a = some o ∧ o.ExactSet ∧ o.data = .set es ep t ∧ Tb P w es t ∧ (keysE es).Perm ks
theorem SetTx.at {h h' : Heap} (R : SetTx P w h a ks) (k : ∀ o, h.get? a = some o → h'.get? a = some o) : SetTx P w h' a ks := by
  obtain ⟨o, es, ep, t, ho, r⟩ := R
  exact ⟨o, es, ep, t, k o ho, r⟩
theorem SetTx.perm {h : Heap} {ks' : List Str} (R : SetTx P w h a ks) (p : ks.Perm ks') : SetTx P w h a ks' := by
  obtain ⟨o, es, ep, t, ho, hx, hd, b, q⟩ := R
  exact ⟨o, es, ep, t, ho, hx, hd, b, q.trans p⟩
theorem el_key {es : List (Int × Value)} (h : ElemsOf (PySem.strKind P w) es) {e : Int × Value} (he : e ∈ es) (k : Str) : (PySem.strKind P w).is k e.2 = true ↔ txV e.2 = k := by
  obtain ⟨⟨k0, h1, _⟩, _⟩ := h e he
  obtain ⟨t, e2⟩ := Value.isStrOf_shape h1
  rw [e2]
  show ((k0 == k) = true) ↔ k0 = k
  exact beq_iff_eq
theorem SetTx.setOf {h : Heap} (R : SetTx P w h a ks) : h.SetOf (PySem.strKind P w) a (fun k => decide (k ∈ ks)) ks.length := by
  obtain ⟨o, es, ep, t, ho, hx, hd, b, q⟩ := R
  refine ⟨o, es, ep, t, ho, hx, hd, b.el, fun k => ?_, b.sz, b.ft, by rw [← q.length_eq]; simp [keysE]⟩
  rw [decide_eq_true_eq, ← q.mem_iff]
  unfold keysE
  rw [List.mem_map]
  exact ⟨fun ⟨e, he, z⟩ => ⟨e, he, (el_key b.el he k).2 z⟩, fun ⟨e, he, z⟩ => ⟨e, he, (el_key b.el he k).1 z⟩⟩
/-- the store behind an add, laid anew where it has grown too full -/
theorem store_tail {g : Bool → Sem Unit} (hg : ∀ (b : Bool) (s' : Shared) (Q : Unit → Shared → Prop), Q () s' → wpAny (model P w) A (g b) Q E s') {o : Obj} {es es1 : Array (Int × Value)} {ep : Nat} {t t2 : SetTable} {dm : Bool} {R : Option Bool → Shared → Prop}
    (ho : s.heap.get? a = some o) (hx : o.ExactSet) (hd : o.data = .set es ep t) (b : Tb P w es1 t2) (hR : ∀ h', Heap.SameBut a s.heap h' → SetTx P w h' a (keysE es1) → R (some true) { s with heap := h' }) :
    wpAny (model P w) A (storeSet a es1 t2 >>= fun _ => if (!dm && t2.tooFull) = true then
        (g (relayAll t2 es1 (SetTable.grown es1.size)).2.2 >>= fun _ => storeSet a (relayAll t2 es1 (SetTable.grown es1.size)).1 (relayAll t2 es1 (SetTable.grown es1.size)).2.1 >>= fun _ => pure (some true))
      else pure (some true)) R E s := by
  have o1 := store_at (es' := es1) (t' := t2) ho hd
  have m1 := Heap.SameBut.update s.heap a (Obj.putSet es1 t2)
  refine wpAny_bind (wpAny_storeSet_of ho hd ?_ (fits_of_scanBound b.sz))
  cases (!dm && t2.tooFull) with
  | false => exact wpAny_pure (hR _ m1 ⟨_, es1, _, t2, o1, hx, rfl, b, .refl _⟩)
  | true =>
    rw [if_pos rfl]
    have p := relayAll_perm t2 es1 (SetTable.grown es1.size)
    have z1 := relayAll_fits t2 es1 (SetTable.grown es1.size)
    have z2 := relayAll_ris t2 es1 (SetTable.grown es1.size)
    have z3 := relayAll_led t2 es1 (SetTable.grown es1.size)
    revert p z1 z2 z3
    generalize relayAll t2 es1 (SetTable.grown es1.size) = Y
    obtain ⟨es2, t3, gv⟩ := Y
    intro p z1 z2 z3
    dsimp only at p z1 z2 z3 ⊢
    have es_sz : es2.size = es1.size := by rw [← Array.length_toList, p.length_eq, Array.length_toList]
    have kp : (keysE es2).Perm (keysE es1) := p.map _
    have b2 : Tb P w es2 t3 := ⟨b.el.perm p, kp.nodup_iff.mpr b.nd, by rw [es_sz]; exact b.sz, z1, z2, b.ld.imp id fun q => by rw [z3]; exact q⟩
    refine wpAny_bind (hg _ _ _ (wpAny_bind (wpAny_storeSet_of o1 rfl ?_ (fits_of_scanBound b2.sz))))
    exact wpAny_pure (hR _ (m1.trans (Heap.SameBut.update _ a _)) ⟨_, es2, _, t3, store_at (es' := es2) (t' := t3) o1 rfl, hx, rfl, b2, kp⟩)
theorem add_tx {k : Str} {tk : Tok} {Q : Bool → Shared → Prop} (R : SetTx P w s.heap a ks) (room : ks.length + 1 < scanBound)
    (hQ : ∀ h', Heap.SameBut a s.heap h' → SetTx P w h' a (if k ∈ ks then ks else k :: ks) → Q (!decide (k ∈ ks)) { s with heap := h' }) :
    wpAny (model P w) A (setAddHashed a (.str k tk) (hashStr w k)) Q E s := by
  obtain ⟨o, es, ep, t, ho, hx, hd, b, pk⟩ := R
  have isk : (PySem.strKind P w).is k (.str k tk) = true := beq_self_eq_true k
  have sc : (Value.str k tk).scannable = true := rfl
  have mem : k ∈ ks ↔ ∃ e ∈ es.toList, (PySem.strKind P w).is k e.2 = true := by
    rw [← pk.mem_iff]
    unfold keysE
    rw [List.mem_map]
    exact ⟨fun ⟨e, he, z⟩ => ⟨e, he, (el_key b.el he k).2 z⟩, fun ⟨e, he, z⟩ => ⟨e, he, (el_key b.el he k).1 z⟩⟩
  show wpAny (model P w) A (setAddHashed a (.str k tk) ((PySem.strKind P w).hash k)) Q E s
  unfold setAddHashed setAddHashedIn
  refine wpAny_holding (wpAny_bind (wpAny_setState_of ho hd b.ft ?_))
  dsimp only
  rw [byScan_of sc b.sz b.el]
  simp only [↓reduceIte]
  unfold setAddByScan
  refine wpAny_bind (wpAny_bind (wpAny_rule ?_))
  refine wpAny_bind (wpAny_setScan_of isk ho hd b.ft b.el ?_)
  cases hf : List.findIdx? (fun e => (PySem.strKind P w).is k e.2) es.toList with
  | some j =>
    obtain ⟨hj, pj, _⟩ := List.findIdx?_eq_some_iff_getElem.mp hf
    have hin : k ∈ ks := mem.2 ⟨_, List.getElem_mem hj, pj⟩
    have q := hQ s.heap (Heap.SameBut.refl a s.heap) (by rw [if_pos hin]; exact ⟨o, es, ep, t, ho, hx, hd, b, pk⟩)
    rw [decide_eq_true hin] at q
    exact wpAny_pure (wpAny_pure q)
  | none =>
    dsimp only
    have hno : k ∉ ks := fun z => by
      obtain ⟨e, he, q⟩ := mem.1 z
      rw [List.findIdx?_eq_none_iff.mp hf e he] at q
      cases q
    have silent : ∀ (b : Bool) (s' : Shared) (Q' : Unit → Shared → Prop), Q' () s' → wpAny (model P w) A (match b with | true => rule "set.scan.the-table-gave-way" | false => pure ()) Q' E s' := fun b s' Q' z => by
      cases b with
      | true => exact wpAny_rule z
      | false => exact wpAny_pure z
    have p := layNew_perm t es ((PySem.strKind P w).hash k) (.str k tk)
    have z1 := layNew_fits t es ((PySem.strKind P w).hash k) (.str k tk)
    have z2 := layNew_ris t es ((PySem.strKind P w).hash k) (.str k tk) b.ri
    have z3 := layNew_led t es ((PySem.strKind P w).hash k) (.str k tk)
    revert p z1 z2 z3
    generalize layNew t es ((PySem.strKind P w).hash k) (.str k tk) = Y
    obtain ⟨es1, t1, dm, gv⟩ := Y
    intro p z1 z2 z3
    dsimp only at p z1 z2 z3 ⊢
    rw [Array.toList_push] at p
    have p' : es1.toList.Perm (((PySem.strKind P w).hash k, Value.str k tk) :: es.toList) := p.trans (List.perm_append_singleton _ _)
    have kp : (keysE es1).Perm (k :: keysE es) := p'.map fun e : Int × Value => txV e.2
    have knew : (keysE es1).Perm (k :: ks) := kp.trans (pk.cons k)
    have szk : es.size = ks.length := by rw [← pk.length_eq]; simp [keysE]
    have sz1 : es1.size = ks.length + 1 := by rw [← Array.length_toList, p'.length_eq, List.length_cons, Array.length_toList, szk]
    have nd1 : (keysE es1).Nodup := kp.nodup_iff.mpr (List.nodup_cons.mpr ⟨fun z => hno (pk.mem_iff.mp z), b.nd⟩)
    have tb : ∀ t2 : SetTable, t2.fits es1.size = true → Ris t2.place.toList → t2.led = t1.led → Tb P w es1 t2 := fun t2 y1 y2 y3 => ⟨(b.el.push isk sc).perm p, nd1, by rw [sz1]; exact room, y1, y2, b.ld.imp id fun q => by rw [y3, z3]; exact q⟩
    have fin : ∀ h', Heap.SameBut a s.heap h' → SetTx P w h' a (keysE es1) → Q true { s with heap := h' } := fun h' y1 y2 => by
      have q := hQ h' y1 (by rw [if_neg hno]; exact y2.perm knew)
      rw [decide_eq_false hno] at q
      exact q
    refine wpAny_bind (silent _ _ _ ?_)
    cases hpl : t1.plain with
    | true =>
      rw [if_pos rfl]
      refine wpAny_bind ?_
      rw [hashByValue_scannable 8 sc]
      refine wpAny_pure ?_
      refine store_tail silent ho hx hd (tb _ ?_ ?_ ?_) fun h' y1 y2 => wpAny_pure (fin h' y1 y2)
      · first | exact z1 | (split <;> first | exact z1 | exact SetTable.fits_plain_off z1) | exact SetTable.fits_plain_off z1
      · first | exact z2 | (split <;> exact z2)
      · first | rfl | (split <;> rfl)
    | false =>
      rw [if_neg (by simp)]
      refine wpAny_bind (wpAny_pure ?_)
      simp only [↓reduceIte]
      exact store_tail silent ho hx hd (tb _ z1 z2 rfl) fun h' y1 y2 => wpAny_pure (fin h' y1 y2)
/-- set.add, as called -/
theorem call_add_tx {k : Str} {tk : Tok} {Q : Value → Shared → Prop} (R : SetTx P w s.heap a ks) (room : ks.length + 1 < scanBound)
    (hQ : ∀ h', Heap.SameBut a s.heap h' → SetTx P w h' a (if k ∈ ks then ks else k :: ks) → Q .none { s with heap := h', toks := s.toks + 1 }) :
    wpAny (model P w) A (call (.builtin "set.add") [.ref a, .str k tk]) Q E s := by
  refine wpAny_call_entry F.slot_set_add R.setOf.typeIs F.entry_set_add ?_ (F.args_set_add_2 _ _)
  unfold Builtin.«set.add» Builtin.Frozenset.oneOther
  simp only [List.isEmpty_nil, bind_assoc]
  unfold Builtin.Frozenset.addrOf setAdd
  refine wpAny_bind (wpAny_pure ?_)
  (try dsimp only)
  refine wpAny_bind (wpAny_pure ?_)
  (try dsimp only)
  refine wpAny_bind (wpAny_holding (wpAny_bind (wpAny_pyHash_str ?_)))
  exact add_tx (s := { s with toks := s.toks + 1 }) R room fun h' y1 y2 => wpAny_pure ⟨_, rfl, hQ h' y1 y2⟩
theorem tx_fresh {h : Heap} {b : Addr} (ho : h.get? b = some { cls := .type "set", dict := none, data := .set #[] 0 (.fresh 0 0 (!w.params.followText "set-order")) }) : SetTx P w h b [] :=
  ⟨_, #[], 0, _, ho, ⟨rfl, rfl, rfl⟩, rfl, ⟨fun e he => by simp at he, List.nodup_nil, by decide, by rfl, List.Pairwise.nil, by
    show _ ∨ (!w.params.followText "set-order") = true
    cases w.params.followText "set-order" with
    | true => exact .inl rfl
    | false => exact .inr rfl⟩, .refl _⟩
/-- sorted(set) -/
theorem sorted_tx {Q : Value → Shared → Prop} (R : SetTx P w s.heap a ks) (hh : A.handled = none)
    (hQ : ∀ s' p (out : List Value) (c : Nat), (∀ b o, s.heap.get? b = some o → s'.heap.get? b = some o) → s'.gens = s.gens → s'.os = s.os → s.heap.objs.size ≤ p → s'.heap.get? p = some (seqObj "list" out.toArray c) →
      (∀ v ∈ out, IsTx v) → (out.map txV).Perm ks → (out.map txV).Pairwise (fun x y => ltT x y = true) → out.length ≤ sizeLine → Q (.ref p) s') :
    wpAny (model P w) A (call (.builtin "sorted") [.ref a]) Q E s := by
  obtain ⟨o, es, ep, t, ho, hx, hd, b, pk⟩ := R
  refine Calls.call_function_entry kind_sorted plain_sorted entry_sorted (args_sorted1 _) ?_
  unfold Builtin.«sorted»
  refine wpAny_bind (m := checkCount "sorted" 1 1 _) (wpAny_pure ?_)
  refine wpAny_bind (collect_set (A := A.in1) hh ⟨o, ho, hx.1, hd⟩ b.ft b.sz b.ri b.ld fun s1 vs k1 hz g1 o1 pm => ?_)
  have tx : ∀ v ∈ vs, IsTx v := fun v hv => by
    obtain ⟨e, he, rfl⟩ := List.mem_map.mp (pm.mem_iff.mp hv)
    obtain ⟨⟨k, h1, _⟩, _⟩ := b.el e he
    obtain ⟨t, h2⟩ := Value.isStrOf_shape h1
    exact ⟨k, t, h2⟩
  have pks : (vs.map txV).Perm ks := by
    have q := pm.map txV
    rw [List.map_map] at q
    exact q.trans pk
  have vlen : vs.length ≤ sizeLine := by
    rw [pm.length_eq, List.length_map, Array.length_toList]
    exact fits_of_scanBound b.sz
  refine wpAny_bind (wpAny_newList ?_ vlen)
  have hL : (s1.heap.push (seqObj "list" vs.toArray 0)).get? s1.heap.objs.size = some (seqObj "list" vs.toArray 0) := Heap.get?_push_size _ rfl
  refine wpAny_bind (wpAny_holding (wpAny_call_entry slot_list_sort ⟨_, hL, rfl⟩ entry_list_sort (SrtO.list_sort_ord (tot_T.swo txV) hL vlen (fun h2 => txs_sortable h2 tx) fun out c1 c2 => ⟨_, rfl, ?_⟩) (args_list_sort _)))
  obtain ⟨c, hc⟩ := sortedHeap_at (vs := vs) (out := out.toArray) hL
  have kp : (out.map txV).Perm ks := (c2.perm.map txV).trans pks
  have nd : (out.map txV).Nodup := kp.nodup_iff.mpr (pk.nodup_iff.mp b.nd)
  refine wpAny_pure ⟨_, rfl, hQ _ s1.heap.objs.size out c (fun x u e => ?_) g1 o1 hz hc (fun v hv => tx v (c2.perm.mem_iff.mp hv)) kp ?_ (by rw [c2.perm.length_eq]; exact vlen)⟩
  · have q := k1 x u e
    have lt := Heap.lt_size q
    show (sortedHeap (s1.heap.push (seqObj "list" vs.toArray 0)) s1.heap.objs.size vs out.toArray).get? x = some u
    rw [sortedHeap_old (Nat.ne_of_lt lt) (by rw [size_push']; exact Nat.lt_succ_of_lt lt)]
    exact Heap.get?_push_of_some _ q
  · have c1' : (out.map txV).Pairwise (fun x y => ltT y x = false) := List.pairwise_map.mpr c1
    refine (c1'.and nd).imp fun {x y} z => ?_
    rcases tot_T.cas x y with q | q | q
    · exact q
    · exact (z.2 q).elim
    · rw [z.1] at q; cases q
end Sx
end

section
set_option Elab.async false
set_option linter.all false
set_option maxRecDepth 100000
set_option maxHeartbeats 4000000
/-! set(xs) of a list, whatever its items are, by what each item's add does. -/
namespace Sx
open PySem PyProof.Rows L2
section
variable {P : Program} {w : World} {A : Around} {E : Value → Shared → Prop} {s : Shared}
abbrev emptyS (w : World) : Obj := { cls := .type "set", dict := none, data := .set #[] 0 (.fresh 0 0 (!w.params.followText "set-order")) }
/-- what stands below and at D is as it was -/
def Low (D : Addr) (h h' : Heap) : Prop := ∀ b o, b ≤ D → h.get? b = some o → h'.get? b = some o
/-- one add leads from J i to J (i + 1) -/
def StepJ (P : Program) (w : World) (A : Around) (D : Addr) (items : Array Value) (J : Nat → Heap → Prop) : Prop :=
  ∀ (i : Nat) (v : Value) (s : Shared) (E : Value → Shared → Prop) (Q : Bool → Shared → Prop), items[i]? = some v → J i s.heap →
    (∀ b h' tk, s.toks ≤ tk → Heap.SameBut D s.heap h' → J (i + 1) h' → Q b { s with heap := h', toks := tk }) → wpAny (model P w) A (setAdd D v) Q E s
theorem loop_J {I : Addr} {fp wr : List Addr} {G : Array GenState → Array GenState → Prop} {items : Array Value} {St : Nat → Shared → Prop} {R : Result → Shared → Prop} {D : Addr} {J : Nat → Heap → Prop}
    (W : WalksS P w A.in1 I fp wr G items.size (fun i v => items[i]? = some v) St) (hD : D ∉ fp) (hw : ∀ b ∈ wr, D < b) (low : ∀ i h h', Low D h h' → J i h → J i h') (step : StepJ P w A.in1 D items J) :
    ∀ (m i : Nat) (s : Shared), items.size - i = m → i ≤ items.size → St i s → J i s.heap → (∀ s', Moved (D :: wr) G s s' → J items.size s'.heap → R (.ok (.ret .none)) s') →
      codeAny (model P w) A (.builtin "set.update.loop" ⟨[.ref D, .ref I], []⟩) R s := by
  have out : ∀ b, b ≤ D → b ∉ wr := fun b hb z => Nat.lt_irrefl _ (Nat.lt_of_lt_of_le (hw b z) hb)
  have wider : ∀ b ∈ wr, b ∈ D :: wr := fun b hb => List.mem_cons_of_mem _ hb
  intro m
  induction m with
  | zero =>
    intro i s em hi st hj fin
    obtain rfl : i = items.size := by omega
    refine codeAny_builtin F.entry_set_update_loop ?_
    rw [Around.under_plainId F.plain_set_update_loop _]
    show wpAny _ A.in1 (pyNext (.ref I) >>= _) _ _ s
    refine wpAny_bind (W.done s _ _ st fun s' mv => ?_)
    show wpAny _ A.in1 (ret Value.none) _ _ s'
    exact wpAny_pure (fin s' (mv.mono wider) (low _ _ _ (fun b o hb e => mv.heap b o (out b hb) e) hj))
  | succ m ih =>
    intro i s em hi st hj fin
    refine codeAny_builtin F.entry_set_update_loop ?_
    rw [Around.under_plainId F.plain_set_update_loop _]
    show wpAny _ A.in1 (pyNext (.ref I) >>= _) _ _ s
    refine wpAny_bind (W.item i s _ _ (by omega) st fun v s' hv st' mv => ?_)
    have hj' := low _ _ _ (fun b o hb e => mv.heap b o (out b hb) e) hj
    show wpAny _ A.in1 (holding [v] (setAdd D v) >>= _) _ _ s'
    refine wpAny_bind (wpAny_holding (step i v s' _ _ hv hj' fun b h2 tk later same hj2 => ?_))
    refine wpAny_pure ⟨plainId_quiet F.plain_set_update_loop _, ih (i + 1) _ (by omega) (by omega) ?_ hj2 fun s3 mv3 hj3 => fin s3 ?_ hj3⟩
    · refine W.frame _ s' h2 tk st' later fun b hb o e => ?_
      · rw [same.2 b (fun z : b = D => hD (z ▸ hb))]; exact e
    · refine Moved.trans W.gtrans ((mv.mono wider).then_heap later fun b o hb e => ?_) mv3
      · rw [same.2 b (fun z : b = D => hb (z ▸ List.mem_cons_self))]; exact e
theorem call_set_J {l : Addr} {items : Array Value} {Q : Value → Shared → Prop} {J : Nat → Heap → Prop} (hh : A.handled = none) (hl : s.heap.IsList l items)
    (low : ∀ i h h', Low s.heap.objs.size h h' → J i h → J i h') (j0 : ∀ h, (∀ b o, s.heap.get? b = some o → h.get? b = some o) → h.get? s.heap.objs.size = some (emptyS w) → J 0 h)
    (step : ∀ A' : Around, A'.units ≤ A.units + 3 → StepJ P w A' s.heap.objs.size items J)
    (fin : ∀ h' tk, J items.size h' → (∀ b o, s.heap.get? b = some o → h'.get? b = some o) → Q (.ref s.heap.objs.size) { s with heap := h', toks := tk }) : wpAny (model P w) A (call (.type "set") [.ref l]) Q E s := by
  generalize eD : s.heap.objs.size = D at low j0 step fin
  obtain ⟨c0, tl0, mro0⟩ := F.called_set.mro
  have made0 := F.called_set.made
  have sub0 := F.called_set.sub
  refine wpAny_call (codeAny_of_tree ?_)
  show wpAny _ _ (callAny (.type "set") _) _ _ _
  refine wpAny_pure ⟨Code.quiet_builtin _ (by decide +kernel), codeAny_builtin F.entry_type_call ?_⟩
  rw [Around.under_plain (weight_type_call_type "set" [.ref l] []) rfl]
  have ty1 := F.called_set.notType
  have ty2 := F.called_set.canCreate
  have ty3 := F.typeCall_set_1 (.ref l)
  repeat (any_goals (first | assumption | wp_step))
  have hD : (s.heap.push (emptyS w)).get? D = some (emptyS w) := by rw [← eD]; exact Heap.get?_push_size _ rfl
  have sz1 : (s.heap.push (emptyS w)).objs.size = D + 1 := by rw [Heap.size_push, eD]
  refine codeAny_mono (code_set_led1 (.ref l) (E := E) (Q₁ := fun v s1 => v = .ref D ∧ s1 = { s with heap := s.heap.push (emptyS w) }) ⟨by rw [eD], rfl⟩) fun r s1 hr => ?_
  cases r with
  | error e => exact hr
  | ok fl =>
    cases fl with
    | ret v =>
      obtain ⟨rfl, rfl⟩ := hr
      have tyD : Shared.TypeIs { s with heap := s.heap.push (emptyS w) } (.ref D) "set" := ⟨_, hD, rfl⟩
      have in1 := F.called_set.init.lookup
      have in2 := F.called_set.init.bind (.ref D)
      repeat (any_goals (first | assumption | wp_step))
      refine codeAny_mono (codeAny_call_builtin (R := wants (fun r s2 => r = .none ∧ ∃ h' tk, s2 = { s with heap := h', toks := tk } ∧ J items.size h' ∧ ∀ b o, s.heap.get? b = some o → h'.get? b = some o) E) F.called_set.init.plain F.entry_set_init (check_set_init_1 tyD ?_)) fun r2 s2 hr2 => ?_
      · obtain ⟨⟨cl, dc, dt, sl⟩, ol, e1, n1, e2⟩ := hl
        simp only at e1 e2
        subst e1 e2
        have ol1 : (s.heap.push (emptyS w)).get? l = some { cls := .type "list", dict := dc, data := .seq items n1, slots := sl } := Heap.get?_push_of_some _ ol
        have il1 : (s.heap.push (emptyS w)).IsList l items := ⟨_, ol1, rfl, n1, rfl⟩
        have su1 := F.sub_list_set
        have su2 := F.sub_list_frozenset
        have ne1 : (Value.type "list" == Value.type "dict") = false := by decide
        unfold Builtin.«set.__init__» noKeywords Builtin.Frozenset.updateFrom
        generalize hPI : pyIter = PI
        wp_walk
        subst hPI
        refine wpAny_pyIter_list il1 (wpAny_bind (wpAny_runValue ?_))
        have lD : l < D := by rw [← eD]; exact Heap.lt_size ol
        have quiet3 : A.in1.in1.in1.handled = none := by simp [hh]
        have lI : l ≠ (s.heap.push (emptyS w)).objs.size := by rw [sz1]; exact Nat.ne_of_lt (Nat.lt_succ_of_lt lD)
        have nD : D ∉ [(s.heap.push (emptyS w)).objs.size, l] := by
          rw [sz1]
          simp only [List.mem_cons, List.not_mem_nil, or_false, not_or]
          exact ⟨Nat.ne_of_lt (Nat.lt_succ_self D), Nat.ne_of_gt lD⟩
        refine loop_J (J := J) ((Walks.list quiet3 _ l lI items).toS) nD (fun b hb => by rw [List.mem_singleton.mp hb, sz1]; exact Nat.lt_succ_self D) low (step _ ?_) (items.size - 0) 0 _ (by omega) (Nat.zero_le _) ⟨⟨_, Heap.get?_push_size _ rfl, rfl, rfl⟩, (il1.push _)⟩ (j0 _ (fun b o e => Heap.get?_push_of_some _ (Heap.get?_push_of_some _ e)) (Heap.get?_push_of_some _ hD)) fun s' mv hj => ?_
        · trace_state
          simp [Around.in1, Around.units]
        · obtain ⟨h', g2, d2, tk2, o2⟩ := s'
          have y1 : g2 = s.gens := mv.gens
          have y2 : d2 = s.drawn := mv.drawn
          have y3 : o2 = s.os := mv.os
          subst y1 y2 y3
          show wpAny _ _ _ _ _ _
          refine wpAny_pure ?_
          show wpAny _ _ (ret Value.none) _ _ _
          refine wpAny_pure ⟨rfl, h', tk2, rfl, hj, fun b o e => ?_⟩
          have bD : b < D := by rw [← eD]; exact Heap.lt_size e
          refine mv.heap b o ?_ (Heap.get?_push_of_some _ (Heap.get?_push_of_some _ e))
          rw [sz1]
          simp only [List.mem_cons, List.not_mem_nil, or_false, not_or]
          exact ⟨Nat.ne_of_lt bD, Nat.ne_of_lt (Nat.lt_succ_of_lt bD)⟩
      · cases r2 with
        | error e => exact hr2
        | ok fl2 =>
          cases fl2 with
          | ret r =>
            obtain ⟨rfl, h', tk, rfl, hj, keep⟩ := hr2
            repeat (any_goals (first | assumption | wp_step))
            exact fin _ _ hj keep
          | _ => exact hr2.elim
    | _ => exact hr.elim
end
end Sx
end

section
set_option Elab.async false
set_option linter.all false
set_option maxRecDepth 100000
set_option maxHeartbeats 4000000
/-! Sets of texts as rules of the layer. -/
namespace Sx
open PySem PyProof.Rows L2
theorem tx_step {P : Program} {w : World} {A : Around} {D : Addr} {items : Array Value} {ts : List Str} (h : StrsAre items.toList ts) (few : ts.length ≤ 1000) : StepJ P w A D items fun i h => ∃ ks, SetTx P w h D ks ∧ ks.length ≤ i ∧ ∀ x, x ∈ ks ↔ x ∈ ts.take i := by
  intro i v s E Q hv ⟨ks, R, hl, hm⟩ hQ
  have hi : i < items.size := (Array.getElem?_eq_some_iff.mp hv).1
  have len := h.length
  have it : i < ts.length := by rw [← len]; simpa using hi
  obtain ⟨t, ht⟩ : ∃ t, v = .str ts[i] t := by
    obtain ⟨x, t, e⟩ := h.all v (List.mem_of_getElem? (by rw [Array.getElem?_toList]; exact hv))
    have z := congrArg (fun l : List Str => l[i]?) h.strs
    simp only [List.getElem?_map, Array.getElem?_toList, hv, Option.map_some] at z
    rw [List.getElem?_eq_getElem it] at z
    rw [e] at z
    cases z
    exact ⟨t, e⟩
  subst ht
  unfold setAdd
  refine wpAny_holding (wpAny_bind (wpAny_pyHash_str ?_))
  refine add_tx (s := { s with toks := s.toks + 1 }) R (by rw [show scanBound = 4096 from rfl]; omega) fun h' sb R' => hQ _ h' _ (Nat.le_succ _) sb ⟨_, R', ?_, fun x => ?_⟩
  · split
    · exact Nat.le_succ_of_le hl
    · rw [List.length_cons]; exact Nat.succ_le_succ hl
  · rw [List.take_add_one, List.getElem?_eq_getElem it, List.mem_append, ← hm x]
    have : x ∈ (some ts[i]).toList ↔ x = ts[i] := by simp
    rw [this]
    by_cases q : ts[i] ∈ ks
    · rw [if_pos q]
      exact ⟨.inl, fun z => z.elim id fun e => e ▸ q⟩
    · rw [if_neg q, List.mem_cons]
      exact or_comm
end Sx
namespace L2
open PySem PySem.Spec PyProof.Rows
def SetTxO (P : Program) (w : World) (a : Addr) (ks : List Str) : HO := .ext fun h => Sx.SetTx P w h a ks
theorem setTx_new {P : Program} {w : World} {H : Hp} {h : Heap} {a : Addr} {ks : List Str} (R : Sx.SetTx P w h a ks) : ObjOk P w H h a (SetTxO P w a ks) := by
  have ⟨o, _, _, _, ho, _⟩ := R
  exact ⟨R, ⟨o, ho⟩, fun _ _ z k => Sx.SetTx.at z k⟩
section
variable {X : Cx}
theorem setTx_get {pins : List (Addr × Obj)} {σ : St} {H : Hp} {s : Shared} {a : Addr} {ks : List Str} (I : Inv X pins σ H s) (ha : H a = some (SetTxO X.prog X.w a ks)) : Sx.SetTx X.prog X.w s.heap a ks := (I.hok a _ ha).1
def rSetTx (K : PySem.W.Frag) (P : Program) (w : World) : List V → Hp → VK → Prop := fun xs H Q => ∃ (l : Addr) (ts : List Str), xs = [V.ref l] ∧ SqL K H l (ts.map V.str) ∧ ts.length ≤ 1000 ∧
  ∀ (ks : List Str) (p : Addr), (∀ x, x ∈ ks ↔ x ∈ ts) → ks.Nodup → ks.length ≤ 1000 → H p = none → Q (.ref p) (upd H p (SetTxO P w p ks))
theorem cr_setTx (hc : X.calm = true) : CallR X (.type "set") (rSetTx X.K X.prog X.w) := by
  intro pins s σ H xs us Q I r ⟨l, ts, e, hs, few, q⟩
  subst e
  obtain ⟨u, rfl, ru⟩ := vals1 r
  cases (show u = Value.ref l from ru)
  obtain ⟨its, rv, hl, _⟩ := I.list hs
  have sa : StrsAre its.toArray.toList ts := by simpa using rv.strs
  have sz : its.toArray.size = ts.length := by have := sa.length; simpa using this
  refine Sx.call_set_J (J := fun i h => ∃ ks, Sx.SetTx X.prog X.w h s.heap.objs.size ks ∧ ks.length ≤ i ∧ ∀ x, x ∈ ks ↔ x ∈ ts.take i) (I.ok.hd hc) hl.isList (fun i h h' lo ⟨ks, R, z⟩ => ⟨ks, R.at fun o e => lo _ o (Nat.le_refl _) e, z⟩)
    (fun h _ ho => ⟨[], Sx.tx_fresh ho, Nat.zero_le _, fun x => by simp⟩) (fun A' _ => Sx.tx_step sa few) fun h' tk ⟨ks, R, hk, hm⟩ keep => ?_
  rw [sz] at hm hk
  exact ⟨.ref s.heap.objs.size, _, I.laid (t' := tk) keep (Nat.le_refl _) (setTx_new R), rfl, q ks _ (fun x => by rw [hm x, List.take_length]) (let ⟨_, _, _, _, _, _, _, b, pk⟩ := R; pk.nodup_iff.mp b.nd) (Nat.le_trans hk few) (I.hok.fresh (Nat.le_refl _))⟩
def rSortTx (P : Program) (w : World) : List V → Hp → VK → Prop := fun xs H Q => ∃ (a : Addr) (ks : List Str), xs = [V.ref a] ∧ H a = some (SetTxO P w a ks) ∧
  ∀ (ys : List Str) (p : Addr), ys.Perm ks → ys.Pairwise (fun x y => Sx.ltT x y = true) → H p = none → Q (.ref p) (upd H p (.lst (ys.map V.str)))
theorem vals_txs : ∀ {us : List Value}, (∀ u ∈ us, Sx.IsTx u) → Vals ((us.map Sx.txV).map V.str) us
  | [], _ => .nil
  | u :: us, h => by
    obtain ⟨x, t, rfl⟩ := h u List.mem_cons_self
    exact .cons ⟨t, rfl⟩ (vals_txs fun y hy => h y (List.mem_cons_of_mem _ hy))
theorem cr_sortTx (hc : X.calm = true) : CallR X (.builtin "sorted") (rSortTx X.prog X.w) := by
  intro pins s σ H xs us Q I r ⟨a, ks, e, ha, q⟩
  subst e
  obtain ⟨u, rfl, ru⟩ := vals1 r
  cases (show u = Value.ref a from ru)
  refine Sx.sorted_tx (setTx_get I ha) (I.ok.hd hc) fun s' p out c keep eg eo hp hL tx pm pw hz => ?_
  have hn := I.hok.fresh hp
  have new : ObjOk X.prog X.w (upd H p (.lst ((out.map Sx.txV).map V.str))) s'.heap p (.lst ((out.map Sx.txV).map V.str)) := ⟨by simpa using hz, out, c, vals_txs tx, hL⟩
  exact ⟨.ref p, _, I.call' (ch := []) eo (Un.laid keep hp hn) (I.hok.laid keep hp new) (by rw [eg]; exact I.bare) (fun _ z => nomatch z), rfl, q _ p pm pw hn⟩
def rLenTx (P : Program) (w : World) : List V → Hp → VK → Prop := fun xs H Q => ∃ (a : Addr) (ks : List Str), xs = [V.ref a] ∧ H a = some (SetTxO P w a ks) ∧ Q (.int ks.length) H
theorem call_lenTx : CallR X (.builtin "len") (rLenTx X.prog X.w) := by
  intro pins s σ H xs us Q I r ⟨a, ks, e, ha, q⟩
  subst e
  obtain ⟨u, rfl, ru⟩ := vals1 r
  cases (show u = Value.ref a from ru)
  obtain ⟨o, es, ep, t, ho, hx, hd, b, pk⟩ := setTx_get I ha
  have sz : es.size = ks.length := by rw [← pk.length_eq]; simp [Sx.keysE]
  have lt := b.sz
  exact call_len_set ho hx hd b.ft (by rw [show scanBound = 4096 from rfl] at lt; omega) ⟨.int ks.length, H, I.tok _, ⟨_, by rw [sz]⟩, q⟩
end
end L2
end

section
set_option Elab.async false
set_option linter.all false
set_option maxRecDepth 100000
set_option maxHeartbeats 4000000
/-! Sets of tuples of texts: searching. -/
namespace Sx
open PySem PyProof.Rows L2
/-! ### the way of a search, as its states -/
def stAt (m : Nat) (h : Int) (c : Nat) : SetTable.Probe := nth m (runAt m (SetTable.bits h % (m + 1)) (SetTable.bits h)) c
theorem stAt_add (m : Nat) (h : Int) (c q : Nat) : nth m (stAt m h c) q = stAt m h (c + q) := (nth_add m c _ q).symm
theorem adv_dummy (m : Nat) (p : SetTable.Probe) : (adv m p).dummy = p.dummy := by
  unfold adv
  split <;> rfl
theorem stAt_dummy (m : Nat) (h : Int) : ∀ c, (stAt m h c).dummy = none
  | 0 => rfl
  | c + 1 => by
    unfold stAt
    rw [nth_succ, adv_dummy]
    exact stAt_dummy m h c
/-- what a probe from the c-th step tells -/
theorem probe_from {t : SetTable} {hs : List Int} (T : TabOk t hs) (g : Nat → Int) (h : Int) {c K : Nat} (cK : c ≤ K) (few : K < 10 * SetTable.turns t.mask) (out : way t.mask h K ∉ t.place.toList) (ins : ∀ k, k < K → way t.mask h k ∈ t.place.toList) :
    (∃ q i, c ≤ q ∧ q < K ∧ t.place.toList[i]? = some (way t.mask h q) ∧ g i = h ∧ (∀ q' i', c ≤ q' → q' < q → t.place.toList[i']? = some (way t.mask h q') → g i' ≠ h) ∧
      t.probe g h (stAt t.mask h c) = some (.candidate (way t.mask h q) i (stAt t.mask h (q + 1)))) ∨
    ((∀ q' i', c ≤ q' → q' < K → t.place.toList[i']? = some (way t.mask h q') → g i' ≠ h) ∧ t.probe g h (stAt t.mask h c) = some (.empty (way t.mask h K) none)) := by
  have jj : ∀ q, (nth t.mask (stAt t.mask h c) q).j = way t.mask h (c + q) := fun q => by rw [stAt_add]; rfl
  rcases go_spec t T.ris T.dm g h (10 * SetTable.turns t.mask) (K - c) (stAt t.mask h c) (stAt_dummy _ _ _) (by omega) (fun k hk => by rw [jj]; exact ins _ (by omega)) (by rw [jj, Nat.add_sub_cancel' cK]; exact out) with ⟨q, i, h1, h2, h3, h4, h5⟩ | ⟨h1, h2⟩
  · left
    refine ⟨c + q, i, Nat.le_add_right _ _, by omega, by rw [← jj]; exact h2, h3, fun q' i' l1 l2 e => h4 (q' - c) i' (by omega) (by rw [jj, Nat.add_sub_cancel' l1]; exact e), ?_⟩
    rw [jj, stAt_add] at h5
    exact h5
  · right
    refine ⟨fun q' i' l1 l2 e => h1 (q' - c) i' (by omega) (by rw [jj, Nat.add_sub_cancel' l1]; exact e), ?_⟩
    rw [jj, Nat.add_sub_cancel' cK] at h2
    exact h2
section
variable {P : Program} {w : World} {A : Around} {E : Value → Shared → Prop} {s : Shared}
abbrev hT (P : Program) (w : World) (k : List Str) : Int := tupleKeyHash (PySem.strKind P w) k
abbrev IsTT (P : Program) (w : World) (h : Heap) (k : List Str) (b : Addr) : Prop := IsTupleKey (PySem.strKind P w) h k b
/-! ### what the model asks of tuples of texts -/
theorem items_tx {k : List Str} {vs : List Value} (h : ItemsAre (PySem.strKind P w) k vs) : ∀ v ∈ vs, IsTx v := by
  induction h with
  | nil => intro v hv; cases hv
  | @cons x u _ us h1 _ ih =>
    intro v hv
    rcases List.mem_cons.mp hv with rfl | hv
    · obtain ⟨t, e⟩ := Value.isStrOf_shape h1
      exact ⟨x, t, e⟩
    · exact ih v hv
theorem ofCls_tx (n : Nat) {v : Value} (h : IsTx v) : ofAClassStatement n v = pure false := by
  obtain ⟨x, t, rfl⟩ := h
  cases n <;> rfl
theorem ofCls_tt {k : List Str} {b : Addr} {Q : Bool → Shared → Prop} (hk : IsTT P w s.heap k b) (h : Q false s) : wpAny (model P w) A (ofAClassStatement 8 (.ref b)) Q E s := by
  have ty := hk.typeIs
  obtain ⟨o, its, n, ho, _, hd, hi⟩ := hk
  unfold ofAClassStatement
  refine wpAny_bind (wpAny_typeOf ty ?_)
  dsimp only
  simp only [show (("tuple" : String) == "tuple") = true by decide, if_true, Bool.not_true, Bool.false_eq_true, if_false]
  (try refine wpAny_bind (wpAny_pure ?_))
  (try simp only [Bool.not_true, Bool.false_eq_true, if_false])
  show wpAny _ _ (seqItems? (.ref b) >>= _) _ _ s
  refine wpAny_bind (wpAny_seqItems ho hd (wpAny_bind ?_))
  show wpAny _ _ (forIn its _ _) _ _ s
  rw [← Array.forIn_toList]
  refine wpAny_forIn_list _ (fun left r s' => (r.1 = none ∧ ∀ v ∈ left, IsTx v) ∧ s' = s) _ ?_ ?_ _ _ ⟨⟨rfl, items_tx hi⟩, rfl⟩
  · rintro v left r s' ⟨⟨_, all⟩, rfl⟩
    rw [ofCls_tx 7 (all v List.mem_cons_self)]
    refine wpAny_bind (wpAny_pure ?_)
    simp only [Bool.false_eq_true, if_false]
    exact wpAny_pure ⟨⟨rfl, fun u hu => all u (List.mem_cons_of_mem _ hu)⟩, rfl⟩
  · rintro ⟨r1, r2⟩ s' ⟨⟨e, _⟩, rfl⟩
    cases (show r1 = none from e)
    exact wpAny_pure h
theorem hashBy_tx (n : Nat) {v : Value} (h : IsTx v) : hashByValue n v = pure false := by
  obtain ⟨x, t, rfl⟩ := h
  cases n <;> rfl
/-- whether by value: whatever it says -/
theorem hashBy_tt {k : List Str} {b : Addr} {Q : Bool → Shared → Prop} (hk : IsTT P w s.heap k b) (h : ∀ r, Q r s) : wpAny (model P w) A (hashByValue 8 (.ref b)) Q E s := by
  have ty := hk.typeIs
  obtain ⟨o, its, n, ho, _, hd, hi⟩ := hk
  unfold hashByValue
  refine wpAny_bind (wpAny_specialOf ty F.slot_tuple_hash.lookup ?_)
  show wpAny _ _ (seqItems? (.ref b) >>= _) _ _ s
  refine wpAny_bind (wpAny_seqItems ho hd (wpAny_bind ?_))
  show wpAny _ _ (forIn its _ _) _ _ s
  rw [← Array.forIn_toList]
  refine wpAny_forIn_list _ (fun left r s' => (∀ v ∈ left, IsTx v) ∧ s' = s) _ ?_ ?_ _ _ ⟨items_tx hi, rfl⟩
  · rintro v left r s' ⟨all, rfl⟩
    rw [hashBy_tx 7 (all v List.mem_cons_self)]
    refine wpAny_bind (wpAny_pure ?_)
    simp only [Bool.not_false, if_true]
    exact wpAny_pure (wpAny_pure (h _))
  · rintro ⟨r1, r2⟩ s' ⟨_, rfl⟩
    cases r1 with
    | none => exact wpAny_pure (h _)
    | some r => exact wpAny_pure (h _)
theorem seen_tt {k : List Str} {b : Addr} {Q : Bool → Shared → Prop} (hk : IsTT P w s.heap k b) {ys : List Value} (hy : ∀ y ∈ ys, ∃ k' c, y = Value.ref c ∧ IsTT P w s.heap k' c) (h : Q false s) : wpAny (model P w) A (searchCouldBeSeen (.ref b) ys) Q E s := by
  unfold searchCouldBeSeen
  refine wpAny_bind (wpAny_forIn_list _ (fun left r s' => (r.1 = none ∧ ∀ y ∈ left, ∃ k' c, y = Value.ref c ∧ IsTT P w s.heap k' c) ∧ s' = s) _ ?_ ?_ _ _ ⟨⟨rfl, hy⟩, rfl⟩)
  · rintro v left r s' ⟨⟨_, all⟩, rfl⟩
    obtain ⟨k', c, rfl, hc⟩ := all v List.mem_cons_self
    have tl : ∀ y ∈ left, ∃ k' c, y = Value.ref c ∧ IsTT P w s'.heap k' c := fun u hu => all u (List.mem_cons_of_mem _ hu)
    dsimp only
    by_cases same : (b == c || (carriedByValue (.ref b) && carriedByValue (.ref c))) = true
    · exact wp_if_pos same (wpAny_pure ⟨⟨rfl, tl⟩, rfl⟩)
    · refine wp_if_neg same (wpAny_bind (wpAny_eqIsQuiet_tuple hk ?_))
      simp only [Bool.not_true, Bool.false_eq_true, if_false]
      refine wpAny_bind (wpAny_eqIsQuiet_tuple hc ?_)
      simp only [Bool.not_true, Bool.false_eq_true, if_false]
      refine wpAny_bind (ofCls_tt hk ?_)
      simp only [Bool.false_eq_true, if_false]
      refine wpAny_bind (ofCls_tt hc ?_)
      simp only [Bool.false_eq_true, if_false]
      exact wpAny_pure ⟨⟨rfl, tl⟩, rfl⟩
  · rintro ⟨r1, r2⟩ s' ⟨⟨e, _⟩, rfl⟩
    cases (show r1 = none from e)
    exact wpAny_pure h
/-! ### the set -/
def entT (P : Program) (w : World) (p : Addr × List Str) : Int × Value := (hT P w p.2, Value.ref p.1)
structure TSet (P : Program) (w : World) (h : Heap) (a : Addr) (L : List (Addr × List Str)) (es : Array (Int × Value)) (ep : Nat) (t : SetTable) : Prop where
  ob : ∃ o, h.get? a = some o ∧ o.ExactSet ∧ o.data = .set es ep t
  en : es.toList = L.map (entT P w)
  tab : TabOk t (L.map fun p => hT P w p.2)
  nd : (L.map (·.2)).Nodup
  tt : ∀ p ∈ L, IsTT P w h p.2 p.1
  ld : w.params.followText "set-order" = true ∨ t.led = true
  room : L.length * 5 < t.mask * 3
  few : L.length < 64
variable {a : Addr} {L : List (Addr × List Str)} {es : Array (Int × Value)} {ep : Nat} {t : SetTable}
theorem en_size (e : es.toList = L.map (entT P w)) : es.size = L.length := by rw [← Array.length_toList, e, List.length_map]
theorem fits_of {n : Nat} (dm : t.dummies = #[]) (sz : t.place.size = n) (le : n ≤ t.mask) : t.fits n = true := by
  unfold SetTable.fits SetTable.fill
  rw [dm, sz, Bool.and_eq_true, beq_iff_eq, decide_eq_true_eq]
  exact ⟨rfl, le⟩
theorem TSet.sz (R : TSet P w s.heap a L es ep t) : t.place.size = es.size := by
  rw [R.tab.sz, en_size R.en, List.length_map]
theorem TSet.ft (R : TSet P w s.heap a L es ep t) : t.fits es.size = true := fits_of R.tab.dm R.sz (by have := R.room; rw [en_size R.en]; omega)
theorem TSet.at_ (R : TSet P w s.heap a L es ep t) {i : Nat} {p : Addr × List Str} (h : L[i]? = some p) : es[i]? = some (entT P w p) := by
  rw [← Array.getElem?_toList, R.en, List.getElem?_map, h]
  rfl
theorem TSet.hash (R : TSet P w s.heap a L es ep t) {i : Nat} {p : Addr × List Str} (h : L[i]? = some p) : (es[i]?.map (·.1)).getD 0 = hT P w p.2 := by
  rw [R.at_ h]
  rfl
theorem TSet.gw (R : TSet P w s.heap a L es ep t) : ¬ t.gaveWay = true := by
  unfold SetTable.gaveWay
  rw [mask_odd R.tab.mok]
  decide
/-- the search, from the c-th step on, where what is sought stands at no step before -/
theorem search_tt (R : TSet P w s.heap a L es ep t) {x : Addr} {k : List Str} (hx : IsTT P w s.heap k x) (hu : A.units < cLine) {K : Nat} (lim : K < 10 * SetTable.turns t.mask)
    (out : way t.mask (hT P w k) K ∉ t.place.toList) (ins : ∀ c, c < K → way t.mask (hT P w k) c ∈ t.place.toList) {Q : SetFound → Shared → Prop}
    (yes : k ∈ L.map (·.2) → Q (.there none) s) (no : k ∉ L.map (·.2) → Q (.free (way t.mask (hT P w k) K) false) s) :
    ∀ (f c : Nat) (st : Option SetTable.Probe), st.getD (t.probeStart (hT P w k)) = stAt t.mask (hT P w k) c → c ≤ K → K - c < f →
      (∀ (i : Nat) p, L[i]? = some p → p.2 = k → ∃ q, c ≤ q ∧ q < K ∧ t.place.toList[i]? = some (way t.mask (hT P w k) q)) → wpAny (model P w) A (setSearchFrom a (.ref x) (hT P w k) true f st) Q E s := by
  obtain ⟨o, ho, hex, hd⟩ := R.ob
  intro f
  induction f with
  | zero => intro c st _ _ hf; exact absurd hf (Nat.not_lt_zero _)
  | succ f ih =>
    intro c st est cK hf left
    rw [setSearchFrom_succ]
    refine wpAny_bind (wpAny_setState_of ho hd R.ft ?_)
    dsimp only
    refine wp_if_neg R.gw ?_
    (try refine wpAny_bind (wpAny_pure ?_))
    rw [est]
    rcases probe_from R.tab (fun i => (es[i]?.map (·.1)).getD 0) (hT P w k) cK lim out ins with ⟨q, i, q1, q2, q3, q4, q5, q6⟩ | ⟨q1, q2⟩
    · rw [q6]
      dsimp only
      have il : i < L.length := by
        have z1 : i < t.place.toList.length := (List.getElem?_eq_some_iff.mp q3).1
        have z2 := R.tab.sz
        rw [List.length_map] at z2
        rw [Array.length_toList] at z1
        omega
      have hp : L[i]? = some L[i] := List.getElem?_eq_getElem il
      have pin : L[i] ∈ L := List.getElem_mem il
      generalize L[i] = p at hp pin
      have core : wpAny (model P w) A (searchRest a (.ref x) (hT P w k) true f es t (way t.mask (hT P w k) q) i (stAt t.mask (hT P w k) (q + 1))) Q E s := by
        unfold searchRest
        rw [R.at_ hp]
        dsimp only [entT]
        refine wpAny_bind (wpAny_holding (wpAny_eqBool_tuple hu (R.tt p pin) hx ?_))
        refine wpAny_bind (wpAny_setState_of ho hd R.ft ?_)
        dsimp only
        by_cases same : p.2 = k
        · exact wp_if_pos (by simp [same]) (wpAny_pure (yes (List.mem_map.mpr ⟨p, pin, same⟩)))
        · refine wp_if_neg (by simp [same]) ?_
          (try refine wpAny_bind (wpAny_pure ?_))
          rw [sameMem]
          dsimp only
          have live := slot_live R.tab.ris q3
          simp only [if_true, live, R.at_ hp, entT]
          refine wpAny_bind (wpAny_isSame_ref_self (wpAny_bind (wpAny_pure ?_)))
          simp only [if_true]
          refine wp_if_neg (by simp [same]) ?_
          refine ih (q + 1) _ rfl q2 (by omega) fun i0 p0 e0 k0 => ?_
          obtain ⟨r, r1, r2, r3⟩ := left i0 p0 e0 k0
          refine ⟨r, ?_, r2, r3⟩
          rcases Nat.lt_trichotomy r q with z | z | z
          · exact (q5 r i0 r1 z r3 ((R.hash e0).trans (congrArg (hT P w) k0))).elim
          · subst z
            have live2 := slot_live R.tab.ris r3
            rw [live] at live2
            cases live2
            rw [hp] at e0
            cases e0
            exact (same k0).elim
          · exact z
      by_cases led : t.led = true
      · refine wp_if_neg (by simp [led]) ?_
        (try refine wpAny_bind (wpAny_pure ?_))
        exact core
      · refine wp_if_pos (by simp [led]) (wpAny_bind (seen_tt hx (fun y hy => ?_) ?_))
        · obtain ⟨e, he, rfl⟩ := List.mem_map.mp hy
          have he' : e ∈ es.toList := by
            have : e ∈ es ∧ e.1 = hT P w k := by simpa using he
            simpa using this.1
          rw [R.en] at he'
          obtain ⟨p2, hp2, rfl⟩ := List.mem_map.mp he'
          exact ⟨p2.2, p2.1, rfl, R.tt p2 hp2⟩
        · refine wp_if_neg (by decide) ?_
          (try refine wpAny_bind (wpAny_pure ?_))
          exact core
    · rw [q2]
      refine wpAny_pure (no fun hm => ?_)
      obtain ⟨p0, h0, k0⟩ := List.mem_map.mp hm
      obtain ⟨i0, l0, e0⟩ := List.getElem_of_mem h0
      have e00 : L[i0]? = some p0 := by rw [List.getElem?_eq_getElem l0, e0]
      obtain ⟨r, r1, r2, r3⟩ := left i0 p0 e00 k0
      exact q1 r i0 r1 r2 r3 ((R.hash e00).trans (congrArg (hT P w) k0))
theorem find_tt (R : TSet P w s.heap a L es ep t) {x : Addr} {k : List Str} (hx : IsTT P w s.heap k x) (hu : A.units < cLine) {Q : SetFound → Shared → Prop} (yes : k ∈ L.map (·.2) → Q (.there none) s)
    (no : ∀ K, k ∉ L.map (·.2) → way t.mask (hT P w k) K ∉ t.place.toList → (∀ c, c < K → way t.mask (hT P w k) c ∈ t.place.toList) → Q (.free (way t.mask (hT P w k) K) false) s) :
    wpAny (model P w) A (setSearch a (.ref x) (hT P w k) true) Q E s := by
  have rm := R.room
  obtain ⟨K, k1, k2, k3⟩ := R.tab.first (by rw [List.length_map]; omega) (hT P w k)
  have big : 10 * SetTable.turns t.mask ≤ 1420 := by
    unfold SetTable.turns
    rcases R.tab.mok with e | e | e <;> omega
  unfold setSearch
  refine search_tt R hx hu k1 k2 k3 yes (fun n => no K n k2 k3) 100000 0 none rfl (Nat.zero_le _) (by omega) fun i p hp hk => ?_
  have hi : (L.map fun p => hT P w p.2)[i]? = some (hT P w k) := by rw [List.getElem?_map, hp, ← hk]; rfl
  have il : i < t.place.toList.length := by
    have z1 : i < L.length := (List.getElem?_eq_some_iff.mp hp).1
    have z2 := R.tab.sz
    rw [List.length_map] at z2
    rw [Array.length_toList]
    omega
  obtain ⟨c, c1, c2⟩ := R.tab.before k2 hi (List.getElem?_eq_getElem il)
  exact ⟨c, Nat.zero_le _, c1, by rw [c2, List.getElem?_eq_getElem il]⟩
end
end Sx
end

section
set_option Elab.async false
set_option linter.all false
set_option maxRecDepth 100000
set_option maxHeartbeats 4000000
/-! Sets of tuples of texts: adding. -/
namespace Sx
open PySem PyProof.Rows L2
section
variable {P : Program} {w : World} {A : Around} {E : Value → Shared → Prop} {s : Shared} {a : Addr} {L : List (Addr × List Str)} {es : Array (Int × Value)} {ep : Nat} {t : SetTable}
/-- no tuple is the set -/
theorem tt_same {h h' : Heap} {k : List Str} {b : Addr} {o : Obj} (x : IsTT P w h k b) (ho : h.get? a = some o) (hd : o.data = .set es ep t) (sm : Heap.SameBut a h h') : IsTT P w h' k b := by
  obtain ⟨o2, its, n, e1, e2, e3, e4⟩ := x
  refine ⟨o2, its, n, (sm.2 b fun z => ?_).trans e1, e2, e3, e4⟩
  subst z
  rw [ho] at e1
  cases e1
  rw [hd] at e3
  cases e3
/-- what is taken out by an order of the places -/
theorem order_tt {order : Array Nat} (e : es.toList = L.map (entT P w)) (p : order.toList.Perm (List.range L.length)) :
    ∃ L2 : List (Addr × List Str), (order.filterMap (es[·]?)).toList = L2.map (entT P w) ∧ L2.Perm L ∧ (L2.map fun q => hT P w q.2) = order.toList.map fun i => (es.map (·.1)).getD i 0 := by
  have sz := en_size e
  have one : ∀ i, i < L.length → es[i]? = (L[i]?).map (entT P w) := fun i h => by rw [← Array.getElem?_toList, e, List.getElem?_map]
  refine ⟨order.toList.filterMap fun i => L[i]?, ?_, ?_, ?_⟩
  · have z : ∀ l : List Nat, (∀ i ∈ l, i < L.length) → l.filterMap (fun i => es[i]?) = (l.filterMap fun i => L[i]?).map (entT P w) := fun l => by
      induction l with
      | nil => intro _; rfl
      | cons i l ih =>
        intro h
        have hi := h i List.mem_cons_self
        have h1 : L[i]? = some L[i] := List.getElem?_eq_getElem hi
        have h2 : es[i]? = some (entT P w L[i]) := by rw [one i hi, h1]; rfl
        rw [List.filterMap_cons_some h1, List.filterMap_cons_some h2, ih fun j hj => h j (List.mem_cons_of_mem _ hj), List.map_cons]
    have z2 := z order.toList fun i hi => List.mem_range.mp (p.mem_iff.mp hi)
    first | (rw [Array.toList_filterMap]; exact z2) | simpa using z2
  · have z := p.filterMap fun i => L[i]?
    have y : ∀ n, n ≤ L.length → (List.range n).filterMap (fun i => L[i]?) = L.take n := fun n => by
      induction n with
      | zero => intro _; rfl
      | succ n ih =>
        intro h
        have g : L[n]? = some L[n] := List.getElem?_eq_getElem h
        rw [List.range_succ, List.filterMap_append, ih (by omega), List.filterMap_cons_some g, List.filterMap_nil, List.take_succ, g]
        rfl
    rw [y _ (Nat.le_refl _), List.take_length] at z
    exact z
  · have z : ∀ l : List Nat, (∀ i ∈ l, i < L.length) → (l.filterMap fun i => L[i]?).map (fun q => hT P w q.2) = l.map fun i => (es.map (·.1)).getD i 0 := fun l => by
      induction l with
      | nil => intro _; rfl
      | cons i l ih =>
        intro h
        have hi := h i List.mem_cons_self
        have h1 : L[i]? = some L[i] := List.getElem?_eq_getElem hi
        have h2 : (es.map (·.1)).getD i 0 = hT P w (L[i]).2 := by
          have q : (es.map (·.1))[i]? = some (hT P w (L[i]).2) := by rw [Array.getElem?_map, one i hi, h1]; rfl
          simp [Array.getD_eq_getD_getElem?, q]
        rw [List.filterMap_cons_some h1, List.map_cons, List.map_cons, ih fun j hj => h j (List.mem_cons_of_mem _ hj), h2]
    exact z _ fun i hi => List.mem_range.mp (p.mem_iff.mp hi)
/-- the table laid anew -/
theorem relay_tt {o : Obj} (ho : s.heap.get? a = some o) (hx : o.ExactSet) (hd : o.data = .set es ep t) (e : es.toList = L.map (entT P w)) (sz : t.place.size = es.size) (dm : t.dummies = #[]) (le : es.size ≤ t.mask) (nd : (L.map (·.2)).Nodup)
    (tt : ∀ p ∈ L, IsTT P w s.heap p.2 p.1) (ld : w.params.followText "set-order" = true ∨ t.led = true) (few : L.length < 64) {wanted M : Nat} (hw : SetTable.sizeAbove wanted - 1 = M) (hM : MaskOk M) (h128 : SetTable.sizeAbove wanted ≤ 128) (room : L.length * 5 < M * 3)
    {Q : Unit → Shared → Prop} (hQ : ∀ h' L' es' ep' t', Heap.SameBut a s.heap h' → TSet P w h' a L' es' ep' t' → L'.Perm L → Q () { s with heap := h' }) : wpAny (model P w) A (setRelay a wanted) Q E s := by
  have el := en_size e
  obtain ⟨t2, order, r1, r2, r3, r4, r5, r6, r7⟩ := relaid_ok t (hs := es.map (·.1)) (wanted := wanted) hw hM (by rw [Array.size_map, el]; omega)
  rw [Array.size_map, el] at r2
  obtain ⟨L2, o1, o2, o3⟩ := order_tt e r2
  rw [← o3] at r3
  have sz2 : (order.filterMap (es[·]?)).size = es.size := by rw [← Array.length_toList, o1, List.length_map, o2.length_eq, el]
  rw [setRelay_eq]
  refine wpAny_bind (wpAny_setState_of ho hd (fits_of dm sz le) ?_)
  dsimp only
  refine wp_if_neg (by rw [sizeLine_eq]; omega) ?_
  (try refine wpAny_bind (wpAny_pure ?_))
  rw [r1]
  dsimp only
  refine wpAny_bind (wp_if_neg (by rw [sz2]; simp) ?_)
  (try refine wpAny_bind (wpAny_pure ?_))
  refine wpAny_pure ?_
  dsimp only
  refine wpAny_storeSet_of ho hd ?_ (by rw [sz2, el, sizeLine_eq]; omega)
  have sm : Heap.SameBut a s.heap (s.heap.update a (Obj.putSet (order.filterMap (es[·]?)) t2)) := Heap.SameBut.update ..
  refine hQ _ L2 (order.filterMap (es[·]?)) (ep + 1) t2 sm ⟨⟨_, store_at ho hd, ⟨hx.1, hx.2.1, hx.2.2⟩, rfl⟩, o1, r3, (o2.map (·.2)).nodup_iff.mpr nd, fun p hp => tt_same (tt p (o2.mem_iff.mp hp)) ho hd sm, ld.imp id fun z => by rw [r5]; exact z, ?_, ?_⟩ o2
  · rw [o2.length_eq, r4]; exact room
  · rw [o2.length_eq]; exact few
/-- one added -/
theorem add_tt (R : TSet P w s.heap a L es ep t) {x : Addr} {k : List Str} (hx : IsTT P w s.heap k x) (hu : A.units < cLine) (few : L.length + 1 < 64) {Q : Bool → Shared → Prop}
    (hQ : ∀ b h' L' es' ep' t', Heap.SameBut a s.heap h' → TSet P w h' a L' es' ep' t' → L'.Perm (if k ∈ L.map (·.2) then L else (x, k) :: L) → Q b { s with heap := h' }) :
    wpAny (model P w) A (setAddHashed a (.ref x) (hT P w k)) Q E s := by
  obtain ⟨o, ho, hex, hd⟩ := R.ob
  have el := en_size R.en
  have rm := R.room
  unfold setAddHashed
  refine wpAny_holding ?_
  rw [show (100000 : Nat) = 99999 + 1 from rfl, setAddHashedIn_succ]
  refine wpAny_bind (wpAny_setState_of ho hd R.ft ?_)
  dsimp only
  refine wp_if_neg (by simp [byScan, Value.scannable]) ?_
  (try refine wpAny_bind (wpAny_pure ?_))
  refine wpAny_bind (find_tt R hx hu (fun hm => ?_) fun K hm k1 k2 => ?_)
  · exact wpAny_pure (hQ false s.heap L es ep t (Heap.SameBut.refl a s.heap) R (by rw [if_pos hm]))
  · dsimp only
    rw [if_neg hm] at hQ
    refine wpAny_bind (wpAny_setState_of ho hd R.ft ?_)
    dsimp only
    have pp := R.tab.put k1 k2
    revert pp
    generalize t.put (way t.mask (hT P w k) K) = Y
    obtain ⟨t1, p⟩ := Y
    rintro ⟨q1, q2, q3, q4, q5, q6, q7, q8, q9⟩
    dsimp only at q1 q3 q4 q5 q6 q7 q8 q9 ⊢
    subst q1
    generalize ep1 : SetTable.below t.place (way t.mask (hT P w k) K) = p at q2 q3 ⊢
    have pm := put_perm L p (x, k)
    have hlen : (L.take p ++ (x, k) :: L.drop p).length = L.length + 1 := pm.length_eq
    have ens : (SetTable.insertAt es p (hT P w k, Value.ref x)).toList = (L.take p ++ (x, k) :: L.drop p).map (entT P w) := by
      rw [SetTable.toList_insertAt, R.en, List.map_append, List.map_cons, List.map_take, List.map_drop]
      rfl
    have hss : (L.take p ++ (x, k) :: L.drop p).map (fun p => hT P w p.2) = (L.map fun p => hT P w p.2).take p ++ hT P w k :: (L.map fun p => hT P w p.2).drop p := by
      rw [List.map_append, List.map_cons, List.map_take, List.map_drop]
    rw [← hss] at q3
    have nd1 : ((L.take p ++ (x, k) :: L.drop p).map (·.2)).Nodup := (pm.map (·.2)).nodup_iff.mpr (List.nodup_cons.mpr ⟨hm, R.nd⟩)
    generalize SetTable.insertAt es p (hT P w k, Value.ref x) = es1 at ens ⊢
    generalize L.take p ++ (x, k) :: L.drop p = L1 at pm hlen q3 nd1 ens
    have el1 : es1.size = L.length + 1 := (en_size ens).trans hlen
    have full : t1.fill = L.length + 1 := by rw [q9, List.length_map]
    -- behind the question whether it is by value
    have main : ∀ t2 : SetTable, t2.place = t1.place → t2.dummies = t1.dummies → t2.mask = t1.mask → t2.led = t1.led → t2.fill = t1.fill →
        wpAny (model P w) A (storeSet a es1 t2 >>= fun _ => if (!false && t2.tooFull) = true then (setRelay a (SetTable.grown (es.size + 1)) >>= fun _ => pure true) else pure true) Q E s := fun t2 y1 y2 y3 y4 y5 => by
      have T2 : TabOk t2 (L1.map fun p => hT P w p.2) := ⟨by rw [y1]; exact q3.ris, by rw [y2]; exact q3.dm, by rw [y1]; exact q3.sz, by rw [y3]; exact q3.mok, by rw [y1, y3]; exact q3.bd, by rw [y1, y3]; exact q3.reach⟩
      refine wpAny_bind (wpAny_storeSet_of ho hd ?_ (by rw [el1, sizeLine_eq]; omega))
      have sm : Heap.SameBut a s.heap (s.heap.update a (Obj.putSet es1 t2)) := Heap.SameBut.update ..
      have ho1 := store_at (es' := es1) (t' := t2) ho hd
      generalize s.heap.update a (Obj.putSet es1 t2) = h1 at sm ho1 ⊢
      have tt1 : ∀ p ∈ L1, IsTT P w h1 p.2 p.1 := fun p hp => by
        rcases List.mem_cons.mp (pm.mem_iff.mp hp) with e | hp
        · rw [e]; exact tt_same hx ho hd sm
        · exact tt_same (R.tt p hp) ho hd sm
      have ld1 : w.params.followText "set-order" = true ∨ t2.led = true := by rw [y4, q5]; exact R.ld
      by_cases hf : t2.tooFull = true
      · refine wp_if_pos (by simp [hf]) (wpAny_bind ?_)
        have fl : (L.length + 1) * 5 ≥ t.mask * 3 := by
          unfold SetTable.tooFull at hf
          rw [decide_eq_true_eq, y5, full, y3, q4] at hf
          exact hf
        have two : (t.mask = 7 ∧ L.length = 4) ∨ (t.mask = 31 ∧ L.length = 18) := by
          rcases R.tab.mok with e | e | e
          · left; rw [e] at fl rm; exact ⟨e, by omega⟩
          · right; rw [e] at fl rm; exact ⟨e, by omega⟩
          · exfalso; rw [e] at fl; omega
        have go : ∀ M, SetTable.sizeAbove (SetTable.grown (L.length + 1)) = M + 1 → MaskOk M → M + 1 ≤ 128 → (L.length + 1) * 5 < M * 3 →
            wpAny (model P w) A (setRelay a (SetTable.grown (es.size + 1))) (fun _ s' => wpAny (model P w) A (pure true) Q E s') E { s with heap := h1 } := fun M m1 m2 m3 m4 => by
          rw [el]
          refine relay_tt (s := { s with heap := h1 }) ho1 ⟨hex.1, hex.2.1, hex.2.2⟩ rfl ens (by rw [T2.sz, List.length_map, hlen, el1]) T2.dm ?_ nd1 tt1 ld1 (by rw [hlen]; exact few) (by rw [m1]; rfl) m2 (by rw [m1]; exact m3) (by rw [hlen]; exact m4) fun h2 L2 es2 ep2 u2 sb R2 pm2 => ?_
          · rw [el1, y3, q4]
            rcases two with ⟨e, e2⟩ | ⟨e, e2⟩ <;> omega
          · exact wpAny_pure (hQ true h2 L2 es2 ep2 u2 (sm.trans sb) R2 (pm2.trans pm))
        rcases two with ⟨_, e2⟩ | ⟨_, e2⟩
        · exact go 31 (by rw [e2, size_20]) (.inr (.inl rfl)) (by decide) (by omega)
        · exact go 127 (by rw [e2, size_76]) (.inr (.inr rfl)) (by decide) (by omega)
      · refine wp_if_neg (by simp [hf]) (wpAny_pure (hQ true h1 L1 es1 (ep + 1) t2 sm ⟨⟨_, ho1, ⟨hex.1, hex.2.1, hex.2.2⟩, rfl⟩, ens, T2, nd1, tt1, ld1, ?_, by rw [hlen]; exact few⟩ pm))
        unfold SetTable.tooFull at hf
        rw [decide_eq_true_eq, y5, full] at hf
        rw [hlen]
        omega
    have both : ∀ b : Bool, wpAny (model P w) A (storeSet a es1 (if b = true then t1 else { t1 with plain := false }) >>= fun _ => if (!false && (if b = true then t1 else { t1 with plain := false }).tooFull) = true then (setRelay a (SetTable.grown (es.size + 1)) >>= fun _ => pure true) else pure true) Q E s := fun b => by
      cases b with
      | true => exact main t1 rfl rfl rfl rfl rfl
      | false => exact main { t1 with plain := false } rfl rfl rfl rfl rfl
    by_cases pl : t1.plain = true
    · rw [if_pos pl]
      exact wpAny_bind (hashBy_tt hx both)
    · rw [if_neg pl]
      exact wpAny_bind (wpAny_pure (both true))
end
end Sx
end

section
set_option Elab.async false
set_option linter.all false
set_option maxRecDepth 100000
set_option maxHeartbeats 4000000
/-! Sets of pairs of texts as rules of the layer. -/
namespace Sx
open PySem PyProof.Rows L2
def prT : List Str → Str × Str
  | [x, y] => (x, y)
  | _ => (⟨#[]⟩, ⟨#[]⟩)
/-- the pair at v, read off the heap -/
def rdP (h : Heap) (v : Value) : Str × Str := match v with
  | .ref a => match h.get? a with
    | some o => match o.data with
      | .seq xs _ => (txV (xs.getD 0 .none), txV (xs.getD 1 .none))
      | _ => (⟨#[]⟩, ⟨#[]⟩)
    | none => (⟨#[]⟩, ⟨#[]⟩)
  | _ => (⟨#[]⟩, ⟨#[]⟩)
theorem IsTP.rd {h : Heap} {v : Value} {p : Str × Str} (x : IsTP h v p) : rdP h v = p := by
  obtain ⟨a, o, t, u, n, rfl, ho, hc, hd⟩ := x
  simp [rdP, ho, hd, txV]
section
variable {P : Program} {w : World} {A : Around} {E : Value → Shared → Prop} {s : Shared} {a : Addr} {L : List (Addr × List Str)}
theorem tt_tp {h : Heap} {x y : Str} {b : Addr} (k : IsTT P w h [x, y] b) : IsTP h (.ref b) (x, y) := by
  obtain ⟨o, ⟨its⟩, n, e1, e2, e3, e4⟩ := k
  cases (show ItemsAre (PySem.strKind P w) [x, y] its from e4) with
  | cons h1 r =>
    cases r with
    | cons h2 r =>
      cases r
      obtain ⟨t, rfl⟩ := Value.isStrOf_shape h1
      obtain ⟨u, rfl⟩ := Value.isStrOf_shape h2
      exact ⟨b, o, t, u, n, rfl, e1, e2, e3⟩
/-- the set at a, its tuples apart -/
structure TSet0 (P : Program) (w : World) (h : Heap) (a : Addr) (L : List (Addr × List Str)) : Prop where
  ex : ∃ es ep t, (∃ o, h.get? a = some o ∧ o.ExactSet ∧ o.data = .set es ep t) ∧ es.toList = L.map (entT P w) ∧ TabOk t (L.map fun p => hT P w p.2) ∧ (L.map (·.2)).Nodup ∧ (w.params.followText "set-order" = true ∨ t.led = true) ∧ L.length * 5 < t.mask * 3 ∧ L.length < 64
theorem TSet.t0 {h : Heap} {es : Array (Int × Value)} {ep : Nat} {t : SetTable} (R : TSet P w h a L es ep t) : TSet0 P w h a L := ⟨es, ep, t, R.ob, R.en, R.tab, R.nd, R.ld, R.room, R.few⟩
theorem TSet0.full {h : Heap} (R : TSet0 P w h a L) (tt : ∀ p ∈ L, IsTT P w h p.2 p.1) : ∃ es ep t, TSet P w h a L es ep t := by
  obtain ⟨es, ep, t, r1, r2, r3, r4, r5, r6, r7⟩ := R.ex
  exact ⟨es, ep, t, r1, r2, r3, r4, tt, r5, r6, r7⟩
theorem TSet0.at {h h' : Heap} (R : TSet0 P w h a L) (k : ∀ o, h.get? a = some o → h'.get? a = some o) : TSet0 P w h' a L := by
  obtain ⟨es, ep, t, ⟨o, ho, r0⟩, r⟩ := R.ex
  exact ⟨es, ep, t, ⟨o, k o ho, r0⟩, r⟩
theorem tset_fresh {h : Heap} {b : Addr} (ho : h.get? b = some (emptyS w)) : TSet P w h b [] #[] 0 (.fresh 0 0 (!w.params.followText "set-order")) where
  ob := ⟨_, ho, ⟨rfl, rfl, rfl⟩, rfl⟩
  en := rfl
  tab := ⟨List.Pairwise.nil, rfl, rfl, .inl rfl, (fun x hx => by cases hx), fun i h j hi => (by cases hi)⟩
  nd := List.nodup_nil
  tt := fun p hp => by cases hp
  ld := by
    show _ ∨ (!w.params.followText "set-order") = true
    cases w.params.followText "set-order" with
    | true => exact .inl rfl
    | false => exact .inr rfl
  room := by show 0 * 5 < 7 * 3; decide
  few := by decide
/-- sorted(set) -/
theorem sorted_tt {es : Array (Int × Value)} {ep : Nat} {t : SetTable} {Q : Value → Shared → Prop} (R : TSet P w s.heap a L es ep t) (two : ∀ p ∈ L, ∃ x y, p.2 = [x, y]) (hh : A.handled = none)
    (hQ : ∀ s' p (L' : List (Addr × List Str)) (c : Nat), (∀ b o, s.heap.get? b = some o → s'.heap.get? b = some o) → s'.gens = s.gens → s'.os = s.os → s.heap.objs.size ≤ p →
      s'.heap.get? p = some (seqObj "list" (L'.map fun q => Value.ref q.1).toArray c) → L'.Perm L → L'.Pairwise (fun p q => ltTT (prT p.2) (prT q.2) = true) → Q (.ref p) s') :
    wpAny (model P w) A (call (.builtin "sorted") [.ref a]) Q E s := by
  obtain ⟨o, ho, hx, hd⟩ := R.ob
  refine Calls.call_function_entry kind_sorted plain_sorted entry_sorted (args_sorted1 _) ?_
  unfold Builtin.«sorted»
  refine wpAny_bind (m := checkCount "sorted" 1 1 _) (wpAny_pure ?_)
  have few := R.few
  have el := en_size R.en
  refine wpAny_bind (collect_set (A := A.in1) hh ⟨o, ho, hx.1, hd⟩ R.ft (by rw [el, show scanBound = 4096 from rfl]; omega) R.tab.ris R.ld fun s1 vs k1 hz g1 o1 pm => ?_)
  have pv : vs.Perm (L.map fun p => Value.ref p.1) := by
    rw [R.en, List.map_map] at pm
    exact pm
  have tp : ∀ p ∈ L, IsTP s.heap (.ref p.1) (prT p.2) ∧ p.2 = [(prT p.2).1, (prT p.2).2] := fun p hp => by
    obtain ⟨x, y, e⟩ := two p hp
    have z := R.tt p hp
    rw [e] at z ⊢
    exact ⟨tt_tp z, rfl⟩
  have tv : ∀ v ∈ vs, IsTP s.heap v (rdP s.heap v) := fun v hv => by
    obtain ⟨p, hp, rfl⟩ := List.mem_map.mp (pv.mem_iff.mp hv)
    have z := (tp p hp).1
    rw [z.rd]
    exact z
  have vlen : vs.length ≤ sizeLine := by
    rw [pv.length_eq, List.length_map, sizeLine_eq]
    omega
  refine wpAny_bind (wpAny_newList ?_ vlen)
  have hL : (s1.heap.push (seqObj "list" vs.toArray 0)).get? s1.heap.objs.size = some (seqObj "list" vs.toArray 0) := Heap.get?_push_size _ rfl
  refine wpAny_bind (wpAny_holding (wpAny_call_entry slot_list_sort ⟨_, hL, rfl⟩ entry_list_sort (SrtO.list_sort_ord (tot_TT.swo (rdP s.heap)) hL vlen (fun h2 => tps_sortable (by omega) (fun v hv => (tv v hv).keeps fun b u e _ => Heap.get?_push_of_some _ (k1 b u e)) fun u e c => ?_) fun out c1 c2 => ⟨_, rfl, ?_⟩) (args_list_sort _)))
  · have e' : some u = some (seqObj "list" vs.toArray 0) := e.symm.trans hL
    cases e'
    exact absurd (Value.type.inj c) (by decide)
  obtain ⟨c, hc⟩ := sortedHeap_at (vs := vs) (out := out.toArray) hL
  have po : out.Perm (L.map fun p => Value.ref p.1) := c2.perm.trans pv
  let bk : Value → Addr × List Str := fun v => (match v with
    | .ref b => b
    | _ => 0, [(rdP s.heap v).1, (rdP s.heap v).2])
  have bkL : ∀ p ∈ L, bk (.ref p.1) = p := fun p hp => by
    obtain ⟨z1, z2⟩ := tp p hp
    show (p.1, [(rdP s.heap (.ref p.1)).1, (rdP s.heap (.ref p.1)).2]) = p
    rw [z1.rd, ← z2]
  have pL : (out.map bk).Perm L := by
    have z := po.map bk
    rw [List.map_map] at z
    have e : L.map (bk ∘ fun p : Addr × List Str => Value.ref p.1) = L := by
      refine (List.map_congr_left fun p hp => ?_).trans (List.map_id L)
      exact bkL p hp
    rw [e] at z
    exact z
  have eo : out = (out.map bk).map fun q => Value.ref q.1 := by
    rw [List.map_map]
    refine ((List.map_congr_left fun v hv => ?_).trans (List.map_id out)).symm
    obtain ⟨p, hp, rfl⟩ := List.mem_map.mp (po.mem_iff.mp hv)
    rfl
  have nd2 : ((out.map bk).map (·.2)).Nodup := (pL.map (·.2)).nodup_iff.mpr R.nd
  refine wpAny_pure ⟨_, rfl, hQ _ s1.heap.objs.size (out.map bk) c (fun x u e => ?_) g1 o1 hz (by rw [← eo]; exact hc) pL ?_⟩
  · have q := k1 x u e
    have lt := Heap.lt_size q
    show (sortedHeap (s1.heap.push (seqObj "list" vs.toArray 0)) s1.heap.objs.size vs out.toArray).get? x = some u
    rw [sortedHeap_old (Nat.ne_of_lt lt) (by rw [size_push']; exact Nat.lt_succ_of_lt lt)]
    exact Heap.get?_push_of_some _ q
  · have d1 : (out.map bk).Pairwise (fun p q => ltTT (prT q.2) (prT p.2) = false) := List.pairwise_map.mpr c1
    have d2 : (out.map bk).Pairwise (fun p q => p.2 ≠ q.2) := List.pairwise_map.mp nd2
    refine ((d1.and d2).imp_of_mem ?_)
    intro p q hp hq z
    rcases tot_TT.cas (prT p.2) (prT q.2) with y | y | y
    · exact y
    · exact (z.2 (by rw [(tp p (pL.mem_iff.mp hp)).2, (tp q (pL.mem_iff.mp hq)).2, y])).elim
    · rw [z.1] at y; cases y
end
end Sx
namespace L2
open PySem PySem.Spec PyProof.Rows
def SetTTO (P : Program) (w : World) (a : Addr) (L : List (Addr × List Str)) : HO := .ext fun h => Sx.TSet0 P w h a L
theorem setTT_new {P : Program} {w : World} {H : Hp} {h : Heap} {a : Addr} {L : List (Addr × List Str)} (R : Sx.TSet0 P w h a L) : ObjOk P w H h a (SetTTO P w a L) := by
  have ⟨_, _, _, ⟨o, ho, _⟩, _⟩ := R.ex
  exact ⟨R, ⟨o, ho⟩, fun _ _ z k => Sx.TSet0.at z k⟩
theorem items_txs {P : Program} {w : World} : ∀ {k : List Str} {us : List Value}, Vals (k.map V.str) us → ItemsAre (PySem.strKind P w) k us
  | [], _, r => by rw [List.map_nil] at r; cases r; exact .nil
  | x :: k, _, r => by
    rw [List.map_cons] at r
    cases r with
    | cons r1 r2 =>
      obtain ⟨t, rfl⟩ := r1
      exact .cons (beq_self_eq_true x) (items_txs r2)
section
variable {X : Cx}
theorem tt_of {pins : List (Addr × Obj)} {σ : St} {H : Hp} {s : Shared} {b : Addr} {k : List Str} (I : Inv X pins σ H s) (h : H b = some (.tup (k.map V.str))) : Sx.IsTT X.prog X.w s.heap k b := by
  obtain ⟨_, its, r, o, ho, hc, n, hd⟩ := I.hok _ _ h
  exact ⟨o, its.toArray, n, ho, hc, hd, by simpa using items_txs r⟩
def rSetTT (K : PySem.W.Frag) (P : Program) (w : World) : List V → Hp → VK → Prop := fun xs H Q => ∃ (l : Addr) (ks : List (Addr × List Str)), xs = [V.ref l] ∧ SqL K H l (ks.map fun p => V.ref p.1) ∧ (∀ p ∈ ks, H p.1 = some (.tup (p.2.map V.str))) ∧ ks.length < 64 ∧
  ∀ (L : List (Addr × List Str)) (p : Addr), (∀ q ∈ L, q ∈ ks) → (∀ k, k ∈ L.map (·.2) ↔ k ∈ ks.map (·.2)) → H p = none → Q (.ref p) (upd H p (SetTTO P w p L))
theorem refs_ofT : ∀ {ks : List (Addr × List Str)} {us : List Value}, Vals (ks.map fun p => V.ref p.1) us → us = ks.map fun p => Value.ref p.1
  | [], us, r => by rw [List.map_nil] at r; cases r; rfl
  | p :: ks, us, r => by
    rw [List.map_cons] at r
    cases r with
    | cons r1 r2 =>
      cases r1
      rw [refs_ofT r2]
      rfl
theorem cr_setTT (hc : X.calm = true) (hu : X.A.units + 64 < cLine) : CallR X (.type "set") (rSetTT X.K X.prog X.w) := by
  intro pins s σ H xs us Q I r ⟨l, ks, e, hs, tt, few, q⟩
  subst e
  obtain ⟨u, rfl, ru⟩ := vals1 r
  cases (show u = Value.ref l from ru)
  obtain ⟨its, rv, hl, _⟩ := I.list hs
  have ei := refs_ofT rv
  have sz : its.toArray.size = ks.length := by rw [List.size_toArray, ei, List.length_map]
  have t0 : ∀ p ∈ ks, Sx.IsTT X.prog X.w s.heap p.2 p.1 := fun p hp => tt_of I (tt p hp)
  have lt0 : ∀ p ∈ ks, p.1 < s.heap.objs.size := fun p hp => by
    obtain ⟨o, _, _, ho, _⟩ := t0 p hp
    exact Heap.lt_size ho
  refine Sx.call_set_J (J := fun i h => ∃ L es ep t, Sx.TSet X.prog X.w h s.heap.objs.size L es ep t ∧ (∀ p ∈ ks, Sx.IsTT X.prog X.w h p.2 p.1) ∧ (∀ q ∈ L, q ∈ ks) ∧ L.length ≤ i ∧ ∀ k, k ∈ L.map (·.2) ↔ k ∈ (ks.take i).map (·.2)) (I.ok.hd hc) hl.isList ?_ ?_ ?_ ?_
  · rintro i h h' lo ⟨L, es, ep, t, R, tk, sb, z⟩
    have tk' : ∀ p ∈ ks, Sx.IsTT X.prog X.w h' p.2 p.1 := fun p hp => by
      obtain ⟨o, x1, x2, x3, x4⟩ := tk p hp
      exact ⟨o, x1, x2, lo _ _ (Nat.le_of_lt (lt0 p hp)) x3, x4⟩
    obtain ⟨o, ho, r0⟩ := R.ob
    exact ⟨L, es, ep, t, ⟨⟨o, lo _ _ (Nat.le_refl _) ho, r0⟩, R.en, R.tab, R.nd, fun p hp => tk' p (sb p hp), R.ld, R.room, R.few⟩, tk', sb, z⟩
  · intro h keep ho
    refine ⟨[], #[], 0, _, Sx.tset_fresh ho, fun p hp => ?_, fun q hq => (by cases hq), Nat.le_refl _, fun k => by simp⟩
    obtain ⟨o, x1, x2, x3, x4⟩ := t0 p hp
    exact ⟨o, x1, x2, keep _ _ x3, x4⟩
  · intro A' hA i v s' E' Q' hv ⟨L, es, ep, t, R, tk, sb, hlen, hm⟩ hQ
    have hi : i < ks.length := by rw [← sz]; exact (Array.getElem?_eq_some_iff.mp hv).1
    have hk : ks[i]? = some ks[i] := List.getElem?_eq_getElem hi
    have ev : v = .ref ks[i].1 := by
      have z : its[i]? = some v := by rw [← hv]; simp
      rw [ei, List.getElem?_map, hk] at z
      exact (Option.some.inj z).symm
    have hin : ks[i] ∈ ks := List.getElem_mem hi
    generalize ks[i] = p at hk ev hin
    subst ev
    have tp := tk p hin
    unfold setAdd
    refine wpAny_holding (wpAny_bind (wpAny_pyHash_tuple (by omega) tp ?_))
    have hk0 : ks.length < 64 := few
    refine Sx.add_tt (s := { s' with toks := s'.toks + (p.2.length + 1) }) R tp (by omega) (by omega) fun b h' L' es' ep' t' sm R' pm => hQ b h' _ (Nat.le_add_right _ _) sm ⟨L', es', ep', t', R', ?_, ?_, ?_, ?_⟩
    · obtain ⟨o, ho, _, hd⟩ := R.ob
      exact fun p hp => Sx.tt_same (tk p hp) ho hd sm
    · intro q hq
      have z := pm.mem_iff.mp hq
      split at z
      · exact sb q z
      · rcases List.mem_cons.mp z with z | z
        · rw [z]; exact hin
        · exact sb q z
    · rw [pm.length_eq]
      split
      · exact Nat.le_succ_of_le hlen
      · rw [List.length_cons]; exact Nat.succ_le_succ hlen
    · intro k
      have e1 : (ks.take (i + 1)).map (·.2) = (ks.take i).map (·.2) ++ [p.2] := by rw [List.take_add_one, hk, List.map_append]; rfl
      rw [e1, List.mem_append, List.mem_singleton, ← hm k, (pm.map (·.2)).mem_iff]
      by_cases z : p.2 ∈ L.map (·.2)
      · rw [if_pos z]
        exact ⟨.inl, fun y => y.elim id fun e => e ▸ z⟩
      · rw [if_neg z, List.map_cons, List.mem_cons]
        exact or_comm
  · intro h' tk ⟨L, es, ep, t, R, _, sb, _, hm⟩ keep
    rw [sz, List.take_length] at hm
    exact ⟨.ref s.heap.objs.size, _, I.laid (t' := tk) keep (Nat.le_refl _) (setTT_new R.t0), rfl, q L _ sb hm (I.hok.fresh (Nat.le_refl _))⟩
def rSortTT (K : PySem.W.Frag) (P : Program) (w : World) : List V → Hp → VK → Prop := fun xs H Q => ∃ (a : Addr) (L : List (Addr × List Str)), xs = [V.ref a] ∧ H a = some (SetTTO P w a L) ∧ (∀ p ∈ L, H p.1 = some (.tup (p.2.map V.str))) ∧ (∀ p ∈ L, ∃ x y, p.2 = [x, y]) ∧
  ∀ (L' : List (Addr × List Str)) (p : Addr), L'.Perm L → L'.Pairwise (fun p q => Sx.ltTT (Sx.prT p.2) (Sx.prT q.2) = true) → H p = none → Q (.ref p) (upd H p (.lst (L'.map fun q => V.ref q.1)))
theorem vals_refsT : ∀ (ks : List (Addr × List Str)), Vals (ks.map fun p => V.ref p.1) (ks.map fun p => Value.ref p.1)
  | [] => .nil
  | p :: ks => .cons rfl (vals_refsT ks)
theorem cr_sortTT (hc : X.calm = true) : CallR X (.builtin "sorted") (rSortTT X.K X.prog X.w) := by
  intro pins s σ H xs us Q I r ⟨a, L, e, ha, tt, two, q⟩
  subst e
  obtain ⟨u, rfl, ru⟩ := vals1 r
  cases (show u = Value.ref a from ru)
  have R0 : Sx.TSet0 X.prog X.w s.heap a L := (I.hok a _ ha).1
  obtain ⟨es, ep, t, R⟩ := R0.full fun p hp => tt_of I (tt p hp)
  refine Sx.sorted_tt R two (I.ok.hd hc) fun s' p L' c keep eg eo hp hL pm pw => ?_
  have few := R.few
  have hn := I.hok.fresh hp
  have new : ObjOk X.prog X.w (upd H p (.lst (L'.map fun q => V.ref q.1))) s'.heap p (.lst (L'.map fun q => V.ref q.1)) := ⟨by rw [List.length_map, pm.length_eq, sizeLine_eq]; omega, _, c, vals_refsT L', hL⟩
  exact ⟨.ref p, _, I.call' (ch := []) eo (Un.laid keep hp hn) (I.hok.laid keep hp new) (by rw [eg]; exact I.bare) (fun _ z => nomatch z), rfl, q L' p pm pw hn⟩
end
end L2
end

section
set_option Elab.async false
set_option linter.all false
set_option maxRecDepth 100000
set_option maxHeartbeats 4000000
/-! {x for a in as for x in a}, the x texts. -/
namespace Sx
open PySem PySem.Spec PyProof.Rows L2
section
variable {P : Program} {w : World} {A : Around} {R : Result → Shared → Prop} {s : Shared} {el ta ia tb ib : Expr} {sc : Scope} {pos : Pos} {it acc : Value} {env : PySem.Env}
abbrev cSet (el ta ia tb ib : Expr) (sc : Scope) (pos : Pos) : Expr := .SetComp el [⟨ta, ia, [], 0⟩, ⟨tb, ib, [], 0⟩] sc pos
abbrev raisesTo (P : Program) (w : World) (A : Around) (env : PySem.Env) (R : Result → Shared → Prop) : Value → Shared → Prop := notedBy (model P w) A env fun e s' => R (.error e) s'
theorem turnA : compTurn (cSet el ta ia tb ib sc pos) 0 it acc env = (do
      standAt ia.pos
      match ← pyNext it with
      | none => pure (.done .next)
      | some v =>
        letOwnedTupleGo ta it v
        assign ta env v
        let x ← eval ib env
        standAt ib.pos
        let x ← foldedSetIterable ib env x
        let _ ← runOwn (.compStart (cSet el ta ia tb ib sc pos) 1 (← holding [x] (pyIter x)) acc env) env
        again (.compLoop (cSet el ta ia tb ib sc pos) 0 it acc env)) := by rfl
theorem turnB : compTurn (cSet el ta ia tb ib sc pos) 1 it acc env = (do
      standAt ib.pos
      match ← pyNext it with
      | none => pure (.done .next)
      | some v =>
        letOwnedTupleGo tb it v
        assign tb env v
        (do let v ← eval el env; standAt el.pos; let _ ← call (.builtin "set.add") [acc, v])
        again (.compLoop (cSet el ta ia tb ib sc pos) 1 it acc env)) := by rfl
theorem loopA (hs : ∀ x, foldedSetIterable ib env x = pure x) (I : Nat → Shared → Prop)
    (turn : ∀ n s, I n s → wpAny (model P w) A (pyNext it) (fun r s1 => match r with
      | none => R (.ok .next) s1
      | some v => wpAny (model P w) A (letOwnedTupleGo ta it v) (fun _ s2 => wpAny (model P w) A (assign ta env v) (fun _ s3 => wpAny (model P w) A (eval ib env) (fun x s4 => wpAny (model P w) A (pyIter x) (fun i2 s5 =>
          codeAny (model P w) A (.compStart (cSet el ta ia tb ib sc pos) 1 i2 acc env) (fun r s' => match r with
            | .ok _ => ∃ m, m < n ∧ I m s'
            | .error _ => False) s5) (raisesTo P w A env R) s4) (raisesTo P w A env R) s3) (raisesTo P w A env R) s2) (raisesTo P w A env R) s1) (raisesTo P w A env R) s)
    (n : Nat) (h : I n s) : codeAny (model P w) A (.compLoop (cSet el ta ia tb ib sc pos) 0 it acc env) R s := by
  refine codeAny_loop rfl I (fun n s hI => ?_) n h
  show wpAny _ A ((compTurn (cSet el ta ia tb ib sc pos) 0 it acc env).onRaise (fun x => do noteFrame x env; theTreesLotGoes x)) _ _ s
  refine wpAny_noted ?_
  rw [turnA]
  refine wpAny_bind (wpAny_standAt (wpAny_bind (wpAny_mono (turn n s hI) (fun r s1 h1 => ?_) fun _ _ z => z)))
  cases r with
  | none => exact wpAny_pure h1
  | some v =>
    refine wpAny_bind (wpAny_mono h1 (fun _ s2 h2 => wpAny_bind (wpAny_mono h2 (fun _ s3 h3 => wpAny_bind (wpAny_mono h3 (fun x s4 h4 => ?_) fun _ _ z => z)) fun _ _ z => z)) fun _ _ z => z)
    refine wpAny_bind (wpAny_standAt (wpAny_bind (wpAny_of_eq (hs x) (wpAny_bind (wpAny_holding (wpAny_mono h4 (fun i2 s5 h5 => ?_) fun _ _ z => z))))))
    refine wpAny_bind (wpAny_runOwn ?_)
    rw [Around.mark_none]
    refine codeAny_mono h5 fun r s' hr => ?_
    cases r with
    | ok f => first | exact wpAny_pure ⟨rfl, hr⟩ | exact wpAny_bind (wpAny_pure (wpAny_pure ⟨rfl, hr⟩))
    | error e => exact hr.elim
theorem loopB (I : Nat → Shared → Prop)
    (turn : ∀ n s, I n s → wpAny (model P w) A (pyNext it) (fun r s1 => match r with
      | none => R (.ok .next) s1
      | some v => wpAny (model P w) A (letOwnedTupleGo tb it v) (fun _ s2 => wpAny (model P w) A (assign tb env v) (fun _ s3 => wpAny (model P w) A (eval el env) (fun x s4 =>
          wpAny (model P w) A (call (.builtin "set.add") [acc, x]) (fun _ s5 => ∃ m, m < n ∧ I m s5) (raisesTo P w A env R) s4) (raisesTo P w A env R) s3) (raisesTo P w A env R) s2) (raisesTo P w A env R) s1) (raisesTo P w A env R) s)
    (n : Nat) (h : I n s) : codeAny (model P w) A (.compLoop (cSet el ta ia tb ib sc pos) 1 it acc env) R s := by
  refine codeAny_loop rfl I (fun n s hI => ?_) n h
  show wpAny _ A ((compTurn (cSet el ta ia tb ib sc pos) 1 it acc env).onRaise (fun x => do noteFrame x env; theTreesLotGoes x)) _ _ s
  refine wpAny_noted ?_
  rw [turnB]
  refine wpAny_bind (wpAny_standAt (wpAny_bind (wpAny_mono (turn n s hI) (fun r s1 h1 => ?_) fun _ _ z => z)))
  cases r with
  | none => exact wpAny_pure h1
  | some v =>
    refine wpAny_bind (wpAny_mono h1 (fun _ s2 h2 => wpAny_bind (wpAny_mono h2 (fun _ s3 h3 => ?_) fun _ _ z => z)) fun _ _ z => z)
    exact wpAny_bind (wpAny_bind (wpAny_mono h3 (fun x s4 h4 => wpAny_bind (wpAny_standAt (wpAny_bind (wpAny_mono h4 (fun _ s5 h5 => wpAny_pure (wpAny_pure ⟨rfl, h5⟩)) fun _ _ z => z)))) fun _ _ z => z))
theorem startB (h0 : codeAny (model P w) A (.compLoop (cSet el ta ia tb ib sc pos) 1 it acc env) R s)
    (h : wpAny (model P w) A (pyIter it) (fun it' s' => codeAny (model P w) A (.compLoop (cSet el ta ia tb ib sc pos) 1 it' acc env) R s') (raisesTo P w A env R) s) :
    codeAny (model P w) A (.compStart (cSet el ta ia tb ib sc pos) 1 it acc env) R s := by
  refine codeAny_of_tree ?_
  show wpAny _ _ ((compStart (cSet el ta ia tb ib sc pos) 1 it acc env).onRaise (fun x => do noteFrame x env; standAt theWindowsPlace)) _ _ s
  refine wpAny_notedAt ?_
  unfold compStart
  show wpAny _ _ (ask >>= _) _ _ s
  refine wpAny_bind (wpAny_askSetting (wpAny_ite ?_))
  split
  · first
      | exact wpAny_bind (wpAny_pure (wpAny_pure (And.intro rfl h0)))
      | exact wpAny_pure (And.intro rfl h0)
  · first
      | exact wpAny_bind (wpAny_rule (wpAny_bind (wpAny_standAt (wpAny_bind (wpAny_mono h (fun it' s' z => wpAny_pure (And.intro rfl z)) fun _ _ x => x)))))
      | (refine wpAny_bind (wpAny_rule ?_); show wpAny _ _ (standAt ib.pos >>= _) _ _ s; exact wpAny_bind (wpAny_standAt (wpAny_bind (wpAny_mono h (fun it' s' z => wpAny_pure (And.intro rfl z)) fun _ _ x => x))))
end
end Sx
end

section
set_option Elab.async false
set_option linter.all false
set_option maxRecDepth 100000
set_option maxHeartbeats 4000000
/-! {x for a in as for x in a}, the x texts: the rule. -/
namespace Sx
open PySem PySem.Spec PyProof.Rows L2
section
variable {X : Cx}
/-- set.add of a text to the tracked set -/
theorem addTx_ok {pins : List (Addr × Obj)} {σ : L2.St} {H : Hp} {s : Shared} {E : Value → Shared → Prop} {D : Addr} {ks : List Str} {y : Str} {tk : Tok} {Q : Value → Shared → Prop} (I : Inv X pins σ H s) (hD : H D = some (SetTxO X.prog X.w D ks)) (room : ks.length < 1000)
    (h : ∀ s', Inv X pins σ (upd H D (SetTxO X.prog X.w D (if y ∈ ks then ks else y :: ks))) s' → Q .none s') : wpAny (model X.prog X.w) X.A (call (.builtin "set.add") [.ref D, .str y tk]) Q E s := by
  refine call_add_tx (setTx_get I hD) (by rw [show scanBound = 4096 from rfl]; omega) fun h' same R' => ?_
  have ⟨o, _, _, _, ho, _⟩ := id R'
  exact h _ (I.write (e := D) (t' := s.toks + 1) (by rw [hD]; trivial) (.inl rfl) (fun b u hb hu => (same.2 b hb).trans hu) ⟨o, ho⟩ (setTx_new R'))
/-- D: the new set -/
def tSc2 (P : Program) (w : World) (wi : TI) (g : TG) (wi1 : TI) (g1 : TG) (te : TE) (vs vs1 : List Nat) : TE := fun σ H Q => wi σ H fun J H1 => ∀ D, H1 D = none → ∃ W : Nat → Nat → Hp → Prop, (∃ m, W 0 m (upd H1 D (SetTxO P w D []))) ∧ ∀ i m H, W i m H →
  (J.stop i H ∧ Q (.ref D) H) ∨ (J.go i H ∧ ∃ Nx : Hp → Prop, (∀ H', Nx H' → ∃ m', m' < m ∧ W (i + 1) m' H') ∧ ∀ x H', J.yld i H x H' → g x (wipe σ vs) H' fun σ2 H2 => wipe σ2 vs = wipe σ vs ∧
    wi1 σ2 H2 fun J1 H4 => ∃ W1 : Nat → Nat → Hp → Prop, (∃ m, W1 0 m H4) ∧ ∀ j k H, W1 j k H →
      (J1.stop j H ∧ Nx H) ∨ (J1.go j H ∧ ∃ Nx1 : Hp → Prop, (∀ H', Nx1 H' → ∃ k', k' < k ∧ W1 (j + 1) k' H') ∧ ∀ x H', J1.yld j H x H' → g1 x (wipe σ2 vs1) H' fun σ3 H5 => wipe σ3 vs1 = wipe σ2 vs1 ∧
        te σ3 H5 fun y H7 => ∃ z ks, y = .str z ∧ H7 D = some (SetTxO P w D ks) ∧ ks.length < 1000 ∧ Nx1 (upd H7 D (SetTxO P w D (if z ∈ ks then ks else z :: ks)))))
theorem pe_sc2 {el ta ia tb ib : Expr} {scope : Scope} {own : List (Str × Nat)} {vs1 : List Nat} {pos : Pos} {wi wi1 : TI} {g g1 : TG} {te : TE} (hc : X.calm = true) (hN : X.N.Nodup) (hi : PI X ta ia wi) (ok : BlkOk X.N X.env.scope scope own) (hv : ∀ i ∈ vs1, i ∈ own.map (·.2))
    (hg : ∀ (s : Shared) (H : Hp) (C : Addr) (cl : List (Str × Addr)) (fp : List Addr), PG (X.blk s H scope (compEnvC scope cl C X.env) fp) ta g)
    (hi1 : ∀ (s : Shared) (H : Hp) (C : Addr) (cl : List (Str × Addr)) (fp : List Addr), PI (X.blk s H scope (compEnvC scope cl C X.env) fp) tb ib wi1)
    (hg1 : ∀ (s : Shared) (H : Hp) (C : Addr) (cl : List (Str × Addr)) (fp : List Addr), PG (X.blk s H scope (compEnvC scope cl C X.env) fp) tb g1)
    (he : ∀ (s : Shared) (H : Hp) (C : Addr) (cl : List (Str × Addr)) (fp : List Addr), PE (X.blk s H scope (compEnvC scope cl C X.env) fp) el te)
    (hs : ∀ x, foldedSetIterable ia X.env x = pure x := by intro _; rfl) (hs1 : ∀ env x, foldedSetIterable ib env x = pure x := by intro _ _; rfl) : PE X (cSet el ta ia tb ib scope pos) (tSc2 X.prog X.w wi g wi1 g1 te (own.map (·.2)) vs1) := by
  refine ⟨fun pins s σ H Q I h => ?_⟩
  rw [show eval (cSet el ta ia tb ib scope pos) X.env = comprehension (cSet el ta ia tb ib scope pos) scope X.env (firstIterPos [⟨ta, ia, [], 0⟩, ⟨tb, ib, [], 0⟩] pos) (newSet (.type "set")) false (eval ia X.env) none from rfl]
  have cellsThere : ∀ y ∈ scope.names, y.2 = .free → ∃ c, X.env.cells.lookup y.1 = some c := fun y hy e => (ok.free y hy e).elim (fun k => I.ok.has _ (.inl k)) fun k => I.ok.has _ (.inr k)
  refine wpAny_comprehension_free (use := none) rfl hs (closure_ok cellsThere) ok.kind (fun y hy e => by rw [ok.uniq y hy, e])
    (thn (hi.run pins s σ H _ I h) fun xv s1 hx => thn hx fun itv s2 h2 => ?_)
  obtain ⟨it, fp, tn, J, H2, e, I2, T, st2, f2, q⟩ := h2
  subst e
  refine PpSet.newSet_ok (newEnv_comp ?_)
  generalize hD : s2.heap.objs.size = D
  obtain ⟨W, ⟨m0, w0⟩, turn⟩ := q D (I2.hok.fresh (Nat.le_of_eq hD))
  generalize hs3 : ({ s2 with heap := s2.heap.push (emptyS X.w) } : Shared) = s3
  have I3 : Inv X pins σ (upd H2 D (SetTxO X.prog X.w D [])) s3 := by
    rw [← hs3]
    refine I2.laid (t' := s2.toks) (fun b o e => Heap.get?_push_of_some _ e) (Nat.le_of_eq hD) (setTx_new (tx_fresh ?_))
    rw [← hD]
    exact Heap.get?_push_size _ rfl
  have h3 : s3.heap = s2.heap.push (emptyS X.w) := by rw [← hs3]
  have small : ∀ b ∈ fp, b < s2.heap.objs.size := fun b hb => let ⟨_, e, _⟩ := T.obj _ _ st2 b hb; Heap.lt_size e
  have f3 : ∀ b ∈ fp, FpOk X pins (upd H2 D (SetTxO X.prog X.w D [])) b ∧ b < s3.heap.objs.size := fun b hb => by
    refine ⟨⟨?_, (f2 b hb).2⟩, by rw [h3, Heap.size_push]; exact Nat.lt_succ_of_lt (small b hb)⟩
    rw [upd_ne (by rw [← hD]; exact Nat.ne_of_lt (small b hb))]
    exact (f2 b hb).1
  have st3 : tn 0 s3.heap := T.keep _ _ _ st2 fun b _ o e => by rw [h3]; exact Heap.get?_push_of_some _ e
  have I4 := block_start I3 ok hN f3
  have pg := hg s3 (upd H2 D (SetTxO X.prog X.w D [])) s3.heap.objs.size (cellsFrom (s3.heap.objs.size + 1) scope.names (cloFrom X.env.cells scope.names [])) fp
  have pe := he s3 (upd H2 D (SetTxO X.prog X.w D [])) s3.heap.objs.size (cellsFrom (s3.heap.objs.size + 1) scope.names (cloFrom X.env.cells scope.names [])) fp
  have pi1 := hi1 s3 (upd H2 D (SetTxO X.prog X.w D [])) s3.heap.objs.size (cellsFrom (s3.heap.objs.size + 1) scope.names (cloFrom X.env.cells scope.names [])) fp
  have pg1 := hg1 s3 (upd H2 D (SetTxO X.prog X.w D [])) s3.heap.objs.size (cellsFrom (s3.heap.objs.size + 1) scope.names (cloFrom X.env.cells scope.names [])) fp
  show codeAny _ _ (.compStart (cSet el ta ia tb ib scope pos) 0 (.ref it) (.ref D) (compEnvC scope (cellsFrom (s3.heap.objs.size + 1) scope.names (cloFrom X.env.cells scope.names [])) s3.heap.objs.size X.env)) (compPost (model X.prog X.w) X.A X.xe none (EP X pins σ Q) (.ref D) s3.heap.objs.size) { s3 with heap := pushCells (s3.heap.push { cls := .type "dict", data := .dict #[] }) scope.names }
  have nfp : ∀ b ∈ fp, (upd H2 D (SetTxO X.prog X.w D [])) b = none := fun b hb => (f3 b hb).1.1
  generalize hce : compEnvC scope (cellsFrom (s3.heap.objs.size + 1) scope.names (cloFrom X.env.cells scope.names [])) s3.heap.objs.size X.env = ce at I4 pg pe pi1 pg1 ⊢
  have cL : ce.locals = s3.heap.objs.size := by subst hce; rfl
  generalize hH3 : upd H2 D (SetTxO X.prog X.w D []) = H3 at I3 I4 pg pe pi1 pg1 w0 nfp f3
  generalize hs4 : ({ s3 with heap := pushCells (s3.heap.push { cls := .type "dict", data := .dict #[] }) scope.names } : Shared) = s4 at I4 ⊢
  have st4 : tn 0 s4.heap := T.keep _ _ _ st3 fun b _ o e => by rw [← hs4]; exact pushCells_keeps _ _ _ _ (Heap.get?_push_of_some _ e)
  have stat : ∀ {σ' : L2.St} {H' : Hp} {s' : Shared}, Inv (X.blk s3 H3 scope ce fp) [] σ' H' s' → (∀ b ∈ fp, H' b = none) → ∀ b ∈ fp, FpOk (X.blk s3 H3 scope ce fp) [] H' b := fun {σ' H' s'} I' hn b hb =>
    ⟨hn b hb, (I'.ok.exf b hb).1, I'.ok.exfs b hb, .inl hb, fun x c e => (I'.ok.exf b hb).2 x c e, fun p hp => absurd (show p ∈ ([] : List (Addr × Obj)) ++ [] from hp) (by simp)⟩
  let Iv : Nat → Shared → Prop := fun n s' => ∃ i H', Inv (X.blk s3 H3 scope ce fp) [] (wipe σ (own.map (·.2))) H' s' ∧ tn i s'.heap ∧ (∀ b ∈ fp, H' b = none) ∧ W i n H'
  have all : codeAny (model X.prog X.w) X.A (.compLoop (cSet el ta ia tb ib scope pos) 0 (.ref it) (.ref D) ce) (compPost (model X.prog X.w) X.A X.xe none (EP X pins σ Q) (.ref D) s3.heap.objs.size) s4 := by
    refine loopA (hs1 ce) Iv ?_ m0 ⟨0, H3, I4, st4, nfp, w0⟩
    rintro n s5 ⟨i, H5, I5, st5, n5, w5⟩
    rcases turn i n H5 w5 with ⟨stop, qq⟩ | ⟨go, Nx, hNx, step⟩
    · refine thnF (T.done (X.blk s3 H3 scope ce fp) rfl rfl rfl hc i [] s5 _ H5 (fun _ _ => False) I5 (stat I5 n5) st5 stop) fun r s6 ⟨hr, I6⟩ => ?_
      subst hr
      have back : Inv X pins σ H5 s6 := I3.call' (ch := fp) I6.os I6.base I6.hok I6.bare fun b hb => let z := (f3 b hb).1; ⟨z.2.2.2.1, z.2.1, z.2.2.2.2.1, z.2.2.2.2.2⟩
      obtain ⟨m, hn, _⟩ := I6.loc
      have hn : s6.heap.Ns ce.locals m := hn
      rw [cL] at hn
      refine ⟨m, hn, fun h2 sb => ?_⟩
      obtain ⟨_, g1, g2, g3, g4, g5⟩ := I3.fpOk (Nat.le_refl _) (I3.hok.fresh (Nat.le_refl _))
      have nC : H5 s3.heap.objs.size = none := by
        have z : H5 ce.locals = none := I6.free
        rw [cL] at z
        exact z
      exact ⟨.ref D, H5, back.turned (t' := s6.toks) (fun b o hb e => (sb.2 b hb).trans e) nC g1 g3 g4 g5, rfl, qq⟩
    · refine thnF (T.item (X.blk s3 H3 scope ce fp) rfl rfl rfl hc i [] s5 _ H5 (fun _ _ => False) I5 (stat I5 n5) st5 go) fun r s6 ⟨u, hr, h6⟩ => ?_
      subst hr
      refine thnF h6 fun _ s7 ⟨x, H7, I7, r7, y7, st7, n7⟩ => ?_
      have I7' := I7.pinned (stat I7 n7) (T.obj _ _ st7)
      refine thnF (pg.run _ s7 _ H7 x u _ I7' r7 (step x H7 y7)) fun _ s8 ⟨σ8, H8, I8, hw8, q8⟩ => ?_
      have knows : ∀ (j : Nat) v, (wipe σ (own.map (·.2)))[j]? = some (some v) → (wipe σ8 vs1)[j]? = some (some v) := fun j v e => by
        rw [← hw8] at e
        obtain ⟨e1, e2⟩ := wipe_some e
        rw [wipe_out fun z => e2 (hv j z)]
        exact e1
      have len8 : (wipe σ (own.map (·.2))).length = (wipe σ8 vs1).length := by rw [← hw8, wipe_length, wipe_length]
      refine thnF (pi1.run _ s8 σ8 H8 _ I8 q8) fun xv s10 hx => thnF hx fun itv s11 h11 => ?_
      obtain ⟨it1, fp1, tn1, J1, H11, e1, I11, T1, st11, f11, W1, ⟨m1, w1⟩, turn1⟩ := h11
      subst e1
      have stat1 : ∀ {H' : Hp}, (∀ b ∈ fp1, H' b = none) → ∀ b ∈ fp1, FpOk (X.blk s3 H3 scope ce fp) ([] ++ pinsAt fp s7.heap) H' b := fun hn b hb => ⟨hn b hb, (f11 b hb).2⟩
      let Iv1 : Nat → Shared → Prop := fun k s' => ∃ j H', Inv (X.blk s3 H3 scope ce fp) ([] ++ pinsAt fp s7.heap) (wipe σ8 vs1) H' s' ∧ tn1 j s'.heap ∧ (∀ b ∈ fp1, H' b = none) ∧ W1 j k H'
      have inner : codeAny (model X.prog X.w) X.A (.compLoop (cSet el ta ia tb ib scope pos) 1 (.ref it1) (.ref D) ce) (fun r s' => match r with
          | .ok _ => ∃ m, m < n ∧ Iv m s'
          | .error _ => False) s11 := by
        refine loopB Iv1 ?_ m1 ⟨0, H11, I11.weak (wipe_length _ _) (fun j v e => (wipe_some e).1), st11, fun b hb => (f11 b hb).1, w1⟩
        rintro k s12 ⟨j, H12, I12, st12, n12, w12⟩
        rcases turn1 j k H12 w12 with ⟨stop1, nx1⟩ | ⟨go1, Nx1, hNx1, step1⟩
        · refine thnF (T1.done (X.blk s3 H3 scope ce fp) rfl rfl rfl hc j _ s12 (wipe σ8 vs1) H12 (fun _ _ => False) I12 (stat1 n12) st12 stop1) fun r s13 ⟨hr, I13⟩ => ?_
          subst hr
          obtain ⟨m', hm, w'⟩ := hNx H12 nx1
          have pinned : ∀ b ∈ fp, ∀ o, s7.heap.get? b = some o → s13.heap.get? b = some o ∧ H12 b = none := fun b hb o e =>
            let z := I13.pin (b, o) (List.mem_append_right _ (List.mem_append_right _ (mem_pinsAt hb e)))
            ⟨z.1, z.2.1⟩
          exact ⟨m', hm, i + 1, H12, (I13.unpinned (pins := [])).weak len8 knows, T.keep _ _ _ st7 fun b hb o e => (pinned b hb o e).1, fun b hb => let ⟨o, e, _⟩ := T.obj _ _ st7 b hb; (pinned b hb o e).2, w'⟩
        · refine thnF (T1.item (X.blk s3 H3 scope ce fp) rfl rfl rfl hc j _ s12 (wipe σ8 vs1) H12 (fun _ _ => False) I12 (stat1 n12) st12 go1) fun r s13 ⟨u1, hr, h13⟩ => ?_
          subst hr
          refine thnF h13 fun _ s14 ⟨x1, H14, I14, r14, y14, st14, n14⟩ => ?_
          have I14' := I14.pinned (stat1 n14) (T1.obj _ _ st14)
          refine thnF (pg1.run _ s14 (wipe σ8 vs1) H14 x1 u1 _ I14' r14 (step1 x1 H14 y14)) fun _ s15 ⟨σ15, H15, I15, hw15, q15⟩ => ?_
          refine thnF (pe.run _ s15 σ15 H15 _ I15 q15) fun z s17 ⟨yv, H17, I17, r17, tx, ks, ey, hD17, room, nx⟩ => ?_
          subst ey
          obtain ⟨tk, rfl⟩ := r17
          refine addTx_ok (X := X.blk s3 H3 scope ce fp) I17 hD17 room fun s18 I18 => ?_
          obtain ⟨m', hm, w'⟩ := hNx1 _ nx
          have pinned : ∀ b ∈ fp1, ∀ o, s14.heap.get? b = some o → s18.heap.get? b = some o ∧ _ = none := fun b hb o e =>
            let z := I18.pin (b, o) (List.mem_append_right _ (List.mem_append_right _ (mem_pinsAt hb e)))
            ⟨z.1, z.2.1⟩
          exact ⟨m', hm, j + 1, _, I18.unpinned.weak (by rw [← hw15, wipe_length]) (fun j v e => by rw [← hw15] at e; exact (wipe_some e).1), T1.keep _ _ _ st14 fun b hb o e => (pinned b hb o e).1, fun b hb => let ⟨o, e, _⟩ := T1.obj _ _ st14 b hb; (pinned b hb o e).2, w'⟩
      exact startB inner (T1.self X.A 0 _ _ _ st11 inner)
  exact PpSet.codeAny_compStart_set all (T.self X.A 0 _ _ _ st4 all)
end
end Sx
end

section
set_option Elab.async false
set_option linter.all false
set_option maxRecDepth 100000
set_option maxHeartbeats 4000000
/-! The data layer, part 12: sorted, sets, pairs in lists, join. -/
namespace Dl
open PySem PySem.Spec PyProof.Rows L2
/-! ### lists of texts, of cells, of pairs of texts -/
@[simp] def toStrs : List D → Option (List Str)
  | [] => some []
  | .str x :: ds => (toStrs ds).map (x :: ·)
  | _ => none
abbrev cellD (c : Int × Int) : D := .node .tup [.int c.1, .int c.2]
abbrev pairD (p : Str × Str) : D := .node .tup [.str p.1, .str p.2]
@[simp] def toCells : List D → Option (List (Int × Int))
  | [] => some []
  | .node .tup [.int a, .int b] :: ds => (toCells ds).map ((a, b) :: ·)
  | _ => none
@[simp] def toPairs : List D → Option (List (Str × Str))
  | [] => some []
  | .node .tup [.str a, .str b] :: ds => (toPairs ds).map ((a, b) :: ·)
  | _ => none
theorem toStrs_eq : ∀ {ds : List D} {ts : List Str}, toStrs ds = some ts → ds = ts.map D.str
  | [], ts, h => by cases h; rfl
  | d :: ds, ts, h => by
    cases d with
    | str x =>
      simp only [toStrs, Option.map_eq_some_iff] at h
      obtain ⟨ts', h1, rfl⟩ := h
      rw [toStrs_eq h1]; rfl
    | _ => cases h
theorem toCells_eq : ∀ {ds : List D} {ts : List (Int × Int)}, toCells ds = some ts → ds = ts.map cellD
  | [], ts, h => by cases h; rfl
  | d :: ds, ts, h => by
    unfold toCells at h
    split at h
    · next e => cases e
    · next a b ds' e =>
      cases e
      simp only [Option.map_eq_some_iff] at h
      obtain ⟨ts', h1, rfl⟩ := h
      rw [toCells_eq h1]; rfl
    · cases h
theorem toPairs_eq : ∀ {ds : List D} {ts : List (Str × Str)}, toPairs ds = some ts → ds = ts.map pairD
  | [], ts, h => by cases h; rfl
  | d :: ds, ts, h => by
    unfold toPairs at h
    split at h
    · next e => cases e
    · next a b ds' e =>
      cases e
      simp only [Option.map_eq_some_iff] at h
      obtain ⟨ts', h1, rfl⟩ := h
      rw [toPairs_eq h1]; rfl
    · cases h
@[simp] theorem toStrs_map (ts : List Str) : toStrs (ts.map D.str) = some ts := by induction ts with
  | nil => rfl
  | cons x ts ih => rw [List.map_cons]; simp only [toStrs, ih, Option.map_some]
@[simp] theorem toCells_map (ts : List (Int × Int)) : toCells (ts.map cellD) = some ts := by induction ts with
  | nil => rfl
  | cons x ts ih => rw [List.map_cons]; simp only [toCells, ih, Option.map_some]
@[simp] theorem toPairs_map (ts : List (Str × Str)) : toPairs (ts.map pairD) = some ts := by induction ts with
  | nil => rfl
  | cons x ts ih => rw [List.map_cons]; simp only [toPairs, ih, Option.map_some]
section
variable {CA : Nat → Addr} {X : Cx} {a b c e o : Expr} {es : List Expr} {pos p apos : Pos} {da db dc : VDen} {dA : ADen} {ta tb : TDen} {dF : FDen} {F H : Hp}
theorem Reps.at_map {α : Type} {f : α → D} : ∀ {xs : List α} {vs : List V}, Reps CA F (xs.map f) vs → ∀ v ∈ vs, ∃ x ∈ xs, Rep CA F (f x) v
  | [], vs, h, v, hv => by
    rw [List.map_nil] at h
    unfold Reps at h
    subst h
    cases hv
  | x :: xs, vs, h, v, hv => by
    rw [List.map_cons] at h
    unfold Reps at h
    obtain ⟨u, r, rfl, h1, h2⟩ := h
    rcases List.mem_cons.mp hv with e | hv
    · subst e; exact ⟨x, List.mem_cons_self, h1⟩
    · obtain ⟨y, h3, h4⟩ := Reps.at_map h2 v hv
      exact ⟨y, List.mem_cons_of_mem _ h3, h4⟩
theorem reps_map {α : Type} {f : α → D} {k : V → α} : ∀ {vs : List V}, (∀ v ∈ vs, Rep CA F (f (k v)) v) → Reps CA F ((vs.map k).map f) vs
  | [], _ => reps_nil
  | v :: vs, h => reps_cons (h v List.mem_cons_self) (reps_map fun u hu => h u (List.mem_cons_of_mem _ hu))
theorem Reps.map_eq {α : Type} {f : α → D} {k : V → α} (g : ∀ x v, Rep CA F (f x) v → k v = x) : ∀ {xs : List α} {vs : List V}, Reps CA F (xs.map f) vs → vs.map k = xs
  | [], vs, h => by
    rw [List.map_nil] at h
    unfold Reps at h
    subst h
    rfl
  | x :: xs, vs, h => by
    rw [List.map_cons] at h
    unfold Reps at h
    obtain ⟨u, r, rfl, h1, h2⟩ := h
    rw [List.map_cons, g x u h1, Reps.map_eq g h2]
theorem Rep.tup2 {d1 d2 : D} {v : V} (h : Rep CA F (.node .tup [d1, d2]) v) : ∃ t u1 u2, v = .ref t ∧ F t = some (.tup [u1, u2]) ∧ Rep CA F d1 u1 ∧ Rep CA F d2 u2 := by
  obtain ⟨t, vs, e1, ⟨o, e2, e3⟩, e4⟩ := h.node_eq
  cases (show o = .tup vs from e3)
  obtain ⟨u1, u2, rfl, r1, r2⟩ := e4.two
  exact ⟨t, u1, u2, e1, e2, r1, r2⟩
/-- the ints, the texts of a tuple of two at v -/
def kCell (F : Hp) (v : V) : Int × Int := match v with
  | .ref t => match F t with
    | some (.tup [.int i, .int j]) => (i, j)
    | _ => (0, 0)
  | _ => (0, 0)
def kPair (F : Hp) (v : V) : Str × Str := match v with
  | .ref t => match F t with
    | some (.tup [.str i, .str j]) => (i, j)
    | _ => (⟨#[]⟩, ⟨#[]⟩)
  | _ => (⟨#[]⟩, ⟨#[]⟩)
theorem cell_at {c : Int × Int} {v : V} (h : Rep CA F (cellD c) v) : ∃ t, v = .ref t ∧ F t = some (.tup [.int c.1, .int c.2]) := by
  obtain ⟨t, u1, u2, rfl, e, r1, r2⟩ := h.tup2
  rw [r1.int_eq, r2.int_eq] at e
  exact ⟨t, rfl, e⟩
theorem pair_at {c : Str × Str} {v : V} (h : Rep CA F (pairD c) v) : ∃ t, v = .ref t ∧ F t = some (.tup [.str c.1, .str c.2]) := by
  obtain ⟨t, u1, u2, rfl, e, r1, r2⟩ := h.tup2
  rw [r1.str_eq, r2.str_eq] at e
  exact ⟨t, rfl, e⟩
theorem kCell_ok (c : Int × Int) (v : V) (h : Rep CA F (cellD c) v) : kCell F v = c := by
  obtain ⟨t, rfl, e⟩ := cell_at h
  simp [kCell, e]
theorem kPair_ok (c : Str × Str) (v : V) (h : Rep CA F (pairD c) v) : kPair F v = c := by
  obtain ⟨t, rfl, e⟩ := pair_at h
  simp [kPair, e]
/-! ### sorted of lists -/
def ltC (p q : Int × Int) : Bool := SrtO.lexB p q
@[simp] def fSorted : List D → (Tag → List D → Prop) → Prop := fun ds k => match ds with
  | [.node .lst es] => (∃ cs, toCells es = some cs ∧ ∀ cs' : List (Int × Int), cs'.Perm cs → cs'.Pairwise (fun x y => ltC y x = false) → k .lst (cs'.map cellD)) ∨
    (∃ ps, toPairs es = some ps ∧ ∀ ps' : List (Str × Str), ps'.Perm ps → ps'.Pairwise (fun x y => Sx.ltTT y x = false) → k .lst (ps'.map pairD))
  | _ => False
abbrev rSortedW (X : Cx) : List V → Hp → VK → Prop := fun vs H Q => rSortedPO X.K vs H Q ∨ rSortedTP X.K vs H Q
theorem cr_sortedW : CallR X (.builtin "sorted") (rSortedW X) := CallR.or cr_sortedPO cr_sortedTP
theorem cf_sortedW : CallF CA (rSortedW X) fSorted := fun {β s σ H F vs ds P Q} R r h q => by
  match ds, h with
  | [.node .lst es], h =>
    obtain ⟨v, rfl, r1⟩ := r.one
    obtain ⟨ad, ws, rfl, ⟨ob, e1, e2⟩, e3⟩ := r1.node_eq
    cases (show ob = .lst ws from e2)
    rcases h with ⟨cs, h1, h2⟩ | ⟨ps, h1, h2⟩
    · rw [toCells_eq h1] at e3
      have at_ : ∀ x ∈ ws, ∃ t, x = V.ref t ∧ H t = some (.tup [.int (kCell F x).1, .int (kCell F x).2]) := fun x hx => by
        obtain ⟨c, _, hc⟩ := e3.at_map x hx
        rw [kCell_ok c x hc]
        obtain ⟨t, e, f⟩ := cell_at hc
        exact ⟨t, e, R.sub.nd f fun z => z⟩
      refine .inl ⟨ad, ws, kCell F, rfl, .inl (R.sub.rd e1), at_, fun ys pp hs hb hp => ?_⟩
      have pm : (ys.map (kCell F)).Perm cs := by
        have z := hb.perm.map (kCell F)
        rw [Reps.map_eq kCell_ok e3] at z
        exact z
      refine q _ _ (h2 (ys.map (kCell F)) pm (List.pairwise_map.mpr hs)) pp ys _ F (R.new hp) (.new hp) ⟨_, upd_same, rfl⟩ (reps_map fun v hv => ?_) (R.sub.free hp) hp (R.noown hp) True.intro
      obtain ⟨c, _, hc⟩ := e3.at_map v (hb.perm.mem_iff.mp hv)
      rw [kCell_ok c v hc]
      exact hc
    · rw [toPairs_eq h1] at e3
      have at_ : ∀ x ∈ ws, ∃ t, x = V.ref t ∧ H t = some (.tup [.str (kPair F x).1, .str (kPair F x).2]) := fun x hx => by
        obtain ⟨c, _, hc⟩ := e3.at_map x hx
        rw [kPair_ok c x hc]
        obtain ⟨t, e, f⟩ := pair_at hc
        exact ⟨t, e, R.sub.nd f fun z => z⟩
      refine .inr ⟨ad, ws, kPair F, rfl, .inl (R.sub.rd e1), at_, fun ys pp hs hb hp => ?_⟩
      have pm : (ys.map (kPair F)).Perm ps := by
        have z := hb.map (kPair F)
        rw [Reps.map_eq kPair_ok e3] at z
        exact z
      refine q _ _ (h2 (ys.map (kPair F)) pm (List.pairwise_map.mpr hs)) pp ys _ F (R.new hp) (.new hp) ⟨_, upd_same, rfl⟩ (reps_map fun v hv => ?_) (R.sub.free hp) hp (R.noown hp) True.intro
      obtain ⟨c, _, hc⟩ := e3.at_map v (hb.mem_iff.mp hv)
      rw [kPair_ok c v hc]
      exact hc
/-! ### sorted(set(xs)) -/
@[simp] def dSortSet (da : VDen) : FDen := fun s P => da s fun d s1 => match d with
  | .node .lst es => (∃ ts, toStrs es = some ts ∧ ts.length ≤ 1000 ∧ ∀ ys : List Str, (∀ x, x ∈ ys ↔ x ∈ ts) → ys.Pairwise (fun x y => Sx.ltT x y = true) → P .lst (ys.map D.str) s1) ∨
    (∃ ps, toPairs es = some ps ∧ ps.length < 64 ∧ ∀ ys : List (Str × Str), (∀ x, x ∈ ys ↔ x ∈ ps) → ys.Pairwise (fun x y => Sx.ltTT x y = true) → P .lst (ys.map pairD) s1)
  | _ => False
theorem df_sortSet {p1 p2 q1 q2 : Pos} (hm1 : X.mg "sorted" = none) (hm2 : X.mg "set" = none) (hc : X.calm = true) (hu : X.A.units + 65 < cLine) (ha : DV CA X a da) (hg1 : Gl X "sorted" := by rfl) (hg2 : Gl X "set" := by rfl)
    (s1 : starEach [a] X.env = (false, eval a X.env) :: starEach [] X.env := by rfl) (s2 : starEach [.Call (.Name "set" p2) [a] [] q2] X.env = (false, eval (.Call (.Name "set" p2) [a] [] q2) X.env) :: starEach [] X.env := by rfl)
    (n1 : (backTo q2 (starEach [] X.env)).any (·.1) = false := by rfl) (n2 : (backTo q1 (starEach [] X.env)).any (·.1) = false := by rfl) :
    DF CA X (.Call (.Name "sorted" p1) [.Call (.Name "set" p2) [a] [] q2] [] q1) (dSortSet da) := by
  refine ⟨pe_w (pe_callB (CallR.or (cr_sortTx hc) (cr_sortTT hc)) hg1 hm1 (by decide +kernel) (pa_cons (pe_callTy (CallR.or (cr_setTx hc) (cr_setTT hc (by omega))) hg2 hm2 (by decide +kernel) (pa_cons ha.pe pa_nil s1) (by decide) (by decide) s1 n1) pa_nil s2) (by decide) (by decide) s2 n2) fun σ H Q ⟨β, s, F, P, R, h, q⟩ => ?_⟩
  refine ⟨β, s, F, _, R, h, fun d s1 h1 x H1 F1 R1 E1 r1 => ?_⟩
  cases d with
  | node t es => cases t with
    | lst =>
      obtain ⟨ad, ws, rfl, ⟨ob, e1, e2⟩, e3⟩ := r1.node_eq
      cases (show ob = .lst ws from e2)
      rcases h1 with ⟨ts, z1, z2, z3⟩ | ⟨ps, z1, z2, z3⟩
      · rw [toStrs_eq z1] at e3
        refine .inl ⟨ad, ts, rfl, by rw [← e3.strs_eq]; exact .inl (R1.sub.rd e1), z2, fun ks pp hk _ hl hp => .inl ⟨pp, ks, rfl, upd_same, fun ys l pm pw hl' => ?_⟩⟩
        have hl0 : H1 l = none := by
          by_cases z : l = pp
          · subst z; exact hp
          · rw [upd_ne z] at hl'; exact hl'
        exact q _ _ s1 (z3 ys (fun x => (pm.mem_iff).trans (hk x)) pw) l _ _ F1 ((R1.new hp).new hl') ((E1.trans (.new hp)).trans (.new hl')) ⟨_, upd_same, rfl⟩ (reps_strs ys) (R1.sub.free hl0) (E1.dm hl0) (R1.noown hl0) True.intro
      · rw [toPairs_eq z1] at e3
        have at_ : ∀ x ∈ ws, ∃ t, x = V.ref t ∧ F1 t = some (.tup [.str (kPair F1 x).1, .str (kPair F1 x).2]) := fun x hx => by
          obtain ⟨c, _, hc⟩ := e3.at_map x hx
          rw [kPair_ok c x hc]
          exact pair_at hc
        -- the tuples' addresses with their texts
        let ka : V → Addr × List Str := fun v => (match v with
          | .ref t => t
          | _ => 0, [(kPair F1 v).1, (kPair F1 v).2])
        have ew : (ws.map ka).map (fun p => V.ref p.1) = ws := by
          rw [List.map_map]
          refine (List.map_congr_left fun v hv => ?_).trans (List.map_id ws)
          obtain ⟨t, rfl, _⟩ := at_ v hv
          rfl
        have ek : (ws.map ka).map (·.2) = ps.map fun p => [p.1, p.2] := by
          rw [List.map_map]
          have z := Reps.map_eq kPair_ok e3
          rw [← z, List.map_map]
          rfl
        have tk : ∀ p ∈ ws.map ka, F1 p.1 = some (.tup (p.2.map V.str)) := fun p hp => by
          obtain ⟨v, hv, rfl⟩ := List.mem_map.mp hp
          obtain ⟨t, rfl, f⟩ := at_ v hv
          exact f
        have hpl : ps.length = ws.length := by
          have z := congrArg List.length ek
          simpa using z.symm
        refine .inr ⟨ad, ws.map ka, rfl, by rw [ew]; exact .inl (R1.sub.rd e1), fun p hp => R1.sub.nd (tk p hp) fun z => z, by rw [List.length_map, ← hpl]; exact z2, fun L pp sb hk hp => .inr ⟨pp, L, rfl, upd_same, fun p hpL => ?_, fun p hpL => ?_, fun L' l pm pw hl' => ?_⟩⟩
        · have f := R1.sub.nd (tk p (sb p hpL)) fun z => z
          rw [upd_ne (fun z => by rw [z, hp] at f; cases f)]
          exact f
        · obtain ⟨v, hv, rfl⟩ := List.mem_map.mp (sb p hpL)
          exact ⟨_, _, rfl⟩
        · have hl0 : H1 l = none := by
            by_cases z : l = pp
            · subst z; exact hp
            · rw [upd_ne z] at hl'; exact hl'
          have two : ∀ p ∈ L', p.2 = [(Sx.prT p.2).1, (Sx.prT p.2).2] ∧ F1 p.1 = some (.tup [.str (Sx.prT p.2).1, .str (Sx.prT p.2).2]) := fun p hp' => by
            have inL := sb p (pm.mem_iff.mp hp')
            have f := tk p inL
            obtain ⟨v, hv, rfl⟩ := List.mem_map.mp inL
            exact ⟨rfl, f⟩
          have mem : ∀ x : Str × Str, x ∈ L'.map (fun p => Sx.prT p.2) ↔ x ∈ ps := fun x => by
            have y1 : x ∈ ps ↔ [x.1, x.2] ∈ (ws.map ka).map (·.2) := by
              rw [ek, List.mem_map]
              constructor
              · intro z; exact ⟨x, z, rfl⟩
              · rintro ⟨y, hy, e⟩
                have : y = x := by
                  injection e with e1 e2
                  injection e2 with e2 _
                  exact Prod.ext e1 e2
                rw [← this]; exact hy
            rw [y1, ← hk, ← (pm.map (·.2)).mem_iff]
            constructor
            · intro z
              obtain ⟨p, hp', rfl⟩ := List.mem_map.mp z
              rw [← (two p hp').1]
              exact List.mem_map.mpr ⟨p, hp', rfl⟩
            · intro z
              obtain ⟨p, hp', e⟩ := List.mem_map.mp z
              refine List.mem_map.mpr ⟨p, hp', ?_⟩
              rw [show p.2 = [x.1, x.2] from e]
              rfl
          refine q _ _ s1 (z3 _ mem (List.pairwise_map.mpr pw)) l _ _ F1 ((R1.new hp).new hl') ((E1.trans (.new hp)).trans (.new hl')) ⟨_, upd_same, rfl⟩ ?_ (R1.sub.free hl0) (E1.dm hl0) (R1.noown hl0) True.intro
          have go : ∀ M : List (Addr × List Str), (∀ p ∈ M, F1 p.1 = some (.tup [.str (Sx.prT p.2).1, .str (Sx.prT p.2).2])) → Reps CA F1 ((M.map fun p => Sx.prT p.2).map pairD) (M.map fun p => V.ref p.1) := fun M => by
            induction M with
            | nil => intro _; exact reps_nil
            | cons p M ih => intro z; exact reps_cons (rep_node ⟨_, z p List.mem_cons_self, rfl⟩ (reps_cons rep_str (reps_one rep_str))) (ih fun r hr => z r (List.mem_cons_of_mem _ hr))
          exact go L' fun p hp' => (two p hp').2
    | _ => exact h1.elim
  | _ => exact h1.elim
/-- len(set(xs)), texts -/
@[simp] def dLenSet (da : VDen) : VDen := fun s P => da s fun d s1 => match d with
  | .node .lst es => ∃ ts, toStrs es = some ts ∧ ts.length ≤ 1000 ∧ ∀ ys : List Str, (∀ x, x ∈ ys ↔ x ∈ ts) → ys.Nodup → P (.int ys.length) s1
  | _ => False
theorem dv_lenSet {p1 p2 q1 q2 : Pos} (hm1 : X.mg "len" = none) (hm2 : X.mg "set" = none) (hc : X.calm = true) (ha : DV CA X a da) (hg1 : Gl X "len" := by rfl) (hg2 : Gl X "set" := by rfl)
    (s1 : starEach [a] X.env = (false, eval a X.env) :: starEach [] X.env := by rfl) (s2 : starEach [.Call (.Name "set" p2) [a] [] q2] X.env = (false, eval (.Call (.Name "set" p2) [a] [] q2) X.env) :: starEach [] X.env := by rfl)
    (n1 : (backTo q2 (starEach [] X.env)).any (·.1) = false := by rfl) (n2 : (backTo q1 (starEach [] X.env)).any (·.1) = false := by rfl) :
    DV CA X (.Call (.Name "len" p1) [.Call (.Name "set" p2) [a] [] q2] [] q1) (dLenSet da) := by
  refine ⟨pe_w (pe_callB call_lenTx hg1 hm1 (by decide +kernel) (pa_cons (pe_callTy (cr_setTx hc) hg2 hm2 (by decide +kernel) (pa_cons ha.pe pa_nil s1) (by decide) (by decide) s1 n1) pa_nil s2) (by decide) (by decide) s2 n2) fun σ H Q ⟨β, s, F, P, R, h, q⟩ => ?_⟩
  refine ⟨β, s, F, _, R, h, fun d s1 h1 x H1 F1 R1 E1 r1 => ?_⟩
  cases d with
  | node t es => cases t with
    | lst =>
      obtain ⟨ad, ws, rfl, ⟨ob, e1, e2⟩, e3⟩ := r1.node_eq
      cases (show ob = .lst ws from e2)
      obtain ⟨ts, z1, z2, z3⟩ := h1
      rw [toStrs_eq z1] at e3
      refine ⟨ad, ts, rfl, by rw [← e3.strs_eq]; exact .inl (R1.sub.rd e1), z2, fun ks pp hk hn hl hp => ⟨pp, ks, rfl, upd_same, q _ s1 (z3 ks hk hn) _ _ F1 (R1.new hp) (E1.trans (.new hp)) rep_int⟩⟩
    | _ => exact h1.elim
  | _ => exact h1.elim
/-! ### sorted({x for a in as for x in a}) -/
/-- the texts of a list of lists of texts -/
@[simp] def toRows : List D → Option (List (List Str))
  | [] => some []
  | .node .lst es :: ds => (toStrs es).bind fun ts => (toRows ds).map (ts :: ·)
  | _ => none
theorem rd_upd {H : Hp} {D a : Addr} {o u : HO} (h : H D = none) (r : Rd H a u) : Rd (upd H D o) a u := by
  rcases r with r | ⟨ob, r⟩
  · exact .inl (by rw [upd_ne (ne_of_none r h)]; exact r)
  · exact .inr ⟨ob, by rw [upd_ne (ne_of_none r h)]; exact r⟩
theorem sc2_rows {P : Program} {w : World} {K : PySem.W.Frag} {ia ix : Nat} {vs : List Nat} (hne : ia ≠ ix) (hia : ia ∈ vs) (hix : ix ∈ vs) {σ : L2.St} {H1 : Hp} {Q : VK} (hla : ia < σ.length) (hlx : ix < σ.length)
    {p : Addr} {rows : List (Addr × List Str)} (hp : Rd H1 p (.lst (rows.map fun r => V.ref r.1))) (hr : ∀ r ∈ rows, Rd H1 r.1 (.lst (r.2.map V.str))) (few : (rows.map (·.2)).flatten.length ≤ 900)
    (h : ∀ ks D, (∀ x, x ∈ ks ↔ x ∈ (rows.map (·.2)).flatten) → H1 D = none → Q (.ref D) (upd H1 D (SetTxO P w D ks))) :
    ∀ te : TE, (∀ σ H Qt, te σ H Qt = Qt (.ref p) H) → Sx.tSc2 P w (iList K te) (gName ia) (iList K (tVar ia)) (gName ix) (tVar ix) vs [ix] σ H1 Q := fun te hte => by
  unfold Sx.tSc2 iList
  rw [hte]
  refine ⟨p, rfl, ⟨_, .inl hp⟩, fun D hD => ⟨fun i m H => m = rows.length - i ∧ i ≤ rows.length ∧ ∃ ks : List Str, H = upd H1 D (SetTxO P w D ks) ∧ ks.length ≤ ((rows.take i).map (·.2)).flatten.length ∧ ∀ x, x ∈ ks ↔ x ∈ ((rows.take i).map (·.2)).flatten, ⟨_, rfl, Nat.zero_le _, [], rfl, by simp, fun x => by simp⟩, ?_⟩⟩
  rintro i m H ⟨rfl, hi, ks, rfl, hl, hm⟩
  by_cases lt : i < rows.length
  · right
    have ei : rows[i]? = some rows[i] := List.getElem?_eq_getElem lt
    have hin : rows[i] ∈ rows := List.getElem_mem lt
    have etk : (rows.take (i + 1)).map (·.2) = (rows.take i).map (·.2) ++ [rows[i].2] := by rw [List.take_add_one, ei, List.map_append]; rfl
    generalize rows[i] = row at ei hin etk
    refine ⟨⟨_, .ref row.1, .inl (rd_upd hD hp), by rw [List.getElem?_map, ei]; rfl⟩, fun H => ∃ ks : List Str, H = upd H1 D (SetTxO P w D ks) ∧ ks.length ≤ ((rows.take (i + 1)).map (·.2)).flatten.length ∧ ∀ x, x ∈ ks ↔ x ∈ ((rows.take (i + 1)).map (·.2)).flatten, fun H' z => ⟨_, by omega, rfl, lt, z⟩, fun x H' y => ?_⟩
    obtain ⟨rfl, y⟩ := y
    have ex := y _ (.inl (rd_upd hD hp))
    rw [List.getElem?_map, ei] at ex
    cases ex
    refine ⟨off_wipe (wipe_off.trans Off.set |>.mono fun j hj => by rcases List.mem_append.mp hj with z | z; exact z; rw [List.mem_singleton.mp z]; exact hia), .ref row.1, List.getElem?_set_self (by rw [wipe_length]; exact hla), row.1, rfl, ⟨_, .inl (rd_upd hD (hr row hin))⟩, ?_⟩
    -- the row
    have bound : ((rows.take i).map (·.2)).flatten.length + row.2.length ≤ 900 := by
      have z : ((rows.take (i + 1)).map (·.2)).flatten.length ≤ (rows.map (·.2)).flatten.length := by
        rw [← List.take_append_drop (i + 1) rows, List.map_append, List.flatten_append, List.length_append]
        rw [List.take_append_drop]
        omega
      rw [etk, List.flatten_append, List.length_append] at z
      simp at z
      simp at few ⊢
      omega
    refine ⟨fun j k H => k = row.2.length - j ∧ j ≤ row.2.length ∧ ∃ ks : List Str, H = upd H1 D (SetTxO P w D ks) ∧ ks.length ≤ ((rows.take i).map (·.2)).flatten.length + j ∧ ∀ x, x ∈ ks ↔ x ∈ ((rows.take i).map (·.2)).flatten ∨ x ∈ row.2.take j, ⟨_, rfl, Nat.zero_le _, ks, rfl, hl, fun x => by rw [hm x]; simp⟩, ?_⟩
    rintro j k H ⟨rfl, hj, ks, rfl, hl, hm⟩
    by_cases lt2 : j < row.2.length
    · right
      have ej : row.2[j]? = some row.2[j] := List.getElem?_eq_getElem lt2
      generalize row.2[j] = z at ej
      refine ⟨⟨_, .str z, .inl (rd_upd hD (hr row hin)), by rw [List.getElem?_map, ej]; rfl⟩, fun H => ∃ ks : List Str, H = upd H1 D (SetTxO P w D ks) ∧ ks.length ≤ ((rows.take i).map (·.2)).flatten.length + (j + 1) ∧ ∀ x, x ∈ ks ↔ x ∈ ((rows.take i).map (·.2)).flatten ∨ x ∈ row.2.take (j + 1), fun H' z => ⟨_, by omega, rfl, lt2, z⟩, fun x H' y => ?_⟩
      obtain ⟨rfl, y⟩ := y
      have ex := y _ (.inl (rd_upd hD (hr row hin)))
      rw [List.getElem?_map, ej] at ex
      cases ex
      refine ⟨off_wipe (wipe_off.trans Off.set |>.mono fun j hj => by rcases List.mem_append.mp hj with z | z; exact z; exact z), .str z, List.getElem?_set_self (by rw [wipe_length, List.length_set, wipe_length]; exact hlx), z, ks, rfl, upd_same, by omega, ?_⟩
      refine ⟨_, upd_upd, ?_, fun x => ?_⟩
      · split
        · omega
        · rw [List.length_cons]; omega
      · rw [List.take_add_one, ej, List.mem_append, ← or_assoc, ← hm x]
        have e1 : x ∈ (some z).toList ↔ x = z := by simp
        rw [e1]
        by_cases q : z ∈ ks
        · rw [if_pos q]
          exact ⟨.inl, fun y => y.elim id fun e => e ▸ q⟩
        · rw [if_neg q, List.mem_cons]
          exact or_comm
    · left
      obtain rfl : j = row.2.length := by omega
      refine ⟨⟨_, .inl (rd_upd hD (hr row hin)), by simp⟩, ks, rfl, ?_, fun x => ?_⟩
      · rw [etk, List.flatten_append, List.length_append]
        simpa using hl
      · rw [hm x, etk, List.flatten_append, List.mem_append, List.take_length]
        simp
  · left
    obtain rfl : i = rows.length := by omega
    refine ⟨⟨_, .inl (rd_upd hD hp), by simp⟩, h ks D (fun x => ?_) hD⟩
    rw [hm x, List.take_length]
theorem toRows_ok : ∀ {ds : List D} {rs : List (List Str)} {vs : List V}, toRows ds = some rs → Reps CA F ds vs → ∃ rows : List (Addr × List Str), vs = rows.map (fun r => V.ref r.1) ∧ rows.map (·.2) = rs ∧ ∀ r ∈ rows, F r.1 = some (.lst (r.2.map V.str))
  | [], rs, vs, h, r => by
    cases h
    unfold Reps at r
    subst r
    exact ⟨[], rfl, rfl, fun r hr => by cases hr⟩
  | d :: ds, rs, vs, h, r => by
    unfold toRows at h
    split at h
    · next e => cases e
    · next es ds' e =>
      cases e
      rw [Option.bind_eq_some_iff] at h
      obtain ⟨ts, h1, h2⟩ := h
      rw [Option.map_eq_some_iff] at h2
      obtain ⟨rs', h3, rfl⟩ := h2
      unfold Reps at r
      obtain ⟨v, vr, rfl, r1, r2⟩ := r
      obtain ⟨rows, g1, g2, g3⟩ := toRows_ok h3 r2
      obtain ⟨ad, ws, rfl, ⟨ob, e1, e2⟩, e3⟩ := r1.node_eq
      cases (show ob = .lst ws from e2)
      rw [toStrs_eq h1] at e3
      rw [e3.strs_eq] at e1
      refine ⟨(ad, ts) :: rows, by rw [g1]; rfl, by rw [List.map_cons, g2], fun r hr => ?_⟩
      rcases List.mem_cons.mp hr with e | hr
      · subst e; exact e1
      · exact g3 r hr
    · cases h
@[simp] def dSortSc (ia ix : Nat) (da : VDen) : FDen := fun s P => ia < s.length ∧ ix < s.length ∧ da s fun d s1 => match d with
  | .node .lst es => ∃ rs, toRows es = some rs ∧ rs.flatten.length ≤ 900 ∧ ∀ ys : List Str, (∀ x, x ∈ ys ↔ x ∈ rs.flatten) → ys.Pairwise (fun x y => Sx.ltT x y = true) → P .lst (ys.map D.str) s1
  | _ => False
theorem df_sortSc {p1 q1 px pa px2 pa2 pos : Pos} {x r : Str} {it : Expr} {scope : Scope} {own : List (Str × Nat)} {ia ix : Nat} (hm1 : X.mg "sorted" = none) (hc : X.calm = true) (hN : X.N.Nodup) (ha : DV CA X it da) (ok : BlkOk X.N X.env.scope scope own) (hv : own.map (·.2) = [ia, ix]) (hne : ia ≠ ix)
    (hgr : ∀ (s : Shared) (H : Hp) (C : Addr) (cl : List (Str × Addr)) (fp : List Addr), PG (X.blk s H scope (compEnvC scope cl C X.env) fp) (.Name r pa) (gName ia))
    (hgx : ∀ (s : Shared) (H : Hp) (C : Addr) (cl : List (Str × Addr)) (fp : List Addr), PG (X.blk s H scope (compEnvC scope cl C X.env) fp) (.Name x px2) (gName ix))
    (hvr : ∀ (s : Shared) (H : Hp) (C : Addr) (cl : List (Str × Addr)) (fp : List Addr), PE (X.blk s H scope (compEnvC scope cl C X.env) fp) (.Name r pa2) (tVar ia))
    (hvx : ∀ (s : Shared) (H : Hp) (C : Addr) (cl : List (Str × Addr)) (fp : List Addr), PE (X.blk s H scope (compEnvC scope cl C X.env) fp) (.Name x px) (tVar ix))
    (hg1 : Gl X "sorted" := by rfl) (hs : ∀ x, foldedSetIterable it X.env x = pure x := by intro _; rfl)
    (s2 : starEach [Sx.cSet (.Name x px) (.Name r pa) it (.Name x px2) (.Name r pa2) scope pos] X.env = (false, eval (Sx.cSet (.Name x px) (.Name r pa) it (.Name x px2) (.Name r pa2) scope pos) X.env) :: starEach [] X.env := by rfl) (n2 : (backTo q1 (starEach [] X.env)).any (·.1) = false := by rfl) :
    DF CA X (.Call (.Name "sorted" p1) [Sx.cSet (.Name x px) (.Name r pa) it (.Name x px2) (.Name r pa2) scope pos] [] q1) (dSortSc ia ix da) := by
  refine ⟨pe_w (pe_callB (cr_sortTx hc) hg1 hm1 (by decide +kernel) (pa_cons (Sx.pe_sc2 (vs1 := [ix]) (wi1 := iList X.K (tVar ia)) hc hN (pi_list ha.pe) ok (fun i hi => by rw [hv, List.mem_singleton.mp hi]; simp) hgr (fun s H C cl fp => pi_list (hvr s H C cl fp)) hgx hvx hs) pa_nil s2) (by decide) (by decide) s2 n2) fun σ H Q ⟨β, s, F, P, R, ⟨la, lx, h⟩, q⟩ => ?_⟩
  rw [hv]
  refine ⟨β, s, F, _, R, h, fun d s1 h1 x H1 F1 R1 E1 r1 => ?_⟩
  cases d with
  | node t es => cases t with
    | lst =>
      obtain ⟨ad, ws, rfl, ⟨ob, e1, e2⟩, e3⟩ := r1.node_eq
      cases (show ob = .lst ws from e2)
      obtain ⟨rs, z1, z2, z3⟩ := h1
      obtain ⟨rows, g1, g2, g3⟩ := toRows_ok z1 e3
      subst g1
      refine sc2_rows (Q := fun v H => rSortTx X.prog X.w [v] H Q) (P := X.prog) (w := X.w) (K := X.K) (vs := [ia, ix]) (σ := σ) (H1 := H1) (rows := rows) hne (by simp) (by simp) (by rw [R.len]; exact la) (by rw [R.len]; exact lx) (R1.sub.rd e1) (fun r hr => R1.sub.rd (g3 r hr)) (by rw [g2]; exact z2) (fun ks D hk hD => ⟨D, ks, rfl, upd_same, fun ys l pm pw hl' => ?_⟩) (fun _ H Qt => Qt (.ref ad) H) (fun _ _ _ => rfl)
      have hl0 : H1 l = none := by
        by_cases z : l = D
        · subst z; exact hD
        · rw [upd_ne z] at hl'; exact hl'
      exact q _ _ s1 (z3 ys (fun x => by rw [pm.mem_iff, hk x, g2]) pw) l _ _ F1 ((R1.new hD).new hl') ((E1.trans (.new hD)).trans (.new hl')) ⟨_, upd_same, rfl⟩ (reps_strs ys) (R1.sub.free hl0) (E1.dm hl0) (R1.noown hl0) True.intro
    | _ => exact h1.elim
  | _ => exact h1.elim
/-! ### ''.join(xs) -/
@[simp] def dJoin (da : VDen) : VDen := fun s P => da s fun d s1 => match d with
  | .node .lst es => ∃ ts, toStrs es = some ts ∧ (ts.map (·.length)).sum ≤ 100000 ∧ P (.str (Txt.join "" ts)) s1
  | _ => False
theorem dv_join {cp p2 : Pos} {k : Nat} (ha : DV CA X a da) (hs : starEach [a] X.env = [(false, eval a X.env)] := by rfl) (hbase : attributeBase (.Constant (.str "") k cp) "join" X.env (eval (.Constant (.str "") k cp) X.env) = eval (.Constant (.str "") k cp) X.env := by rfl) (hline : (apos.endLine == p2.line) = true := by rfl) :
    DV CA X (.Call (.Attribute (.Constant (.str "") k cp) "join" apos) [a] [] p2) (dJoin da) := by
  refine ⟨pe_w (pe_join (pe_str (x := "")) ha.pe hs hbase hline) fun σ H Q ⟨β, s, F, P, R, h, q⟩ => ?_⟩
  refine ⟨⟨"", rfl⟩, β, s, F, _, R, h, fun d s1 h1 x H1 F1 R1 E1 r1 => ?_⟩
  cases d with
  | node t es => cases t with
    | lst =>
      obtain ⟨ad, ws, rfl, ⟨ob, e1, e2⟩, e3⟩ := r1.node_eq
      cases (show ob = .lst ws from e2)
      obtain ⟨ts, z1, z2, z3⟩ := h1
      rw [toStrs_eq z1] at e3
      refine ⟨"", ad, ts, rfl, rfl, .inl (by rw [← e3.strs_eq]; exact .inl (R1.sub.rd e1)), ?_, q _ s1 z3 _ H1 F1 R1 E1 rep_str⟩
      rw [show ("" : Str).length = 0 from rfl]
      omega
    | _ => exact h1.elim
  | _ => exact h1.elim
end
end Dl
end

section
set_option Elab.async false
set_option linter.all false
set_option maxRecDepth 100000
set_option maxHeartbeats 4000000
/-! sum(lists, []), by the model. -/
namespace Sx
open PySem PyProof.Rows L2
section
variable {P : Program} {w : World} {A : Around} {E : Value → Shared → Prop} {s : Shared}
abbrev lstO (xs : Array Value) (n : Nat) : Obj := { cls := .type "list", dict := none, data := .seq xs n, slots := #[] }
/-- the rows ahead of the i-th, in one -/
def catR (rows : List (List Value)) (i : Nat) : List Value := (rows.take i).flatten
theorem sumL_loop {R : Result → Shared → Prop} {I : Addr} {fp wr : List Addr} {G : Array GenState → Array GenState → Prop} {Pv : Nat → Value → Prop} {St : Nat → Shared → Prop} {rows : List (List Value)}
    (W : WalksS P w A.in1 I fp wr G rows.length Pv St) (S : Addr) (hS : S ∉ fp) (small : ∀ i s, St i s → ∀ b ∈ wr, b < s.heap.objs.size) (fit : rows.flatten.length ≤ sizeLine) (H0 : Heap) (h0w : ∀ b o, H0.get? b = some o → b ∉ wr ∧ b ≠ S)
    (hv : ∀ (i : Nat) v, Pv i v → ∃ (b : Addr) (r : List Value) (n : Nat), v = Value.ref b ∧ rows[i]? = some r ∧ H0.get? b = some (lstO r.toArray n)) :
    ∀ (k i : Nat) (s : Shared) (tl : Addr) (c n : Nat), rows.length - i = k → i ≤ rows.length → St i s → (∀ b o, H0.get? b = some o → s.heap.get? b = some o) → s.heap.get? S = some (lstO #[.ref tl] c) → s.heap.get? tl = some (lstO (catR rows i).toArray n) → tl ∉ wr → tl ≠ S → (i = 0 ∨ S < tl) →
      (∀ s' tl n, Moved (S :: wr) G s s' → (rows.length = 0 ∨ S < tl) → s'.heap.get? tl = some (lstO rows.flatten.toArray n) → R (.ok (.ret (.ref tl))) s') →
      codeAny (model P w) A (.builtin "sum.loop" ⟨[.ref I, .ref S, rawInt 2, rawInt 0], []⟩) R s := by
  have hSw : S ∉ wr := fun z => hS (W.sub _ z)
  have wide : ∀ b ∈ wr, b ∈ S :: wr := fun b hb => List.mem_cons_of_mem _ hb
  intro k
  induction k with
  | zero =>
    intro i s tl c n hk hi st keep hs ht nw ns or0 fin
    obtain rfl : i = rows.length := by omega
    refine codeAny_builtin F.entry_sum_loop ?_
    rw [Around.under_plainId F.plain_sum_loop _]
    show wpAny _ A.in1 (seqItems? (.ref S) >>= _) _ _ s
    refine wpAny_bind (wpAny_seqItems hs rfl ?_)
    show wpAny _ A.in1 (tryCatch (pyNext (.ref I)) _ >>= _) _ _ s
    refine wpAny_bind (wpAny_tryCatch (W.done s _ _ st fun s' mv => ?_))
    refine wpAny_pure (fin s' tl n (mv.mono wide) or0 ?_)
    have z := mv.heap tl _ nw ht
    unfold catR at z
    rw [List.take_length] at z
    exact z
  | succ k ih =>
    intro i s tl c n hk hi st keep hs ht nw ns or0 fin
    have lt : i < rows.length := by omega
    refine codeAny_builtin F.entry_sum_loop ?_
    rw [Around.under_plainId F.plain_sum_loop _]
    show wpAny _ A.in1 (seqItems? (.ref S) >>= _) _ _ s
    refine wpAny_bind (wpAny_seqItems hs rfl ?_)
    show wpAny _ A.in1 (tryCatch (pyNext (.ref I)) _ >>= _) _ _ s
    refine wpAny_bind (wpAny_tryCatch (W.item i s _ _ lt st fun v s' pv st' mv => ?_))
    obtain ⟨b, r, m, rfl, hr, hb⟩ := hv i v pv
    have keep' : ∀ b o, H0.get? b = some o → s'.heap.get? b = some o := fun b o e => mv.heap b o (h0w b o e).1 (keep b o e)
    have hs' := mv.heap S _ hSw hs
    have ht' := mv.heap tl _ nw ht
    have hb' := keep' b _ hb
    have cat : catR rows (i + 1) = catR rows i ++ r := by
      unfold catR
      rw [List.take_add_one, hr, List.flatten_append]
      simp
    have le : (catR rows (i + 1)).length ≤ sizeLine := by
      refine Nat.le_trans ?_ fit
      unfold catR
      have e := congrArg List.flatten (List.take_append_drop (i + 1) rows)
      rw [List.flatten_append] at e
      have e2 := congrArg List.length e
      rw [List.length_append] at e2
      omega
    rw [cat, List.length_append] at le
    show wpAny _ A.in1 ((holding [Value.ref b] (binaryOp .Add (.ref tl) (.ref b))).attempt >>= _) _ _ s'
    refine wpAny_bind (wpAny_attempt (wpAny_holding (PySem.P.add_list ht' hb' ?_ (by simpa using le))))
    have T0 : s'.heap.objs.size ∉ S :: wr := fun z => by
      rcases List.mem_cons.mp z with z | z
      · have := Heap.lt_size hs'; rw [z] at this; exact Nat.lt_irrefl _ this
      · exact Nat.lt_irrefl _ (small _ _ st' _ z)
    have hlt : S < s'.heap.objs.size := Heap.lt_size hs'
    have grow : ∀ b o, s'.heap.get? b = some o → (s'.heap.push (lstO ((catR rows i).toArray ++ r.toArray) 0)).get? b = some o := fun b o e => Heap.get?_push_of_some _ e
    show wpAny _ A.in1 (updateSeq S (fun _ => #[.ref s'.heap.objs.size]) >>= _) _ _ _
    refine wpAny_bind (wpAny_updateSeq (grow _ _ hs') rfl ?_)
    have hs2 := Heap.get?_update_self (Obj.mapSeq fun _ => #[Value.ref s'.heap.objs.size]) (grow _ _ hs') rfl
    refine wpAny_bind (wpAny_letGo ?_)
    refine wpAny_bind (wpAny_updateSeq hs2 rfl ?_)
    have hs3 := Heap.get?_update_self (Obj.mapSeq fun _ => #[Value.ref s'.heap.objs.size]) hs2 rfl
    have oth : ∀ b o, b ≠ S → s'.heap.get? b = some o → (((s'.heap.push (lstO ((catR rows i).toArray ++ r.toArray) 0)).update S (Obj.mapSeq fun _ => #[Value.ref s'.heap.objs.size])).update S (Obj.mapSeq fun _ => #[Value.ref s'.heap.objs.size])).get? b = some o := fun b o ne e =>
      (Heap.get?_update_other _ _ (Ne.symm ne)).trans ((Heap.get?_update_other _ _ (Ne.symm ne)).trans (grow b o e))
    refine wpAny_pure ⟨plainId_quiet F.plain_sum_loop _, ih (i + 1) _ s'.heap.objs.size _ 0 (by omega) lt (W.frame _ s' _ _ st' (Nat.le_refl _) fun b hb o e => oth b o (fun z => hS (z ▸ hb)) e) (fun b o e => oth b o (h0w b o e).2 (keep' b o e)) hs3 ?_ (fun z => T0 (List.mem_cons_of_mem _ z)) (Nat.ne_of_gt hlt) (.inr hlt) fun s2 tl2 n2 mv2 o2 e2 => fin s2 tl2 n2 (Moved.trans W.gtrans ((mv.mono wide).then_heap (Nat.le_refl _) fun b o hb e => oth b o (fun z => hb (z ▸ List.mem_cons_self)) e) mv2) o2 e2⟩
    have ne : s'.heap.objs.size ≠ S := Nat.ne_of_gt hlt
    refine (Heap.get?_update_other _ _ (Ne.symm ne)).trans ((Heap.get?_update_other _ _ (Ne.symm ne)).trans ?_)
    rw [cat, ← List.append_toArray]
    exact Heap.get?_push_size _ rfl
theorem args_sum2 (a b : Value) : argsOk "sum" ⟨[a, b], []⟩ := by unfold argsOk; kernel_rfl
theorem call_sumL {l st : Addr} {items : Array Value} {n0 : Nat} {rows : List (List Value)} {Q : Value → Shared → Prop} (hh : A.handled = none) (hl : s.heap.IsList l items) (hst : s.heap.get? st = some (lstO #[] n0)) (len : items.size = rows.length) (ne : rows ≠ []) (fit : rows.flatten.length ≤ sizeLine)
    (hv : ∀ (i : Nat) v, items[i]? = some v → ∃ (b : Addr) (r : List Value) (n : Nat), v = Value.ref b ∧ rows[i]? = some r ∧ s.heap.get? b = some (lstO r.toArray n))
    (hQ : ∀ h' tk tl n, (∀ b o, s.heap.get? b = some o → h'.get? b = some o) → s.heap.objs.size ≤ tl → h'.get? tl = some (lstO rows.flatten.toArray n) → Q (.ref tl) { s with heap := h', toks := tk }) :
    wpAny (model P w) A (call (.builtin "sum") [.ref l, .ref st]) Q E s := by
  refine call_function_tree F.kind_sum F.plain_sum F.entry_sum (args_sum2 _ _) ?_
  unfold Builtin.«sum»
  simp only [List.length_cons, List.length_nil]
  rw [if_neg (by decide)]
  refine wpAny_bind (wpAny_of_eq (show Builtin.Builtins.bindParams "sum" ["start"] 0 ⟨[.ref st], []⟩ = pure [some (.ref st)] from rfl) ?_)
  have hlt : l < s.heap.objs.size := by obtain ⟨o, e, _⟩ := hl; exact Heap.lt_size e
  refine wpAny_bind (PySem.W.iter_listW (A := A.in1) hh hl fun s2 e W st0 hfp hw hk => ?_)
  subst e
  have st2 : ({ s with heap := s.heap.push { cls := .type "list_iterator", data := .fields #[.ref l, .int 0 0] } } : Shared).heap.get? st = some (lstO #[] n0) := hk _ _ hst
  have ty : Shared.TypeIs { s with heap := s.heap.push { cls := .type "list_iterator", data := .fields #[.ref l, .int 0 0] } } (.ref st) "list" := ⟨_, st2, rfl⟩
  refine wpAny_bind (wpAny_pure ?_)
  simp only [List.forIn_cons, List.forIn_nil]
  refine wpAny_bind (wpAny_bind (wpAny_bind (wpAny_isInstance (T := "list") (b := false) ty (by rw [isSubtype_type]; kernel_rfl) ?_)))
  simp only [Bool.false_eq_true, if_false]
  refine wpAny_pure (wpAny_bind (wpAny_bind (wpAny_isInstance (T := "list") (b := false) ty (by rw [isSubtype_type]; kernel_rfl) ?_)))
  simp only [Bool.false_eq_true, if_false]
  refine wpAny_pure (wpAny_bind (wpAny_bind (wpAny_isInstance (T := "list") (b := false) ty (by rw [isSubtype_type]; kernel_rfl) ?_)))
  simp only [Bool.false_eq_true, if_false]
  refine wpAny_pure (wpAny_pure ?_)
  refine wpAny_bind (wpAny_newObj_type ?_)
  have sz2 : (s.heap.push { cls := .type "list_iterator", data := .fields #[.ref l, .int 0 0] }).objs.size = s.heap.objs.size + 1 := Heap.size_push _ _
  generalize eS : (s.heap.push { cls := .type "list_iterator", data := .fields #[.ref l, .int 0 0] } : Heap).objs.size = S at sz2
  have old : ∀ b o, s.heap.get? b = some o → b ∉ [s.heap.objs.size] ∧ b ≠ S := fun b o e => ⟨hw b o e, by rw [sz2]; exact Nat.ne_of_lt (Nat.lt_succ_of_lt (Heap.lt_size e))⟩
  have hst' : st < s.heap.objs.size := Heap.lt_size hst
  refine wpAny_pure ⟨plainId_quiet F.plain_sum_loop _, sumL_loop (rows := rows) (by rw [← len]; exact W) _ ?_ (fun i s' st b hb => ?_) fit s.heap (fun b o e => ?_) hv rows.length 0 _ st 0 n0 rfl (Nat.zero_le _) ?_ ?_ ?_ ?_ (fun z => Nat.lt_irrefl _ (List.mem_singleton.mp z ▸ hst')) ?_ (.inl rfl) fun s' tl n mv o1 e1 => ?_⟩
  · show _ ∉ [s.heap.objs.size, l]
    rw [sz2]
    simp only [List.mem_cons, List.not_mem_nil, or_false, not_or]
    exact ⟨Nat.ne_of_gt (Nat.lt_succ_self _), Nat.ne_of_gt (Nat.lt_succ_of_lt hlt)⟩
  · rw [List.mem_singleton.mp hb]
    obtain ⟨⟨o, e, _⟩, _⟩ := st
    exact Heap.lt_size e
  · exact ⟨(old b o e).1, (old b o e).2⟩
  · exact W.frame 0 _ _ _ st0 (Nat.le_refl _) fun b _ o e => Heap.get?_push_of_some _ e
  · exact fun b o e => Heap.get?_push_of_some _ (hk b o e)
  · rw [← eS]; exact Heap.get?_push_size _ rfl
  · exact Heap.get?_push_of_some _ st2
  · show st ≠ _
    rw [sz2]
    exact Nat.ne_of_lt (Nat.lt_succ_of_lt hst')
  · rcases o1 with o1 | o1
    · exact absurd (List.eq_nil_of_length_eq_zero o1) ne
    · have e2 : s' = { s with heap := s'.heap, toks := s'.toks } := by
        obtain ⟨h', g, d, tk, os⟩ := s'
        have y1 : g = s.gens := mv.gens
        have y2 : d = s.drawn := mv.drawn
        have y3 : os = s.os := mv.os
        subst y1 y2 y3
        rfl
      rw [e2]
      refine hQ s'.heap s'.toks tl n (fun b o e => mv.heap b o (fun z => ?_) (Heap.get?_push_of_some _ (hk b o e))) ?_ e1
      · rcases List.mem_cons.mp z with z | z
        · exact (old b o e).2 z
        · exact (old b o e).1 z
      · have o2 : S < tl := o1
        rw [sz2] at o2
        exact Nat.le_of_lt (Nat.lt_of_succ_lt o2)
end
end Sx
end

section
set_option Elab.async false
set_option linter.all false
set_option maxRecDepth 100000
set_option maxHeartbeats 4000000
/-! The data layer, part 13: sum of lists, min, list of a text, pairs in lists, a dict's display. -/
namespace L2
open PySem PySem.Spec PyProof.Rows
section
variable {X : Cx}
def rSumL : List V → Hp → VK → Prop := fun vs H Q => ∃ (l st : Addr) (rows : List (Addr × List V)), vs = [V.ref l, V.ref st] ∧ H l = some (.lst (rows.map fun r => V.ref r.1)) ∧ H st = some (.lst []) ∧ (∀ r ∈ rows, H r.1 = some (.lst r.2)) ∧ rows ≠ [] ∧ (rows.map (·.2)).flatten.length ≤ 1000 ∧
  ∀ p, H p = none → Q (.ref p) (upd H p (.lst (rows.map (·.2)).flatten))
theorem rows_vals {pins : List (Addr × Obj)} {σ : St} {H : Hp} {s : Shared} (I : Inv X pins σ H s) : ∀ rows : List (Addr × List V), (∀ r ∈ rows, H r.1 = some (.lst r.2)) → ∃ us : List (List Value), us.length = rows.length ∧ Vals (rows.map (·.2)).flatten us.flatten ∧ ∀ (i : Nat) r, rows[i]? = some r → ∃ u n, us[i]? = some u ∧ s.heap.get? r.1 = some (Sx.lstO u.toArray n)
  | [], _ => ⟨[], rfl, .nil, fun i r e => by simp at e⟩
  | r :: rows, h => by
    obtain ⟨us, h1, h2, h3⟩ := rows_vals I rows fun x hx => h x (List.mem_cons_of_mem _ hx)
    obtain ⟨_, its, n, rv, e⟩ := I.hok _ _ (h r List.mem_cons_self)
    refine ⟨its :: us, by rw [List.length_cons, List.length_cons, h1], by rw [List.map_cons, List.flatten_cons, List.flatten_cons]; exact rv.append h2, fun i x hx => ?_⟩
    cases i with
    | zero => simp at hx; subst hx; exact ⟨its, n, rfl, e⟩
    | succ i => exact h3 i x (by simpa using hx)
theorem cr_sumL (hc : X.calm = true) : CallR X (.builtin "sum") rSumL := by
  intro pins s σ H vs us Q I r ⟨l, st, rows, e, hl, hst, hr, ne, few, q⟩
  subst e
  obtain ⟨u1, u2, rfl, r1, r2⟩ := vals2 r
  cases (show u1 = Value.ref l from r1)
  cases (show u2 = Value.ref st from r2)
  obtain ⟨us, g1, g2, g3⟩ := rows_vals I rows hr
  obtain ⟨its, rv, pl, _⟩ := I.list (.inl (.inl hl))
  obtain ⟨_, its0, n0, rv0, e0⟩ := I.hok _ _ hst
  cases rv0
  have lens := g2.length
  have il := rv.length
  rw [List.length_map] at il
  refine Sx.call_sumL (rows := us) (I.ok.hd hc) pl.isList e0 (by rw [List.size_toArray, ← il, g1]) (fun z => ne (List.eq_nil_of_length_eq_zero (by rw [← g1, z]; rfl))) (by rw [← lens, sizeLine_eq]; omega) (fun i v hv => ?_) fun h' tk tl n keep ht hn => ?_
  · have hv' : its[i]? = some v := by simpa using hv
    have hi : i < rows.length := by rw [il]; exact (List.getElem?_eq_some_iff.mp hv').1
    have hri : rows[i]? = some rows[i] := List.getElem?_eq_getElem hi
    obtain ⟨x, hx, rx⟩ := rv.get (i := i) (x := V.ref rows[i].1) (by rw [List.getElem?_map, hri]; rfl)
    rw [hv'] at hx
    cases hx
    obtain ⟨u, m, y1, y2⟩ := g3 i _ hri
    exact ⟨_, u, m, rx, y1, y2⟩
  · refine ⟨.ref tl, _, I.laid (o := .lst (rows.map (·.2)).flatten) (t' := tk) keep ht ⟨by rw [sizeLine_eq]; omega, us.flatten, n, g2, hn⟩, rfl, q tl (I.hok.fresh ht)⟩
def rListS : List V → Hp → VK → Prop := fun xs H Q => ∃ z : Str, xs = [V.str z] ∧ z.length ≤ 1000 ∧ ∀ p, H p = none → Q (.ref p) (upd H p (.lst (z.cps.toList.map fun c => V.str ⟨#[c]⟩)))
theorem vals_get {vs : List V} {us : List Value} (l : vs.length = us.length) (h : ∀ (i : Nat) v u, vs[i]? = some v → us[i]? = some u → RelV v u) : Vals vs us := by
  induction vs generalizing us with
  | nil => cases us with
    | nil => exact .nil
    | cons u us => cases l
  | cons v vs ih => cases us with
    | nil => cases l
    | cons u us => exact .cons (h 0 v u rfl rfl) (ih (Nat.succ.inj l) fun i x y e1 e2 => h (i + 1) x y e1 e2)
theorem cr_listS (hc : X.calm = true) : CallR X (.type "list") rListS := by
  intro pins s σ H xs us Q I r ⟨z, e, hz, q⟩
  subst e
  obtain ⟨u, rfl, ru⟩ := vals1 r
  obtain ⟨t, rfl⟩ := ru
  have z1 : z.cps.size ≤ 1000 := hz
  refine call_list_str (I.ok.hd hc) z t (fun h' tk acc c keep hS hacc => ?_) (by rw [sizeLine_eq]; omega)
  refine ⟨.ref s.heap.objs.size, _, I.laid (o := .lst (z.cps.toList.map fun c => V.str ⟨#[c]⟩)) (t' := tk) keep (Nat.le_refl _) ⟨by rw [List.length_map, Array.length_toList, sizeLine_eq]; omega, acc.toList, c, vals_get (by simp [hacc.1]) fun i v u e1 e2 => ?_, by simpa using hS⟩, rfl, q _ (I.hok.fresh (Nat.le_refl _))⟩
  obtain ⟨c', t', hc', rfl⟩ := hacc.2 i u (by simpa using e2)
  rw [List.getElem?_map, Array.getElem?_toList, hc'] at e1
  cases e1
  exact ⟨t', rfl⟩
def rMinW (K : PySem.W.Frag) : List V → Hp → VK → Prop := fun xs H Q => ∃ (l : Addr) (vs : List V) (w0 : Int × List Str) (ws : List (Int × List Str)), xs = [V.ref l] ∧ SqL K H l vs ∧ DpAll K H vs ((w0 :: ws).map PySem.W.Datum.toD) ∧
  ∀ (i : Nat) y, vs[i]? = some y → (w0 :: ws)[i]? = some (PySem.W.minOf w0 ws) → Q y H
theorem cr_minW (hc : X.calm = true) (hu : X.A.units + 65 < cLine) : CallR X (.builtin "min") (rMinW X.K) := by
  intro pins s σ H xs us Q I r ⟨l, vs, w0, ws, e, hs, hd, q⟩
  subst e
  obtain ⟨u, rfl, ru⟩ := vals1 r
  cases (show u = Value.ref l from ru)
  obtain ⟨its, rv, pl, _⟩ := I.list hs
  obtain ⟨as, ra⟩ := Dp.readsAll I _ _ its hd rv
  have HA : PySem.W.HoldAll s.heap its.toArray.toList (w0 :: ws) := ⟨as, by simpa using ra⟩
  refine PySem.W.min_list_datum (I.ok.hd hc) pl.isList HA (by show X.A.units + 1 + 2 < cLine; omega) fun i v h' tk hv hh keep => ?_
  have hv' : its[i]? = some v := by simpa using hv
  have il : i < vs.length := by rw [rv.length]; exact (List.getElem?_eq_some_iff.mp hv').1
  have hy : vs[i]? = some vs[i] := List.getElem?_eq_getElem il
  obtain ⟨u, hu2, ry⟩ := rv.get hy
  rw [hv'] at hu2
  cases hu2
  obtain ⟨x, hx, hxv⟩ := HA.at (i := i) (by simpa using hv')
  obtain ⟨a1, y1⟩ := hxv.keeps keep
  obtain ⟨a2, y2⟩ := hh
  have ed := PySem.W.alike_unique _ _ v a1 a2 (PySem.W.DatumOrd.alike _ _) y1 y2
  have ex : x = PySem.W.minOf w0 ws := by
    have z := PySem.W.Datum.eqv x (PySem.W.minOf w0 ws)
    rw [← ed, PySem.W.Datum.eqv x x] at z
    exact of_decide_eq_true (z.symm.trans (decide_eq_true rfl))
  exact ⟨vs[i], H, I.kept (t' := tk) keep, ry, q i _ hy (by rw [hx, ex])⟩
def rInPT (K : PySem.W.Frag) : R2 := fun x y H Q => ∃ (l : Addr) (vs : List V) (p : Str × Str) (ps : List (Str × Str)), y = .ref l ∧ SqL K H l vs ∧ DpAll K H vs (ps.map PySem.W.Datum.toD) ∧ Dp K H x (PySem.W.Datum.toD p) ∧ ∀ b : Bool, (b = true ↔ p ∈ ps) → Q (.bl b) H
theorem op_inP (hu : X.A.units + 65 < cLine) : OpR X (compareOp .In) (rInPT X.K) := by
  intro pins s σ H x y v u Q I rx ry ⟨l, vs, p, ps, e, hs, hd, hp, q⟩
  subst e
  cases (show u = Value.ref l from ry)
  obtain ⟨its, rv, pl, _⟩ := I.list hs
  obtain ⟨as, ra⟩ := Dp.readsAll I _ _ its hd rv
  obtain ⟨bs, rb⟩ := Dp.reads I _ x v hp rx
  have HA : PySem.W.HoldAll s.heap its.toArray.toList ps := ⟨as, by simpa using ra⟩
  exact PySem.W.in_list_datum pl.isList HA ⟨bs, rb⟩ (by show X.A.units + 1 + 1 < cLine; omega) ⟨.bl _, H, I, rfl, q _ (by simp)⟩
end
end L2
namespace Dl
open PySem PySem.Spec PyProof.Rows L2
section
variable {CA : Nat → Addr} {X : Cx} {a b c e o : Expr} {es : List Expr} {pos p apos : Pos} {da db dc : VDen} {dA : ADen} {ta tb : TDen} {dF : FDen} {F H : Hp}
@[simp] def fSumL : List D → (Tag → List D → Prop) → Prop := fun ds k => match ds with
  | [.node .lst es, .node .lst []] => ∃ rs : List (List D), es = rs.map D.lst ∧ rs ≠ [] ∧ rs.flatten.length ≤ 1000 ∧ k .lst rs.flatten
  | _ => False
theorem lists_ok : ∀ {rs : List (List D)} {vs : List V}, Reps CA F (rs.map D.lst) vs → ∃ rows : List (Addr × List V), vs = rows.map (fun r => V.ref r.1) ∧ (∀ r ∈ rows, F r.1 = some (.lst r.2)) ∧ Reps CA F rs.flatten (rows.map (·.2)).flatten ∧ rows.length = rs.length
  | [], vs, r => by
    rw [List.map_nil] at r
    unfold Reps at r
    subst r
    exact ⟨[], rfl, (fun r hr => by cases hr), reps_nil, rfl⟩
  | x :: rs, vs, r => by
    rw [List.map_cons] at r
    unfold Reps at r
    obtain ⟨v, vr, rfl, r1, r2⟩ := r
    obtain ⟨rows, g1, g2, g3, g4⟩ := lists_ok r2
    obtain ⟨ad, ws, rfl, ⟨ob, e1, e2⟩, e3⟩ := r1.node_eq
    cases (show ob = .lst ws from e2)
    refine ⟨(ad, ws) :: rows, by rw [g1]; rfl, fun r hr => ?_, by rw [List.map_cons, List.flatten_cons, List.flatten_cons]; exact e3.append g3, by rw [List.length_cons, List.length_cons, g4]⟩
    rcases List.mem_cons.mp hr with e | hr
    · subst e; exact e1
    · exact g2 r hr
theorem cf_sumL : CallF CA rSumL fSumL := fun {β s σ H F vs ds P Q} R r h q => by
  match ds, h with
  | [.node .lst es, .node .lst []], h =>
    obtain ⟨rs, rfl, ne, few, hk⟩ := h
    obtain ⟨v, u, rfl, r1, r2⟩ := r.two
    obtain ⟨ad, ws, rfl, ⟨ob, e1, e2⟩, e3⟩ := r1.node_eq
    cases (show ob = .lst ws from e2)
    obtain ⟨ad2, ws2, rfl, ⟨ob2, f1, f2⟩, f3⟩ := r2.node_eq
    cases (show ob2 = .lst ws2 from f2)
    unfold Reps at f3
    subst f3
    obtain ⟨rows, g1, g2, g3, g4⟩ := lists_ok e3
    subst g1
    have nd : ∀ b xs, F b = some (.lst xs) → H b = some (.lst xs) := fun b xs z => R.sub.nd z fun y => y
    refine ⟨ad, ad2, rows, rfl, nd _ _ e1, nd _ _ f1, fun r hr => nd _ _ (g2 r hr), fun z => ?_, by rw [← g3.length]; exact few, fun l hl => q _ _ hk l _ _ F (R.new hl) (.new hl) ⟨_, upd_same, rfl⟩ g3 (R.sub.free hl) hl (R.noown hl) True.intro⟩
    rw [z] at g4
    exact ne (List.eq_nil_of_length_eq_zero g4.symm)
@[simp] def fListS : List D → (Tag → List D → Prop) → Prop := fun ds k => match ds with
  | [.str z] => z.length ≤ 1000 ∧ k .lst (signs z)
  | _ => False
theorem signs_reps : ∀ l : List Nat, Reps CA F (l.map fun c => D.str ⟨#[c]⟩) (l.map fun c => V.str ⟨#[c]⟩)
  | [] => reps_nil
  | _ :: l => reps_cons rep_str (signs_reps l)
theorem cf_listS : CallF CA rListS fListS := fun {β s σ H F vs ds P Q} R r h q => by
  match ds, h with
  | [.str z], h =>
    obtain ⟨v, rfl, r1⟩ := r.one
    exact ⟨z, by rw [r1.str_eq], h.1, fun l hl => q _ _ h.2 l _ _ F (R.new hl) (.new hl) ⟨_, upd_same, rfl⟩ (signs_reps _) (R.sub.free hl) hl (R.noown hl) True.intro⟩
/-- a walk with its length -/
abbrev wD (w : Int × List Str) : D := .node .tup [.int w.1, .node .lst (w.2.map D.str)]
@[simp] def fMinW : List D → (D → Prop) → Prop := fun ds k => match ds with
  | [.node .lst es] => ∃ w0 ws, es = (w0 :: ws).map wD ∧ k (wD (PySem.W.minOf w0 ws))
  | _ => False
theorem strs_toPs : ∀ xs : List Str, toPs (xs.map D.str) = some (xs.map PyData.str)
  | [] => by simp only [toPs, List.map_nil]
  | x :: xs => by simp only [List.map_cons, toPs, toP, strs_toPs xs]
theorem wD_toP (w : Int × List Str) : toP (wD w) = some (PySem.W.Datum.toD w) := by
  simp only [wD, toP, toPs, strs_toPs, Option.map_some]
  rfl
theorem wDs_toPs : ∀ ws : List (Int × List Str), toPs (ws.map wD) = some (ws.map PySem.W.Datum.toD)
  | [] => by simp only [toPs, List.map_nil]
  | w :: ws => by simp only [List.map_cons, toPs, wD_toP w, wDs_toPs ws]
theorem cd_minW : CallD CA (rMinW X.K) fMinW := fun {β s σ H F vs ds P Q} R r h q => by
  match ds, h with
  | [.node .lst es], h =>
    obtain ⟨w0, ws, rfl, hk⟩ := h
    obtain ⟨v, rfl, r1⟩ := r.one
    obtain ⟨ad, us, rfl, ⟨ob, e1, e2⟩, e3⟩ := r1.node_eq
    cases (show ob = .lst us from e2)
    refine ⟨ad, us, w0, ws, rfl, .inl (R.sub.rd e1), toPs_ok R.sub (wDs_toPs (w0 :: ws)) e3, fun i y hy hi => ?_⟩
    obtain ⟨d, hd, rd⟩ := e3.of_get hy
    rw [List.getElem?_map, hi] at hd
    cases hd
    exact q _ hk y H F R .refl rd
/-- a pair in a list of pairs -/
@[simp] def toPair : D → Option (Str × Str)
  | .node .tup [.str a, .str b] => some (a, b)
  | _ => none
@[simp] def fInP : D → D → (D → Prop) → Prop := fun x y k => match y with
  | .node .lst ds => ∃ (p : Str × Str) (ps : List (Str × Str)), x = pairD p ∧ ds = ps.map pairD ∧ k (.bl (decide (p ∈ ps)))
  | _ => False
abbrev pyP (p : Str × Str) : PyData := .tuple [.str p.1, .str p.2]
theorem pair_toP (p : Str × Str) : toP (pairD p) = some (pyP p) := by simp only [pairD, toP, toPs, Option.map_some]
theorem pairs_toPs : ∀ ps : List (Str × Str), toPs (ps.map pairD) = some (ps.map pyP)
  | [] => by simp only [toPs, List.map_nil]
  | p :: ps => by simp only [List.map_cons, toPs, pair_toP p, pairs_toPs ps]
theorem od_inP : OpD CA (rInPT X.K) fInP := fun {β s σ H F x y d1 d2 P Q} R r1 r2 h q => by
  cases d2 with
  | node t ds => cases t with
    | lst =>
      obtain ⟨p, ps, rfl, rfl, hk⟩ := h
      obtain ⟨ad, us, rfl, ⟨ob, e1, e2⟩, e3⟩ := r2.node_eq
      cases (show ob = .lst us from e2)
      exact ⟨ad, us, p, ps, rfl, .inl (R.sub.rd e1), toPs_ok R.sub (pairs_toPs ps) e3, toP_ok R.sub (pair_toP p) r1, fun b hb => by rw [show b = decide (p ∈ ps) from Bool.eq_iff_iff.mpr (hb.trans decide_eq_true_iff.symm)]; exact q _ hk _ H F R .refl rep_bl⟩
    | _ => exact h.elim
  | _ => exact h.elim
end
end Dl
end

section
set_option Elab.async false
set_option linter.all false
set_option maxRecDepth 100000
set_option maxHeartbeats 4000000
/-! The data layer, part 14: a display of one tuple key; methods that hand back a list of their own or nothing; star calls. -/
namespace L2
open PySem PySem.Spec PyProof.Rows
def tDisp1 (tk tv : TE) : TE := fun σ H Q => ∀ p, H p = none → tk σ (upd H p (.dT [])) fun x H1 => tv σ H1 fun y H2 => H2 p = some (.dT []) ∧ ∃ b l, x = V.ref b ∧ H2 b = some (.tup (l.map kV)) ∧ Q (.ref p) (upd H2 p (.dT [(l, y)]))
theorem pe_disp1 {X : Cx} {k v : Expr} {tk tv : TE} {pos : Pos} (hu : X.A.units + 1 < cLine) (hk : PE X k tk) (hv : PE X v tv) : PE X (.Dict [some k] [v] pos) (tDisp1 tk tv) := by
  refine ⟨fun pins s σ H Q I q => ?_⟩
  have hn := I.hok.fresh (Nat.le_refl s.heap.objs.size)
  have I1 := I.laid (a := s.heap.objs.size) (o := .dT []) (h' := s.heap.push { cls := .type "dict", data := .dict #[] }) (t' := s.toks) (fun _ _ q => Heap.get?_push_of_some _ q) (Nat.le_refl _) (dt_empty s.heap I.big)
  rw [arm_eval_Dict, zip_pairTrees [some k] [v] X.env pos rfl rfl, dictDisplay_pairs _ (by intro z; cases z) (by show 1 < 17; omega)]
  refine wpAny_bind (wpAny_standAt (wpAny_bind (wpAny_subDictH (knd := tupleKind (mixKind X.prog X.w)) (show X.A.units < cLine by omega) (by show 1 ≤ 15; omega) ?_)))
  refine pairTrees_cons_walk (thn (hk.run pins _ σ _ _ I1 (q _ hn)) fun u s1 ⟨x, H1, I2, rx, q1⟩ => thn (hv.run pins s1 σ H1 _ I2 q1) fun w2 s2 ⟨y, H2, I3, ry, e, b, l, ex, eb, q2⟩ => pairTrees_nil_walk ?_)
  subst ex
  cases (show u = Value.ref b from rx)
  obtain ⟨z, hd, xs, rel, dd⟩ := dt_of I3.hok e
  cases rel
  refine ⟨[(l, b, w2)], ⟨rfl, rfl, key_of I3.hok eb, True.intro⟩, dd, fun h' tk dd' sb => wpAny_pure ?_⟩
  obtain ⟨o, es, ep, ho, g2, g3, g4, g5, g6⟩ := dd'
  have new : ObjOk X.prog X.w (upd H2 s.heap.objs.size (.dT [(l, y)])) h' s.heap.objs.size (.dT [(l, y)]) := by
    refine ⟨by show 1 ≤ sizeLine; decide, hd, _, .cons ⟨rfl, ?_, ry⟩ .nil, o, es, ep, ho, g2, g3, g4, g6⟩
    rw [upd_ne (ne_of eb e (fun z => nomatch z))]
    exact eb
  exact ⟨.ref s.heap.objs.size, _, d_write I3 (by rw [e]; exact True.intro) sb ⟨o, ho⟩ new, rfl, q2⟩
end L2
namespace Dl
open PySem PySem.Spec PyProof.Rows L2
section
variable {CA : Nat → Addr} {X : Cx} {a b c e o : Expr} {es : List Expr} {pos p apos : Pos} {da db dc : VDen} {dA : ADen} {ta tb : TDen} {dF : FDen} {n k : Nat}
@[simp] def dDispT (da db : VDen) : FDen := fun s P => da s fun d1 s1 => db s1 fun d2 s2 => match d1 with
  | .node .tup es => match keysOf es with
    | some l => P (.dt [l]) [d2] s2
    | none => False
  | _ => False
theorem df_dispT (hu : X.A.units + 1 < cLine) (ha : DV CA X a da) (hb : DV CA X b db) : DF CA X (.Dict [some a] [b] pos) (dDispT da db) := ⟨pe_w (pe_disp1 hu ha.pe hb.pe) fun σ H Q ⟨β, s, F, P, R, h, q⟩ => fun l hl => by
  refine ⟨β, s, F, _, R.new hl, h, fun d1 s1 h1 x H1 F1 R1 E1 r1 => ⟨β, s1, F1, _, R1, h1, fun d2 s2 h2 y H2 F2 R2 E2 r2 => ?_⟩⟩
  have E12 := E1.trans E2
  have noL : ¬ Owned β s σ l := R.noown hl
  obtain ⟨g1, g2, g3⟩ := E12.stays R2.sub upd_same noL (R.sub.free hl) (fun xs z => by cases z)
  refine ⟨g1, ?_⟩
  cases d1 with
  | node t es => cases t with
    | tup =>
      have h3 : (match keysOf es with
        | some l => P (.dt [l]) [d2] s2
        | none => False) := h2
      cases ek : keysOf es with
      | none => rw [ek] at h3; exact h3.elim
      | some kk =>
        rw [ek] at h3
        obtain ⟨ad, ws, rfl, ⟨ob, f1, f2⟩, f3⟩ := (r1.mono E2.fz).node_eq
        cases (show ob = .tup ws from f2)
        rw [keysOf_ok ek f3] at f1
        refine ⟨ad, kk, rfl, R2.sub.nd f1 fun z => z, ?_⟩
        have x0 : XT (Owned β s σ) H F (upd H2 l (.dT [(kk, y)])) F2 := by
          have x1 := (XT.new (M := Owned β s σ) (o := HO.dT []) (F := F) hl).trans E12.xt fun _ z => .inl z
          refine ⟨x1.fz, x1.nw, fun b u e n => ?_, fun b e => ?_⟩
          · rw [upd_ne (ne_of_none e hl)]; exact x1.kp b u e n
          · by_cases q : b = l
            · rw [q]; exact hl
            · rw [upd_ne q] at e; exact x1.dm b e
        refine q _ _ s2 h3 l [y] _ F2 (R2.tmp g2 g3) ⟨x0, fun b z => ?_⟩ ⟨_, upd_same, [(kk, y)], rfl, rfl, rfl⟩ (reps_one r2) g2 hl g3 True.intro
        rcases E12.ow b z with w | w
        · exact .inl w
        · by_cases q : b = l
          · subst q; exact (g3 z).elim
          · rw [upd_ne q] at w; exact .inr w
    | _ => exact h2.elim
  | _ => exact h2.elim⟩
end
end Dl
end

section
set_option Elab.async false
set_option linter.all false
set_option maxRecDepth 100000
set_option maxHeartbeats 4000000
/-! The data layer, part 15: a method that hands back a list of its own or a value; by keyword; a star parameter; starred displays; two attributes from a pair. -/
namespace L2
open PySem PySem.Spec PyProof.Rows
/-- o.m(k = e) -/
theorem pe_methK1 {X : Cx} {CX : CXT} {n : Nat} {C f : Addr} {fd : FuncData} {ps : List Str} {m kw : Str} {sp : Sp} {E : XK} {o e : Expr} {ta te : TE} {apos pos kpos : Pos} {pl : Sem Bool} {g : List Value → List Value → List Value} {gV : List V → List V → List V} (he : PE X o ta) (c : Cls X.K C) (hm : Meth X.K C m f)
    (F : FnOk X.prog X.w X.K X.mg X.base CX n f fd ps sp) (hr : Room n X.A) (hb : KBinds X.K fd ps [kw] g gV) (hx : Passes CX X E) (ha : PE X e te)
    (hall : (backToKw pos (keywordEach [⟨some kw, e, kpos⟩] X.env)).all (·.1.isSome) = true := by rfl) (hks : (backToKw pos (keywordEach [⟨some kw, e, kpos⟩] X.env)).filterMap (·.1) = [kw] := by rfl)
    (hpl : ((backTo pos (starEach [] X.env)).any (·.1) || (backToKw pos (keywordEach [⟨some kw, e, kpos⟩] X.env)).any (·.1.isNone)) = false := by rfl)
    (ht : eval (.Call (.Attribute o m apos) [] [⟨some kw, e, kpos⟩] pos) X.env = (do
      let ov ← eval o X.env
      standAt apos.atName
      let (f, first) ← holding [ov] (getMethod ov m pl)
      callWith pos f first (backTo pos (starEach [] X.env)) (backToKw pos (keywordEach [⟨some kw, e, kpos⟩] X.env))) := by rfl) :
    PE X (.Call (.Attribute o m apos) [] [⟨some kw, e, kpos⟩] pos) (fun σ H Q => ta σ H fun x H1 => ∃ a dx fs, x = .ref a ∧ H1 a = some (.ins C dx fs) ∧ fs.lookup m = none ∧ te σ H1 fun y H2 => sp (gV [x] [y]) H2 Q E) := by
  refine ⟨fun pins s σ H Q I h => ?_⟩
  refine PySem.W.methodCall_KW (pl := pl) (thn (he.run pins s σ H _ I h) fun u s1 ⟨x, H1, I1, rx, a, dx, fs, ex, ea, l, q⟩ => ?_) ht
  subst ex
  cases (show u = Value.ref a from rx)
  refine getmeth_ok I1 ea c hm l ?_
  refine PySem.W.callWith_KW0 (h₀ := X.base) (first := [.ref a]) I.ok.mod.kin hm.kp hall ?_ hpl
  refine thn ((pk_cons (nm := some kw) (kpos := kpos) ha pk_nil).run pos pins s1 σ H1 (fun vs H2 => sp (gV [.ref a] vs) H2 Q E) I1 q) fun ws s2 ⟨zs, H2, I2, rz, q2⟩ => ⟨I2.kIn, ?_⟩
  rw [hks]
  exact run_fnk F hr hb hx I2 (.cons (show RelV (V.ref a) (Value.ref a) from by first | exact rfl | exact (by constructor)) .nil) rz q2
end L2
namespace Dl
open PySem PySem.Spec PyProof.Rows L2
abbrev ConM := List Arg → (D → Prop) → (Tag → List D → Prop) → Prop
def spM (CA : Nat → Addr) (n : Nat) (C : ConM) : Sp := fun vs H Q _ => ∃ β F as P R, Sub F H ∧ BOk β H F ∧ RepAs CA β F as vs ∧ as.length = n ∧ C as P R ∧
  (∀ d, P d → ∀ v H' F', XT (ofBag β) H F H' F' → Sub F' H' → BOk β H' F' → Rep CA F' d v → Q v H') ∧
  (∀ t ds, R t ds → ∀ a ws H' F', XT (ofBag β) H F H' F' → Sub F' H' → BOk β H' F' → At CA H' t a ws → Reps CA F' ds ws → F' a = none → t.mutable → H a = none → Q (.ref a) H')
def KeepsM (N : List Str) (n : Nat) (C : ConM) (den : SDen) : Prop := ∀ as P R, as.length = n → C as P R → den (envOf N as) { nx := fun _ => P .non, rt := P, rf := R }
section
variable {P : Program} {w : World} {K : PySem.W.Frag} {mg : Str → Option Value} {base : Heap} {CA : Nat → Addr} {n k : Nat}
theorem spM_len {C : ConM} {vs : List V} {H : Hp} {Q : VK} {E : XK} (h : spM CA n C vs H Q E) : vs.length = n := by
  obtain ⟨β, F, as, P, R, _, _, r, e, _⟩ := h
  rw [← r.length, e]
theorem fn_M {C : ConM} {N ps : List Str} {x qual : Str} {st : Stmt} {f : Addr} {fd : FuncData} {den : SDen} (F : FunD K x qual (defArgs st) (defBody st) (defScope st) [] [] f fd) (S : FnScope N ps (defScope st)) (hn : ps.length = n) (hN : n ≤ N.length)
    (hb : ∀ (cdv : Value) (A : Around) (outer : List PySem.Env) (s : Shared) (H : Hp) (E : XK), Room k (A.deeper (envOfC qual (defScope st) s.heap.objs.size f cdv)) → DSs CA (cxOf CX0 P w K mg base N qual (defScope st) f cdv A outer s H E).nox (defBody st) den)
    (hC : KeepsM N n C den) : FnOk P w K mg base CX0 (k + 1) f fd ps (spM CA n C) := by
  refine F.ok S (fun vs H Q E h => (spM_len h).trans hn.symm) fun cdv A outer s H vs Q E hr h => ⟨_, (hb cdv A outer s H E hr).ps.nox, ?_⟩
  obtain ⟨β, F0, as, Pp, Rr, sub, bok, r, hl, hc, q1, q2⟩ := h
  refine ⟨β, envOf N as, F0, _, rel_start (by rw [hl]; exact hN) sub bok r, hC as Pp Rr hl hc, ⟨fun s' hp σ' H' F' R' E' => ?_, fun d hp v H' F' x sub' bok' rv => ?_, fun t ds hp a vs H' F' x sub' bok' z1 z2 z3 z4 z5 z6 => ?_, fun s' z => z.elim, fun s' z => z.elim⟩⟩
  · exact q1 .non hp .non H' F' (E'.xt.mono fun b z => start_owned z) R'.sub R'.bok rep_non
  · exact q1 d hp v H' F' (x.mono fun b z => start_owned z) sub' bok' rv
  · refine q2 t ds hp a vs H' F' (x.mono fun b z => start_owned z) sub' bok' z1 z2 z3 z4 ?_
    rcases z6 with z | z
    · exact z
    · exact (z5 (start_owned z)).elim
/-- one value by place, one by name -/
def kg {α : Type} : List α → List α → List α
  | [a], [b] => [a, b]
  | _, _ => []
structure MetKW (P : Program) (w : World) (K : PySem.W.Frag) (mg : Str → Option Value) (base : Heap) (C : Addr) (m kw : Str) (k n : Nat) (sp : Sp) : Prop where
  ex : ∃ (f : Addr) (fd : FuncData) (ps : List Str), FnOk P w K mg base CX0 k f fd ps sp ∧ Meth K C m f ∧ KBinds K fd ps [kw] kg kg ∧ ps.length = n
structure MetR (P : Program) (w : World) (K : PySem.W.Frag) (mg : Str → Option Value) (base : Heap) (C : Addr) (m : Str) (k : Nat) (sp : Sp) : Prop where
  ex : ∃ f : Addr, FnR P w K mg base CX0 k f sp ∧ Meth K C m f
/-- one parameter, then a star parameter -/
def spR (CA : Nat → Addr) (C : Con) : Sp := fun vs H Q E => ∃ ws rest, vs = ws ++ rest ∧ ws.length = 1 ∧ rest.length ≤ sizeLine ∧ ∀ p, H p = none → spD CA 2 C (ws ++ [V.ref p]) (upd H p (.tup rest)) Q E
end
section
variable {CA : Nat → Addr} {X : Cx} {a b c e o : Expr} {es : List Expr} {pos p apos : Pos} {da db dc : VDen} {dA : ADen} {ta tb : TDen} {dF : FDen} {n k : Nat}
@[simp] def dMethM (c : Nat) (m : Str) (n : Nat) (C : ConM) (da : VDen) (dA : ADen) : VDen := fun s P => da s fun d s1 => match d with
  | .node (.ins c' ns) ds => c' = c ∧ look ns ds m = none ∧ dA s1 fun as s2 => as.length + 1 = n ∧ C (.val d :: as) (fun r => P r s2) (fun t es => P (.node t es) s2)
  | _ => False
/-- the value, or the list, into a slot -/
@[simp] def dSetM (i c : Nat) (m : Str) (n : Nat) (C : ConM) (da : VDen) (dA : ADen) : SDen := fun s E => da s fun d s1 => match d with
  | .node (.ins c' ns) ds => c' = c ∧ look ns ds m = none ∧ dA s1 fun as s2 => as.length + 1 = n ∧ C (.val d :: as) (fun r => E.nx (s2.set i (some (.val r)))) (fun t es => E.nx (s2.set i (some (.own t es))))
  | _ => False
theorem tMethM_w {C : ConM} {E : XK} {c : Nat} {m : Str} {σ : L2.St} {H : Hp} {Q : VK} (h : liftV CA (dMethM c m n C da dA) σ H Q) : tMeth (CA c) m (spM CA n C) [] E (liftV CA da) (liftA CA dA) σ H Q := by
  obtain ⟨β, s, F, P, R, h, q⟩ := h
  refine ⟨β, s, F, _, R, h, fun d s1 h1 x H1 F1 R1 E1 r1 => ?_⟩
  cases d with
  | node t ds => cases t with
    | ins c' ns =>
      obtain ⟨rfl, h2, h3⟩ := h1
      obtain ⟨ad, vs, rfl, ⟨ob, e1, dx, fs, rfl, rfl, rfl⟩, e3⟩ := (id r1).node_eq
      refine ⟨ad, dx, fs, rfl, R1.sub.nd e1 (fun z => z), (lookup_ok m e3).2 h2, β, s1, F1, _, R1, h3, fun as s2 h4 ws H2 F2 R2 E2 r2 => ?_⟩
      dsimp only
      rw [List.append_nil]
      refine ⟨β, F2, .val _ :: as, _, _, R2.sub, R2.bok, ⟨_, ws, rfl, Rep.mono E2.fz r1, r2⟩, h4.1, h4.2, fun d hd v H3 F3 x sub bok rv => q d s2 hd v H3 F3 (called R2 x sub bok).1 ((E1.trans E2).trans (called R2 x sub bok).2) rv, fun t es hd a ys H3 F3 x sub bok z1 z2 z3 z4 z5 => ?_⟩
      obtain ⟨R3, E3⟩ := called R2 x sub bok
      obtain ⟨o, o1, o2⟩ := z1
      have n3 : ¬ Owned β s2 σ a := R2.noown z5
      have EE := (E1.trans E2).trans E3
      refine q _ s2 hd (.ref a) H3 (upd F3 a o) (R3.freeze o1 z3 n3) ⟨⟨fun b u z => same_updF z3 b u (EE.xt.fz b u z), fun b u z => ?_, EE.xt.kp, EE.xt.dm⟩, EE.ow⟩ (rep_node ⟨o, upd_same, o2⟩ (z2.mono (same_updF z3)))
      by_cases y : b = a
      · exact .inr (.inl (by rw [y]; exact (E1.trans E2).dm z5))
      · rw [upd_ne y] at z
        exact EE.xt.nw b u z
    | _ => exact h1.elim
  | _ => exact h1.elim
theorem dv_methM (c : Nat) {m : Str} {C : ConM} {pl : Sem Bool} (G : Met X.prog X.w X.K X.mg X.base (CA c) m k n (spM CA n C)) (hc : Cls X.K (CA c)) (hr : Room k X.A) (ho : DV CA X o da) (ha : DA CA X (e :: es) dA)
    (hst : starEach (e :: es) X.env = (false, eval e X.env) :: starEach es X.env := by rfl) (hpl : (backTo pos (starEach es X.env)).any (·.1) = false := by rfl)
    (ht : eval (.Call (.Attribute o m apos) (e :: es) [] pos) X.env = (do
      let ov ← eval o X.env
      standAt apos.atName
      let (f, first) ← holding [ov] (getMethod ov m pl)
      callWith pos f first (backTo pos (starEach (e :: es) X.env)) (backToKw pos (keywordEach [] X.env))) := by rfl) :
    DV CA X (.Call (.Attribute o m apos) (e :: es) [] pos) (dMethM c m n C da dA) := by
  obtain ⟨f, fd, ps, F, hm, hb, hl⟩ := G.ex
  exact ⟨pe_w (pe_meth ho.pe hc hm F hr hb .nil pass0 ha.pa hst hpl ht) fun _ _ _ h => tMethM_w h⟩
theorem dv_methMK (c : Nat) {m kw : Str} {C : ConM} {pl : Sem Bool} {kpos : Pos} (G : MetKW X.prog X.w X.K X.mg X.base (CA c) m kw k n (spM CA n C)) (hc : Cls X.K (CA c)) (hr : Room k X.A) (ho : DV CA X o da) (ha : DV CA X e db)
    (hall : (backToKw pos (keywordEach [⟨some kw, e, kpos⟩] X.env)).all (·.1.isSome) = true := by rfl) (hks : (backToKw pos (keywordEach [⟨some kw, e, kpos⟩] X.env)).filterMap (·.1) = [kw] := by rfl)
    (hpl : ((backTo pos (starEach [] X.env)).any (·.1) || (backToKw pos (keywordEach [⟨some kw, e, kpos⟩] X.env)).any (·.1.isNone)) = false := by rfl)
    (ht : eval (.Call (.Attribute o m apos) [] [⟨some kw, e, kpos⟩] pos) X.env = (do
      let ov ← eval o X.env
      standAt apos.atName
      let (f, first) ← holding [ov] (getMethod ov m pl)
      callWith pos f first (backTo pos (starEach [] X.env)) (backToKw pos (keywordEach [⟨some kw, e, kpos⟩] X.env))) := by rfl) :
    DV CA X (.Call (.Attribute o m apos) [] [⟨some kw, e, kpos⟩] pos) (dMethM c m n C da (dCons db dNil)) := by
  obtain ⟨f, fd, ps, F, hm, hb, hl⟩ := G.ex
  refine ⟨pe_w (pe_methK1 ho.pe hc hm F hr hb pass0 ha.pe hall hks hpl ht) fun σ H Q h => ?_⟩
  obtain ⟨β, s, F, P, R, h, q⟩ := tMethM_w (E := E0) h
  refine ⟨β, s, F, P, R, h, fun d s1 h1 x H1 F1 R1 E1 r1 => ?_⟩
  obtain ⟨ad, dx, fs, y1, y2, y3, h2⟩ := q d s1 h1 x H1 F1 R1 E1 r1
  refine ⟨ad, dx, fs, y1, y2, y3, ?_⟩
  obtain ⟨β2, s2, F2, P2, R2, h3, q2⟩ := h2
  refine ⟨β2, s2, F2, _, R2, h3, fun d2 s3 h4 y H3 F3 R3 E3 r3 => ?_⟩
  have z := q2 [.val d2] s3 h4 [y] H3 F3 R3 E3 ⟨y, [], rfl, r3, rfl⟩
  dsimp only at z
  rw [List.append_nil] at z
  exact z
end
end Dl
end

section
set_option Elab.async false
set_option linter.all false
set_option maxRecDepth 100000
set_option maxHeartbeats 4000000
/-! The data layer, part 16: a told list into a slot; star arguments; a method with a star parameter; a pair into two fields. -/
namespace L2
open PySem PySem.Spec PyProof.Rows
/-- target o.f -/
def gFld (K : PySem.W.Frag) (ta : TE) (f : Str) : TG := fun y σ H Q => ta σ H fun x H2 => ∃ a C dx fs, x = .ref a ∧ H2 a = some (.ins C dx fs) ∧ Cls K C ∧ NoAttr K C f ∧ fs.length < 1000 ∧ Q σ (upd H2 a (.ins C dx (putF f y fs)))
end L2
namespace L2
open PySem PySem.Spec PyProof.Rows
theorem pg_fld {X : Cx} {o : Expr} {ta : TE} {f : Str} {pos : Pos} (ha : PE X o ta) : PG X (.Attribute o f pos) (gFld X.K ta f) := by
  refine ⟨fun pins s σ H v u Q I r h => ?_⟩
  rw [assign_Attribute]
  refine wpAny_bind (wpAny_holding (thn (ha.run pins s σ H _ I h) fun ov s2 ⟨x, H2, I2, rx, a, C, dx, fs, ex, ea, c, n, l, q2⟩ => ?_))
  subst ex
  obtain rfl : ov = Value.ref a := rx
  refine wpAny_bind (wpAny_standAt (wpAny_bind (wpAny_holding (setattr_ok I2 ea c n l r fun s3 I3 => ?_))))
  exact wpAny_release ⟨σ, _, I3, q2⟩
end L2
namespace Dl
open PySem PySem.Spec PyProof.Rows L2
section
variable {CA : Nat → Addr} {X : Cx} {a b c e o : Expr} {es : List Expr} {pos p apos : Pos} {da db dc : VDen} {dA : ADen} {ta tb : TDen} {dF : FDen} {n k i : Nat}
theorem ds_setM {x m : Str} {pos' cpos : Pos} {C : ConM} {pl : Sem Bool} (c : Nat) (hN : X.N.Nodup) (G : Met X.prog X.w X.K X.mg X.base (CA c) m k n (spM CA n C)) (hc : Cls X.K (CA c)) (hr : Room k X.A) (ho : DV CA X o da) (ha : DA CA X (e :: es) dA)
    (hi : X.N[i]? = some x := by rfl) (hx : Loc X.env.scope x := by first | exact .inl rfl | exact .inr rfl) (hs : swapsWith (.Call (.Attribute o m apos) (e :: es) [] cpos) (some (.Name x pos')) pos.line X.env = pure false := by rfl) (hf : X.fn x = true ∨ X.env.scope.names.lookup x = some .local := by first | exact .inl rfl | exact .inr rfl)
    (hst : starEach (e :: es) X.env = (false, eval e X.env) :: starEach es X.env := by rfl) (hpl : (backTo cpos (starEach es X.env)).any (·.1) = false := by rfl)
    (ht : eval (.Call (.Attribute o m apos) (e :: es) [] cpos) X.env = (do
      let ov ← eval o X.env
      standAt apos.atName
      let (f, first) ← holding [ov] (getMethod ov m pl)
      callWith cpos f first (backTo cpos (starEach (e :: es) X.env)) (backToKw cpos (keywordEach [] X.env))) := by rfl) :
    DS CA X (.Assign [.Name x pos'] (.Call (.Attribute o m apos) (e :: es) [] cpos) pos) (dSetM i c m n C da dA) := by
  obtain ⟨f, fd, ps, F, hm, hb, hl⟩ := G.ex
  refine ⟨ps_w (ps_set hN hi hx (pe_meth ho.pe hc hm F hr hb .nil pass0 ha.pa hst hpl ht) hs hf) fun D σ H ⟨β, s, F, E, R, h, q⟩ => ?_⟩
  refine ⟨β, s, F, _, R, h, fun d s1 h1 x H1 F1 R1 E1 r1 => ?_⟩
  cases d with
  | node t ds => cases t with
    | ins c' ns =>
      obtain ⟨rfl, h2, h3⟩ := h1
      obtain ⟨ad, vs, rfl, ⟨ob, e1, dx, fs, rfl, rfl, rfl⟩, e3⟩ := (id r1).node_eq
      refine ⟨ad, dx, fs, rfl, R1.sub.nd e1 (fun z => z), (lookup_ok m e3).2 h2, β, s1, F1, _, R1, h3, fun as s2 h4 ws H2 F2 R2 E2 r2 => ?_⟩
      dsimp only
      rw [List.append_nil]
      refine ⟨β, F2, .val _ :: as, _, _, R2.sub, R2.bok, ⟨_, ws, rfl, Rep.mono E2.fz r1, r2⟩, h4.1, h4.2, fun d hd v H3 F3 x sub bok rv => ?_, fun t es hd a ys H3 F3 x sub bok z1 z2 z3 z4 z5 => ?_⟩
      · obtain ⟨R3, E3⟩ := called R2 x sub bok
        exact q.nx _ hd _ H3 F3 (R3.setV i rv) (((E1.trans E2).trans E3).trans (.setV R3.len))
      · obtain ⟨R3, E3⟩ := called R2 x sub bok
        have n3 : ¬ Owned β s2 σ a := R2.noown z5
        exact q.nx _ hd _ H3 F3 (R3.setO i z1 z2 z3 n3 z4) (((E1.trans E2).trans E3).setO R3.len ((E1.trans E2).dm z5))
    | _ => exact h1.elim
  | _ => exact h1.elim
/-- [*a, ..] -/
@[simp] def dStar (da : VDen) (dA : ADen) : ADen := fun s P => da s fun d s1 => match d with
  | .node .lst ds => dA s1 fun es s2 => P (ds.map Arg.val ++ es) s2
  | .node .tup ds => dA s1 fun es s2 => P (ds.map Arg.val ++ es) s2
  | _ => False
theorem repAs_vals {β : Beta} {F : Hp} : ∀ {ds : List D} {vs : List V} {as : List Arg} {ws : List V}, Reps CA F ds vs → RepAs CA β F as ws → RepAs CA β F (ds.map Arg.val ++ as) (vs ++ ws)
  | [], vs, as, ws, r, q => by
    unfold Reps at r
    subst r
    exact q
  | d :: ds, vs, as, ws, r, q => by
    unfold Reps at r
    obtain ⟨v, us, rfl, r1, r2⟩ := r
    exact ⟨v, us ++ ws, rfl, r1, repAs_vals r2 q⟩
theorem da_star (ha : DV CA X e da) (hr : DA CA X es dA) (hs : starEach (.Starred e p :: es) X.env = (true, eval e X.env) :: starEach es X.env := by rfl) : DA CA X (.Starred e p :: es) (dStar da dA) :=
  ⟨pa_w (StX.pa_star ha.pe hr.pa hs) fun σ H Q ⟨β, s, F, P, R, h, q⟩ => ⟨β, s, F, _, R, h, fun d s1 h1 x H1 F1 R1 E1 r1 => by
    cases d with
    | node t ds => cases t with
      | lst =>
        obtain ⟨ad, vs, rfl, ⟨ob, e1, e2⟩, e3⟩ := r1.node_eq
        cases (show ob = .lst vs from e2)
        exact ⟨ad, vs, rfl, .inr (.inl (R1.sub.rd e1)), β, s1, F1, _, R1, h1, fun es s2 h2 ws H2 F2 R2 E2 r2 => q _ s2 h2 _ H2 F2 R2 (E1.trans E2) (repAs_vals (e3.mono E2.fz) r2)⟩
      | tup =>
        obtain ⟨ad, vs, rfl, ⟨ob, e1, e2⟩, e3⟩ := r1.node_eq
        cases (show ob = .tup vs from e2)
        exact ⟨ad, vs, rfl, .inl (.inl (R1.sub.rd e1)), β, s1, F1, _, R1, h1, fun es s2 h2 ws H2 F2 R2 E2 r2 => q _ s2 h2 _ H2 F2 R2 (E1.trans E2) (repAs_vals (e3.mono E2.fz) r2)⟩
      | _ => exact h1.elim
    | _ => exact h1.elim⟩⟩
/-- o.m(e, ..), m with self and a star parameter -/
@[simp] def dMethR (c : Nat) (m : Str) (C : Con) (da : VDen) (dA : ADen) : VDen := fun s P => da s fun d s1 => match d with
  | .node (.ins c' ns) ds => c' = c ∧ look ns ds m = none ∧ dA s1 fun as s2 => ∃ es, as = es.map Arg.val ∧ es.length < 100 ∧ C [.val d, .val (.node .tup es)] fun r => P r s2
  | _ => False
theorem vals_repAs {β : Beta} {F : Hp} : ∀ {ds : List D} {ws : List V}, RepAs CA β F (ds.map Arg.val) ws → Reps CA F ds ws
  | [], ws, r => by
    unfold Reps
    exact r
  | d :: ds, ws, r => by
    obtain ⟨v, us, rfl, r1, r2⟩ := r
    exact reps_cons r1 (vals_repAs r2)
theorem dv_methR (c : Nat) {m : Str} {C : Con} {pl : Sem Bool} (G : MetR X.prog X.w X.K X.mg X.base (CA c) m k (spR CA C)) (hc : Cls X.K (CA c)) (hr : Room k X.A) (ho : DV CA X o da) (ha : DA CA X (e :: es) dA)
    (hst : starEach (e :: es) X.env = (false, eval e X.env) :: starEach es X.env := by rfl) (hpl : (backTo pos (starEach es X.env)).any (·.1) = false := by rfl)
    (ht : eval (.Call (.Attribute o m apos) (e :: es) [] pos) X.env = (do
      let ov ← eval o X.env
      standAt apos.atName
      let (f, first) ← holding [ov] (getMethod ov m pl)
      callWith pos f first (backTo pos (starEach (e :: es) X.env)) (backToKw pos (keywordEach [] X.env))) := by rfl) :
    DV CA X (.Call (.Attribute o m apos) (e :: es) [] pos) (dMethR c m C da dA) := by
  obtain ⟨f, F, hm⟩ := G.ex
  refine ⟨pe_w (pe_methR ho.pe hc hm F hr pass0 ha.pa hst hpl ht) fun σ H Q h => ?_⟩
  obtain ⟨β, s, F, P, R, h, q⟩ := h
  refine ⟨β, s, F, _, R, h, fun d s1 h1 x H1 F1 R1 E1 r1 => ?_⟩
  cases d with
  | node t ds => cases t with
    | ins c' ns =>
      obtain ⟨rfl, h2, h3⟩ := h1
      obtain ⟨ad, vs, rfl, ⟨ob, e1, dx, fs, rfl, rfl, rfl⟩, e3⟩ := (id r1).node_eq
      refine ⟨ad, dx, fs, rfl, R1.sub.nd e1 (fun z => z), (lookup_ok m e3).2 h2, β, s1, F1, _, R1, h3, fun as s2 h4 ws H2 F2 R2 E2 r2 => ?_⟩
      obtain ⟨es, rfl, hl, hC⟩ := h4
      have r3 := vals_repAs r2
      refine ⟨[.ref ad], ws, rfl, rfl, by rw [← r3.length]; exact Nat.le_of_lt (line5 (by omega)), fun pt hp => ?_⟩
      have x0 := XT.newF (M := ofBag β) (o := .tup ws) hp R2.sub
      have R2' := R2.newF (o := .tup ws) hp
      have ES := same_updF (o := .tup ws) (R2.sub.free hp)
      refine ⟨β, upd F2 pt (.tup ws), [.val _, .val (.node .tup es)], _, R2'.sub, R2'.bok, ⟨_, _, rfl, Rep.mono ES (Rep.mono E2.fz r1), _, _, rfl, rep_node ⟨_, upd_same, rfl⟩ (r3.mono ES), rfl⟩, rfl, hC, fun d hd v H3 F3 x sub bok rv => ?_⟩
      obtain ⟨R3, E3⟩ := called R2 (x0.trans x fun _ z => .inl z) sub bok
      exact q d s2 hd v H3 F3 R3 ((E1.trans E2).trans E3) rv
    | _ => exact h1.elim
  | _ => exact h1.elim
/-- a pair's parts into two fields of slot i's own instance -/
@[simp] def dFld2 (c i : Nat) (f g : Str) (da : VDen) : SDen := fun s E => da s fun d s1 => match d with
  | .node .tup [d1, d2] => match s1[i]? with
    | some (some (.own (.ins c' ns) ds)) => c' = c ∧ ds.length < 99 ∧ (fputDs ns ds f d1).length < 100 ∧ E.nx (s1.set i (some (.own (.ins c (fputNs (fputNs ns f) g)) (fputDs (fputNs ns f) (fputDs ns ds f d1) g d2))))
    | _ => False
  | _ => False
theorem ds_fld2 {o1 o2 : Expr} {f g : Str} {p1 p2 tpos : Pos} {kk : Nat} (c : Nat) (hm : X.calm = true) (hc : Cls X.K (CA c)) (hn1 : NoAttr X.K (CA c) f) (hn2 : NoAttr X.K (CA c) g) (hx1 : PE X o1 (tVar i)) (hx2 : PE X o2 (tVar i)) (hv : DV CA X e da)
    (hs : swapsWithSole [.Tuple [.Attribute o1 f p1, .Attribute o2 g p2] kk tpos] e pos.line X.env = pure false := by rfl) (hw : swappedStores [.Tuple [.Attribute o1 f p1, .Attribute o2 g p2] kk tpos] e X.env = pure none := by rfl)
    (h1 : (assignEach [.Tuple [.Attribute o1 f p1, .Attribute o2 g p2] kk tpos] X.env).map (·.2) = [assign (.Tuple [.Attribute o1 f p1, .Attribute o2 g p2] kk tpos) X.env] := by rfl)
    (hn : (assignEach [.Attribute o1 f p1, .Attribute o2 g p2] X.env).length = 2 := by rfl) (hst : (assignEach [.Attribute o1 f p1, .Attribute o2 g p2] X.env).findIdx? (·.1) = none := by rfl) :
    DS CA X (.Assign [.Tuple [.Attribute o1 f p1, .Attribute o2 g p2] kk tpos] e pos) (dFld2 c i f g da) := by
  refine ⟨ps_w (ps_asg hv.pe (pg_tup hm (pgs_cons (pg_fld hx1) (pgs_cons (pg_fld hx2) pgs_nil)) hn hst) hs hw h1) fun D σ H ⟨β, s, F, E, R, h, q⟩ => ⟨β, s, F, _, R, h, fun d s1 h1 v H1 F1 R1 E1 r1 => ?_⟩⟩
  have h2 : (match (generalizing := false) d with
    | .node .tup [d1, d2] => match s1[i]? with
      | some (some (.own (.ins c' ns) ds)) => c' = c ∧ ds.length < 99 ∧ (fputDs ns ds f d1).length < 100 ∧ E.nx (s1.set i (some (.own (.ins c (fputNs (fputNs ns f) g)) (fputDs (fputNs ns f) (fputDs ns ds f d1) g d2))))
      | _ => False
    | _ => False) := h1
  split at h2
  · next d1 d2 =>
    split at h2
    · next c' ns ds e4 =>
      obtain ⟨rfl, hl, hl2, h3⟩ := h2
      obtain ⟨tp, vs, rfl, ⟨ob, t1, t2⟩, t3⟩ := r1.node_eq
      cases (show ob = .tup vs from t2)
      unfold Reps at t3
      obtain ⟨v1, w1, rfl, r2, t4⟩ := t3
      unfold Reps at t4
      obtain ⟨v2, w2, rfl, r3, t5⟩ := t4
      unfold Reps at t5
      subst t5
      refine ⟨tp, [v1, v2], rfl, .inl (R1.sub.rd t1), rfl, ?_⟩
      obtain ⟨ad, ws, f1, ⟨ob, f2, dx, fs, rfl, rfl, rfl⟩, f4, f5, f6, f7⟩ := R1.own i _ _ e4
      obtain ⟨p1, p2⟩ := fput_ok (f := f) r2 f4
      have l1 : fs.length < 1000 := by
        have := f4.length
        rw [List.length_map] at this
        omega
      have M1 := R1.mut e4 f1 (t' := .ins c' _) ⟨dx, _, rfl, p1, rfl⟩ p2 f7
      have E2 := E1.trans (.mut e4 f1 (t' := .ins c' (fputNs (fs.map (·.1)) f)) (o' := .ins (CA c') dx (putF f v1 fs)) (ds' := fputDs (fs.map (·.1)) ds f d1))
      obtain ⟨p3, p4⟩ := fput_ok (f := g) r3 p2
      have l2 : (putF f v1 fs).length < 1000 := by
        have := p2.length
        rw [List.length_map] at this
        omega
      refine ⟨v1, [v2], rfl, .ref ad, f1, ad, CA c', dx, fs, rfl, f2, hc, hn1, l1, v2, [], rfl, .ref ad, f1, ad, CA c', dx, _, rfl, upd_same, hc, hn2, l2, rfl, ?_⟩
      have e5 : (s1.set i (some (.own (.ins c' (fputNs (fs.map (·.1)) f)) (fputDs (fs.map (·.1)) ds f d1))))[i]? = some (some (.own (.ins c' (fputNs (fs.map (·.1)) f)) (fputDs (fs.map (·.1)) ds f d1))) := List.getElem?_set_self (List.getElem?_eq_some_iff.mp e4).1
      rw [p1] at p3 p4
      have M2 := M1.mut e5 f1 (t' := .ins c' (fputNs (fputNs (fs.map (·.1)) f) g)) (o' := .ins (CA c') dx (putF g v2 (putF f v1 fs))) ⟨dx, _, rfl, p3, rfl⟩ p4 f7
      have E3 := E2.trans (.mut e5 f1 (t' := .ins c' (fputNs (fputNs (fs.map (·.1)) f) g)) (o' := .ins (CA c') dx (putF g v2 (putF f v1 fs))) (ds' := fputDs (fputNs (fs.map (·.1)) f) (fputDs (fs.map (·.1)) ds f d1) g d2))
      rw [List.set_set] at M2 E3
      exact q.nx _ h3 σ _ F1 M2 E3
    · exact h2.elim
  · exact h2.elim
end
end Dl
end

section
set_option Elab.async false
set_option linter.all false
set_option maxRecDepth 100000
set_option maxHeartbeats 4000000
/-! {k: v for a in as}: keys of either kind. -/
namespace Sx
open PySem PySem.Spec PyProof.Rows L2
inductive NewDict : HO → Prop
  | k : NewDict (.dK [])
  | t : NewDict (.dT [])
section
variable {X : Cx}
theorem NewDict.ok {P : Program} {w : World} {H : Hp} {o : HO} (h : Heap) (hb : sysModules < h.objs.size) : NewDict o → ObjOk P w H (h.push { cls := .type "dict", data := .dict #[] }) h.objs.size o
  | .k => dk_empty h hb
  | .t => dt_empty h hb
/-- the comprehension's store -/
theorem dput_ok {pins : List (Addr × Obj)} {σ : L2.St} {H H' : Hp} {s : Shared} {E : Value → Shared → Prop} {D : Addr} {y z : V} {u r : Value} {Q : Unit → Shared → Prop} (hu : X.A.units + 1 < cLine) (I : Inv X pins σ H s) (g : DPut H D y z H') (ry : RelV y u) (rz : RelV z r)
    (h : ∀ s', Inv X pins σ H' s' → Q () s') : wpAny (model X.prog X.w) X.A (dictSet D u r) Q E s := by
  rcases g with ⟨kvs, k, e, rfl, l, rfl⟩ | ⟨kvs, k, b, e, rfl, eb, l, rfl⟩
  · exact d_dictSet I e l ry rz h
  · cases (show u = Value.ref b from ry)
    have ⟨z0, hd, xs, rel, dd⟩ := dt_of I.hok e
    have small : (putK kvs k z).length ≤ sizeLine := Nat.le_trans (length_putK kvs k z) l
    refine wpAny_dictSet_heap (show X.A.units < cLine by omega) (key_of I.hok eb) dd (fun h2 dd2 sb => h _ ?_) (by rw [← Paired.length rel]; exact z0)
    have ⟨q, es, ep, hq, g2, g3, g4, _, g5⟩ := dd2
    have keys : KT (upd H D (.dT (putK kvs k z))) (putK kvs k z) _ := (rel.put k eb rz).keeps fun c ys ec => by
      rw [upd_ne (ne_of ec e fun x => nomatch x)]
      exact ec
    exact d_write I (by rw [e]; trivial) sb ⟨q, hq⟩ ⟨small, hd, _, keys, q, es, ep, hq, g2, g3, g4, g5⟩
/-- D: the new dict -/
def tDu (o0 : HO) (wi : TI) (g : TG) (tt : TT) (tk tv : TE) (vs : List Nat) : TE := fun σ H Q => wi σ H fun J H1 => ∀ D, H1 D = none → ∃ W : Nat → Nat → Hp → Prop, (∃ m, W 0 m (upd H1 D o0)) ∧ ∀ i m H, W i m H →
  (J.stop i H ∧ Q (.ref D) H) ∨ (J.go i H ∧ ∃ Nx : Hp → Prop, (∀ H', Nx H' → ∃ m', m' < m ∧ W (i + 1) m' H') ∧ ∀ x H', J.yld i H x H' → g x (wipe σ vs) H' fun σ2 H2 => wipe σ2 vs = wipe σ vs ∧ tt σ2 H2 fun b H3 =>
    if b = true then tk σ2 H3 fun y H4 => tv σ2 H4 fun z H5 => ∃ H6, DPut H5 D y z H6 ∧ Nx H6 else Nx H3)
theorem du_core {o0 : HO} (nd : NewDict o0) (hu : X.A.units + 1 < cLine) {pins : List (Addr × Obj)} {s : Shared} {σ : L2.St} {H : Hp} {Q : VK} {ek ev ta ia : Expr} {ifs : List Expr} {scope : Scope} {own : List (Str × Nat)} {pos pos2 : Pos} {wi : TI} {g : TG} {tt : TT} {tk tv : TE} {use : Option (Value → Sem Unit)} {Qf : Value → Shared → Prop}
    (hc : X.calm = true) (hN : X.N.Nodup) (I : Inv X pins σ H s) (hi : PI X ta ia wi) (ok : BlkOk X.N X.env.scope scope own)
    (hg : ∀ (s : Shared) (H : Hp) (C : Addr) (cl : List (Str × Addr)) (fp : List Addr), PG (X.blk s H scope (compEnvC scope cl C X.env) fp) ta g)
    (ht : ∀ (s : Shared) (H : Hp) (C : Addr) (cl : List (Str × Addr)) (fp : List Addr), PTs (X.blk s H scope (compEnvC scope cl C X.env) fp) ifs tt)
    (hk : ∀ (s : Shared) (H : Hp) (C : Addr) (cl : List (Str × Addr)) (fp : List Addr), PE (X.blk s H scope (compEnvC scope cl C X.env) fp) ek tk)
    (he : ∀ (s : Shared) (H : Hp) (C : Addr) (cl : List (Str × Addr)) (fp : List Addr), PE (X.blk s H scope (compEnvC scope cl C X.env) fp) ev tv)
    (hs : ∀ x, foldedSetIterable ia X.env x = pure x) (h : tDu o0 wi g tt tk tv (own.map (·.2)) σ H Q)
    (last : ∀ D C s' m H', Inv X pins σ H' s' → Q (.ref D) H' → s'.heap.Ns C m → FpOk X pins H' C → compPost (model X.prog X.w) X.A X.xe use Qf (.ref D) C (.ok .next) s') :
    wpAny (model X.prog X.w) X.A (comprehension (.DictComp ek ev [⟨ta, ia, ifs, 0⟩] scope pos) scope X.env pos2 newDict false (eval ia X.env) use) Qf X.xe s := by
  have cellsThere : ∀ y ∈ scope.names, y.2 = .free → ∃ c, X.env.cells.lookup y.1 = some c := fun y hy e => (ok.free y hy e).elim (fun k => I.ok.has _ (.inl k)) fun k => I.ok.has _ (.inr k)
  refine wpAny_comprehension_free (use := use) rfl hs (closure_ok cellsThere) ok.kind (fun y hy e => by rw [ok.uniq y hy, e])
    (thn (hi.run pins s σ H _ I h) fun xv s1 hx => thn hx fun itv s2 h2 => ?_)
  obtain ⟨it, fp, tn, J, H2, e, I2, T, st2, f2, q⟩ := h2
  subst e
  refine wpAny_newObj_type (newEnv_comp ?_)
  generalize hD : s2.heap.objs.size = D
  obtain ⟨W, ⟨m0, w0⟩, turn⟩ := q D (I2.hok.fresh (Nat.le_of_eq hD))
  generalize hs3 : ({ s2 with heap := s2.heap.push { cls := .type "dict", data := .dict #[] } } : Shared) = s3
  have I3 : Inv X pins σ (upd H2 D o0) s3 := by
    rw [← hs3]
    refine I2.laid (t' := s2.toks) (fun b o e => Heap.get?_push_of_some _ e) (Nat.le_of_eq hD) ?_
    rw [← hD]
    exact nd.ok s2.heap I2.big
  have h3 : s3.heap = s2.heap.push { cls := .type "dict", data := .dict #[] } := by rw [← hs3]
  have small : ∀ b ∈ fp, b < s2.heap.objs.size := fun b hb => let ⟨_, e, _⟩ := T.obj _ _ st2 b hb; Heap.lt_size e
  have f3 : ∀ b ∈ fp, FpOk X pins (upd H2 D o0) b ∧ b < s3.heap.objs.size := fun b hb => by
    refine ⟨⟨?_, (f2 b hb).2⟩, by rw [h3, Heap.size_push]; exact Nat.lt_succ_of_lt (small b hb)⟩
    rw [upd_ne (by rw [← hD]; exact Nat.ne_of_lt (small b hb))]
    exact (f2 b hb).1
  have st3 : tn 0 s3.heap := T.keep _ _ _ st2 fun b _ o e => by rw [h3]; exact Heap.get?_push_of_some _ e
  have I4 := block_start I3 ok hN f3
  have pg := hg s3 (upd H2 D o0) s3.heap.objs.size (cellsFrom (s3.heap.objs.size + 1) scope.names (cloFrom X.env.cells scope.names [])) fp
  have pt := ht s3 (upd H2 D o0) s3.heap.objs.size (cellsFrom (s3.heap.objs.size + 1) scope.names (cloFrom X.env.cells scope.names [])) fp
  have pk := hk s3 (upd H2 D o0) s3.heap.objs.size (cellsFrom (s3.heap.objs.size + 1) scope.names (cloFrom X.env.cells scope.names [])) fp
  have pv := he s3 (upd H2 D o0) s3.heap.objs.size (cellsFrom (s3.heap.objs.size + 1) scope.names (cloFrom X.env.cells scope.names [])) fp
  show codeAny _ _ (.compStart (.DictComp ek ev [⟨ta, ia, ifs, 0⟩] scope pos) 0 (.ref it) (.ref D) (compEnvC scope (cellsFrom (s3.heap.objs.size + 1) scope.names (cloFrom X.env.cells scope.names [])) s3.heap.objs.size X.env)) (compPost (model X.prog X.w) X.A X.xe use Qf (.ref D) s3.heap.objs.size) { s3 with heap := pushCells (s3.heap.push { cls := .type "dict", data := .dict #[] }) scope.names }
  have nfp : ∀ b ∈ fp, (upd H2 D o0) b = none := fun b hb => (f3 b hb).1.1
  generalize hce : compEnvC scope (cellsFrom (s3.heap.objs.size + 1) scope.names (cloFrom X.env.cells scope.names [])) s3.heap.objs.size X.env = ce at I4 pg pt pk pv ⊢
  have cL : ce.locals = s3.heap.objs.size := by subst hce; rfl
  generalize hH3 : upd H2 D o0 = H3 at I3 I4 pg pt pk pv w0 nfp f3
  generalize hs4 : ({ s3 with heap := pushCells (s3.heap.push { cls := .type "dict", data := .dict #[] }) scope.names } : Shared) = s4 at I4 ⊢
  have st4 : tn 0 s4.heap := T.keep _ _ _ st3 fun b _ o e => by rw [← hs4]; exact pushCells_keeps _ _ _ _ (Heap.get?_push_of_some _ e)
  have stat : ∀ {σ' : L2.St} {H' : Hp} {s' : Shared}, Inv (X.blk s3 H3 scope ce fp) [] σ' H' s' → (∀ b ∈ fp, H' b = none) → ∀ b ∈ fp, FpOk (X.blk s3 H3 scope ce fp) [] H' b := fun {σ' H' s'} I' hn b hb =>
    ⟨hn b hb, (I'.ok.exf b hb).1, I'.ok.exfs b hb, .inl hb, fun x c e => (I'.ok.exf b hb).2 x c e, fun p hp => absurd (show p ∈ ([] : List (Addr × Obj)) ++ [] from hp) (by simp)⟩
  have all : codeAny (model X.prog X.w) X.A (.compLoop (.DictComp ek ev [⟨ta, ia, ifs, 0⟩] scope pos) 0 (.ref it) (.ref D) ce) (compPost (model X.prog X.w) X.A X.xe use Qf (.ref D) s3.heap.objs.size) s4 := by
    let Iv : Nat → Shared → Prop := fun n s' => ∃ i H', Inv (X.blk s3 H3 scope ce fp) [] (wipe σ (own.map (·.2))) H' s' ∧ tn i s'.heap ∧ (∀ b ∈ fp, H' b = none) ∧ W i n H'
    refine compLoop_anyD Iv ?_ m0 ⟨0, H3, I4, st4, nfp, w0⟩
    rintro n s5 ⟨i, H5, I5, st5, n5, w5⟩
    rcases turn i n H5 w5 with ⟨stop, qq⟩ | ⟨go, Nx, hNx, step⟩
    · refine thnF (T.done (X.blk s3 H3 scope ce fp) rfl rfl rfl hc i [] s5 _ H5 (fun _ _ => False) I5 (stat I5 n5) st5 stop) fun r s6 ⟨hr, I6⟩ => ?_
      subst hr
      have back : Inv X pins σ H5 s6 := I3.call' (ch := fp) I6.os I6.base I6.hok I6.bare fun b hb => let z := (f3 b hb).1; ⟨z.2.2.2.1, z.2.1, z.2.2.2.2.1, z.2.2.2.2.2⟩
      obtain ⟨m, hn, _⟩ := I6.loc
      have hn : s6.heap.Ns ce.locals m := hn
      rw [cL] at hn
      have nC : H5 s3.heap.objs.size = none := by
        have z : H5 ce.locals = none := I6.free
        rw [cL] at z
        exact z
      exact last D s3.heap.objs.size s6 m H5 back qq hn (I3.fpOk (Nat.le_refl _) nC)
    · refine thnF (T.item (X.blk s3 H3 scope ce fp) rfl rfl rfl hc i [] s5 _ H5 (fun _ _ => False) I5 (stat I5 n5) st5 go) fun r s6 ⟨u, hr, h6⟩ => ?_
      subst hr
      refine thnF h6 fun _ s7 ⟨x, H7, I7, r7, y7, st7, n7⟩ => ?_
      have I7' := I7.pinned (stat I7 n7) (T.obj _ _ st7)
      refine thnF (pg.run _ s7 _ H7 x u _ I7' r7 (step x H7 y7)) fun _ s8 ⟨σ8, H8, I8, hw8, q8⟩ => ?_
      refine thnF (pt.run _ s8 σ8 H8 _ I8 q8) fun b s9 ⟨H9, I9, q9⟩ => ?_
      have again : ∀ {s' : Shared} {H' : Hp}, Inv (X.blk s3 H3 scope ce fp) ([] ++ pinsAt fp s7.heap) σ8 H' s' → Nx H' → ∃ m, m < n ∧ Iv m s' := fun {s' H'} I' nx => by
        obtain ⟨m', hm, w'⟩ := hNx H' nx
        have pinned : ∀ b ∈ fp, ∀ o, s7.heap.get? b = some o → s'.heap.get? b = some o ∧ H' b = none := fun b hb o e =>
          let z := I'.pin (b, o) (List.mem_append_right _ (List.mem_append_right _ (mem_pinsAt hb e)))
          ⟨z.1, z.2.1⟩
        exact ⟨m', hm, i + 1, H', (I'.unpinned (pins := [])).weak (by rw [← hw8, wipe_length]) (fun j v e => by rw [← hw8] at e; exact (wipe_some e).1), T.keep _ _ _ st7 fun b hb o e => (pinned b hb o e).1, fun b hb => let ⟨o, e, _⟩ := T.obj _ _ st7 b hb; (pinned b hb o e).2, w'⟩
      cases b with
      | false => exact again I9 q9
      | true =>
        refine thnF (pk.run _ s9 σ8 H9 _ I9 q9) fun uk s10 ⟨yk, H10, I10, r10, q10⟩ => ?_
        refine thnF (pv.run _ s10 σ8 H10 _ I10 q10) fun uv s11 ⟨yv, H11, I11, r11, H12, put, nx⟩ => ?_
        exact dput_ok (X := X.blk s3 H3 scope ce fp) (show X.A.units + 1 < cLine from hu) I11 put r10 r11 fun s12 I12 => again I12 nx
  exact codeAny_compStart_dict all (T.self X.A 0 _ _ _ st4 all)
theorem pe_du {o0 : HO} (nd : NewDict o0) (hu : X.A.units + 1 < cLine) {ek ev ta ia : Expr} {ifs : List Expr} {scope : Scope} {own : List (Str × Nat)} {pos : Pos} {wi : TI} {g : TG} {tt : TT} {tk tv : TE} (hc : X.calm = true) (hN : X.N.Nodup) (hi : PI X ta ia wi) (ok : BlkOk X.N X.env.scope scope own)
    (hg : ∀ (s : Shared) (H : Hp) (C : Addr) (cl : List (Str × Addr)) (fp : List Addr), PG (X.blk s H scope (compEnvC scope cl C X.env) fp) ta g)
    (ht : ∀ (s : Shared) (H : Hp) (C : Addr) (cl : List (Str × Addr)) (fp : List Addr), PTs (X.blk s H scope (compEnvC scope cl C X.env) fp) ifs tt)
    (hk : ∀ (s : Shared) (H : Hp) (C : Addr) (cl : List (Str × Addr)) (fp : List Addr), PE (X.blk s H scope (compEnvC scope cl C X.env) fp) ek tk)
    (he : ∀ (s : Shared) (H : Hp) (C : Addr) (cl : List (Str × Addr)) (fp : List Addr), PE (X.blk s H scope (compEnvC scope cl C X.env) fp) ev tv)
    (hs : ∀ x, foldedSetIterable ia X.env x = pure x := by intro _; rfl) : PE X (.DictComp ek ev [⟨ta, ia, ifs, 0⟩] scope pos) (tDu o0 wi g tt tk tv (own.map (·.2))) := by
  refine ⟨fun pins s σ H Q I h => ?_⟩
  rw [arm_eval_DictComp]
  refine du_core nd hu hc hN I hi ok hg ht hk he hs h fun D C s' m H' I' q hn f => ⟨m, hn, fun h2 sb => ?_⟩
  have ⟨f0, f1, _, f3, f4, f5⟩ := f
  exact ⟨.ref D, H', I'.turned (t' := s'.toks) (fun b o hb e => (sb.2 b hb).trans e) f0 f1 f3 f4 f5, rfl, q⟩
/-- the dict into a local, on one line -/
theorem ps_setDu {o0 : HO} (nd : NewDict o0) (hu : X.A.units + 1 < cLine) {ek ev ta ia : Expr} {ifs : List Expr} {scope : Scope} {own : List (Str × Nat)} {pos spos py : Pos} {wi : TI} {g : TG} {tt : TT} {tk tv : TE} {i : Nat} {y : Str} (hc : X.calm = true) (hN : X.N.Nodup) (hy : X.N[i]? = some y) (hyl : X.env.scope.names.lookup y = some .local)
    (hsw : swapsWith (.DictComp ek ev [⟨ta, ia, ifs, 0⟩] scope pos) (some (.Name y py)) spos.line X.env = pure true) (hi : PI X ta ia wi) (ok : BlkOk X.N X.env.scope scope own)
    (hg : ∀ (s : Shared) (H : Hp) (C : Addr) (cl : List (Str × Addr)) (fp : List Addr), PG (X.blk s H scope (compEnvC scope cl C X.env) fp) ta g)
    (ht : ∀ (s : Shared) (H : Hp) (C : Addr) (cl : List (Str × Addr)) (fp : List Addr), PTs (X.blk s H scope (compEnvC scope cl C X.env) fp) ifs tt)
    (hk : ∀ (s : Shared) (H : Hp) (C : Addr) (cl : List (Str × Addr)) (fp : List Addr), PE (X.blk s H scope (compEnvC scope cl C X.env) fp) ek tk)
    (he : ∀ (s : Shared) (H : Hp) (C : Addr) (cl : List (Str × Addr)) (fp : List Addr), PE (X.blk s H scope (compEnvC scope cl C X.env) fp) ev tv)
    (hs : ∀ x, foldedSetIterable ia X.env x = pure x := by intro _; rfl) : PS X (.Assign [.Name y py] (.DictComp ek ev [⟨ta, ia, ifs, 0⟩] scope pos) spos) (tAsg (tDu o0 wi g tt tk tv (own.map (·.2))) (gName i)) := by
  refine ⟨fun pins s σ H D I h => ?_⟩
  rw [exec_Assign_Name_used _ _ _ _ hsw]
  refine wpAny_bind (wpAny_standAt (wpAny_bind ?_))
  show wpAny _ X.A (comprehension (.DictComp ek ev [⟨ta, ia, ifs, 0⟩] scope pos) scope X.env (firstIterPos [⟨ta, ia, ifs, 0⟩] pos) newDict false (eval ia X.env) (some (assign (.Name y py) X.env)) >>= fun _ => _) _ _ s
  have laid : tDu o0 wi g tt tk tv (own.map (·.2)) σ H (fun x H1 => gName i x σ H1 D.nx) := h
  refine wpAny_bind (thn (du_core (Qf := fun _ s' => SP X pins D .next s') nd hu hc hN I hi ok hg ht hk he hs laid fun L C s' m H' I' q hn f => ?_) fun _ s' hq => wpAny_pure (wpAny_pure hq))
  show wpAny _ _ (assign (.Name y py) X.env (.ref L)) _ _ _
  have ⟨f0, f1, _, f3, f4, f5⟩ := f
  refine wpAny_assign_Name (store_ok2 (v := V.ref L) I' hN hy (.inl hyl) rfl (fun s2 I2 ⟨a, sb, ha⟩ => ?_) (.inr hyl))
  have apart : C ≠ a := ha.elim (fun z => by rw [z]; exact f1) fun z e => f4 y a z e.symm
  exact ⟨m, hn.sameBut sb apart, fun h3 sb3 => ⟨_, H', I2.turned (t' := s2.toks) (fun b o hb e => (sb3.2 b hb).trans e) f0 f1 f3 f4 f5, q⟩⟩
theorem swd_true {ek ev : Expr} {gs : List Comprehension} {scope : Scope} {pos py : Pos} {y : Str} {l : Nat} {env : PySem.Env} (h1 : env.scope.kind = .function) (h2 : env.scope.names.lookup y = some .local) (h3 : (py.line == pos.line) = true) (h4 : (scope.names.any fun (n, k) => n == y && (k == .local || k == .cell)) = false) :
    swapsWith (.DictComp ek ev gs scope pos) (some (.Name y py)) l env = pure true := by
  have e1 : env.kindOf y = some .local := h2
  have e2 : env.blockKind = .function := by unfold PySem.Env.blockKind; rw [h1]; rfl
  unfold swapsWith
  simp only [e2, e1, h4, Expr.pos, h3]
  rfl
end
end Sx
end

section
set_option Elab.async false
set_option linter.all false
set_option maxRecDepth 100000
set_option maxHeartbeats 4000000
/-! The data layer, part 17: dict comprehensions. -/
namespace Dl
open PySem PySem.Spec PyProof.Rows L2 Sx
section
variable {CA : Nat → Addr} {X : Cx} {a b c e o : Expr} {es : List Expr} {pos p apos : Pos} {da db dc : VDen} {dA : ADen} {ta tb : TDen} {dF : FDen} {dG : GDen} {n k i : Nat}
def dcD (dG : GDen) (tt : TDen) (dk dv : VDen) (vs : List Nat) (s0 : Env) : List D → Tag → List D → (Tag → List D → Prop) → Prop
  | [], t, acc, P => P t acc
  | d :: ds, t, acc, P => dG d (wipeE s0 vs) fun s2 => tt s2 fun b s3 => if b = true then dk s3 fun k s4 => dv s4 fun r s5 => wipeE s5 vs = wipeE s0 vs ∧ acc.length < 100000 ∧ ∃ t2 acc2, dputE t acc k r = some (t2, acc2) ∧ dcD dG tt dk dv vs s0 ds t2 acc2 P
      else wipeE s3 vs = wipeE s0 vs ∧ dcD dG tt dk dv vs s0 ds t acc P
inductive DTag : Tag → HO → Prop
  | k : DTag (.dk []) (.dK [])
  | t : DTag (.dt []) (.dT [])
@[simp] def dDc (t0 : Tag) (dI : IDen) (dG : GDen) (tt : TDen) (dk dv : VDen) (vs : List Nat) : FDen := fun s P => dI s fun ds s0 => plainAt s0 vs ∧ dcD dG tt dk dv vs s0 ds t0 [] fun t acc => P t acc s0
theorem DTag.new {t : Tag} {o : HO} : DTag t o → NewDict o
  | .k => .k
  | .t => .t
theorem DTag.is {t : Tag} {o : HO} : DTag t o → Is CA t [] o
  | .k => ⟨[], rfl, rfl, rfl⟩
  | .t => ⟨[], rfl, rfl, rfl⟩
theorem DTag.mut {t : Tag} {o : HO} : DTag t o → t.mutable
  | .k => True.intro
  | .t => True.intro
theorem mutable_ne {t : Tag} (h : t.mutable) : t ≠ .tup := by
  rintro rfl
  exact h
theorem dc_w {t0 : Tag} {o0 : HO} (dt : DTag t0 o0) {ws vs : List Nat} {dI : IDen} {tt : TDen} {dk dv : VDen} (hsub : ∀ j ∈ ws, j ∈ vs) {σ : L2.St} {H : Hp} {Q : VK} (h : liftF CA (dDc t0 dI dG tt dk dv vs) σ H Q) : tDu o0 (liftI CA dI) (liftG CA ws dG) (liftT CA tt) (liftV CA dk) (liftV CA dv) vs σ H Q := by
  obtain ⟨β, s, F, P, R, h, q⟩ := h
  refine ⟨β, s, F, _, R, h, fun ds s0 ⟨pl, h0⟩ J H0 F0 R0 E0 dr A hA => ?_⟩
  have hA0 : H A = none := E0.dm hA
  refine ⟨fun i m H1 => m = ds.length - i ∧ i ≤ ds.length ∧ ∃ F1 t acc vacc ob, Rel CA β s0 σ H1 F1 ∧ Ext β s0 σ H0 F0 s0 σ H1 F1 ∧ H1 A = some ob ∧ Is CA t vacc ob ∧ t.mutable ∧ Reps CA F1 acc vacc ∧ F1 A = none ∧ dcD dG tt dk dv vs s0 (ds.drop i) t acc fun t acc => P t acc s0,
    ⟨ds.length, by simp, Nat.zero_le _, F0, t0, [], [], o0, R0.new hA, .new hA, upd_same, dt.is, dt.mut, reps_nil, R0.sub.free hA, h0⟩, fun i m H1 ⟨em, hi, F1, t, acc, vacc, ob, R1, E1, a1, aI, aM, a2, a3, h1⟩ => ?_⟩
  have noA : ¬ Owned β s0 σ A := R0.noown hA
  have nt : ∀ xs, ob ≠ .tup xs := fun xs => Is.notup aI (mutable_ne aM)
  obtain ⟨d1, d2⟩ := dr i H1 F1 R1.sub E1.fz (E1.frzs R0)
  by_cases hl : i < ds.length
  · right
    have hd : ds[i]? = some ds[i] := List.getElem?_eq_getElem hl
    obtain ⟨g1, g2⟩ := d1 _ hd
    have e0 : ds.drop i = ds[i] :: ds.drop (i + 1) := List.drop_eq_getElem_cons hl
    rw [e0] at h1
    refine ⟨g1, fun H3 => ∃ F3 t acc vacc ob, Rel CA β s0 σ H3 F3 ∧ Ext β s0 σ H0 F0 s0 σ H3 F3 ∧ H3 A = some ob ∧ Is CA t vacc ob ∧ t.mutable ∧ Reps CA F3 acc vacc ∧ F3 A = none ∧ dcD dG tt dk dv vs s0 (ds.drop (i + 1)) t acc fun t acc => P t acc s0,
      fun H' z => ⟨ds.length - (i + 1), by omega, rfl, hl, z⟩, fun x H2 y => ?_⟩
    obtain ⟨F2, f1, f2, f3, f4, f5, f6⟩ := g2 x H2 y
    obtain ⟨R2, E2⟩ := R1.drive f1 f2 f3 f4 f5
    have a1' : H2 A = some ob := f3 _ _ a1
    have a3' : F2 A = none := (E2.stays R2.sub a1 noA a3 nt).2.1
    have Rw := R2.wiped vs
    have noAw : ¬ Owned β (wipeE s0 vs) (wipe σ vs) A := fun z => noA z.wiped
    refine ⟨β, _, F2, _, _, Rw, f6, h1, fun s3 h3 σ3 H3 F3 R3 E3 o3 => ⟨off_wipe ((wipe_off (σ := σ)).trans o3 |>.mono fun j hj => (List.mem_append.mp hj).elim id (hsub j)), β, s3, F3, _, R3, h3, fun b s4 h4 H4 F4 R4 E4 => ?_⟩⟩
    have o3' : Off vs (wipe σ vs) σ3 := o3.mono hsub
    have E34 := E3.trans E4
    cases b with
    | false =>
      simp only [Bool.false_eq_true, if_false] at h4 ⊢
      obtain ⟨hw, h5⟩ := h4
      obtain ⟨R5, E5⟩ := R2.unwiped pl R4 E34 o3' hw
      obtain ⟨t1, t2, t3⟩ := E34.stays R4.sub a1' noAw a3' nt
      exact ⟨F4, t, acc, vacc, ob, R5, (E1.trans E2).trans E5, t1, aI, aM, a2.mono (E2.trans E5).fz, t2, h5⟩
    | true =>
      simp only [if_true] at h4 ⊢
      refine ⟨β, s4, F4, _, R4, h4, fun k s5 h5 y H5 F5 R5 E5 r5 => ⟨β, s5, F5, _, R5, h5, fun r s6 h6 z H6 F6 R6 E6 r6 => ?_⟩⟩
      obtain ⟨hw, hz, t2', acc2, ep, h7⟩ := h6
      have E36 := (E34.trans E5).trans E6
      obtain ⟨R7, E7⟩ := R2.unwiped pl R6 E36 o3' hw
      obtain ⟨t1, t2, t3⟩ := E36.stays R6.sub a1' noAw a3' nt
      obtain ⟨o', vs', p1, p2, p3, p4⟩ := dputE_ok (H := H6) (F := F6) R6.sub ep t1 aI (a2.mono (E2.trans E7).fz) (r5.mono E6.fz) r6 hz
      exact ⟨_, p1, F6, t2', acc2, vs', o', R7.tmp t2 noA, ((E1.trans E2).trans E7).tmp hA, upd_same, p2, p4, p3, t2, h7⟩
  · left
    have e0 : ds[i]? = none := List.getElem?_eq_none (by omega)
    have e1 : ds.drop i = [] := List.drop_eq_nil_of_le (by omega)
    rw [e1] at h1
    exact ⟨d2 e0, q t acc s0 h1 A vacc H1 F1 R1 (E0.trans E1) ⟨_, a1, aI⟩ a2 a3 hA0 noA aM⟩
theorem df_dc {t0 : Tag} {o0 : HO} (dt : DTag t0 o0) (hu : X.A.units + 1 < cLine) {ws vs : List Nat} {ek ev tg iter : Expr} {ifs : List Expr} {scope : Scope} {own : List (Str × Nat)} {dI : IDen} {tt : TDen} {dk dv : VDen} (hc : X.calm = true) (hN : X.N.Nodup) (hi : DI CA X tg iter dI) (ok : BlkOk X.N X.env.scope scope own) (hv : own.map (·.2) = vs) (hsub : ∀ j ∈ ws, j ∈ vs)
    (hg : ∀ (s : Shared) (H : Hp) (C : Addr) (cl : List (Str × Addr)) (fp : List Addr), DG CA (X.blk s H scope (compEnvC scope cl C X.env) fp) tg ws dG) (ht : ∀ (s : Shared) (H : Hp) (C : Addr) (cl : List (Str × Addr)) (fp : List Addr), PTsD CA (X.blk s H scope (compEnvC scope cl C X.env) fp) ifs tt)
    (hk : ∀ (s : Shared) (H : Hp) (C : Addr) (cl : List (Str × Addr)) (fp : List Addr), DV CA (X.blk s H scope (compEnvC scope cl C X.env) fp) ek dk) (he : ∀ (s : Shared) (H : Hp) (C : Addr) (cl : List (Str × Addr)) (fp : List Addr), DV CA (X.blk s H scope (compEnvC scope cl C X.env) fp) ev dv)
    (hs : ∀ x, foldedSetIterable iter X.env x = pure x := by intro _; rfl) : DF CA X (.DictComp ek ev [⟨tg, iter, ifs, 0⟩] scope pos) (dDc t0 dI dG tt dk dv vs) := by
  subst hv
  exact ⟨pe_w (pe_du dt.new hu hc hN hi.pi ok (fun s H C cl fp => (hg s H C cl fp).pg) ht (fun s H C cl fp => (hk s H C cl fp).pe) (fun s H C cl fp => (he s H C cl fp).pe) hs) fun _ _ _ h => dc_w dt hsub h⟩
theorem ds_setDcO {t0 : Tag} {o0 : HO} (dt : DTag t0 o0) (hu : X.A.units + 1 < cLine) {ws vs : List Nat} {y : Str} {py spos : Pos} {ek ev tg iter : Expr} {ifs : List Expr} {scope : Scope} {own : List (Str × Nat)} {dI : IDen} {tt : TDen} {dk dv : VDen} (hc : X.calm = true) (hN : X.N.Nodup) (hi : DI CA X tg iter dI) (ok : BlkOk X.N X.env.scope scope own) (hv : own.map (·.2) = vs) (hsub : ∀ j ∈ ws, j ∈ vs)
    (hg : ∀ (s : Shared) (H : Hp) (C : Addr) (cl : List (Str × Addr)) (fp : List Addr), DG CA (X.blk s H scope (compEnvC scope cl C X.env) fp) tg ws dG) (ht : ∀ (s : Shared) (H : Hp) (C : Addr) (cl : List (Str × Addr)) (fp : List Addr), PTsD CA (X.blk s H scope (compEnvC scope cl C X.env) fp) ifs tt)
    (hk : ∀ (s : Shared) (H : Hp) (C : Addr) (cl : List (Str × Addr)) (fp : List Addr), DV CA (X.blk s H scope (compEnvC scope cl C X.env) fp) ek dk) (he : ∀ (s : Shared) (H : Hp) (C : Addr) (cl : List (Str × Addr)) (fp : List Addr), DV CA (X.blk s H scope (compEnvC scope cl C X.env) fp) ev dv)
    (hy : X.N[i]? = some y := by rfl) (hyl : X.env.scope.names.lookup y = some .local := by rfl)
    (hsw : swapsWith (.DictComp ek ev [⟨tg, iter, ifs, 0⟩] scope pos) (some (.Name y py)) spos.line X.env = pure true := by exact Sx.swd_true rfl rfl rfl (by decide +kernel)) (hs : ∀ x, foldedSetIterable iter X.env x = pure x := by intro _; rfl) :
    DS CA X (.Assign [.Name y py] (.DictComp ek ev [⟨tg, iter, ifs, 0⟩] scope pos) spos) (dSetO i (dDc t0 dI dG tt dk dv vs)) := by
  subst hv
  exact ⟨ps_w (ps_setDu dt.new hu hc hN hy hyl hsw hi.pi ok (fun s H C cl fp => (hg s H C cl fp).pg) ht (fun s H C cl fp => (hk s H C cl fp).pe) (fun s H C cl fp => (he s H C cl fp).pe) hs) fun D σ H ⟨β, s, F, E, R, h, q⟩ =>
  dc_w dt hsub ⟨β, s, F, _, R, h, fun t ds s1 h1 a vs H1 F1 R1 E1 z1 z2 z3 z4 z5 z6 => q.nx _ h1 _ H1 F1 (R1.setO i z1 z2 z3 z5 z6) (E1.setO R1.len z4)⟩⟩
end
end Dl
end

section
set_option Elab.async false
set_option linter.all false
set_option maxRecDepth 100000
set_option maxHeartbeats 4000000
/-! The data layer, part 18: walks over the keys of a field's dict. -/
namespace Dl
open PySem PySem.Spec PyProof.Rows L2 Sx
section
variable {CA : Nat → Addr} {β : Beta} {s s1 : Env} {σ σ1 : L2.St} {H H' F F' : Hp} {d : Addr} {u : HO}
/-- what slot i's instance of the class c holds at f -/
@[simp] def attrE (s : Env) (i c : Nat) (f : Str) : Option D := match s[i]? with
  | some (some (.val (.node (.ins c' ns) ds))) => if c' = c then look ns ds f else none
  | some (some (.own (.ins c' ns) ds)) => if c' = c then look ns ds f else none
  | _ => none
theorem attrE_ok (R : Rel CA β s σ H F) {i c : Nat} {f : Str} {ks : List Key} {ds : List D} (h : attrE s i c f = some (.node (.dk ks) ds)) : ∃ (a dx : Addr) (fs : List (Str × V)) (d : Addr) (kvs : List (Key × V)),
    σ[i]? = some (some (.ref a)) ∧ H a = some (.ins (CA c) dx fs) ∧ fs.lookup f = some (.ref d) ∧ F d = some (.dK kvs) ∧ kvs.map (·.1) = ks ∧ Reps CA F ds (kvs.map (·.2)) := by
  have fin : ∀ {fs : List (Str × V)} {es : List D}, Reps CA F es (fs.map (·.2)) → look (fs.map (·.1)) es f = some (.node (.dk ks) ds) → ∃ (d : Addr) (kvs : List (Key × V)), fs.lookup f = some (.ref d) ∧ F d = some (.dK kvs) ∧ kvs.map (·.1) = ks ∧ Reps CA F ds (kvs.map (·.2)) := fun r e => by
    obtain ⟨v, l, rv⟩ := (lookup_ok f r).1 _ e
    obtain ⟨d, vs, rfl, ⟨ob, f1, kvs, rfl, f2, rfl⟩, f3⟩ := rv.node_eq
    exact ⟨d, kvs, l, f1, f2, f3⟩
  unfold attrE at h
  split at h
  · next c' ns es e =>
    split at h
    · next ec =>
      subst ec
      obtain ⟨v, e1, rv⟩ := R.val i _ e
      obtain ⟨a, vs, rfl, ⟨ob, f1, dx, fs, rfl, rfl, rfl⟩, f3⟩ := rv.node_eq
      obtain ⟨d, kvs, g⟩ := fin f3 h
      exact ⟨a, dx, fs, d, kvs, e1, R.sub.nd f1 fun z => z, g⟩
    · cases h
  · next c' ns es e =>
    split at h
    · next ec =>
      subst ec
      obtain ⟨a, vs, e1, ⟨ob, f1, dx, fs, rfl, rfl, rfl⟩, f3, _⟩ := R.own i _ _ e
      obtain ⟨d, kvs, g⟩ := fin f3 h
      exact ⟨a, dx, fs, d, kvs, e1, f1, g⟩
    · cases h
  · cases h
theorem Rel.lock (R : Rel CA β s σ H F) (e : F d = some u) (hu : isDict u) (od : Obj) : Rel CA β s σ (upd H d (.frz od u)) F where
  sub := fun b o z => by
    by_cases q : b = d
    · subst q
      rw [e] at z
      cases z
      exact .inr ⟨hu, od, upd_same⟩
    · rw [upd_ne q]
      exact R.sub b o z
  len := R.len
  val := R.val
  own := fun i t ds z => by
    obtain ⟨a, vs, e1, ⟨ob, f1, f2⟩, f3, f4, f5⟩ := R.own i t ds z
    have n : a ≠ d := fun q => by subst q; rw [f4] at e; cases e
    exact ⟨a, vs, e1, ⟨ob, by rw [upd_ne n]; exact f1, f2⟩, f3, f4, f5⟩
  inj := R.inj
  bag := R.bag
  bok := fun b z => by
    obtain ⟨k1, k2⟩ := R.bok b z
    have n : b ≠ d := fun q => by subst q; rw [k2] at e; cases e
    exact ⟨k1.mono (by rw [upd_ne n]) fun _ _ z => z, k2⟩
theorem Sub.unlock (h : Sub F H) (e : F d = some u) : Sub F (upd H d u) := fun b o z => by
  by_cases q : b = d
  · subst q
    rw [e] at z
    cases z
    exact .inl upd_same
  · rw [upd_ne q]
    exact h b o z
theorem BOk.unlock (h : BOk β H F) (e : F d = some u) : BOk β (upd H d u) F := fun b z => by
  obtain ⟨k1, k2⟩ := h b z
  have n : b ≠ d := fun q => by subst q; rw [k2] at e; cases e
  exact ⟨k1.mono (by rw [upd_ne n]) fun _ _ z => z, k2⟩
theorem At.unlock {t : Tag} {a : Addr} {vs : List V} (h : At CA H t a vs) (n : a ≠ d) : At CA (upd H d u) t a vs := by
  obtain ⟨o, e1, e2⟩ := h
  exact ⟨o, by rw [upd_ne n]; exact e1, e2⟩
theorem Rel.unlock (R : Rel CA β s σ H F) (e : F d = some u) : Rel CA β s σ (upd H d u) F where
  sub := R.sub.unlock e
  len := R.len
  val := R.val
  own := fun i t ds z => by
    obtain ⟨a, vs, e1, f1, f3, f4, f5⟩ := R.own i t ds z
    have n : a ≠ d := fun q => by subst q; rw [f4] at e; cases e
    exact ⟨a, vs, e1, f1.unlock n, f3, f4, f5⟩
  inj := R.inj
  bag := R.bag
  bok := R.bok.unlock e
theorem XT.unlock {M : Addr → Prop} {od : Obj} (x : XT M (upd H d (.frz od u)) F H' F') (e : H d = some u) : XT M H F (upd H' d u) F' where
  fz := x.fz
  nw := fun b o z => by
    rcases x.nw b o z with q | q | q | q
    · exact .inl q
    · by_cases y : b = d
      · rw [y, upd_same] at q; cases q
      · rw [upd_ne y] at q; exact .inr (.inl q)
    · exact .inr (.inr (.inl q))
    · exact .inr (.inr (.inr q))
  kp := fun b o z n => by
    by_cases y : b = d
    · subst y
      rw [e] at z
      rw [upd_same]
      exact z
    · rw [upd_ne y]
      exact x.kp b o (by rw [upd_ne y]; exact z) n
  dm := fun b z => by
    by_cases y : b = d
    · rw [y, upd_same] at z; cases z
    · rw [upd_ne y] at z
      have := x.dm b z
      rw [upd_ne y] at this
      exact this
theorem Ext.unlock {od : Obj} (x : Ext β s σ (upd H d (.frz od u)) F s1 σ1 H' F') (e : H d = some u) : Ext β s σ H F s1 σ1 (upd H' d u) F' where
  xt := x.xt.unlock e
  ow := fun b z => by
    rcases x.ow b z with q | q
    · exact .inl q
    · by_cases y : b = d
      · rw [y, upd_same] at q; cases q
      · rw [upd_ne y] at q; exact .inr q
/-- the field's dict is locked -/
def Locked (CA : Nat → Addr) (i c : Nat) (f : Str) (σ : L2.St) (H : Hp) : Prop := ∀ (a dx : Addr) (fs : List (Str × V)) (d : Addr), σ[i]? = some (some (.ref a)) → H a = some (.ins (CA c) dx fs) → fs.lookup f = some (.ref d) → ∃ od u, H d = some (.frz od u)
theorem lock_put {i c : Nat} {f : Str} {a dx : Addr} {fs : List (Str × V)} {od : Obj} (e1 : σ[i]? = some (some (.ref a))) (e2 : H a = some (.ins (CA c) dx fs)) (e3 : fs.lookup f = some (.ref d)) (n : a ≠ d) : Locked CA i c f σ (upd H d (.frz od u)) := fun a' dx' fs' d' z1 z2 z3 => by
  rw [e1] at z1
  cases z1
  rw [upd_ne n, e2] at z2
  cases z2
  rw [e3] at z3
  cases z3
  exact ⟨od, u, upd_same⟩
end
section
variable {CA : Nat → Addr} {X : Cx} {a b c e o : Expr} {es : List Expr} {pos p apos : Pos} {da db dc : VDen} {dA : ADen} {ta tb : TDen} {dF : FDen} {dG : GDen} {dS : SDen} {n k i : Nat}
/-- a statement that walks the keys of slot i's field f -/
theorem ds_locked {st : Stmt} {t : TS} {den : SDen} (i c : Nat) (f : Str) (h : PS X st t) (ha : ∀ s E, den s E → ∃ ks ds, attrE s i c f = some (.node (.dk ks) ds)) (w : ∀ D σ H, Locked CA i c f σ H → liftS CA den D σ H → t D σ H) : DS CA X st den := by
  refine ⟨⟨fun pins s σ H D I hl => ?_⟩⟩
  obtain ⟨β, sE, F, E, R, hd, q⟩ := hl
  obtain ⟨ks, ds, at0⟩ := ha sE E hd
  obtain ⟨a, dx, fs, d, kvs, e1, e2, e3, e4, _, _⟩ := attrE_ok R at0
  have nad : a ≠ d := fun z => by
    subst z
    rcases R.sub _ _ e4 with y | ⟨_, ob, y⟩ <;> rw [e2] at y <;> cases y
  rcases R.sub _ _ e4 with y | ⟨_, ob, y⟩
  · refine (ps_lock h).run pins s σ H D I ⟨d, .dK kvs, y, True.intro, fun od => ?_⟩
    have RL := R.lock e4 True.intro od
    have keep : ∀ {s' : Env} {σ' : L2.St} {H' F' : Hp}, Ext β sE σ (upd H d (.frz od (.dK kvs))) F s' σ' H' F' → H' d = some (.frz od (.dK kvs)) ∧ F' d = some (.dK kvs) := fun x => ⟨x.frzs RL d od _ upd_same, x.xt.fz _ _ e4⟩
    have keepX : ∀ {H' F' : Hp}, XT (Owned β sE σ) (upd H d (.frz od (.dK kvs))) F H' F' → H' d = some (.frz od (.dK kvs)) ∧ F' d = some (.dK kvs) := fun {H' F'} x => keep (s' := sE) (σ' := σ) ⟨x, fun b z => .inl z⟩
    refine w _ _ _ (lock_put e1 e2 e3 nad) ⟨β, sE, F, E, RL, hd, ⟨fun s' z σ' H' F' R' x => ⟨(keep x).1, q.nx s' z σ' _ F' (R'.unlock (keep x).2) (x.unlock y)⟩, fun dd z v H' F' x sub bok rv => ⟨(keepX x).1, q.rt dd z v _ F' (x.unlock y) (sub.unlock (keepX x).2) (bok.unlock (keepX x).2) rv⟩,
      fun tg es z a2 vs H' F' x sub bok z1 z2 z3 z4 z5 z6 => ⟨(keepX x).1, q.rf tg es z a2 vs _ F' (x.unlock y) (sub.unlock (keepX x).2) (bok.unlock (keepX x).2) (z1.unlock fun g => ?_) z2 z3 z4 z5 (z6.imp (fun g => ?_) id)⟩, fun s' z σ' H' F' R' x => ⟨(keep x).1, q.bk s' z σ' _ F' (R'.unlock (keep x).2) (x.unlock y)⟩, fun s' z σ' H' F' R' x => ⟨(keep x).1, q.ct s' z σ' _ F' (R'.unlock (keep x).2) (x.unlock y)⟩⟩⟩
    · subst g
      rw [(keepX x).2] at z3
      cases z3
    · by_cases g2 : a2 = d
      · rw [g2, upd_same] at g; cases g
      · rw [upd_ne g2] at g; exact g
  · refine h.run pins s σ H D I (w D σ H (fun a' dx' fs' d' z1 z2 z3 => ?_) ⟨β, sE, F, E, R, hd, q⟩)
    rw [e1] at z1
    cases z1
    rw [e2] at z2
    cases z2
    rw [e3] at z3
    cases z3
    exact ⟨ob, _, y⟩
/-- the keys -/
def diKeys (i c : Nat) (f : Str) : IDen := fun s P => match attrE s i c f with
  | some (.node (.dk ks) _) => P (ks.map keyD) s
  | _ => False
theorem diKeys_eq {i c : Nat} {f : Str} {s : Env} {P : List D → Env → Prop} (h : diKeys i c f s P) : ∃ ks ds, attrE s i c f = some (.node (.dk ks) ds) ∧ P (ks.map keyD) s := by
  unfold diKeys at h
  split at h
  · next ks ds e => exact ⟨ks, ds, e, h⟩
  · exact h.elim
theorem keys_w {i c : Nat} {f : Str} {σ : L2.St} {H : Hp} {R : It → Hp → Prop} (hc : Cls X.K (CA c)) (hn : NoAttr X.K (CA c) f) (L : Locked CA i c f σ H) (h : liftI CA (diKeys i c f) σ H R) : iKeys (tFld X.K (tVar i) f) σ H R := by
  obtain ⟨β, s, F, P, R0, h, q⟩ := h
  obtain ⟨ks, ds, at0, hP⟩ := diKeys_eq h
  obtain ⟨a, dx, fs, d, kvs, e1, e2, e3, e4, rfl, e6⟩ := attrE_ok R0 at0
  obtain ⟨od, u, e7⟩ := L a dx fs d e1 e2 e3
  have e8 : H d = some (.frz od (.dK kvs)) := by
    rcases R0.sub _ _ e4 with y | ⟨_, ob, y⟩ <;> rw [e7] at y <;> cases y
    exact e7
  refine ⟨.ref a, e1, a, CA c, dx, fs, .ref d, rfl, e2, hc, hn, e3, d, od, rfl, .inl ⟨kvs, e8, q _ s hP _ H F R0 .refl fun j H1 F1 sub sm fr => ?_⟩⟩
  have e9 := fr _ _ _ e8
  refine ⟨fun dd hd => ?_, fun hd => ?_⟩
  · rw [List.getElem?_map, List.getElem?_map] at hd
    cases g : kvs[j]? with
    | none => rw [g] at hd; cases hd
    | some kv =>
      rw [g] at hd
      cases hd
      refine ⟨⟨e9, (List.getElem?_eq_some_iff.mp g).1⟩, fun x H2 y => ?_⟩
      obtain ⟨rfl, k, v, g2, rfl⟩ := y
      rw [g] at g2
      cases g2
      exact ⟨F1, fun _ _ z => z, fun _ _ z => .inl z, fun _ _ z => z, fun _ z => z, sub, keyD_rep k⟩
  · refine ⟨e9, ?_⟩
    have := List.getElem?_eq_none_iff.mp hd
    rw [List.length_map, List.length_map] at this
    exact this
abbrev selfF (o : Expr) (f : Str) (fpos : Pos) : Expr := .Attribute o f fpos
theorem ds_forK {tg : Expr} {bs : List Stmt} {ws : List Nat} {f : Str} {fpos : Pos} (c : Nat) (hp : PassesOwn (model X.prog X.w) X.A X.env X.xe) (hm : X.calm = true) (hc : Cls X.K (CA c)) (hn : NoAttr X.K (CA c) f) (hx : PE X o (tVar i)) (hg : DG CA X tg ws dG) (hb : DSs CA X bs dS)
    (hat : attributeBase o f X.env (eval o X.env) = eval o X.env := by rfl) (hs : ∀ x, foldedSetIterable (selfF o f fpos) X.env x = pure x := by intro _; rfl) :
    DS CA X (.For tg (selfF o f fpos) bs [] pos) (dFor (diKeys i c f) dG dS) := by
  refine ds_locked i c f (ps_for hp hm (pi_keys (pe_fld hx hat)) hg.pg hb.ps hs) (fun s E h => ?_) fun D σ H L h => keys_w hc hn L (for_w h)
  obtain ⟨ks, ds, e, _⟩ := diKeys_eq (show diKeys i c f s _ from h)
  exact ⟨ks, ds, e⟩
theorem ds_setLcK {ws vs : List Nat} {f : Str} {fpos : Pos} (c : Nat) {y : Str} {py spos : Pos} {elt tg : Expr} {ifs : List Expr} {scope : Scope} {own : List (Str × Nat)} {j : Nat} {tt : TDen} {te : VDen} (hm : X.calm = true) (hN : X.N.Nodup) (hc : Cls X.K (CA c)) (hn : NoAttr X.K (CA c) f) (hx : PE X o (tVar i)) (ok : BlkOk X.N X.env.scope scope own) (hv : own.map (·.2) = vs) (hsub : ∀ j ∈ ws, j ∈ vs)
    (hg : ∀ (s : Shared) (H : Hp) (C : Addr) (cl : List (Str × Addr)) (fp : List Addr), DG CA (X.blk s H scope (compEnvC scope cl C X.env) fp) tg ws dG) (ht : ∀ (s : Shared) (H : Hp) (C : Addr) (cl : List (Str × Addr)) (fp : List Addr), PTsD CA (X.blk s H scope (compEnvC scope cl C X.env) fp) ifs tt)
    (he : ∀ (s : Shared) (H : Hp) (C : Addr) (cl : List (Str × Addr)) (fp : List Addr), DV CA (X.blk s H scope (compEnvC scope cl C X.env) fp) elt te)
    (hat : attributeBase o f X.env (eval o X.env) = eval o X.env := by rfl) (hy : X.N[j]? = some y := by rfl) (hyl : X.env.scope.names.lookup y = some .local := by rfl)
    (hsw : swapsWith (.ListComp elt [⟨tg, selfF o f fpos, ifs, 0⟩] scope pos) (some (.Name y py)) spos.line X.env = pure true := by exact sw_true rfl rfl rfl (by decide +kernel)) (hs : ∀ x, foldedSetIterable (selfF o f fpos) X.env x = pure x := by intro _; rfl) :
    DS CA X (.Assign [.Name y py] (.ListComp elt [⟨tg, selfF o f fpos, ifs, 0⟩] scope pos) spos) (dSet j (dFz (dLc (diKeys i c f) dG tt te vs))) := by
  subst hv
  refine ds_locked i c f (ps_setLc hm hN hy hyl hsw (pi_keys (pe_fld hx hat)) ok (fun s H C cl fp => (hg s H C cl fp).pg) ht (fun s H C cl fp => (he s H C cl fp).pe) hs) (fun s E h => ?_) fun D σ H L ⟨β, s, F, E, R, h, q⟩ =>
    keys_w hc hn L (lc_w hsub (liftFz ⟨β, s, F, _, R, h, fun d s1 h1 v H1 F1 R1 E1 r1 => q.nx _ h1 _ H1 F1 (R1.setV j r1) (E1.trans (.setV R1.len))⟩))
  simp only [dSet, dFz, dLc, dRet, dDc, dSetO] at h
  obtain ⟨ks, ds, e, _⟩ := diKeys_eq h
  exact ⟨ks, ds, e⟩
theorem ds_retLcK {ws vs : List Nat} {f : Str} {fpos : Pos} (c : Nat) {spos : Pos} {elt tg : Expr} {ifs : List Expr} {scope : Scope} {own : List (Str × Nat)} {tt : TDen} {te : VDen} (hm : X.calm = true) (hN : X.N.Nodup) (hc : Cls X.K (CA c)) (hn : NoAttr X.K (CA c) f) (hx : PE X o (tVar i)) (ok : BlkOk X.N X.env.scope scope own) (hv : own.map (·.2) = vs) (hsub : ∀ j ∈ ws, j ∈ vs)
    (hg : ∀ (s : Shared) (H : Hp) (C : Addr) (cl : List (Str × Addr)) (fp : List Addr), DG CA (X.blk s H scope (compEnvC scope cl C X.env) fp) tg ws dG) (ht : ∀ (s : Shared) (H : Hp) (C : Addr) (cl : List (Str × Addr)) (fp : List Addr), PTsD CA (X.blk s H scope (compEnvC scope cl C X.env) fp) ifs tt)
    (he : ∀ (s : Shared) (H : Hp) (C : Addr) (cl : List (Str × Addr)) (fp : List Addr), DV CA (X.blk s H scope (compEnvC scope cl C X.env) fp) elt te)
    (hat : attributeBase o f X.env (eval o X.env) = eval o X.env := by rfl) (hs : ∀ x, foldedSetIterable (selfF o f fpos) X.env x = pure x := by intro _; rfl) :
    DS CA X (.Return (some (.ListComp elt [⟨tg, selfF o f fpos, ifs, 0⟩] scope pos)) spos) (dRet (dFz (dLc (diKeys i c f) dG tt te vs))) := by
  subst hv
  refine ds_locked i c f (ps_ret (pe_lc hm hN (pi_keys (pe_fld hx hat)) ok (fun s H C cl fp => (hg s H C cl fp).pg) ht (fun s H C cl fp => (he s H C cl fp).pe) hs)) (fun s E h => ?_) fun D σ H L ⟨β, s, F, E, R, h, q⟩ =>
    keys_w hc hn L (lc_w hsub (liftFz ⟨β, s, F, _, R, h, fun d s1 h1 v H1 F1 R1 E1 r1 => ?_⟩))
  · simp only [dSet, dFz, dLc, dRet, dDc, dSetO] at h
    obtain ⟨ks, ds, e, _⟩ := diKeys_eq h
    exact ⟨ks, ds, e⟩
  · exact q.rt _ h1 v H1 F1 E1.xt R1.sub R1.bok r1
theorem ds_setDcK {t0 : Tag} {o0 : HO} (dt : DTag t0 o0) (hu : X.A.units + 1 < cLine) {ws vs : List Nat} {f : Str} {fpos : Pos} (c : Nat) {y : Str} {py spos : Pos} {ek ev tg : Expr} {ifs : List Expr} {scope : Scope} {own : List (Str × Nat)} {j : Nat} {tt : TDen} {dk dv : VDen} (hm : X.calm = true) (hN : X.N.Nodup) (hc : Cls X.K (CA c)) (hn : NoAttr X.K (CA c) f) (hx : PE X o (tVar i)) (ok : BlkOk X.N X.env.scope scope own) (hv : own.map (·.2) = vs) (hsub : ∀ j ∈ ws, j ∈ vs)
    (hg : ∀ (s : Shared) (H : Hp) (C : Addr) (cl : List (Str × Addr)) (fp : List Addr), DG CA (X.blk s H scope (compEnvC scope cl C X.env) fp) tg ws dG) (ht : ∀ (s : Shared) (H : Hp) (C : Addr) (cl : List (Str × Addr)) (fp : List Addr), PTsD CA (X.blk s H scope (compEnvC scope cl C X.env) fp) ifs tt)
    (hk : ∀ (s : Shared) (H : Hp) (C : Addr) (cl : List (Str × Addr)) (fp : List Addr), DV CA (X.blk s H scope (compEnvC scope cl C X.env) fp) ek dk) (he : ∀ (s : Shared) (H : Hp) (C : Addr) (cl : List (Str × Addr)) (fp : List Addr), DV CA (X.blk s H scope (compEnvC scope cl C X.env) fp) ev dv)
    (hat : attributeBase o f X.env (eval o X.env) = eval o X.env := by rfl) (hy : X.N[j]? = some y := by rfl) (hyl : X.env.scope.names.lookup y = some .local := by rfl)
    (hsw : swapsWith (.DictComp ek ev [⟨tg, selfF o f fpos, ifs, 0⟩] scope pos) (some (.Name y py)) spos.line X.env = pure true := by exact Sx.swd_true rfl rfl rfl (by decide +kernel)) (hs : ∀ x, foldedSetIterable (selfF o f fpos) X.env x = pure x := by intro _; rfl) :
    DS CA X (.Assign [.Name y py] (.DictComp ek ev [⟨tg, selfF o f fpos, ifs, 0⟩] scope pos) spos) (dSetO j (dDc t0 (diKeys i c f) dG tt dk dv vs)) := by
  subst hv
  refine ds_locked i c f (ps_setDu dt.new hu hm hN hy hyl hsw (pi_keys (pe_fld hx hat)) ok (fun s H C cl fp => (hg s H C cl fp).pg) ht (fun s H C cl fp => (hk s H C cl fp).pe) (fun s H C cl fp => (he s H C cl fp).pe) hs) (fun s E h => ?_) fun D σ H L ⟨β, s, F, E, R, h, q⟩ =>
    keys_w hc hn L (dc_w (Q := fun x H1 => gName j x σ H1 D.nx) dt hsub ⟨β, s, F, _, R, h, fun t ds s1 h1 a vs H1 F1 R1 E1 z1 z2 z3 z4 z5 z6 => q.nx _ h1 _ H1 F1 (R1.setO j z1 z2 z3 z5 z6) (E1.setO R1.len z4)⟩)
  simp only [dSet, dFz, dLc, dRet, dDc, dSetO] at h
  obtain ⟨ks, ds, e, _⟩ := diKeys_eq h
  exact ⟨ks, ds, e⟩
/-- .. into a name of a cell -/
theorem ds_setDcKC {t0 : Tag} {o0 : HO} (dt : DTag t0 o0) (hu : X.A.units + 1 < cLine) {ws vs : List Nat} {f : Str} {fpos : Pos} (c : Nat) {y : Str} {py spos : Pos} {ek ev tg : Expr} {ifs : List Expr} {scope : Scope} {own : List (Str × Nat)} {j : Nat} {tt : TDen} {dk dv : VDen} (hm : X.calm = true) (hN : X.N.Nodup) (hc : Cls X.K (CA c)) (hn : NoAttr X.K (CA c) f) (hx : PE X o (tVar i)) (ok : BlkOk X.N X.env.scope scope own) (hv : own.map (·.2) = vs) (hsub : ∀ j ∈ ws, j ∈ vs)
    (hg : ∀ (s : Shared) (H : Hp) (C : Addr) (cl : List (Str × Addr)) (fp : List Addr), DG CA (X.blk s H scope (compEnvC scope cl C X.env) fp) tg ws dG) (ht : ∀ (s : Shared) (H : Hp) (C : Addr) (cl : List (Str × Addr)) (fp : List Addr), PTsD CA (X.blk s H scope (compEnvC scope cl C X.env) fp) ifs tt)
    (hk : ∀ (s : Shared) (H : Hp) (C : Addr) (cl : List (Str × Addr)) (fp : List Addr), DV CA (X.blk s H scope (compEnvC scope cl C X.env) fp) ek dk) (he : ∀ (s : Shared) (H : Hp) (C : Addr) (cl : List (Str × Addr)) (fp : List Addr), DV CA (X.blk s H scope (compEnvC scope cl C X.env) fp) ev dv)
    (hat : attributeBase o f X.env (eval o X.env) = eval o X.env := by rfl) (hy : X.N[j]? = some y := by rfl) (hyl : Loc X.env.scope y := by first | exact .inl rfl | exact .inr rfl) (hyf : X.fn y = true ∨ X.env.scope.names.lookup y = some .local := by first | exact .inl rfl | exact .inr rfl)
    (hsw : swapsWith (.DictComp ek ev [⟨tg, selfF o f fpos, ifs, 0⟩] scope pos) (some (.Name y py)) spos.line X.env = pure false := by rfl) (hs : ∀ x, foldedSetIterable (selfF o f fpos) X.env x = pure x := by intro _; rfl) :
    DS CA X (.Assign [.Name y py] (.DictComp ek ev [⟨tg, selfF o f fpos, ifs, 0⟩] scope pos) spos) (dSetO j (dDc t0 (diKeys i c f) dG tt dk dv vs)) := by
  subst hv
  refine ds_locked i c f (ps_set hN hy hyl (pe_du dt.new hu hm hN (pi_keys (pe_fld hx hat)) ok (fun s H C cl fp => (hg s H C cl fp).pg) ht (fun s H C cl fp => (hk s H C cl fp).pe) (fun s H C cl fp => (he s H C cl fp).pe) hs) hsw hyf) (fun s E h => ?_) fun D σ H L ⟨β, s, F, E, R, h, q⟩ =>
    keys_w hc hn L (dc_w (Q := fun x H1 => gName j x σ H1 D.nx) dt hsub ⟨β, s, F, _, R, h, fun t ds s1 h1 a vs H1 F1 R1 E1 z1 z2 z3 z4 z5 z6 => q.nx _ h1 _ H1 F1 (R1.setO j z1 z2 z3 z5 z6) (E1.setO R1.len z4)⟩)
  simp only [dSet, dFz, dLc, dRet, dDc, dSetO] at h
  obtain ⟨ks, ds, e, _⟩ := diKeys_eq h
  exact ⟨ks, ds, e⟩
end
end Dl
end

section
set_option Elab.async false
set_option linter.all false
set_option maxRecDepth 100000
set_option maxHeartbeats 4000000
/-! The data layer, part 19: a dict of lists that grow, in a slot (its objects are held apart from the frozen data until it is handed back). -/
namespace Dl
open PySem PySem.Spec PyProof.Rows L2 Sx
abbrev Mx := List (Key × List D)
def cellsOf (m : Mx) (ls : List Addr) : List (Key × V) := (m.map (·.1)).zip (ls.map V.ref)
section
variable {CA : Nat → Addr} {β : Beta} {s s1 : Env} {σ σ1 : L2.St} {H0 H H1 F F1 : Hp} {A : Addr} {m : Mx}
structure Vl (CA : Nat → Addr) (H0 : Hp) (β : Beta) (s : Env) (σ : L2.St) (H F : Hp) (A : Addr) (m : Mx) (ls : List Addr) : Prop where
  fA : F A = none
  nA : ¬ Owned β s σ A
  zA : H0 A = none
  nd : (m.map (·.1)).Nodup
  len : ls.length = m.length
  dif : ls.Nodup
  hA : H A = some (.dK (cellsOf m ls))
  ent : ∀ (n : Nat) (k : Key) (ds : List D) (l : Addr), m[n]? = some (k, ds) → ls[n]? = some l → (∃ vs, H l = some (.lst vs) ∧ Reps CA F ds vs) ∧ F l = none ∧ ¬ Owned β s σ l ∧ H0 l = none
theorem Vl.stays {ls : List Addr} (v : Vl CA H0 β s σ H F A m ls) (x : Ext β s σ H F s1 σ1 H1 F1) (sub : Sub F1 H1) : Vl CA H0 β s1 σ1 H1 F1 A m ls := by
  obtain ⟨t1, t2, t3⟩ := x.stays sub v.hA v.nA v.fA (fun xs z => by cases z)
  refine ⟨t2, t3, v.zA, v.nd, v.len, v.dif, t1, fun n k ds l e1 e2 => ?_⟩
  obtain ⟨⟨vs, g1, g2⟩, g3, g4, g5⟩ := v.ent n k ds l e1 e2
  obtain ⟨u1, u2, u3⟩ := x.stays sub g1 g4 g3 (fun xs z => by cases z)
  exact ⟨⟨vs, u1, g2.mono x.fz⟩, u2, u3, g5⟩
theorem valV_zip {k : Key} {l : Addr} : ∀ {ks : List Key} {ls : List Addr} {n : Nat}, ks.Nodup → ks[n]? = some k → ls[n]? = some l → valV (ks.zip (ls.map V.ref)) k = some (.ref l)
  | [], _, _, _, h, _ => by cases h
  | _ :: _, [], _, _, _, h => by cases h
  | q :: ks, r :: ls, 0, nd, h1, h2 => by
    cases h1
    cases h2
    unfold valV
    simp
  | q :: ks, r :: ls, n + 1, nd, h1, h2 => by
    have h1' : ks[n]? = some k := h1
    have h2' : ls[n]? = some l := h2
    have ih := valV_zip (List.nodup_cons.mp nd).2 h1' h2'
    have ne : q ≠ k := fun z => (List.nodup_cons.mp nd).1 (by rw [z]; exact List.mem_of_getElem? h1')
    unfold valV at ih ⊢
    rw [List.map_cons, List.zip_cons_cons, List.find?_cons_of_neg (by simpa using ne)]
    exact ih
theorem Vl.ne {ls : List Addr} (v : Vl CA H0 β s σ H F A m ls) {n : Nat} {k : Key} {ds : List D} {l : Addr} (e1 : m[n]? = some (k, ds)) (e2 : ls[n]? = some l) : l ≠ A := by
  rintro rfl
  obtain ⟨⟨vs, g1, _⟩, _⟩ := v.ent n k ds l e1 e2
  rw [v.hA] at g1
  cases g1
theorem map_fst_set {m : Mx} {n : Nat} {k : Key} {ds es : List D} (e : m[n]? = some (k, ds)) : (m.set n (k, es)).map (·.1) = m.map (·.1) := by
  rw [List.map_set]
  apply List.ext_getElem?
  intro j
  by_cases q : n = j
  · subst q
    have hl : n < (m.map (·.1)).length := by
      rw [List.length_map]
      exact (List.getElem?_eq_some_iff.mp e).1
    rw [List.getElem?_set_self hl, List.getElem?_map, e]
    rfl
  · rw [List.getElem?_set_ne q]
theorem nodup_ix {α : Type} {l : α} : ∀ {ls : List α} {i j : Nat}, ls.Nodup → ls[i]? = some l → ls[j]? = some l → i = j
  | [], _, _, _, h, _ => by cases h
  | x :: ls, 0, 0, _, _, _ => rfl
  | x :: ls, 0, j + 1, nd, h1, h2 => by
    cases h1
    exact ((List.nodup_cons.mp nd).1 (List.mem_of_getElem? (show ls[j]? = some _ from h2))).elim
  | x :: ls, i + 1, 0, nd, h1, h2 => by
    cases h2
    exact ((List.nodup_cons.mp nd).1 (List.mem_of_getElem? (show ls[i]? = some _ from h1))).elim
  | x :: ls, i + 1, j + 1, nd, h1, h2 => by rw [nodup_ix (List.nodup_cons.mp nd).2 (show ls[i]? = some l from h1) h2]
theorem Vl.app {ls : List Addr} (v : Vl CA H0 β s σ H F A m ls) {n : Nat} {k : Key} {ds : List D} {l : Addr} {d : D} {y : V} {vs : List V} (e1 : m[n]? = some (k, ds)) (e2 : ls[n]? = some l) (e3 : H l = some (.lst vs)) (r : Rep CA F d y) :
    Vl CA H0 β s σ (upd H l (.lst (vs ++ [y]))) F A (m.set n (k, ds ++ [d])) ls := by
  have ne := v.ne e1 e2
  refine ⟨v.fA, v.nA, v.zA, by rw [map_fst_set e1]; exact v.nd, by rw [List.length_set]; exact v.len, v.dif, ?_, fun j k' ds' l' z1 z2 => ?_⟩
  · rw [upd_ne (Ne.symm ne), v.hA]
    unfold cellsOf
    rw [map_fst_set e1]
  · by_cases q : n = j
    · subst q
      rw [List.getElem?_set_self (List.getElem?_eq_some_iff.mp e1).1] at z1
      cases z1
      rw [e2] at z2
      cases z2
      obtain ⟨⟨vs', g1, g2⟩, g3⟩ := v.ent n k ds l e1 e2
      rw [e3] at g1
      cases g1
      exact ⟨⟨_, upd_same, g2.append (reps_one r)⟩, g3⟩
    · rw [List.getElem?_set_ne q] at z1
      obtain ⟨⟨vs', g1, g2⟩, g3⟩ := v.ent j k' ds' l' z1 z2
      have nl : l' ≠ l := fun z => q (by
        subst z
        exact nodup_ix v.dif e2 z2)
      exact ⟨⟨vs', by rw [upd_ne nl]; exact g1, g2⟩, g3⟩
theorem reps_of : ∀ {es : List D} {vs : List V}, es.length = vs.length → (∀ (n : Nat) (d : D) (v : V), es[n]? = some d → vs[n]? = some v → Rep CA F d v) → Reps CA F es vs
  | [], [], _, _ => reps_nil
  | [], _ :: _, h, _ => by cases h
  | _ :: _, [], h, _ => by cases h
  | d :: es, v :: vs, h, r => reps_cons (r 0 d v rfl rfl) (reps_of (Nat.succ.inj h) fun n d' v' e1 e2 => r (n + 1) d' v' e1 e2)
/-- what the slot holds, frozen -/
def boxD (m : Mx) : D := .node (.dk (m.map (·.1))) (m.map fun p => .node .lst p.2)
theorem Vl.freeze {M : Addr → Prop} {F0 : Hp} {ls : List Addr} (v : Vl CA H0 β s σ H F A m ls) (sub : Sub F H) (bok : BOk β H F) (x : XT M H0 F0 H F) : ∃ F2, XT M H0 F0 H F2 ∧ Sub F2 H ∧ BOk β H F2 ∧ Rep CA F2 (boxD m) (.ref A) := by
  classical
  have inl : ∀ l ∈ ls, (∃ vs, H l = some (.lst vs)) ∧ F l = none ∧ ¬ Owned β s σ l ∧ H0 l = none := fun l hl => by
    obtain ⟨n, h1, h2⟩ := List.getElem_of_mem hl
    have h3 : n < m.length := by rw [← v.len]; exact h1
    obtain ⟨⟨vs, g1, _⟩, g2⟩ := v.ent n (m[n]).1 (m[n]).2 l (by rw [List.getElem?_eq_getElem h3]) (by rw [List.getElem?_eq_getElem h1, h2])
    exact ⟨⟨vs, g1⟩, g2⟩
  let F2 : Hp := fun b => if b = A ∨ b ∈ ls then H b else F b
  have in2 : ∀ b, b = A ∨ b ∈ ls → F2 b = H b := fun b h => if_pos h
  have out2 : ∀ b, ¬ (b = A ∨ b ∈ ls) → F2 b = F b := fun b h => if_neg h
  have fno : ∀ b, b = A ∨ b ∈ ls → F b = none := fun b h => by
    rcases h with h | h
    · rw [h]; exact v.fA
    · exact (inl b h).2.1
  have same : Same F F2 := fun b o e => by
    by_cases h : b = A ∨ b ∈ ls
    · rw [fno b h] at e; cases e
    · rw [out2 b h]; exact e
  refine ⟨F2, ⟨fun b o e => same b o (x.fz b o e), fun b o e => ?_, x.kp, x.dm⟩, fun b o e => ?_, fun b hb => ?_, ?_⟩
  · by_cases h : b = A ∨ b ∈ ls
    · right; left
      rcases h with h | h
      · rw [h]; exact v.zA
      · exact (inl b h).2.2.2
    · rw [out2 b h] at e
      exact x.nw b o e
  · by_cases h : b = A ∨ b ∈ ls
    · rw [in2 b h] at e; exact .inl e
    · rw [out2 b h] at e; exact sub b o e
  · obtain ⟨k1, k2⟩ := bok b hb
    refine ⟨k1.mono rfl same, ?_⟩
    by_cases h : b = A ∨ b ∈ ls
    · rcases h with h | h
      · subst h; exact (v.nA (.inl hb)).elim
      · exact ((inl b h).2.2.1 (.inl hb)).elim
    · rw [out2 b h]; exact k2
  · have lk : (m.map (·.1)).length = (ls.map V.ref).length := by rw [List.length_map, List.length_map, v.len]
    refine rep_node (vs := ls.map V.ref) ⟨.dK (cellsOf m ls), by rw [in2 A (.inl rfl)]; exact v.hA, cellsOf m ls, rfl, ?_, ?_⟩ (reps_of (by rw [List.length_map, List.length_map, v.len]) fun n d y e1 e2 => ?_)
    · unfold cellsOf
      exact List.map_fst_zip (Nat.le_of_eq lk)
    · unfold cellsOf
      exact List.map_snd_zip (Nat.le_of_eq lk.symm)
    · rw [List.getElem?_map] at e1 e2
      cases g1 : m[n]? with
      | none => rw [g1] at e1; cases e1
      | some p =>
        cases g2 : ls[n]? with
        | none => rw [g2] at e2; cases e2
        | some l =>
          rw [g1] at e1
          rw [g2] at e2
          cases e1
          cases e2
          obtain ⟨⟨vs, z1, z2⟩, z3⟩ := v.ent n p.1 p.2 l g1 g2
          exact rep_node ⟨.lst vs, by rw [in2 l (.inr (List.mem_of_getElem? g2))]; exact z1, rfl⟩ (z2.mono same)
end
end Dl
end

section
set_option Elab.async false
set_option linter.all false
set_option maxRecDepth 100000
set_option maxHeartbeats 4000000
/-! The data layer, part 20: statements over a slot's dict of growing lists. -/
namespace Dl
open PySem PySem.Spec PyProof.Rows L2 Sx
structure UEnds where
  nx : Env → Mx → Prop
  rt : D → Prop
abbrev UDen := Env → Mx → UEnds → Prop
section
variable {CA : Nat → Addr} {β : Beta} {M : Addr → Prop} {s s1 : Env} {σ σ1 : L2.St} {H0 F0 H H1 F F1 : Hp} {A : Addr} {m : Mx} {i : Nat}
/-- what stays from an anchor on -/
def Anc (Ha Fa H F : Hp) : Prop := Same Fa F ∧ ∀ b o u, Ha b = some (.frz o u) → H b = some (.frz o u)
theorem Anc.refl : Anc H F H F := ⟨fun _ _ z => z, fun _ _ _ z => z⟩
theorem Anc.trans {H2 F2 : Hp} (a : Anc H F H1 F1) (b : Anc H1 F1 H2 F2) : Anc H F H2 F2 := ⟨fun x o z => b.1 x o (a.1 x o z), fun x o u z => b.2 x o u (a.2 x o u z)⟩
theorem Ext.anc (x : Ext β s σ H F s1 σ1 H1 F1) (R : Rel CA β s σ H F) : Anc H F H1 F1 := ⟨x.fz, x.frzs R⟩
structure StU (CA : Nat → Addr) (β : Beta) (M : Addr → Prop) (H0 F0 : Hp) (i : Nat) (s : Env) (σ : L2.St) (H F : Hp) (A : Addr) (m : Mx) : Prop where
  R : Rel CA β s σ H F
  x : XT M H0 F0 H F
  ow : ∀ b, Owned β s σ b → M b ∨ H0 b = none
  at_ : σ[i]? = some (some (.ref A))
  v : ∃ ls, Vl CA H0 β s σ H F A m ls
theorem StU.go (S : StU CA β M H0 F0 i s σ H F A m) (R1 : Rel CA β s1 σ1 H1 F1) (x : Ext β s σ H F s1 σ1 H1 F1) (e : σ1[i]? = σ[i]?) : StU CA β M H0 F0 i s1 σ1 H1 F1 A m := by
  obtain ⟨ls, v⟩ := S.v
  refine ⟨R1, S.x.trans x.xt S.ow, fun b z => ?_, by rw [e]; exact S.at_, ls, v.stays x R1.sub⟩
  rcases x.ow b z with y | y
  · exact S.ow b y
  · exact .inr (S.x.dm b y)
def liftU (CA : Nat → Addr) (i : Nat) (den : UDen) : TS := fun D σ H => ∃ β M H0 F0 s F A m E, StU CA β M H0 F0 i s σ H F A m ∧ den s m E ∧
  (∀ s' m', E.nx s' m' → ∀ σ' H' F', StU CA β M H0 F0 i s' σ' H' F' A m' → Anc H F H' F' → D.nx σ' H') ∧ (∀ d, E.rt d → ∀ v H' F', XT M H0 F0 H' F' → Sub F' H' → BOk β H' F' → Rep CA F' d v → D.rt v H')
end
structure DU (CA : Nat → Addr) (X : Cx) (i : Nat) (st : Stmt) (den : UDen) : Prop where
  ps : PS X st (liftU CA i den)
structure DUs (CA : Nat → Addr) (X : Cx) (i : Nat) (st : List Stmt) (den : UDen) : Prop where
  ps : PSs X st (liftU CA i den)
section
variable {CA : Nat → Addr} {X : Cx} {a b c e o : Expr} {es : List Expr} {pos p apos : Pos} {da db dc : VDen} {dI : IDen} {dG : GDen} {dU dV : UDen} {st : Stmt} {sts : List Stmt} {n k i : Nat}
@[simp] def uSeq (dU dV : UDen) : UDen := fun s m E => dU s m { E with nx := fun s1 m1 => dV s1 m1 E }
theorem dus_cons (h1 : DU CA X i st dU) (h2 : DUs CA X i sts dV) : DUs CA X i (st :: sts) (uSeq dU dV) := ⟨pss_w (pss_cons h1.ps h2.ps) fun D σ H ⟨β, M, H0, F0, s, F, A, m, E, S, h, q1, q2⟩ =>
  ⟨β, M, H0, F0, s, F, A, m, _, S, h, fun s' m' h' σ' H' F' S' an => ⟨β, M, H0, F0, s', F', A, m', E, S', h', fun s2 m2 h2 σ2 H2 F2 S2 an2 => q1 s2 m2 h2 σ2 H2 F2 S2 (an.trans an2), q2⟩, q2⟩⟩
theorem dus_one (h : DU CA X i st dU) : DUs CA X i [st] dU := ⟨pss_one h.ps⟩
/-- return x -/
@[simp] def uRet : UDen := fun _ m E => E.rt (boxD m)
theorem du_ret (hx : PE X e (tVar i)) : DU CA X i (.Return (some e) pos) uRet := ⟨ps_w (ps_ret hx) fun D σ H ⟨β, M, H0, F0, s, F, A, m, E, S, h, q1, q2⟩ => by
  obtain ⟨ls, v⟩ := S.v
  obtain ⟨F2, g1, g2, g3, g4⟩ := v.freeze S.R.sub S.R.bok S.x
  exact ⟨.ref A, S.at_, q2 _ h _ H F2 g1 g2 g3 g4⟩⟩
/-- for -/
def uForD (dG : GDen) (dU : UDen) : List D → UDen
  | [] => fun s m E => E.nx s m
  | d :: ds => fun s m E => dG d s fun s1 => dU s1 m ⟨fun s2 m2 => uForD dG dU ds s2 m2 E, E.rt⟩
@[simp] def uFor (dI : IDen) (dG : GDen) (dU : UDen) : UDen := fun s m E => dI s fun ds s0 => uForD dG dU ds s0 m E
theorem du_for {tg iter : Expr} {bs : List Stmt} {ws : List Nat} (hp : PassesOwn (model X.prog X.w) X.A X.env X.xe) (hc : X.calm = true) (hi : DI CA X tg iter dI) (hg : DG CA X tg ws dG) (hw : i ∉ ws) (hb : DUs CA X i bs dU) (hs : ∀ x, foldedSetIterable iter X.env x = pure x := by intro _; rfl) :
    DU CA X i (.For tg iter bs [] pos) (uFor dI dG dU) := ⟨ps_w (ps_for hp hc hi.pi hg.pg hb.ps hs) fun D σ H ⟨β, M, H0, F0, s, F, A, m, E, S, h, q1, q2⟩ => by
  refine ⟨β, s, F, _, S.R, h, fun ds s0 h0 J Ha Fa Ra Ea dr => ?_⟩
  have Sa := S.go Ra Ea rfl
  refine ⟨fun j t σ1 H1 => t = ds.length - j ∧ j ≤ ds.length ∧ ∃ s1 F1 m1, StU CA β M H0 F0 i s1 σ1 H1 F1 A m1 ∧ Anc Ha Fa H1 F1 ∧ uForD dG dU (ds.drop j) s1 m1 E,
    ⟨ds.length, by simp, Nat.zero_le _, s0, Fa, m, Sa, .refl, h0⟩, fun j t σ1 H1 ⟨et, hj, s1, F1, m1, S1, an, h1⟩ => ?_⟩
  obtain ⟨d1, d2⟩ := dr j H1 F1 S1.R.sub an.1 an.2
  by_cases hl : j < ds.length
  · right
    have hd : ds[j]? = some ds[j] := List.getElem?_eq_getElem hl
    obtain ⟨g1, g2⟩ := d1 _ hd
    have e0 : ds.drop j = ds[j] :: ds.drop (j + 1) := List.drop_eq_getElem_cons hl
    rw [e0] at h1
    refine ⟨g1, fun σ3 H3 => ∃ s3 F3 m3, StU CA β M H0 F0 i s3 σ3 H3 F3 A m3 ∧ Anc Ha Fa H3 F3 ∧ uForD dG dU (ds.drop (j + 1)) s3 m3 E, fun σ' H' z => ⟨ds.length - (j + 1), by omega, rfl, hl, z⟩, fun x H2 y => ?_⟩
    obtain ⟨F2, f1, f2, f3, f4, f5, f6⟩ := g2 x H2 y
    obtain ⟨R2, E2⟩ := S1.R.drive f1 f2 f3 f4 f5
    refine ⟨β, s1, F2, _, _, R2, f6, h1, fun s3 h3 σ3 H3 F3 R3 E3 o3 => ?_⟩
    have S3 := S1.go R3 (E2.trans E3) (o3.2 i hw)
    have an3 := an.trans ((E2.trans E3).anc S1.R)
    exact ⟨β, M, H0, F0, s3, F3, A, m1, _, S3, h3, fun s4 m4 h4 σ4 H4 F4 S4 an4 => ⟨s4, F4, m4, S4, an3.trans an4, h4⟩, q2⟩
  · left
    have e0 : ds[j]? = none := List.getElem?_eq_none (by omega)
    have e1 : ds.drop j = [] := List.drop_eq_nil_of_le (by omega)
    rw [e1] at h1
    exact ⟨d2 e0, q1 s1 m1 h1 σ1 H1 F1 S1 ((Ea.anc S.R).trans an)⟩⟩
/-- x[k].append(e) -/
@[simp] def uApp (dk dv : VDen) : UDen := fun s m E => dk s fun d s1 => ∃ (n : Nat) (k : Key) (ds : List D), keyOf d = some k ∧ m[n]? = some (k, ds) ∧ dv s1 fun d2 s2 => ds.length < 100000 ∧ E.nx s2 (m.set n (k, ds ++ [d2]))
theorem StU.app {β : Beta} {M : Addr → Prop} {s : Env} {σ : L2.St} {H0 F0 H F : Hp} {A : Addr} {m : Mx} {ls : List Addr} {n : Nat} {k : Key} {ds : List D} {l : Addr} {d : D} {y : V} {vs : List V} (S : StU CA β M H0 F0 i s σ H F A m) (v : Vl CA H0 β s σ H F A m ls) (e1 : m[n]? = some (k, ds)) (e2 : ls[n]? = some l) (e3 : H l = some (.lst vs)) (r : Rep CA F d y) :
    StU CA β M H0 F0 i s σ (upd H l (.lst (vs ++ [y]))) F A (m.set n (k, ds ++ [d])) := by
  obtain ⟨_, g2, g3, g4⟩ := v.ent n k ds l e1 e2
  exact ⟨S.R.tmp g2 g3, ⟨S.x.fz, S.x.nw, fun b o z nm => by rw [upd_ne (ne_of_none z g4)]; exact S.x.kp b o z nm, fun b z => by
    by_cases q : b = l
    · rw [q]; exact g4
    · rw [upd_ne q] at z; exact S.x.dm b z⟩, S.ow, S.at_, ls, v.app e1 e2 e3 r⟩
theorem anc_app {H F : Hp} {l : Addr} {vs ws : List V} (e : H l = some (.lst vs)) : Anc H F (upd H l (.lst ws)) F := ⟨fun _ _ z => z, fun b o u z => by
  have n : b ≠ l := fun q => by rw [q, e] at z; cases z
  rw [upd_ne n]
  exact z⟩
theorem du_app (hu : X.A.units + 1 < cLine) {ox ek ev : Expr} {spos : Pos} (hx : PE X ox (tVar i)) (hk : DV CA X ek da) (hv : DV CA X ev db) (hsl : NoSl ek)
    (hbase : attributeBase (.Subscript ox ek spos) "append" X.env (eval (.Subscript ox ek spos) X.env) = eval (.Subscript ox ek spos) X.env := by rfl)
    (hfew : ((backTo p (starEach [ev] X.env)).all (fun x => !x.1) && (backToKw p (keywordEach [] X.env)).all (fun x => x.1.isSome)
      && decide (([ev] : List Expr).length + ([] : List Keyword).length + (if ([] : List Keyword).isEmpty then 0 else 1) < 30)) = true := by rfl)
    (hline : (apos.endLine == p.line) = true := by rfl) (hs : starEach [ev] X.env = (false, eval ev X.env) :: starEach [] X.env := by rfl) (hplain : (backTo p (starEach [] X.env)).any (·.1) = false := by rfl)
    (hsw : swapsWith (.Call (.Attribute (.Subscript ox ek spos) "append" apos) [ev] [] p) none pos.line X.env = pure false := by rfl) :
    DU CA X i (.Expr (.Call (.Attribute (.Subscript ox ek spos) "append" apos) [ev] [] p) pos) (uApp da db) := by
  refine ⟨ps_w (ps_expr (pe_bm PySem.F.plainAttrs_list PySem.F.slot_list_append PySem.F.type_list_append mt_append (pe_dget hu hx hk.pe hsl) (pa_cons hv.pe pa_nil hs) hbase hfew hline hs hplain) hsw) fun D σ H ⟨β, M, H0, F0, s, F, A, m, E, S, h, q1, q2⟩ => ?_⟩
  refine ⟨.ref A, S.at_, β, s, F, _, S.R, h, fun d s1 h1 y H1 F1 R1 E1 r1 => ?_⟩
  obtain ⟨n, k, ds, ek, em, h2⟩ := h1
  have S1 := S.go R1 E1 rfl
  obtain ⟨ls, v⟩ := S1.v
  have hn : n < ls.length := by
    rw [v.len]
    exact (List.getElem?_eq_some_iff.mp em).1
  have el : ls[n]? = some ls[n] := List.getElem?_eq_getElem hn
  obtain ⟨⟨vs, g1, g2⟩, g3, g4, g5⟩ := v.ent n k ds ls[n] em el
  have ey : y = kV k := keyOf_ok ek r1
  have kn : (m.map (·.1))[n]? = some k := by rw [List.getElem?_map, em]; rfl
  refine ⟨A, .ref ls[n], rfl, by rw [ey, ← valV_zip v.nd kn el]; exact DGet.k v.hA, .inl ⟨rfl, _, .inl (.inl g1)⟩, β, s1, F1, _, R1, h2, fun d2 s2 h3 z H2 F2 R2 E2 r2 => ?_⟩
  have S2 := S1.go R2 E2 rfl
  have v2 := v.stays E2 R2.sub
  obtain ⟨⟨vs2, u1, u2⟩, _⟩ := v2.ent n k ds ls[n] em el
  refine ⟨ls[n], vs2, z, rfl, rfl, u1, by rw [← u2.length]; exact line5 h3.1, ?_⟩
  exact q1 s2 _ h3.2 σ _ F2 (S2.app v2 em el u1 r2) (((E1.trans E2).anc S.R).trans (anc_app u1))
end
end Dl
end

section
set_option Elab.async false
set_option linter.all false
set_option maxRecDepth 100000
set_option maxHeartbeats 4000000
/-! The data layer, part 21: {k: [] for ..} into a slot, held apart. -/
namespace Dl
open PySem PySem.Spec PyProof.Rows L2 Sx
section
variable {CA : Nat → Addr} {X : Cx} {a b c e o : Expr} {es : List Expr} {pos p apos : Pos} {da db dc : VDen} {dI : IDen} {dG : GDen} {dU dV : UDen} {st : Stmt} {sts : List Stmt} {n k i : Nat}
def ucD (dG : GDen) (dk : VDen) (vs : List Nat) (s0 : Env) : List D → Mx → (Mx → Prop) → Prop
  | [], m, P => P m
  | d :: ds, m, P => dG d (wipeE s0 vs) fun s2 => dk s2 fun kd s3 => wipeE s3 vs = wipeE s0 vs ∧ m.length < 100000 ∧ ∃ k, keyOf kd = some k ∧ k ∉ m.map (·.1) ∧ ucD dG dk vs s0 ds (m ++ [(k, [])]) P
@[simp] def dBox (i : Nat) (dI : IDen) (dG : GDen) (dk : VDen) (vs : List Nat) (dU : UDen) : SDen := fun s E => dI s fun ds s0 => i < s0.length ∧ plainAt s0 vs ∧ ucD dG dk vs s0 ds [] fun m => dU (s0.set i none) m ⟨fun _ _ => False, E.rt⟩
theorem putK_new {ks : List Key} {ls : List Addr} {k : Key} {l : Addr} (h : k ∉ ks) (hl : ls.length = ks.length) : putK (ks.zip (ls.map V.ref)) k (.ref l) = (ks ++ [k]).zip ((ls ++ [l]).map V.ref) := by
  unfold putK
  rw [if_neg, List.map_append, List.zip_append (by rw [List.length_map]; exact hl.symm)]
  · rfl
  · intro z
    obtain ⟨kv, h1, h2⟩ := List.any_eq_true.mp z
    exact h (by
      have := of_decide_eq_true h2
      rw [← this]
      exact (List.of_mem_zip h1).1)
theorem Rel.setNone {β : Beta} {s : Env} {σ : L2.St} {H F : Hp} (r : Rel CA β s σ H F) (i : Nat) (v : V) : Rel CA β (s.set i none) (σ.set i (some v)) H F := by
  have ne : ∀ {j : Nat} {x : Slot}, (s.set i none)[j]? = some (some x) → j ≠ i ∧ s[j]? = some (some x) := fun {j x} e => by
    by_cases q : i = j
    · subst q
      by_cases hl : i < s.length
      · rw [List.getElem?_set_self hl] at e; cases e
      · rw [List.getElem?_eq_none (by rw [List.length_set]; omega)] at e; cases e
    · rw [List.getElem?_set_ne q] at e
      exact ⟨fun z => q z.symm, e⟩
  have sg : ∀ {j : Nat}, j ≠ i → (σ.set i (some v))[j]? = σ[j]? := fun h => List.getElem?_set_ne fun z => h z.symm
  refine ⟨r.sub, by rw [List.length_set, List.length_set]; exact r.len, fun j d e => ?_, fun j t ds e => ?_, fun j l t ds u es a e1 e2 e3 e4 => ?_, fun j e => ?_, r.bok⟩
  · obtain ⟨n, e⟩ := ne e
    rw [sg n]
    exact r.val j d e
  · obtain ⟨n, e⟩ := ne e
    rw [sg n]
    exact r.own j t ds e
  · obtain ⟨n1, e1⟩ := ne e1
    obtain ⟨n2, e2⟩ := ne e2
    rw [sg n1] at e3
    rw [sg n2] at e4
    exact r.inj j l t ds u es a e1 e2 e3 e4
  · obtain ⟨n, e⟩ := ne e
    rw [sg n]
    exact r.bag j e
theorem Owned.setNone {β : Beta} {s : Env} {σ : L2.St} {i : Nat} {v : V} {b : Addr} (h : Owned β (s.set i none) (σ.set i (some v)) b) : Owned β s σ b := by
  rcases h with h | ⟨j, t, ds, e1, e2⟩
  · exact .inl h
  · by_cases q : i = j
    · subst q
      by_cases hl : i < s.length
      · rw [List.getElem?_set_self hl] at e1; cases e1
      · rw [List.getElem?_eq_none (by rw [List.length_set]; omega)] at e1; cases e1
    · rw [List.getElem?_set_ne q] at e1 e2
      exact .inr ⟨j, t, ds, e1, e2⟩
/-- the entry that the comprehension's turn adds -/
theorem Vl.add {β : Beta} {s : Env} {σ : L2.St} {H0 H F : Hp} {A : Addr} {m : Mx} {ls : List Addr} {k : Key} {l : Addr} (v : Vl CA H0 β s σ H F A m ls) (hk : k ∉ m.map (·.1)) (hl : l ∉ ls) (nA : l ≠ A) (e : H l = some (.lst [])) (f : F l = none) (no : ¬ Owned β s σ l) (z : H0 l = none) :
    Vl CA H0 β s σ (upd H A (.dK (putK (cellsOf m ls) k (.ref l)))) F A (m ++ [(k, [])]) (ls ++ [l]) := by
  have e1 : (m ++ [(k, ([] : List D))]).map (·.1) = m.map (·.1) ++ [k] := by rw [List.map_append]; rfl
  refine ⟨v.fA, v.nA, v.zA, ?_, by rw [List.length_append, List.length_append, v.len]; rfl, ?_, ?_, fun n k' ds l' g1 g2 => ?_⟩
  · rw [e1]
    exact List.nodup_append.mpr ⟨v.nd, List.nodup_cons.mpr ⟨by simp, List.nodup_nil⟩, fun x hx y hy => by
      rw [List.mem_singleton] at hy
      rintro rfl
      exact hk (hy ▸ hx)⟩
  · exact List.nodup_append.mpr ⟨v.dif, List.nodup_cons.mpr ⟨by simp, List.nodup_nil⟩, fun x hx y hy => by
      rw [List.mem_singleton] at hy
      rintro rfl
      exact hl (hy ▸ hx)⟩
  · rw [upd_same]
    unfold cellsOf
    rw [e1, putK_new hk (by rw [List.length_map]; exact v.len)]
  · by_cases q : n < m.length
    · rw [List.getElem?_append_left q] at g1
      rw [List.getElem?_append_left (by rw [v.len]; exact q)] at g2
      obtain ⟨⟨vs, u1, u2⟩, u3⟩ := v.ent n k' ds l' g1 g2
      exact ⟨⟨vs, by rw [upd_ne (v.ne g1 g2)]; exact u1, u2⟩, u3⟩
    · have hn : n = m.length := by
        have := (List.getElem?_eq_some_iff.mp g1).1
        rw [List.length_append] at this
        simp at this
        omega
      subst hn
      rw [List.getElem?_append_right (Nat.le_refl _), Nat.sub_self] at g1
      rw [List.getElem?_append_right (by rw [v.len]; exact Nat.le_refl _), v.len, Nat.sub_self] at g2
      cases g1
      cases g2
      exact ⟨⟨[], by rw [upd_ne nA]; exact e, reps_nil⟩, f, no, z⟩
theorem dss_box (hu : X.A.units + 1 < cLine) {ws vs : List Nat} {y : Str} {py spos lp : Pos} {ek tg iter : Expr} {scope : Scope} {own : List (Str × Nat)} {dk : VDen} (hc : X.calm = true) (hN : X.N.Nodup) (hi : DI CA X tg iter dI) (ok : BlkOk X.N X.env.scope scope own) (hv : own.map (·.2) = vs) (hsub : ∀ j ∈ ws, j ∈ vs)
    (hg : ∀ (s : Shared) (H : Hp) (C : Addr) (cl : List (Str × Addr)) (fp : List Addr), DG CA (X.blk s H scope (compEnvC scope cl C X.env) fp) tg ws dG)
    (hk : ∀ (s : Shared) (H : Hp) (C : Addr) (cl : List (Str × Addr)) (fp : List Addr), DV CA (X.blk s H scope (compEnvC scope cl C X.env) fp) ek dk)
    (hy : X.N[i]? = some y := by rfl) (hyl : X.env.scope.names.lookup y = some .local := by rfl)
    (hr : DUs CA X i sts dU)
    (hsw : swapsWith (.DictComp ek (.List [] lp) [⟨tg, iter, [], 0⟩] scope pos) (some (.Name y py)) spos.line X.env = pure true := by exact Sx.swd_true rfl rfl rfl (by decide +kernel)) (hs : ∀ x, foldedSetIterable iter X.env x = pure x := by intro _; rfl) :
    DSs CA X (.Assign [.Name y py] (.DictComp ek (.List [] lp) [⟨tg, iter, [], 0⟩] scope pos) spos :: sts) (dBox i dI dG dk vs dU) := by
  subst hv
  have hl : ∀ (s : Shared) (H : Hp) (C : Addr) (cl : List (Str × Addr)) (fp : List Addr), DF CA (X.blk s H scope (compEnvC scope cl C X.env) fp) (.List [] lp) (dLst dNil) := fun s H C cl fp => df_lst da_nil
  refine ⟨pss_w (pss_cons (ps_setDu .k hu hc hN hy hyl hsw hi.pi ok (fun s H C cl fp => (hg s H C cl fp).pg) (fun s H C cl fp => (dts_nil : PTsD CA _ [] dYes)) (fun s H C cl fp => (hk s H C cl fp).pe) (fun s H C cl fp => (hl s H C cl fp).pe) hs) hr.ps) fun D σ H ⟨β, s, F, E, R, h, q⟩ => ?_⟩
  show tDu (.dK []) (liftI CA dI) (liftG CA ws dG) (liftT CA dYes) (liftV CA dk) (liftF CA (dLst dNil)) (own.map (·.2)) σ H (fun x H1 => gName i x σ H1 (liftU CA i dU D))
  refine ⟨β, s, F, _, R, h, fun ds s0 ⟨hi0, pl, h0⟩ J H0 F0 R0 E0 dr A hA => ?_⟩
  generalize own.map (·.2) = vs at hsub pl h0 ⊢
  have hA0 : H A = none := E0.dm hA
  have noA0 : ¬ Owned β s0 σ A := R0.noown hA
  refine ⟨fun j t H1 => t = ds.length - j ∧ j ≤ ds.length ∧ ∃ F1 m ls, Rel CA β s0 σ H1 F1 ∧ Ext β s0 σ H0 F0 s0 σ H1 F1 ∧ Vl CA H0 β s0 σ H1 F1 A m ls ∧ ucD dG dk vs s0 (ds.drop j) m fun m => dU (s0.set i none) m ⟨fun _ _ => False, E.rt⟩,
    ⟨ds.length, by simp, Nat.zero_le _, F0, [], [], R0.new hA, .new hA, ⟨R0.sub.free hA, noA0, hA, List.nodup_nil, rfl, List.nodup_nil, upd_same, fun n k ds l z => by cases z⟩, h0⟩, fun j t H1 ⟨et, hj, F1, m, ls, R1, E1, v1, h1⟩ => ?_⟩
  obtain ⟨d1, d2⟩ := dr j H1 F1 R1.sub E1.fz (E1.frzs R0)
  by_cases hl : j < ds.length
  · right
    have hd : ds[j]? = some ds[j] := List.getElem?_eq_getElem hl
    obtain ⟨g1, g2⟩ := d1 _ hd
    have e0 : ds.drop j = ds[j] :: ds.drop (j + 1) := List.drop_eq_getElem_cons hl
    rw [e0] at h1
    refine ⟨g1, fun H3 => ∃ F3 m ls, Rel CA β s0 σ H3 F3 ∧ Ext β s0 σ H0 F0 s0 σ H3 F3 ∧ Vl CA H0 β s0 σ H3 F3 A m ls ∧ ucD dG dk vs s0 (ds.drop (j + 1)) m fun m => dU (s0.set i none) m ⟨fun _ _ => False, E.rt⟩, fun H' z => ⟨ds.length - (j + 1), by omega, rfl, hl, z⟩, fun x H2 y => ?_⟩
    obtain ⟨F2, f1, f2, f3, f4, f5, f6⟩ := g2 x H2 y
    obtain ⟨R2, E2⟩ := R1.drive f1 f2 f3 f4 f5
    have Rw := R2.wiped vs
    refine ⟨β, _, F2, _, _, Rw, f6, h1, fun s3 h3 σ3 H3 F3 R3 E3 o3 => ⟨off_wipe ((wipe_off (σ := σ)).trans o3 |>.mono fun j hj => (List.mem_append.mp hj).elim id (hsub j)), β, s3, F3, _, R3, (show dYes s3 fun b s4 => b = true ∧ s4 = s3 from ⟨rfl, rfl⟩), fun b s4 h4 H4 F4 R4 E4 => ?_⟩⟩
    obtain ⟨rfl, rfl⟩ := h4
    have o3' : Off vs (wipe σ vs) σ3 := o3.mono hsub
    simp only [if_true]
    refine ⟨β, s4, F4, _, R4, h3, fun kd s5 h5 yk H5 F5 R5 E5 r5 => ⟨β, s5, F5, fun t ds s6 => t = .lst ∧ ds = [] ∧ s6 = s5, R5, ⟨Nat.zero_le _, rfl, rfl, rfl⟩, fun t es s6 h6 l lv H6 F6 R6 E6 z1 z2 z3 z4 z5 z6 => ?_⟩⟩
    obtain ⟨rfl, rfl, rfl⟩ := h6
    obtain ⟨hw, hz, k, ek, nk, h7⟩ := h5
    have E36 := ((E3.trans E4).trans E5).trans E6
    obtain ⟨R7, E7⟩ := R2.unwiped pl R6 E36 o3' hw
    have E27 := E2.trans E7
    have v7 := v1.stays E27 R7.sub
    obtain ⟨ob, u1, u2⟩ := z1
    have elv : lv = [] := by
      unfold Reps at z2
      exact z2
    subst elv
    cases (show ob = .lst [] from u2)
    have eyk : yk = kV k := keyOf_ok ek r5
    subst eyk
    have hl0 : H2 l = none := (E3.trans E4).trans E5 |>.dm z4
    have hlH0 : H0 l = none := E1.dm (E2.dm hl0)
    have nlA : l ≠ A := fun q => by
      have := E2.stays R2.sub v1.hA v1.nA v1.fA (fun xs z => by cases z)
      rw [← q, hl0] at this
      cases this.1
    have nls : l ∉ ls := fun q => by
      obtain ⟨n, n1, n2⟩ := List.getElem_of_mem q
      have n3 : n < m.length := by rw [← v1.len]; exact n1
      obtain ⟨⟨ws2, w1, _⟩, w2, w3, _⟩ := v1.ent n (m[n]).1 (m[n]).2 l (by rw [List.getElem?_eq_getElem n3]) (by rw [List.getElem?_eq_getElem n1, n2])
      have := E2.stays R2.sub w1 w3 w2 (fun xs z => by cases z)
      rw [hl0] at this
      cases this.1
    have no7 : ¬ Owned β s0 σ l := R0.noown hlH0
    refine ⟨_, DPut.k v7.hA ?_, F6, _, _, R7.tmp v7.fA v7.nA, ((E1.trans E2).trans E7).tmp hA, v7.add nk nls nlA u1 z3 no7 hlH0, h7⟩
    unfold cellsOf
    rw [List.length_zip, List.length_map, List.length_map, v1.len, Nat.min_self]
    exact line5 hz
  · left
    have e0 : ds[j]? = none := List.getElem?_eq_none (by omega)
    have e1 : ds.drop j = [] := List.drop_eq_nil_of_le (by omega)
    rw [e1] at h1
    refine ⟨d2 e0, ?_⟩
    have EE := E0.trans E1
    refine ⟨β, Owned β s σ, H, F, _, F1, A, m, _, ⟨R1.setNone i (.ref A), EE.xt, fun b z => EE.ow b z.setNone, ?_, ls, ?_⟩, h1, fun _ _ z => z.elim, q.rt⟩
    · have hi : i < σ.length := by
        rw [R1.len]
        exact hi0
      rw [List.getElem?_set_self hi]
    · exact ⟨v1.fA, fun z => v1.nA z.setNone, hA0, v1.nd, v1.len, v1.dif, v1.hA, fun n k ds l w1 w2 => by
        obtain ⟨u1, u2, u3, u4⟩ := v1.ent n k ds l w1 w2
        exact ⟨u1, u2, fun z => u3 z.setNone, E0.dm u4⟩⟩
end
end Dl
end

section
set_option Elab.async false
set_option linter.all false
set_option maxRecDepth 100000
set_option maxHeartbeats 4000000
/-! The data layer, part 22: room. -/
namespace Dl
open PySem PySem.Spec PyProof.Rows L2
theorem hu65 {k : Nat} {A : Around} (h : Room k A) : A.units + 65 < cLine := by
  have := h.un
  omega
section
variable {CA : Nat → Addr} {X : Cx} {a b : Expr} {pos : Pos} {p1 p2 : PDen}
/-- x, y = a, b by way of a tuple (a name of a cell) -/
theorem ds_par2T {i j : Nat} {x y : Str} {px py pt : Pos} {kt k2 : Nat} {pt2 : Pos} (hc : X.calm = true) (hN : X.N.Nodup) (ha : DP CA X a p1) (hb : DP CA X b p2) (hi : X.N[i]? = some x := by rfl) (hj : X.N[j]? = some y := by rfl)
    (hx : Loc X.env.scope x := by first | exact .inl rfl | exact .inr rfl) (hy : Loc X.env.scope y := by first | exact .inl rfl | exact .inr rfl) (fx : X.fn x = true ∨ X.env.scope.names.lookup x = some .local := by first | exact .inl rfl | exact .inr rfl) (fy : X.fn y = true ∨ X.env.scope.names.lookup y = some .local := by first | exact .inl rfl | exact .inr rfl)
    (s1 : starEach [a, b] X.env = (false, eval a X.env) :: starEach [b] X.env := by rfl) (s2 : starEach [b] X.env = (false, eval b X.env) :: starEach [] X.env := by rfl)
    (hs : swapsWithSole [.Tuple [.Name x px, .Name y py] kt pt] (.Tuple [a, b] k2 pt2) pos.line X.env = pure false := by rfl) (hw : swappedStores [.Tuple [.Name x px, .Name y py] kt pt] (.Tuple [a, b] k2 pt2) X.env = pure none := by rfl)
    (h1 : (assignEach [.Tuple [.Name x px, .Name y py] kt pt] X.env).map (·.2) = [assign (.Tuple [.Name x px, .Name y py] kt pt) X.env] := by rfl)
    (hn : (assignEach [.Name x px, .Name y py] X.env).length = 2 := by rfl) (hst : (assignEach [.Name x px, .Name y py] X.env).findIdx? (·.1) = none := by rfl) :
    DS CA X (.Assign [.Tuple [.Name x px, .Name y py] kt pt] (.Tuple [a, b] k2 pt2) pos) (dPar2 i j p1 p2) := ⟨ps_w (ps_asg (pe_tup (pa_cons ha.pe (pa_cons hb.pe pa_nil s2) s1)) (pg_tup hc (pgs_cons (pg_name hN hi hx fx) (pgs_cons (pg_name hN hj hy fy) pgs_nil)) hn hst) hs hw h1) fun D σ H ⟨β, s, F, E, R, h, q⟩ =>
  ⟨β, s, F, _, R, h, fun x1 s1 h1 v H1 F1 R1 E1 g1 n1 => ⟨β, s1, F1, _, R1, h1, fun x2 s2 h2 u H2 F2 R2 E2 g2 n2 => by
    have g1' := g1.ext E2 R2.sub
    refine ⟨line1000 (show 2 ≤ 1000 by decide), fun p hp => ⟨p, [v, u], rfl, .inl (.inl upd_same), rfl, v, [u], rfl, u, [], rfl, rfl, ?_⟩⟩
    have R3 := R2.new (o := .tup [v, u]) hp
    have E3 : Ext β s2 σ H2 F2 s2 σ (upd H2 p (.tup [v, u])) F2 := .new hp
    have d12 : ∀ ad t ds t' ds', x1 = .own t ds → x2 = .own t' ds' → v = .ref ad → u = .ref ad → False := fun ad t ds t' ds' z1 z2 z3 z4 => by
      subst z1 z2 z3 z4
      exact g1.inH (sl := .bag) (n2 ad rfl)
    have g13 := g1'.ext E3 R3.sub
    have g23 := g2.ext E3 R3.sub
    have g2' := g13.beside (H0 := H) (i := i) R3.len g23 d12
    refine q.nx _ h2 _ _ F2 ((R3.setS i g13).setS j g2') ?_
    have E13 := (E1.trans E2).trans E3
    have n2' : newAt H x2 u := by
      cases x2 with
      | own t ds => exact fun ad z => E1.dm (n2 ad z)
      | _ => exact True.intro
    refine ⟨E13.xt, fun ad z => ?_⟩
    rcases Owned.setS (by rw [List.length_set, List.length_set]; exact R3.len) g2' z with y | ⟨⟨t, ds, rfl⟩, rfl⟩
    · rcases Owned.setS R3.len g13 y with y | ⟨⟨t, ds, rfl⟩, rfl⟩
      · exact E13.ow ad y
      · exact .inr (n1 ad rfl)
    · exact .inr (n2' ad rfl)⟩⟩⟩
theorem dt_isN {da : VDen} {p2 : Pos} {j : Nat} (ha : DV CA X a da) : DT CA X (.Compare a [.Is] [.Constant .none j p2] pos) (dTest (dIsN false da)) :=
  ⟨pt_w (pt_cmp (pc_isN ha.pe)) fun σ H Q h => by
    obtain ⟨β, s, F, P, R, h, q⟩ := h
    refine ⟨β, s, F, _, R, h, fun d s1 h1 x H1 F1 R1 E1 r1 => ?_⟩
    cases d with
    | non => exact ⟨_, by rw [r1.non_eq]; rfl, q _ s1 h1 H1 F1 R1 E1⟩
    | _ => exact ⟨_, by rw [r1.ne_non (by intro z; cases z)], q _ s1 h1 H1 F1 R1 E1⟩⟩
theorem dt_notN {da : VDen} {p2 : Pos} {j : Nat} (ha : DV CA X a da) : DT CA X (.Compare a [.IsNot] [.Constant .none j p2] pos) (dTest (dIsN true da)) :=
  ⟨pt_w (pt_cmp (pc_notN ha.pe)) fun σ H Q h => by
    obtain ⟨β, s, F, P, R, h, q⟩ := h
    refine ⟨β, s, F, _, R, h, fun d s1 h1 x H1 F1 R1 E1 r1 => ?_⟩
    cases d with
    | non => exact ⟨_, by rw [r1.non_eq]; rfl, q _ s1 h1 H1 F1 R1 E1⟩
    | _ => exact ⟨_, by rw [r1.ne_non (by intro z; cases z)]; rfl, q _ s1 h1 H1 F1 R1 E1⟩⟩
end
end Dl
end

section
set_option Elab.async false
set_option linter.all false
set_option maxRecDepth 100000
set_option maxHeartbeats 4000000
/-! The data layer, part 23: statements whose return tells the last Env too, and that slot 0's own list keeps its head; a store into a list of the slot's own. -/
namespace Dl
open PySem PySem.Spec PyProof.Rows L2
/-- slot 0 is the same object, and its list's head is the same value -/
def Hd (σ : L2.St) (H : Hp) (σ' : L2.St) (H' : Hp) : Prop := σ'[0]? = σ[0]? ∧ ∀ b c r, σ[0]? = some (some (.ref b)) → H b = some (.lst (c :: r)) → ∃ r', H' b = some (.lst (c :: r'))
theorem Hd.refl {σ : L2.St} {H : Hp} : Hd σ H σ H := ⟨rfl, fun b c r _ e => ⟨r, e⟩⟩
theorem Hd.trans {σ σ1 σ2 : L2.St} {H H1 H2 : Hp} (a : Hd σ H σ1 H1) (b : Hd σ1 H1 σ2 H2) : Hd σ H σ2 H2 := ⟨b.1.trans a.1, fun x c r e1 e2 => by
  obtain ⟨r1, e3⟩ := a.2 x c r e1 e2
  exact b.2 x c r1 (a.1.trans e1) e3⟩
structure REnds where
  nx : Env → Prop
  rt : D → Env → Prop
abbrev RDen := Env → REnds → Prop
def liftR (CA : Nat → Addr) (den : RDen) : TS := fun D σ H => ∃ β s F E, Rel CA β s σ H F ∧ den s E ∧ (∀ s', E.nx s' → ∀ σ' H' F', Rel CA β s' σ' H' F' → Ext β s σ H F s' σ' H' F' → Hd σ H σ' H' → D.nx σ' H') ∧
  (∀ d s', E.rt d s' → ∀ v σ' H' F', Rel CA β s' σ' H' F' → Ext β s σ H F s' σ' H' F' → Hd σ H σ' H' → Rep CA F' d v → D.rt v H')
def liftVp (CA : Nat → Addr) (den : VDen) : TE := fun σ H Q => ∃ β s F P, Rel CA β s σ H F ∧ den s P ∧
  ∀ d s', P d s' → ∀ v H' F', Rel CA β s' σ H' F' → Ext β s σ H F s' σ H' F' → Hd σ H σ H' → Rep CA F' d v → Q v H'
def liftTp (CA : Nat → Addr) (den : TDen) : TT := fun σ H Q => ∃ β s F P, Rel CA β s σ H F ∧ den s P ∧
  ∀ b s', P b s' → ∀ H' F', Rel CA β s' σ H' F' → Ext β s σ H F s' σ H' F' → Hd σ H σ H' → Q b H'
structure DVp (CA : Nat → Addr) (X : Cx) (e : Expr) (den : VDen) : Prop where
  pe : PE X e (liftVp CA den)
structure DTp (CA : Nat → Addr) (X : Cx) (e : Expr) (den : TDen) : Prop where
  pt : PT X e (liftTp CA den)
structure DR (CA : Nat → Addr) (X : Cx) (st : Stmt) (den : RDen) : Prop where
  ps : PS X st (liftR CA den)
structure DRs (CA : Nat → Addr) (X : Cx) (st : List Stmt) (den : RDen) : Prop where
  ps : PSs X st (liftR CA den)
section
variable {CA : Nat → Addr} {X : Cx} {a b c e o : Expr} {pos p apos : Pos} {da db : VDen} {ta : TDen} {dS : SDen} {dR dT : RDen} {st : Stmt} {sts : List Stmt} {i : Nat}
/-- an expression that only reads what the slots own -/
@[simp] def dPur (da : VDen) : VDen := fun s P => (∃ t ds, s[0]? = some (some (.own t ds))) ∧ da (frzE s) fun d s2 => s2 = frzE s ∧ light d = true ∧ P d s
@[simp] def dPurT (ta : TDen) : TDen := fun s P => (∃ t ds, s[0]? = some (some (.own t ds))) ∧ ta (frzE s) fun c s2 => s2 = frzE s ∧ P c s
theorem hd_pur {β : Beta} {s : Env} {σ : L2.St} {H F1 H2 F2 : Hp} {t : Tag} {ds : List D} (h0 : s[0]? = some (some (.own t ds))) (in1 : ∀ b, OwnAt s σ b → F1 b = H b) (R2 : Rel CA β (frzE s) σ H2 F2) (fz : Same F1 F2) : Hd σ H σ H2 :=
  ⟨rfl, fun b c r e1 e2 => ⟨r, R2.sub.nd (fz b _ (by rw [in1 b ⟨0, t, ds, h0, e1⟩]; exact e2)) (fun z => z)⟩⟩
theorem dvp_of (h : DV CA X e da) : DVp CA X e (dPur da) := ⟨pe_w h.pe fun σ H Q ⟨β, s, F, P, R, ⟨⟨t, ds, h0⟩, h⟩, q⟩ => by
  obtain ⟨F1, R1, sm, ow, in1⟩ := R.frzAllK
  refine ⟨β, frzE s, F1, _, R1, h, fun d s2 h2 v H2 F2 R2 E2 r2 => ?_⟩
  obtain ⟨rfl, hl, hp⟩ := h2
  obtain ⟨R3, E3⟩ := R.unborrow sm ow R2 E2
  exact q d s hp v H2 _ R3 E3 (hd_pur h0 in1 R2 E2.fz) (light_rep (fun b u z => E2.fz b u (sm b u z)) hl r2)⟩
theorem dtp_of (h : DT CA X e ta) : DTp CA X e (dPurT ta) := ⟨pt_w h.pt fun σ H Q ⟨β, s, F, P, R, ⟨⟨t, ds, h0⟩, h⟩, q⟩ => by
  obtain ⟨F1, R1, sm, ow, in1⟩ := R.frzAllK
  refine ⟨β, frzE s, F1, _, R1, h, fun c s2 h2 H2 F2 R2 E2 => ?_⟩
  obtain ⟨rfl, hp⟩ := h2
  obtain ⟨R3, E3⟩ := R.unborrow sm ow R2 E2
  exact q c s hp H2 _ R3 E3 (hd_pur h0 in1 R2 E2.fz)⟩
@[simp] def rSet (i : Nat) (da : VDen) : RDen := fun s E => da s fun d s1 => E.nx (s1.set i (some (.val d)))
theorem dr_set {x : Str} {pos' : Pos} (h0 : i ≠ 0) (hN : X.N.Nodup) (ha : DVp CA X e da) (hi : X.N[i]? = some x := by rfl) (hx : Loc X.env.scope x := by first | exact .inl rfl | exact .inr rfl) (hs : swapsWith e (some (.Name x pos')) pos.line X.env = pure false := by rfl) (hf : X.fn x = true ∨ X.env.scope.names.lookup x = some .local := by first | exact .inl rfl | exact .inr rfl) :
    DR CA X (.Assign [.Name x pos'] e pos) (rSet i da) := ⟨ps_w (ps_set hN hi hx ha.pe hs hf) fun D σ H ⟨β, s, F, E, R, h, q1, q2⟩ =>
  ⟨β, s, F, _, R, h, fun d s1 h1 v H1 F1 R1 E1 k1 r1 => q1 _ h1 _ H1 F1 (R1.setV i r1) (E1.trans (.setV R1.len)) ⟨List.getElem?_set_ne h0, k1.2⟩⟩⟩
@[simp] def rRet (da : VDen) : RDen := fun s E => da s E.rt
theorem dr_ret (ha : DVp CA X e da) : DR CA X (.Return (some e) pos) (rRet da) := ⟨ps_w (ps_ret ha.pe) fun D σ H ⟨β, s, F, E, R, h, q1, q2⟩ => ⟨β, s, F, _, R, h, fun d s1 h1 v H1 F1 R1 E1 k1 r1 => q2 d s1 h1 v σ H1 F1 R1 E1 k1 r1⟩⟩
@[simp] def rSeq (dR dT : RDen) : RDen := fun s E => dR s { E with nx := fun s1 => dT s1 E }
@[simp] def rNext : RDen := fun s E => E.nx s
theorem drs_nil : DRs CA X [] rNext := ⟨pss_w pss_nil fun D σ H ⟨β, s, F, E, R, h, q1, q2⟩ => q1 s h σ H F R .refl .refl⟩
theorem drs_one (h : DR CA X st dR) : DRs CA X [st] dR := ⟨pss_one h.ps⟩
theorem drs_cons (h1 : DR CA X st dR) (h2 : DRs CA X sts dT) : DRs CA X (st :: sts) (rSeq dR dT) := ⟨pss_w (pss_cons h1.ps h2.ps) fun D σ H ⟨β, s, F, E, R, h, q1, q2⟩ =>
  ⟨β, s, F, _, R, h, fun s' h' σ' H' F' R' E' k' => ⟨β, s', F', E, R', h', fun s2 z σ2 H2 F2 R2 E2 k2 => q1 s2 z σ2 H2 F2 R2 (E'.trans E2) (k'.trans k2), fun d s2 z v σ2 H2 F2 R2 E2 k2 rv => q2 d s2 z v σ2 H2 F2 R2 (E'.trans E2) (k'.trans k2) rv⟩, q2⟩⟩
@[simp] def rIf (ta : TDen) (dR dT : RDen) : RDen := fun s E => ta s fun c s1 => if c = true then dR s1 E else dT s1 E
theorem dr_if {bs cs : List Stmt} (hc : DTp CA X c ta) (ha : DRs CA X bs dR) (hb : DRs CA X cs dT) : DR CA X (.If c bs cs pos) (rIf ta dR dT) := ⟨ps_w (ps_if hc.pt ha.ps hb.ps) fun D σ H ⟨β, s, F, E, R, h, q1, q2⟩ =>
  ⟨β, s, F, _, R, h, fun c s1 h1 H1 F1 R1 E1 k1 => by
    have fin : ∀ dX : RDen, dX s1 E → liftR CA dX D σ H1 := fun dX hx => ⟨β, s1, F1, E, R1, hx, fun s2 z σ2 H2 F2 R2 E2 k2 => q1 s2 z σ2 H2 F2 R2 (E1.trans E2) (k1.trans k2), fun d s2 z v σ2 H2 F2 R2 E2 k2 rv => q2 d s2 z v σ2 H2 F2 R2 (E1.trans E2) (k1.trans k2) rv⟩
    cases c with
    | true => exact fin _ h1
    | false => exact fin _ h1⟩⟩
/-- x[k] = v, x the i-th slot's own list, k not 0 -/
@[simp] def rLset (i : Nat) (dk dv : VDen) : RDen := fun s E => dv s fun d s1 => (∃ ds, s1[i]? = some (some (.own .lst ds))) ∧ dk s1 fun kd s2 => match s2[i]?, kd with
  | some (some (.own .lst ds)), .int k => 1 ≤ k ∧ k < ds.length ∧ ds.length < 100000 ∧ E.nx (s2.set i (some (.own .lst (ds.set k.toNat d))))
  | _, _ => False
theorem reps_set {F : Hp} {d : D} {v : V} (r : Rep CA F d v) : ∀ {ds : List D} {vs : List V} {j : Nat}, Reps CA F ds vs → Reps CA F (ds.set j d) (vs.set j v)
  | [], vs, j, q => by
    unfold Reps at q
    subst q
    exact reps_nil
  | x :: ds, vs, j, q => by
    unfold Reps at q
    obtain ⟨u, us, rfl, q1, q2⟩ := q
    cases j with
    | zero => exact reps_cons r q2
    | succ j => exact reps_cons q1 (reps_set r q2)
theorem hd_set {σ : L2.St} {H : Hp} {a : Addr} {ws : List V} {k : Nat} {v : V} (hk : 1 ≤ k) (e : H a = some (.lst ws)) : Hd σ H σ (upd H a (.lst (ws.set k v))) := ⟨rfl, fun b c r _ e2 => by
  by_cases z : b = a
  · subst z
    rw [e] at e2
    cases e2
    obtain ⟨j, rfl⟩ : ∃ j, k = j + 1 := ⟨k - 1, by omega⟩
    exact ⟨r.set j v, upd_same⟩
  · exact ⟨r, by rw [upd_ne z]; exact e2⟩⟩
theorem dr_lset {pos' : Pos} (hx : PE X o (tVar i)) (hk : DVp CA X a da) (hv : DVp CA X e db) (hs : swapsWithSole [.Subscript o a pos'] e pos.line X.env = pure false := by rfl) (hw : swappedStores [.Subscript o a pos'] e X.env = pure none := by rfl)
    (h1 : (assignEach [.Subscript o a pos'] X.env).map (·.2) = [assign (.Subscript o a pos') X.env] := by rfl)
    (ha : ∀ v, assign (.Subscript o a pos') X.env v = (do
      let ov ← holding [v] (eval o X.env)
      let iv ← holding [v, ov] (eval a X.env)
      standAt pos'
      holding [v, ov, iv] (setItem ov iv v)
      release [v, ov, iv] []) := by intro _; rfl) :
    DR CA X (.Assign [.Subscript o a pos'] e pos) (rLset i da db) := ⟨ps_w (ps_asg hv.pe (pg_sub hx hk.pe set_list ha) hs hw h1) fun D σ H ⟨β, s, F, E, R, h, q1, q2⟩ =>
  ⟨β, s, F, _, R, h, fun d s1 h1 v H1 F1 R1 E1 k1 r1 => by
    obtain ⟨⟨ds0, h0⟩, h2⟩ := h1
    obtain ⟨ad, vs, e1, _, _⟩ := own_lst R1 h0
    refine ⟨.ref ad, e1, β, s1, F1, _, R1, h2, fun kd s2 h3 y H2 F2 R2 E2 k2 r2 => ?_⟩
    have h4 : (match (generalizing := false) s2[i]?, kd with
      | some (some (.own .lst ds)), .int k => 1 ≤ k ∧ k < ds.length ∧ ds.length < 100000 ∧ E.nx (s2.set i (some (.own .lst (ds.set k.toNat d))))
      | _, _ => False) := h3
    split at h4
    · next ds k e4 =>
      obtain ⟨g1, g2, g3, g4⟩ := h4
      obtain ⟨b, ws, f1, f2, f3⟩ := own_lst R2 e4
      rw [e1] at f1
      cases f1
      have g0 : (0 : Int) ≤ k := by omega
      refine ⟨ad, ws, k, k.toNat, rfl, by rw [r2.int_eq], f2, by rw [← f3.length]; unfold ixN; rw [if_pos g0, if_pos g2], q1 _ g4 σ _ F2 (R2.mut e4 e1 (t' := .lst) rfl (reps_set (r1.mono E2.fz) f3) True.intro) ((E1.trans E2).trans (.mut e4 e1)) ((k1.trans k2).trans (hd_set (by omega) f2))⟩
    · exact h4.elim⟩⟩
end
end Dl
end

section
set_option Elab.async false
set_option linter.all false
set_option maxRecDepth 100000
set_option maxHeartbeats 4000000
/-! The data layer, part 24: a, b = a list; a return of a new object. -/
namespace Dl
open PySem PySem.Spec PyProof.Rows L2
section
variable {CA : Nat → Addr} {X : Cx} {es : List Expr} {e : Expr} {pos : Pos} {n : Nat} {dF : FDen}
@[simp] def dgLst (n : Nat) (dR : GsDen) : GDen := fun d s P => match d with
  | .node .lst ds => ds.length = n ∧ dR ds s P
  | _ => False
theorem dg_lst {k : Nat} {ws : List Nat} {dR : GsDen} (hc : X.calm = true) (h : DGs CA X es ws dR) (hn : (assignEach es X.env).length = n := by rfl) (hst : (assignEach es X.env).findIdx? (·.1) = none := by rfl) : DG CA X (.Tuple es k pos) ws (dgLst n dR) :=
  ⟨pg_w (pg_unl hc h.pgs hn hst) fun v σ H Q ⟨β, s, F, d, P, R, r, h, q⟩ => by
    cases d with
    | node t ds => cases t with
      | lst =>
        obtain ⟨a, vs, rfl, ⟨o, e1, e2⟩, e3⟩ := r.node_eq
        cases (show o = .lst vs from e2)
        exact ⟨a, vs, rfl, .inl (R.sub.rd e1), by rw [← e3.length]; exact h.1, β, s, F, ds, P, R, e3, h.2, q⟩
      | _ => exact h.elim
    | _ => exact h.elim⟩
/-- return of an object that is new -/
@[simp] def dRetN (dF : FDen) : SDen := fun s E => dF s fun t ds _ => t.mutable ∧ E.rf t ds
theorem ds_retN1 (ha : DF CA X e dF) : DS CA X (.Return (some e) pos) (dRetN dF) := ⟨ps_w (ps_ret ha.pe) fun D σ H ⟨β, s, F, E, R, h, q⟩ =>
  ⟨β, s, F, _, R, h, fun t ds s1 h1 a vs H1 F1 R1 E1 z1 z2 z3 z4 z5 z6 => q.rf t ds h1.2 a vs H1 F1 E1.xt R1.sub R1.bok z1 z2 z3 h1.1 (fun z => z5 (.inl z)) (.inl z4)⟩⟩
end
end Dl
end

section
set_option Elab.async false
set_option linter.all false
set_option maxRecDepth 100000
set_option maxHeartbeats 4000000
namespace Dk
open PySem PySem.Spec PyProof.Rows L2 Dl
def den_is_whole  : SDen := (dRet (dAndV (dIsi .int (dVar 0)) (dNotV (dIsi .bool (dVar 0)))))
abbrev N_is_whole : List Str := ["value"]
def den_is_number (C_is_whole : Con) : SDen := (dRet (dAndV (dCall 1 C_is_whole (dCons (dVar 0) dNil)) (dChain fLe fLe (dVar 1) (dVar 0) (dVar 2))))
abbrev N_is_number : List Str := ["value", "least", "most"]
def den_is_name  : SDen := (dSeq (dIfS (dOrT (dNotT (dTest (dIsi .str (dVar 0)))) (dNotT (dTest (dChain fLe fLe (dC (.int 1)) (dCB fLen (dCons (dVar 0) dNil)) (dC (.int 6))))))
    (dRet (dC (.bl false)))
    dNext)
    (dRet (dCB fAll (dCons (dFz (dLc (diStr (dVar 0)) (dgName 1) dYes (dOp fInS (dVar 1) (dC (.str "abcdefghijklmnopqrstuvwxyz"))) [1])) dNil))))
abbrev N_is_name : List Str := ["value", "letter"]
def den_is_cell (C_is_number : Con) : SDen := (dSeq (dIfS (dOrT (dNotT (dTest (dIsi .tuple (dVar 0)))) (dTest (dOp fNe (dCB fLen (dCons (dVar 0) dNil)) (dC (.int 2)))))
    (dRet (dC (.bl false)))
    dNext)
    (dRet (dAndV (dCall 3 C_is_number (dCons (dOp fIx (dVar 0) (dC (.int 0))) (dCons (dC (.int 0)) (dCons (dC (.int 11)) dNil)))) (dCall 3 C_is_number (dCons (dOp fIx (dVar 0) (dC (.int 1))) (dCons (dC (.int 0)) (dCons (dC (.int 11)) dNil)))))))
abbrev N_is_cell : List Str := ["value"]
def den_beside (C_is_cell : Con) : SDen := (dSeq (dAsg (dVar 0) (dgTup 2 (dgCons (dgName 1) (dgCons (dgName 2) dgNil))))
    (dSeq (dSet 3 (dFz (dLst (dCons (dTup (dCons (dOp fSub (dVar 1) (dC (.int 1))) (dCons (dVar 2) dNil))) (dCons (dTup (dCons (dVar 1) (dCons (dOp fSub (dVar 2) (dC (.int 1))) dNil))) (dCons (dTup (dCons (dVar 1) (dCons (dOp fAdd (dVar 2) (dC (.int 1))) dNil))) (dCons (dTup (dCons (dOp fAdd (dVar 1) (dC (.int 1))) (dCons (dVar 2) dNil))) dNil)))))))
    (dRet (dFz (dLc (diL (dVar 3)) (dgName 4) (dTest (dCall 1 C_is_cell (dCons (dVar 4) dNil))) (dVar 4) [4])))))
abbrev N_beside : List Str := ["cell", "row", "column", "places", "place"]
def den_check_cells (C_is_cell : Con) : SDen := (dSeq (dIfS (dNotT (dTest (dIsi2 .list .tuple (dVar 0))))
    dNever
    dNext)
    (dSeq (dSetO 1 dNewT)
    (dFor (diEnum (dVar 0)) (dgTup 2 (dgCons (dgName 2) (dgCons (dgName 3) dgNil)))
    (dSeq (dIfS (dBorT (dOrT (dNotT (dTest (dCall 1 C_is_cell (dCons (dVar 3) dNil)))) (dTest (dDin false (dVar 3) (dVar 1)))))
    dNever
    dNext)
    (dPut 1 (dVar 3) (dC (.bl true)))))))
abbrev N_check_cells : List Str := ["cells", "seen", "at", "cell"]
def den_group_of (C_beside : Con) : SDen := (dSeq (dPar2 3 4 (dpO (dDispT (dVar 0) (dC (.bl true)))) (dpO (dLst (dCons (dVar 0) dNil))))
    (dSeq (dWhile (dBorT (dTest (dOp (fNil true) (dVar 4) (dFz (dLst dNil)))))
    (dSeq (dSet 5 (dPop 4))
    (dFor (diL (dIf (dTest (dVar 2)) dNeverV (dCall 1 C_beside (dCons (dVar 5) dNil)))) (dgName 6)
    (dIfS (dBorT (dAndT (dTest (dDin false (dVar 6) (dVar 1))) (dTest (dDin true (dVar 6) (dVar 3)))))
    (dSeq (dPut 3 (dVar 6) (dC (.bl true)))
    (dApp 4 (dVar 6)))
    dNext))))
    (dFrz 3 (dRet (dFz (dCF fSorted (dCons (dFz (dCF fList (dCons (dVar 3) dNil))) dNil)))))))
abbrev N_group_of : List Str := ["start", "known", "by_points", "seen", "left", "cell", "place"]
def den_groups (C_group_of : Con) : SDen := (dSeq (dPar3 2 3 4 (dpV (dFz (dDc (.dt []) (diL (dVar 0)) (dgName 5) dYes (dVar 5) (dC (.bl true)) [5]))) (dpO dNewT) (dpO (dLst dNil)))
    (dSeq (dFor (diL (dFz (dCF fSorted (dCons (dFz (dCF fList (dCons (dVar 0) dNil))) dNil)))) (dgName 5)
    (dIfS (dBorT (dTest (dDin true (dVar 5) (dVar 3))))
    (dSeq (dSet 6 (dCall 3 C_group_of (dCons (dVar 5) (dCons (dVar 2) (dCons (dVar 1) dNil)))))
    (dSeq (dApp 4 (dVar 6))
    (dFor (diL (dVar 6)) (dgName 7)
    (dPut 3 (dVar 7) (dC (.bl true))))))
    dNext))
    (dRetO 4)))
abbrev N_groups : List Str := ["cells", "by_points", "known", "seen", "found", "cell", "group", "place"]
def den_hangs_together (C_pieces : Con) : SDen := (dRet (dOp fEq (dCB fLen (dCons (dCall 1 C_pieces (dCons (dVar 0) dNil)) dNil)) (dC (.int 1))))
abbrev N_hangs_together : List Str := ["cells"]
def den_pieces (C_check_cells : Con) (C_groups : Con) : SDen := (dSeq (dDrop (dCall 1 C_check_cells (dCons (dVar 0) dNil)))
    (dRet (dCall 2 C_groups (dCons (dVar 0) (dCons (dC (.bl false)) dNil)))))
abbrev N_pieces : List Str := ["cells"]
def den_is_list  : SDen := (dRet (dIsi2 .list .tuple (dVar 0)))
abbrev N_is_list : List Str := ["value"]
def den_check_rows (C_is_list : Con) (C_is_name : Con) : SDen := (dSeq (dIfS (dOrT (dNotT (dTest (dCall 1 C_is_list (dCons (dVar 0) dNil)))) (dNotT (dTest (dChain fLe fLe (dC (.int 1)) (dCB fLen (dCons (dVar 0) dNil)) (dC (.int 12))))))
    dNever
    dNext)
    (dFor (diEnum (dVar 0)) (dgTup 2 (dgCons (dgName 1) (dgCons (dgName 2) dgNil)))
    (dSeq (dIfS (dOrT (dNotT (dTest (dCall 1 C_is_list (dCons (dVar 2) dNil)))) (dOrT (dNotT (dTest (dChain fLe fLe (dC (.int 1)) (dCB fLen (dCons (dVar 2) dNil)) (dC (.int 12))))) (dTest (dOp fNe (dCB fLen (dCons (dVar 2) dNil)) (dCB fLen (dCons (dOp fIx (dVar 0) (dC (.int 0))) dNil))))))
    dNever
    dNext)
    (dIfS (dNotT (dTest (dCB fAll (dCons (dFz (dLc (diL (dVar 2)) (dgName 3) dYes (dCall 1 C_is_name (dCons (dVar 3) dNil)) [3])) dNil))))
    dNever
    dNext))))
abbrev N_check_rows : List Str := ["rows", "at", "row", "name"]
def den_parcels_of  : SDen := (dSeq (dSet 1 (dFz (dSortSc 2 3 (dVar 0))))
    (dBox 4 (diL (dVar 1)) (dgName 3) (dVar 3) [3]
    (uSeq (uFor (diEnum (dVar 0)) (dgTup 2 (dgCons (dgName 5) (dgCons (dgName 2) dgNil))) (uFor (diEnum (dVar 2)) (dgTup 2 (dgCons (dgName 6) (dgCons (dgName 3) dgNil))) (uApp (dVar 3) (dTup (dCons (dVar 5) (dCons (dVar 6) dNil))))))
    uRet)))
abbrev N_parcels_of : List Str := ["rows", "names", "row", "name", "found", "down", "right"]
def den_is_edge (C_is_cell : Con) : SDen := (dSeq (dIfS (dOrT (dNotT (dTest (dCall 1 C_is_cell (dCons (dVar 0) dNil)))) (dOrT (dTest (dOp fGe (dOp fIx (dVar 0) (dC (.int 0))) (dVar 1))) (dTest (dOp fGe (dOp fIx (dVar 0) (dC (.int 1))) (dVar 2)))))
    (dRet (dC (.bl false)))
    dNext)
    (dRet (dOrV (dOp (fIn false) (dOp fIx (dVar 0) (dC (.int 0))) (dTup (dCons (dC (.int 0)) (dCons (dOp fSub (dVar 1) (dC (.int 1))) dNil)))) (dOp (fIn false) (dOp fIx (dVar 0) (dC (.int 1))) (dTup (dCons (dC (.int 0)) (dCons (dOp fSub (dVar 2) (dC (.int 1))) dNil)))))))
abbrev N_is_edge : List Str := ["cell", "height", "width"]
def den_check_road (C_is_list : Con) (C_is_edge : Con) : SDen := (dSeq (dIfS (dNotT (dTest (dCall 1 C_is_list (dCons (dVar 0) dNil))))
    dNever
    dNext)
    (dSeq (dSetO 3 dNewT)
    (dFor (diEnum (dVar 0)) (dgTup 2 (dgCons (dgName 4) (dgCons (dgName 5) dgNil)))
    (dSeq (dIfS (dBorT (dOrT (dNotT (dTest (dCall 3 C_is_edge (dCons (dVar 5) (dCons (dVar 1) (dCons (dVar 2) dNil)))))) (dTest (dDin false (dVar 5) (dVar 3)))))
    dNever
    dNext)
    (dPut 3 (dVar 5) (dC (.bl true)))))))
abbrev N_check_road : List Str := ["road", "height", "width", "seen", "at", "cell"]
def den_borders_of (C_beside : Con) : SDen := (dSeq (dPar2 1 2 (dpO dNewT) (dpO dNewK))
    (dSeq (dFor (diEnum (dVar 0)) (dgTup 2 (dgCons (dgName 3) (dgCons (dgName 4) dgNil)))
    (dFor (diEnum (dVar 4)) (dgTup 2 (dgCons (dgName 5) (dgCons (dgName 6) dgNil)))
    (dSeq (dSet 7 (dFz (dLc (diL (dCall 1 C_beside (dCons (dTup (dCons (dVar 3) (dCons (dVar 5) dNil))) dNil))) (dgName 10) (dAndT (dTest (dOp fLt (dOp fIx (dVar 10) (dC (.int 0))) (dCB fLen (dCons (dVar 0) dNil)))) (dTest (dOp fLt (dOp fIx (dVar 10) (dC (.int 1))) (dCB fLen (dCons (dVar 4) dNil))))) (dVar 10) [10])))
    (dSeq (dPut 2 (dVar 6) (dBor (dOp fSub (dOp fAdd (dDget2 (dVar 2) (dVar 6) (dC (.int 0))) (dC (.int 4))) (dCB fLen (dCons (dVar 7) dNil)))))
    (dFor (diL (dVar 7)) (dgName 8)
    (dSeq (dSet 9 (dOp fIx (dOp fIx (dVar 0) (dOp fIx (dVar 8) (dC (.int 0)))) (dOp fIx (dVar 8) (dC (.int 1)))))
    (dIfS (dTest (dOp fNe (dVar 9) (dVar 6)))
    (dPut 1 (dTup (dCons (dVar 6) (dCons (dVar 9) dNil))) (dBor (dOp fAdd (dDget2 (dVar 1) (dTup (dCons (dVar 6) (dCons (dVar 9) dNil))) (dC (.int 0))) (dC (.int 1)))))
    dNext)))))))
    (dFrz 1 (dFrz 2 (dRet (dTup (dCons (dVar 1) (dCons (dVar 2) dNil))))))))
abbrev N_borders_of : List Str := ["rows", "borders", "rims", "down", "row", "right", "name", "places", "place", "other", "cell"]
def den_Plat___init__ (C_check_rows : Con) (C_parcels_of : Con) (C_hangs_together : Con) (C_check_road : Con) (C_borders_of : Con) : SDen := (dSeq (dDrop (dCall 1 C_check_rows (dCons (dVar 1) dNil)))
    (dSeq (dFld 0 0 "own_rows" (dFz (dLc (diL (dVar 1)) (dgName 3) dYes (dFz (dCF fList (dCons (dVar 3) dNil))) [3])))
    (dSeq (dFld 0 0 "own_cells" (dCall 1 C_parcels_of (dCons (dAttrO 0 0 "own_rows") dNil)))
    (dSeq (dIfS (dTest (dOp fGt (dCB fLen (dCons (dAttrO 0 0 "own_cells") dNil)) (dC (.int 12))))
    dNever
    dNext)
    (dSeq (dFor (diKeys 0 0 "own_cells") (dgName 4)
    (dIfS (dNotT (dTest (dCall 1 C_hangs_together (dCons (dDget (dAttrO 0 0 "own_cells") (dVar 4)) dNil))))
    dNever
    dNext))
    (dSeq (dFld 0 0 "height" (dCB fLen (dCons (dAttrO 0 0 "own_rows") dNil)))
    (dSeq (dFld 0 0 "width" (dCB fLen (dCons (dOp fIx (dAttrO 0 0 "own_rows") (dC (.int 0))) dNil)))
    (dSeq (dDrop (dCall 3 C_check_road (dCons (dVar 2) (dCons (dAttrO 0 0 "height") (dCons (dAttrO 0 0 "width") dNil)))))
    (dSeq (dFld 0 0 "own_road" (dFz (dCF fSorted (dCons (dFz (dCF fList (dCons (dVar 2) dNil))) dNil))))
    (dFld2 0 0 "own_borders" "own_rims" (dCall 1 C_borders_of (dCons (dAttrO 0 0 "own_rows") dNil))))))))))))
abbrev N_Plat___init__ : List Str := ["self", "rows", "road", "row", "name"]
def den_Plat_names  : SDen := (dRet (dFz (dCF fList (dCons (dAttr 0 "own_cells" (dVar 0)) dNil))))
abbrev N_Plat_names : List Str := ["self"]
def den_Plat_fronts (C_Plat_need_parcel : Con) : SDen := (dSeq (dDrop (dMeth 0 "need_parcel" 2 C_Plat_need_parcel (dVar 0) (dCons (dVar 1) dNil)))
    (dRet (dCB fAny (dCons (dFz (dLc (diL (dAttr 0 "own_road" (dVar 0))) (dgTup 2 (dgCons (dgName 2) (dgCons (dgName 3) dgNil))) dYes (dOp fEq (dOp fIx (dOp fIx (dAttr 0 "own_rows" (dVar 0)) (dVar 2)) (dVar 3)) (dVar 1)) [2, 3])) dNil))))
abbrev N_Plat_fronts : List Str := ["self", "name", "row", "column"]
def den_Plat_border (C_Plat_need_parcel : Con) : SDen := (dSeq (dDrop (dMeth 0 "need_parcel" 2 C_Plat_need_parcel (dVar 0) (dCons (dVar 1) dNil)))
    (dSeq (dDrop (dMeth 0 "need_parcel" 2 C_Plat_need_parcel (dVar 0) (dCons (dVar 2) dNil)))
    (dRet (dDget2 (dAttr 0 "own_borders" (dVar 0)) (dTup (dCons (dVar 1) (dCons (dVar 2) dNil))) (dC (.int 0))))))
abbrev N_Plat_border : List Str := ["self", "first", "second"]
def den_Plat_need_parcel  : SDen := (dIfS (dOrT (dNotT (dTest (dIsi .str (dVar 1)))) (dTest (dDin true (dVar 1) (dAttr 0 "own_cells" (dVar 0)))))
    dNever
    dNext)
abbrev N_Plat_need_parcel : List Str := ["self", "name"]
def den_Plat___contains__  : SDen := (dRet (dAndV (dIsi .str (dVar 1)) (dDin false (dVar 1) (dAttr 0 "own_cells" (dVar 0)))))
abbrev N_Plat___contains__ : List Str := ["self", "name"]
def den_is_step (C_Plat___contains__ : Con) (C_Plat_border : Con) : SDen := (dSeq (dIfS (dOrT (dNotT (dTest (dIsi .tuple (dVar 1)))) (dOrT (dTest (dOp fNe (dCB fLen (dCons (dVar 1) dNil)) (dC (.int 2)))) (dOrT (dTest (dOp (fHas true 0 C_Plat___contains__) (dOp fIx (dVar 1) (dC (.int 0))) (dVar 0))) (dTest (dOp (fHas true 0 C_Plat___contains__) (dOp fIx (dVar 1) (dC (.int 1))) (dVar 0))))))
    (dRet (dC (.bl false)))
    dNext)
    (dRet (dOp fGt (dMeth 0 "border" 3 C_Plat_border (dVar 0) (dCons (dOp fIx (dVar 1) (dC (.int 0))) (dCons (dOp fIx (dVar 1) (dC (.int 1))) dNil))) (dC (.int 0)))))
abbrev N_is_step : List Str := ["plat", "value"]
def den_check_steps (C_is_list : Con) (C_is_step : Con) : SDen := (dSeq (dIfS (dNotT (dTest (dCall 1 C_is_list (dCons (dVar 1) dNil))))
    dNever
    dNext)
    (dFor (diEnum (dVar 1)) (dgTup 2 (dgCons (dgName 2) (dgCons (dgName 3) dgNil)))
    (dIfS (dNotT (dTest (dCall 2 C_is_step (dCons (dVar 0) (dCons (dVar 3) dNil)))))
    dNever
    dNext)))
abbrev N_check_steps : List Str := ["plat", "steps", "at", "step"]
def den_onward  : SDen := (dBox 2 (diL (dVar 0)) (dgName 3) (dVar 3) [3]
    (uSeq (uFor (diL (dVar 1)) (dgTup 2 (dgCons (dgName 4) (dgCons (dgName 5) dgNil))) (uApp (dVar 4) (dVar 5)))
    uRet))
abbrev N_onward : List Str := ["names", "steps", "found", "name", "start", "over"]
def den_Ways___init__ (C_check_steps : Con) (C_onward : Con) (C_Plat_names : Con) (C_Plat_fronts : Con) : SDen := (dSeq (dDrop (dCall 2 C_check_steps (dCons (dVar 1) (dCons (dVar 2) dNil))))
    (dSeq (dFld 1 0 "plat" (dVar 1))
    (dSeq (dFld 1 0 "own_steps" (dFz (dSortSet (dVar 2))))
    (dSeq (dFld 1 0 "own_leads" (dCall 2 C_onward (dCons (dMeth 0 "names" 1 C_Plat_names (dVar 1) dNil) (dCons (dAttrO 1 0 "own_steps") dNil))))
    (dFld 1 0 "own_fronts" (dFz (dDc (.dk []) (diL (dMeth 0 "names" 1 C_Plat_names (dVar 1) dNil)) (dgName 3) dYes (dVar 3) (dMeth 0 "fronts" 2 C_Plat_fronts (dVar 1) (dCons (dVar 3) dNil)) [3])))))))
abbrev N_Ways___init__ : List Str := ["self", "plat", "steps", "name"]
def den_Ways_with_steps (C_check_steps : Con) (C_Ways___init__ : ConI) : SDen := (dSeq (dDrop (dCall 2 C_check_steps (dCons (dAttr 1 "plat" (dVar 0)) (dCons (dVar 1) dNil))))
    (dRet (dMake 1 3 C_Ways___init__ (dCons (dAttr 1 "plat" (dVar 0)) (dCons (dFz (dLst (dStar (dAttr 1 "own_steps" (dVar 0)) (dStar (dVar 1) dNil)))) dNil)))))
abbrev N_Ways_with_steps : List Str := ["self", "steps"]
def den_Ways_comes (C_Ways_need_parcel : Con) (C_Ways_distances : Con) : SDen := (dSeq (dDrop (dMeth 1 "need_parcel" 2 C_Ways_need_parcel (dVar 0) (dCons (dVar 1) dNil)))
    (dRet (dDin false (dVar 1) (dMeth 1 "distances" 2 C_Ways_distances (dVar 0) (dCons (dC (.str "")) dNil)))))
abbrev N_Ways_comes : List Str := ["self", "name"]
def den_Ways_way (C_Ways_need_parcel : Con) (C_Ways_distances : Con) : SDen := (dSeq (dDrop (dMeth 1 "need_parcel" 2 C_Ways_need_parcel (dVar 0) (dCons (dVar 1) dNil)))
    (dSeq (dSet 2 (dMeth 1 "distances" 2 C_Ways_distances (dVar 0) (dCons (dC (.str "")) dNil)))
    (dSeq (dIfS (dTest (dDin true (dVar 1) (dVar 2)))
    (dRet (dC .non))
    dNext)
    (dSeq (dSetO 3 (dLst (dCons (dVar 1) dNil)))
    (dSeq (dWhile (dBorT (dTest (dOp fGt (dDget (dVar 2) (dOp fIx (dVar 3) (dNeg (dC (.int 1))))) (dC (.int 0)))))
    (dSeq (dSet 4 (dBor (dOp fSub (dDget (dVar 2) (dOp fIx (dVar 3) (dNeg (dC (.int 1))))) (dC (.int 1)))))
    (dApp 3 (dBor (dOp fIx (dFz (dLc (diL (dDget (dAttr 1 "own_leads" (dVar 0)) (dOp fIx (dVar 3) (dNeg (dC (.int 1)))))) (dgName 5) (dTest (dOp fEq (dDget2 (dVar 2) (dVar 5) (dNeg (dC (.int 1)))) (dVar 4))) (dVar 5) [5])) (dC (.int 0)))))))
    (dRetF 3))))))
abbrev N_Ways_way : List Str := ["self", "name", "far", "found", "nearer", "over"]
def den_Ways_bare (C_Ways_distances : Con) : SDen := (dSeq (dSet 1 (dMeth 1 "distances" 2 C_Ways_distances (dVar 0) (dCons (dC (.str "")) dNil)))
    (dRet (dFz (dLc (diKeys 0 1 "own_leads") (dgName 2) (dTest (dDin true (dVar 2) (dVar 1))) (dVar 2) [2]))))
abbrev N_Ways_bare : List Str := ["self", "far", "name"]
def den_Ways_distances  : SDen := (dSeq (dSetO 2 (dDc (.dk []) (diKeys 0 1 "own_leads") (dgName 3) (dAndT (dTest (dDget (dAttr 1 "own_fronts" (dVar 0)) (dVar 3))) (dTest (dOp fNe (dVar 3) (dVar 1)))) (dVar 3) (dC (.int 0)) [3]))
    (dSeq (dAsg (dTup (dCons (dC (.int 0)) (dCons (dC (.bl true)) dNil))) (dgTup 2 (dgCons (dgName 4) (dgCons (dgName 5) dgNil))))
    (dSeq (dWhile (dTest (dVar 5))
    (dSeq (dSet 6 (dFz (dLc (diKeys 0 1 "own_leads") (dgName 3) (dBorT (dAndT (dTest (dDin true (dVar 3) (dVar 2))) (dAndT (dTest (dOp fNe (dVar 3) (dVar 1))) (dTest (dCB fAny (dCons (dFz (dLc (diL (dDget (dAttr 1 "own_leads" (dVar 0)) (dVar 3))) (dgName 7) dYes (dDin false (dVar 7) (dVar 2)) [7])) dNil)))))) (dVar 3) [3])))
    (dSeq (dPar2 4 5 (dpV (dOp fAdd (dVar 4) (dC (.int 1)))) (dpV (dOp (fNil true) (dVar 6) (dFz (dLst dNil)))))
    (dFor (diL (dVar 6)) (dgName 3)
    (dPut 2 (dVar 3) (dVar 4))))))
    (dRetO 2))))
abbrev N_Ways_distances : List Str := ["self", "without", "found", "name", "steps", "more", "late", "over"]
def den_Ways_need_parcel (C_Plat___contains__ : Con) : SDen := (dIfS (dTest (dOp (fHas true 0 C_Plat___contains__) (dVar 1) (dAttr 1 "plat" (dVar 0))))
    dNever
    dNext)
abbrev N_Ways_need_parcel : List Str := ["self", "name"]
def den__law_pick (C__law_draw : Con) : SDen := (dRet (dOp fIx (dVar 1) (dCall 2 C__law_draw (dConsB 0 (dCons (dCB fLen (dCons (dVar 1) dNil)) dNil)))))
abbrev N__law_pick : List Str := ["_law_bag_here", "_law_some"]
def den__law_mixed (C__law_draw : Con) : SDen := (dSeq (dSetO 2 (dLst dNil))
    (dSeq (dFor (diL (dVar 1)) (dgName 3)
    (dIns 2 (dBor (dCall 2 C__law_draw (dConsB 0 (dCons (dOp fAdd (dCB fLen (dCons (dVar 2) dNil)) (dC (.int 1))) dNil)))) (dVar 3)))
    (dRetO 2)))
abbrev N__law_mixed : List Str := ["_law_bag_here", "_law_some", "_law_found", "_law_item"]
def den__law_word (C__law_draw : Con) (C__law_pick : Con) : SDen := (dSeq (dSet 2 (dC (.str "abcdefghijklmnopqrstuvwxyz")))
    (dRet (dJoin (dFz (dLc (diRange (dOp fAdd (dC (.int 1)) (dCall 2 C__law_draw (dConsB 0 (dCons (dVar 1) dNil))))) (dgName 3) dYes (dCall 2 C__law_pick (dConsB 0 (dCons (dVar 2) dNil))) [3])))))
abbrev N__law_word : List Str := ["_law_bag_here", "_law_most", "_law_letters", "_law_k"]
def den__law_names (C__law_word : Con) (C__law_draw : Con) (C__law_pick : Con) : SDen := (dSeq (dSetO 2 (dLst dNil))
    (dSeq (dFor (diRange (dVar 1)) (dgName 3)
    (dSeq (dSet 4 (dCall 2 C__law_word (dConsB 0 (dCons (dC (.int 6)) dNil))))
    (dSeq (dIfS (dBorT (dAndT (dTest (dOp (fNil true) (dVar 2) (dFz (dLst dNil)))) (dTest (dOp fEq (dCall 2 C__law_draw (dConsB 0 (dCons (dC (.int 2)) dNil))) (dC (.int 0))))))
    (dSeq (dSet 5 (dBor (dCall 2 C__law_pick (dConsB 0 (dCons (dVar 2) dNil)))))
    (dSeq (dSet 6 (dCall 2 C__law_draw (dConsB 0 (dCons (dCB fLen (dCons (dVar 5) dNil)) dNil))))
    (dSet 4 (dSlS (dOp fCatS (dOp fCatS (dSlS (dVar 5) dNoPart (dPart (dVar 6))) (dSlS (dVar 4) dNoPart (dPart (dC (.int 1))))) (dSlS (dVar 5) (dPart (dOp fAdd (dVar 6) (dCall 2 C__law_draw (dConsB 0 (dCons (dC (.int 2)) dNil))))) dNoPart)) dNoPart (dPart (dC (.int 6)))))))
    dNext)
    (dApp 2 (dBor (dOp fIx (dFz (dLc (diL (dFz (dOpF fCat (dFz (dLst (dCons (dVar 4) dNil))) (dFz (dCF fListS (dCons (dC (.str "abcdefghijklmnop")) dNil)))))) (dgName 7) (dTest (dOp (fIn true) (dVar 7) (dVar 2))) (dVar 7) [7])) (dC (.int 0))))))))
    (dRetO 2)))
abbrev N__law_names : List Str := ["_law_bag_here", "_law_many", "_law_found", "_law_k", "_law_word_here", "_law_old", "_law_at", "_law_one"]
def den__law_four  : SDen := (dRet (dFz (dLst (dCons (dTup (dCons (dNeg (dC (.int 1))) (dCons (dC (.int 0)) dNil))) (dCons (dTup (dCons (dC (.int 0)) (dCons (dNeg (dC (.int 1))) dNil))) (dCons (dTup (dCons (dC (.int 0)) (dCons (dC (.int 1)) dNil))) (dCons (dTup (dCons (dC (.int 1)) (dCons (dC (.int 0)) dNil))) dNil)))))))
abbrev N__law_four : List Str := []
def den__law_all_cells  : SDen := (dSeq (dSet 2 (dFz (dLst dNil)))
    (dSeq (dFor (diRange (dVar 0)) (dgName 3)
    (dSet 2 (dFz (dOpF fCat (dVar 2) (dFz (dLc (diRange (dVar 1)) (dgName 4) dYes (dTup (dCons (dVar 3) (dCons (dVar 4) dNil))) [4]))))))
    (dRet (dVar 2))))
abbrev N__law_all_cells : List Str := ["_law_height", "_law_width", "_law_found", "_law_row", "_law_column"]
def den__law_sizes (C__law_draw : Con) (C__law_pick : Con) : SDen := (dSeq (dIfS (dTest (dOp fEq (dCall 2 C__law_draw (dConsB 0 (dCons (dC (.int 24)) dNil))) (dC (.int 23))))
    (dRet (dCall 2 C__law_pick (dConsB 0 (dCons (dFz (dLst (dCons (dTup (dCons (dC (.int 12)) (dCons (dC (.int 12)) dNil))) (dCons (dTup (dCons (dC (.int 1)) (dCons (dC (.int 12)) dNil))) (dCons (dTup (dCons (dC (.int 12)) (dCons (dC (.int 1)) dNil))) (dCons (dTup (dCons (dC (.int 7)) (dCons (dC (.int 5)) dNil))) dNil)))))) dNil))))
    dNext)
    (dRet (dTup (dCons (dOp fAdd (dC (.int 1)) (dCall 2 C__law_draw (dConsB 0 (dCons (dC (.int 4)) dNil)))) (dCons (dOp fAdd (dC (.int 1)) (dCall 2 C__law_draw (dConsB 0 (dCons (dC (.int 4)) dNil)))) dNil)))))
abbrev N__law_sizes : List Str := ["_law_bag_here"]
def den__law_sides (C__law_four : Con) : SDen := (dSeq (dSet 3 (dFz (dLc (diL (dCall 0 C__law_four dNil)) (dgTup 2 (dgCons (dgName 4) (dgCons (dgName 5) dgNil))) dYes (dTup (dCons (dOp fAdd (dOp fIx (dVar 2) (dC (.int 0))) (dVar 4)) (dCons (dOp fAdd (dOp fIx (dVar 2) (dC (.int 1))) (dVar 5)) dNil))) [4, 5])))
    (dRet (dFz (dLc (diL (dVar 3)) (dgName 6) (dAndT (dTest (dChain fLe fLt (dC (.int 0)) (dOp fIx (dVar 6) (dC (.int 0))) (dVar 0))) (dTest (dChain fLe fLt (dC (.int 0)) (dOp fIx (dVar 6) (dC (.int 1))) (dVar 1)))) (dVar 6) [6]))))
abbrev N__law_sides : List Str := ["_law_height", "_law_width", "_law_cell", "_law_near", "_law_a", "_law_b", "_law_one"]
def den__law_grown (C__law_all_cells : Con) (C__law_draw : Con) (C__law_sides : Con) (C__law_pick : Con) : SDen := (dSeq (dPar2 4 5 (dpV (dCall 2 C__law_all_cells (dCons (dVar 1) (dCons (dVar 2) dNil)))) (dpO dNewT))
    (dSeq (dSetO 6 (dCF fList (dCons (dVar 4) dNil)))
    (dSeq (dFor (diL (dVar 3)) (dgName 7)
    (dIfS (dBorT (dTest (dOp (fNil true) (dVar 6) (dFz (dLst dNil)))))
    (dPut 5 (dPopAt 6 (dBor (dCall 2 C__law_draw (dConsB 0 (dCons (dCB fLen (dCons (dVar 6) dNil)) dNil))))) (dVar 7))
    dNext))
    (dFrz 6 (dSeq (dFor (diRange (dCB fLen (dCons (dVar 4) dNil))) (dgName 8)
    (dSeq (dFor (diL (dVar 6)) (dgName 9)
    (dSeq (dSet 10 (dFz (dLc (diL (dCall 3 C__law_sides (dCons (dVar 1) (dCons (dVar 2) (dCons (dVar 9) dNil))))) (dgName 11) (dBorT (dTest (dDin false (dVar 11) (dVar 5)))) (dBor (dDget (dVar 5) (dVar 11))) [11])))
    (dIfS (dTest (dOp (fNil true) (dVar 10) (dFz (dLst dNil))))
    (dPut 5 (dVar 9) (dCall 2 C__law_pick (dConsB 0 (dCons (dVar 10) dNil))))
    dNext)))
    (dSeq (dSet 6 (dFz (dLc (diL (dVar 4)) (dgName 9) (dBorT (dTest (dDin true (dVar 9) (dVar 5)))) (dVar 9) [9])))
    (dIfS (dTest (dOp (fNil false) (dVar 6) (dFz (dLst dNil))))
    dBreak
    dNext))))
    (dRetO 5))))))
abbrev N__law_grown : List Str := ["_law_bag_here", "_law_height", "_law_width", "_law_names_here", "_law_cells", "_law_found", "_law_left", "_law_name", "_law_turn", "_law_cell", "_law_near", "_law_one"]
def den__law_edge  : SDen := (dRet (dOrV (dOp (fIn false) (dOp fIx (dVar 2) (dC (.int 0))) (dTup (dCons (dC (.int 0)) (dCons (dOp fSub (dVar 0) (dC (.int 1))) dNil)))) (dOp (fIn false) (dOp fIx (dVar 2) (dC (.int 1))) (dTup (dCons (dC (.int 0)) (dCons (dOp fSub (dVar 1) (dC (.int 1))) dNil))))))
abbrev N__law_edge : List Str := ["_law_height", "_law_width", "_law_cell"]
def den__law_map (C__law_sizes : Con) (C__law_grown : Con) (C__law_names : Con) (C__law_draw : Con) (C__law_all_cells : Con) (C__law_edge : Con) : SDen := (dSeq (dAsg (dCall 1 C__law_sizes (dConsB 0 dNil)) (dgTup 2 (dgCons (dgName 2) (dgCons (dgName 3) dgNil))))
    (dSeq (dSet 4 (dCall 4 C__law_grown (dConsB 0 (dCons (dVar 2) (dCons (dVar 3) (dCons (dCall 2 C__law_names (dConsB 0 (dCons (dOp fAdd (dC (.int 1)) (dCall 2 C__law_draw (dConsB 0 (dCons (dVar 1) dNil)))) dNil))) dNil))))))
    (dSeq (dSet 5 (dFz (dLc (diRange (dVar 2)) (dgName 6) dYes (dFz (dLc (diRange (dVar 3)) (dgName 7) dYes (dDget (dVar 4) (dTup (dCons (dVar 6) (dCons (dVar 7) dNil)))) [7])) [6])))
    (dSeq (dSet 8 (dFz (dLc (diL (dCall 2 C__law_all_cells (dCons (dVar 2) (dCons (dVar 3) dNil)))) (dgName 9) (dTest (dCall 3 C__law_edge (dCons (dVar 2) (dCons (dVar 3) (dCons (dVar 9) dNil))))) (dVar 9) [9])))
    (dRet (dFz (dLst (dCons (dVar 5) (dCons (dFz (dLc (diL (dVar 8)) (dgName 9) (dTest (dOp fEq (dCall 2 C__law_draw (dConsB 0 (dCons (dC (.int 4)) dNil))) (dC (.int 0)))) (dVar 9) [9])) dNil)))))))))
abbrev N__law_map : List Str := ["_law_bag_here", "_law_most", "_law_height", "_law_width", "_law_found", "_law_rows", "_law_row", "_law_column", "_law_edge_here", "_law_cell"]
def den__law_made (C_Plat___init__ : ConI) : SDen := (dRet (dMakeK 0 3 1 1 C_Plat___init__ (dCons (dFz (dLc (diL (dVar 0)) (dgName 2) dYes (dFz (dCF fList (dCons (dVar 2) dNil))) [2])) dNil) (dCons (dFz (dCF fList (dCons (dVar 1) dNil))) dNil)))
abbrev N__law_made : List Str := ["_law_rows", "_law_road", "_law_row"]
def den__law_named  : SDen := (dRet (dFz (dSortSet (dFz (dCF fSumL (dCons (dFz (dLc (diL (dVar 0)) (dgName 1) dYes (dFz (dCF fList (dCons (dVar 1) dNil))) [1])) (dCons (dFz (dLst dNil)) dNil)))))))
abbrev N__law_named : List Str := ["_law_rows", "_law_row"]
def den__law_fronting  : SDen := (dRet (dFz (dSortSet (dFz (dLc (diL (dVar 1)) (dgName 2) dYes (dOp fIx (dOp fIx (dVar 0) (dOp fIx (dVar 2) (dC (.int 0)))) (dOp fIx (dVar 2) (dC (.int 1)))) [2])))))
abbrev N__law_fronting : List Str := ["_law_rows", "_law_road", "_law_cell"]
def den__law_possible (C__law_all_cells : Con) (C__law_sides : Con) : SDen := (dSeq (dSetO 1 dNewT)
    (dSeq (dFor (diL (dCall 2 C__law_all_cells (dCons (dCB fLen (dCons (dVar 0) dNil)) (dCons (dCB fLen (dCons (dOp fIx (dVar 0) (dC (.int 0))) dNil)) dNil)))) (dgName 2)
    (dFor (diL (dCall 3 C__law_sides (dCons (dCB fLen (dCons (dVar 0) dNil)) (dCons (dCB fLen (dCons (dOp fIx (dVar 0) (dC (.int 0))) dNil)) (dCons (dVar 2) dNil))))) (dgName 3)
    (dSeq (dPar2 4 5 (dpV (dOp fIx (dOp fIx (dVar 0) (dOp fIx (dVar 2) (dC (.int 0)))) (dOp fIx (dVar 2) (dC (.int 1))))) (dpV (dOp fIx (dOp fIx (dVar 0) (dOp fIx (dVar 3) (dC (.int 0)))) (dOp fIx (dVar 3) (dC (.int 1))))))
    (dIfS (dTest (dOp fNe (dVar 4) (dVar 5)))
    (dPut 1 (dTup (dCons (dVar 4) (dCons (dVar 5) dNil))) (dC (.bl true)))
    dNext))))
    (dFrz 1 (dRet (dFz (dCF fSorted (dCons (dFz (dCF fList (dCons (dVar 1) dNil))) dNil)))))))
abbrev N__law_possible : List Str := ["_law_rows", "_law_found", "_law_cell", "_law_near", "_law_one", "_law_two"]
def den__law_given (C__law_pick : Con) (C__law_possible : Con) (C__law_draw : Con) (C__law_mixed : Con) : SDen := (dSeq (dSet 2 (dCall 2 C__law_pick (dConsB 0 (dCons (dFz (dLst (dCons (dC (.int 2)) (dCons (dC (.int 2)) (dCons (dC (.int 3)) (dCons (dC (.int 1)) dNil)))))) dNil))))
    (dSeq (dSet 3 (dFz (dLc (diL (dCall 1 C__law_possible (dCons (dVar 1) dNil))) (dgName 4) (dTest (dOp fEq (dCall 2 C__law_draw (dConsB 0 (dCons (dVar 2) dNil))) (dC (.int 0)))) (dVar 4) [4])))
    (dRet (dCall 2 C__law_mixed (dConsB 0 (dCons (dFz (dOpF fCat (dVar 3) (dFz (dSlL (dVar 3) dNoPart (dPart (dCall 2 C__law_draw (dConsB 0 (dCons (dC (.int 3)) dNil)))))))) dNil))))))
abbrev N__law_given : List Str := ["_law_bag_here", "_law_rows", "_law_few", "_law_some", "_law_step"]
def den__law_walks  : SDen := (dSeq (dPar2 4 5 (dpO (dLst dNil)) (dpV (dFz (dLst (dCons (dFz (dLst (dCons (dVar 0) dNil))) dNil)))))
    (dSeq (dFor (diRange (dCB fLen (dCons (dVar 1) dNil))) (dgName 6)
    (dSeq (dSet 7 (dFz (dLst dNil)))
    (dSeq (dFor (diL (dVar 5)) (dgName 8)
    (dIfS (dTest (dOp (fIn false) (dOp fIx (dVar 8) (dNeg (dC (.int 1)))) (dVar 3)))
    (dApp 4 (dVar 8))
    (dSet 7 (dFz (dOpF fCat (dVar 7) (dFz (dLc (diL (dVar 2)) (dgTup 2 (dgCons (dgName 9) (dgCons (dgName 10) dgNil))) (dAndT (dTest (dOp fEq (dVar 9) (dOp fIx (dVar 8) (dNeg (dC (.int 1)))))) (dTest (dOp (fIn true) (dVar 10) (dVar 8)))) (dFz (dOpF fCat (dVar 8) (dFz (dLst (dCons (dVar 10) dNil))))) [9, 10])))))))
    (dSet 5 (dVar 7)))))
    (dRetO 4)))
abbrev N__law_walks : List Str := ["_law_name", "_law_names_here", "_law_steps", "_law_front", "_law_found", "_law_rows", "_law_turn", "_law_late", "_law_row", "_law_start", "_law_over"]
def den__law_best  : SDen := (dRet (dIf (dTest (dOp (fNil true) (dVar 0) (dFz (dLst dNil)))) (dOp fIx (dCB fMinW (dCons (dFz (dLc (diL (dVar 0)) (dgName 1) dYes (dTup (dCons (dCB fLen (dCons (dVar 1) dNil)) (dCons (dVar 1) dNil))) [1])) dNil)) (dC (.int 1))) (dC .non)))
abbrev N__law_best : List Str := ["_law_walks_here", "_law_row"]
def den_law (C__law_map : Con) (C__law_fronting : Con) (C__law_given : Con) (C__law_named : Con) (C__law_made : Con) (C_Ways___init__ : ConI) (C__law_walks : Con) (C_Ways_way : ConM) (C__law_same : Con) (C__law_best : Con) (C_Ways_comes : Con) (C__law_possible : Con) (C_Ways_bare : Con) (C__law_pick : Con) (C_Ways_with_steps : Con) : SDen := (dSeq (dFor (diRange (dC (.int 2))) (dgName 2)
    (dSeq (dAsg (dCall 2 C__law_map (dConsB 1 (dCons (dC (.int 6)) dNil))) (dgLst 2 (dgCons (dgName 6) (dgCons (dgName 7) dgNil))))
    (dSeq (dAsg (dTup (dCons (dCall 2 C__law_made (dCons (dVar 6) (dCons (dVar 7) dNil))) (dCons (dCall 1 C__law_named (dCons (dVar 6) dNil)) (dCons (dCall 2 C__law_given (dConsB 1 (dCons (dVar 6) dNil))) (dCons (dCall 2 C__law_fronting (dCons (dVar 6) (dCons (dVar 7) dNil))) dNil))))) (dgTup 4 (dgCons (dgName 8) (dgCons (dgName 9) (dgCons (dgName 10) (dgCons (dgName 11) dgNil))))))
    (dSeq (dPar2 12 13 (dpV (dMake 1 3 C_Ways___init__ (dCons (dVar 8) (dCons (dVar 10) dNil)))) (dpV (dFz (dSortSet (dVar 10)))))
    (dSeq (dFor (diL (dVar 9)) (dgName 3)
    (dSeq (dSet 14 (dCall 4 C__law_walks (dCons (dVar 3) (dCons (dVar 9) (dCons (dVar 13) (dCons (dVar 11) dNil))))))
    (dSeq (dFor (diRange (dC (.int 2))) (dgName 15)
    (dSeq (dSetM 18 1 "way" 2 C_Ways_way (dVar 12) (dCons (dVar 3) dNil))
    (dSeq (dIfS (dBorT (dNotT (dTest (dCall 2 C__law_same (dCons (dFz (dLst (dCons (dVar 18) (dCons (dMeth 1 "comes" 2 C_Ways_comes (dVar 12) (dCons (dVar 3) dNil)) (dCons (dMethM 1 "way" 2 C_Ways_way (dVar 12) (dCons (dVar 3) dNil)) dNil))))) (dCons (dFz (dLst (dCons (dCall 1 C__law_best (dCons (dVar 14) dNil)) (dCons (dOp (fNil true) (dVar 14) (dFz (dLst dNil))) (dCons (dCall 1 C__law_best (dCons (dVar 14) dNil)) dNil))))) dNil))))))
    (dRet (dC (.bl false)))
    dNext)
    (dIfS (dBorT (dTest (dIsN true (dVar 18))))
    (dApp 18 (dC (.str "x")))
    dNext))))
    (dSeq (dSet 16 (dMethM 1 "way" 2 C_Ways_way (dVar 12) (dCons (dVar 3) dNil)))
    (dIfS (dTest (dIsN true (dVar 16)))
    (dSeq (dIfS (dOrT (dTest (dOp fNe (dOp fIx (dVar 16) (dC (.int 0))) (dVar 3))) (dOrT (dTest (dOp (fIn true) (dOp fIx (dVar 16) (dNeg (dC (.int 1)))) (dVar 11))) (dOrT (dTest (dCB fAny (dCons (dFz (dLc (diL (dFz (dSlL (dVar 16) dNoPart (dPart (dNeg (dC (.int 1))))))) (dgName 19) dYes (dOp (fIn false) (dVar 19) (dVar 11)) [19])) dNil))) (dTest (dOp fNe (dLenSet (dVar 16)) (dCB fLen (dCons (dVar 16) dNil)))))))
    (dRet (dC (.bl false)))
    dNext)
    (dIfS (dNotT (dTest (dCB fAll (dCons (dFz (dLc (diL (dFz (dLc (diZip (dVar 16) (dFz (dSlL (dVar 16) (dPart (dC (.int 1))) dNoPart))) (dgTup 2 (dgCons (dgName 19) (dgCons (dgName 21) dgNil))) dYes (dTup (dCons (dVar 19) (dCons (dVar 21) dNil))) [19, 21]))) (dgName 20) dYes (dOp fInP (dVar 20) (dVar 13)) [20])) dNil))))
    (dRet (dC (.bl false)))
    dNext))
    dNext)))))
    (dSeq (dSet 4 (dMake 1 3 C_Ways___init__ (dCons (dVar 8) (dCons (dCall 1 C__law_possible (dCons (dVar 6) dNil)) dNil))))
    (dSeq (dIfS (dNotT (dTest (dCall 2 C__law_same (dCons (dFz (dLst (dCons (dMeth 1 "bare" 1 C_Ways_bare (dVar 4) dNil) (dCons (dFz (dLc (diL (dVar 11)) (dgName 3) dYes (dMethM 1 "way" 2 C_Ways_way (dVar 4) (dCons (dVar 3) dNil)) [3])) dNil)))) (dCons (dFz (dLst (dCons (dIf (dTest (dOp (fNil false) (dVar 11) (dFz (dLst dNil)))) (dVar 9) (dFz (dLst dNil))) (dCons (dFz (dLc (diL (dVar 11)) (dgName 3) dYes (dFz (dLst (dCons (dVar 3) dNil))) [3])) dNil)))) dNil)))))
    (dRet (dC (.bl false)))
    dNext)
    (dSeq (dSet 5 (dCall 2 C__law_pick (dConsB 1 (dCons (dFz (dOpF fCat (dCall 1 C__law_possible (dCons (dVar 6) dNil)) (dFz (dLst (dCons (dC .non) dNil))))) dNil))))
    (dIfS (dTest (dIsN true (dVar 5)))
    (dSeq (dSet 17 (dMethR 1 "with_steps" C_Ways_with_steps (dVar 12) (dCons (dVar 5) dNil)))
    (dSeq (dIfS (dNotT (dTest (dCB fAll (dCons (dFz (dLc (diL (dVar 9)) (dgName 3) (dTest (dMeth 1 "comes" 2 C_Ways_comes (dVar 12) (dCons (dVar 3) dNil))) (dMeth 1 "comes" 2 C_Ways_comes (dVar 17) (dCons (dVar 3) dNil)) [3])) dNil))))
    (dRet (dC (.bl false)))
    dNext)
    (dIfS (dTest (dCB fAny (dCons (dFz (dLc (diL (dVar 9)) (dgName 3) (dTest (dMeth 1 "comes" 2 C_Ways_comes (dVar 12) (dCons (dVar 3) dNil))) (dOp fGt (dCB fLen (dCons (dMethM 1 "way" 2 C_Ways_way (dVar 17) (dCons (dVar 3) dNil)) dNil)) (dCB fLen (dCons (dMethM 1 "way" 2 C_Ways_way (dVar 12) (dCons (dVar 3) dNil)) dNil))) [3])) dNil)))
    (dRet (dC (.bl false)))
    dNext)))
    dNext)))))))))
    (dRet (dC (.bl true))))
abbrev N_law : List Str := ["_law_script", "_law_bag_here", "_law_turn", "_law_name", "_law_all_z", "_law_step", "_law_rows", "_law_road", "_law_plat", "_law_names_here", "_law_given_here", "_law_front", "_law_ways", "_law_steps", "_law_walks_here", "_law_again", "_law_due", "_law_late", "_law_told", "_law_one", "_law_pair", "_law_two"]
def den__law_same (C__law_same : Con) : SDen := (dSeq (dIfS (dTest (dIsi2 .list .tuple (dVar 1)))
    (dSeq (dIfS (dOrT (dTest (dOp fNe (dIsi .list (dVar 0)) (dIsi .list (dVar 1)))) (dTest (dOp fNe (dIsi .tuple (dVar 0)) (dIsi .tuple (dVar 1)))))
    (dRet (dC (.bl false)))
    dNext)
    (dRet (dAndV (dOp fEq (dCB fLen (dCons (dVar 0) dNil)) (dCB fLen (dCons (dVar 1) dNil))) (dCB fAll (dCons (dFz (dLc (diZip (dVar 0) (dVar 1)) (dgTup 2 (dgCons (dgName 2) (dgCons (dgName 3) dgNil))) dYes (dCall 2 C__law_same (dCons (dVar 2) (dCons (dVar 3) dNil))) [2, 3])) dNil)))))
    dNext)
    (dSeq (dIfS (dOrT (dTest (dIsN false (dVar 1))) (dTest (dIsN false (dVar 0))))
    (dRet (dAndV (dIsN false (dVar 1)) (dIsN false (dVar 0))))
    dNext)
    (dSeq (dIfS (dOrT (dTest (dIsi .dict (dVar 1))) (dTest (dIsi .dict (dVar 0))))
    (dRet (dAndV (dIsi .dict (dVar 1)) (dAndV (dIsi .dict (dVar 0)) (dOp fEq (dVar 0) (dVar 1)))))
    dNext)
    (dSeq (dIfS (dOrT (dTest (dIsi .bool (dVar 1))) (dTest (dIsi .bool (dVar 0))))
    (dRet (dAndV (dIsi .bool (dVar 1)) (dAndV (dIsi .bool (dVar 0)) (dOp fEq (dVar 0) (dVar 1)))))
    dNext)
    (dSeq (dIfS (dTest (dIsi .int (dVar 1)))
    (dRet (dAndV (dIsi .int (dVar 0)) (dOp fEq (dVar 0) (dVar 1))))
    dNext)
    (dRet (dAndV (dIsi .str (dVar 1)) (dAndV (dIsi .str (dVar 0)) (dOp fEq (dVar 0) (dVar 1))))))))))
abbrev N__law_same : List Str := ["_law_found", "_law_due", "_law_one", "_law_two"]
def den__law_bag  : SDen := (dSeq (dSet 1 (dFz (dCF fList (dCons (dFz (dSlL (dVar 0) dNoPart (dPart (dC (.int 63))))) dNil))))
    (dRetN (dLst (dCons (dVar 1) (dCons (dC (.int 0)) (dCons (dC (.int 0)) (dCons (dOp fAdd (dC (.int 12030)) (dOp fMul (dC (.int 31)) (dCB fLen (dCons (dVar 1) dNil)))) (dCons (dC (.int 0)) dNil))))))))
abbrev N__law_bag : List Str := ["_law_script", "_law_cells"]
def den__law_draw  : RDen := (rSeq (rLset 0 (dPur (dC (.int 4))) (dPur (dOp fAdd (dOp fIx (dVar 0) (dC (.int 4))) (dC (.int 1)))))
    (rSeq (rIf (dPurT (dAndT (dTest (dOp fEq (dOp fIx (dVar 0) (dC (.int 2))) (dC (.int 0)))) (dTest (dOp fLt (dOp fIx (dVar 0) (dC (.int 1))) (dCB fLen (dCons (dOp fIx (dVar 0) (dC (.int 0))) dNil))))))
    (rSeq (rSet 2 (dPur (dCB fAbs (dCons (dOp fIx (dOp fIx (dVar 0) (dC (.int 0))) (dOp fIx (dVar 0) (dC (.int 1)))) dNil))))
    (rSeq (rLset 0 (dPur (dC (.int 1))) (dPur (dOp fAdd (dOp fIx (dVar 0) (dC (.int 1))) (dC (.int 1)))))
    (rIf (dPurT (dTest (dOp fGe (dVar 2) (dOp fPow (dC (.int 10)) (dC (.int 18))))))
    (rLset 0 (dPur (dC (.int 2))) (dPur (dVar 2)))
    (rLset 0 (dPur (dC (.int 3))) (dPur (dOp fMod (dCB fInt (dCons (dOp fAdd (dOp fAdd (dOp fMul (dOp fIx (dVar 0) (dC (.int 3))) (dC (.int 40993))) (dOp fMul (dOp fMod (dCB fInt (dCons (dVar 2) dNil)) (dC (.int 2147483111))) (dC (.int 769)))) (dC (.int 41))) dNil)) (dC (.int 2147483323))))))))
    rNext)
    (rSeq (rIf (dPurT (dTest (dOp fGt (dOp fIx (dVar 0) (dC (.int 2))) (dC (.int 0)))))
    (rSeq (rSet 3 (dPur (dOp fMod (dCB fInt (dCons (dOp fIx (dVar 0) (dC (.int 2))) dNil)) (dVar 1))))
    (rSeq (rLset 0 (dPur (dC (.int 2))) (dPur (dOp fFdiv (dOp fIx (dVar 0) (dC (.int 2))) (dVar 1))))
    (rRet (dPur (dVar 3)))))
    rNext)
    (rSeq (rSet 4 (dPur (dOp fIx (dVar 0) (dC (.int 3)))))
    (rSeq (rLset 0 (dPur (dC (.int 3))) (dPur (dOp fMod (dCB fInt (dCons (dOp fAdd (dOp fAdd (dOp fAdd (dOp fPow (dVar 4) (dC (.int 3))) (dOp fMul (dVar 4) (dC (.int 27611)))) (dOp fMul (dOp fIx (dVar 0) (dC (.int 4))) (dC (.int 1299709)))) (dC (.int 52361))) dNil)) (dC (.int 2147483323)))))
    (rRet (dPur (dOp fMod (dCB fInt (dCons (dOp fAdd (dOp fFdiv (dOp fIx (dVar 0) (dC (.int 3))) (dC (.int 67))) (dOp fMul (dOp fMod (dCB fInt (dCons (dOp fIx (dVar 0) (dC (.int 3))) dNil)) (dC (.int 7919))) (dC (.int 53)))) dNil)) (dVar 1)))))))))
abbrev N__law_draw : List Str := ["_law_bag_here", "_law_many", "_law_cell", "_law_digit", "_law_seed"]
end Dk
end

section
set_option linter.all false
set_option maxRecDepth 100000
/-! Plain facts, part 1: ways in a graph: distances, the way that goes down, all simple walks. -/
namespace Pm
section
variable {α : Type} [DecidableEq α]
structure Gr (α : Type) where
  ns : List α
  st : List (α × α)
  fr : α → Bool
def Gr.lead (G : Gr α) (n : α) : List α := (G.st.filter fun p => decide (p.1 = n)).map (·.2)
theorem mem_lead {G : Gr α} {n m : α} : m ∈ G.lead n ↔ (n, m) ∈ G.st := by
  unfold Gr.lead
  simp only [List.mem_map, List.mem_filter, decide_eq_true_eq]
  constructor
  · rintro ⟨⟨a, b⟩, ⟨h1, h2⟩, h3⟩
    simp only at h2 h3
    subst h2 h3
    exact h1
  · intro h
    exact ⟨(n, m), ⟨h, rfl⟩, rfl⟩
inductive Pth (G : Gr α) : α → Nat → Prop
  | zero {n : α} : G.fr n = true → Pth G n 0
  | succ {n m : α} {k : Nat} : m ∈ G.lead n → Pth G m k → Pth G n (k + 1)
def DistIs (G : Gr α) (n : α) (k : Nat) : Prop := Pth G n k ∧ ∀ j, j < k → ¬ Pth G n j
variable {G : Gr α}
theorem dist_of {n : α} : ∀ {k : Nat}, Pth G n k → ∃ j, j ≤ k ∧ DistIs G n j := by
  intro k
  induction k using Nat.strongRecOn with
  | _ k ih =>
    intro h
    by_cases q : ∃ j, j < k ∧ Pth G n j
    · obtain ⟨j, h1, h2⟩ := q
      obtain ⟨i, h3, h4⟩ := ih j h1 h2
      exact ⟨i, by omega, h4⟩
    · exact ⟨k, Nat.le_refl _, h, fun j h1 h2 => q ⟨j, h1, h2⟩⟩
theorem dist_uniq {n : α} {j k : Nat} (h1 : DistIs G n j) (h2 : DistIs G n k) : j = k := by
  rcases Nat.lt_trichotomy j k with h | h | h
  · exact (h2.2 j h h1.1).elim
  · exact h
  · exact (h1.2 k h h2.1).elim
theorem dist_down {n : α} {k : Nat} (h : DistIs G n (k + 1)) : ∃ m, m ∈ G.lead n ∧ DistIs G m k := by
  obtain ⟨h1, h2⟩ := h
  cases h1 with
  | @succ n m k e1 e2 =>
    exact ⟨m, e1, e2, fun j h3 h4 => h2 (j + 1) (by omega) (.succ e1 h4)⟩
theorem dist_pos {n : α} {k : Nat} (h : DistIs G n (k + 1)) : G.fr n = false := by
  cases q : G.fr n with
  | false => rfl
  | true => exact (h.2 0 (by omega) (.zero q)).elim
theorem dist_zero {n : α} : DistIs G n 0 ↔ G.fr n = true := by
  constructor
  · rintro ⟨h, _⟩
    cases h with
    | zero h => exact h
  · intro h
    exact ⟨.zero h, fun j h => by omega⟩
open Classical in
noncomputable def far (G : Gr α) (n : α) : Option Nat := if h : ∃ k, DistIs G n k then some h.choose else none
theorem far_some {n : α} {k : Nat} : far G n = some k ↔ DistIs G n k := by
  unfold far
  split
  · next h =>
    constructor
    · intro e
      have := h.choose_spec
      rw [Option.some.inj e] at this
      exact this
    · intro e
      rw [dist_uniq h.choose_spec e]
  · next h =>
    constructor
    · intro e; cases e
    · intro e; exact (h ⟨k, e⟩).elim
theorem far_none {n : α} : far G n = none ↔ ∀ k, ¬ Pth G n k := by
  unfold far
  split
  · next h =>
    constructor
    · intro e; cases e
    · intro e; exact (e _ h.choose_spec.1).elim
  · next h =>
    refine ⟨fun _ k e => ?_, fun _ => rfl⟩
    obtain ⟨j, _, h2⟩ := dist_of e
    exact h ⟨j, h2⟩
theorem far_le {n : α} {k : Nat} (h : Pth G n k) : ∃ j, far G n = some j ∧ j ≤ k := by
  obtain ⟨j, h1, h2⟩ := dist_of h
  exact ⟨j, far_some.mpr h2, h1⟩
/-- the way down -/
noncomputable def wyOf (G : Gr α) : Nat → α → List α
  | 0, n => [n]
  | k + 1, n => match (G.lead n).find? fun m => decide (far G m = some k) with
    | some m => n :: wyOf G k m
    | none => [n]
theorem wy_next {n : α} {k : Nat} (h : far G n = some (k + 1)) : ∃ m, (G.lead n).find? (fun m => decide (far G m = some k)) = some m ∧ m ∈ G.lead n ∧ far G m = some k ∧ wyOf G (k + 1) n = n :: wyOf G k m := by
  obtain ⟨m, h1, h2⟩ := dist_down (far_some.mp h)
  cases q : (G.lead n).find? fun m => decide (far G m = some k) with
  | none =>
    have := List.find?_eq_none.mp q m h1
    simp only [decide_eq_true_eq] at this
    exact (this (far_some.mpr h2)).elim
  | some x =>
    refine ⟨x, rfl, List.mem_of_find?_eq_some q, by simpa using List.find?_some q, ?_⟩
    rw [wyOf, q]
theorem wy_length : ∀ {k : Nat} {n : α}, far G n = some k → (wyOf G k n).length = k + 1
  | 0, n, _ => rfl
  | k + 1, n, h => by
    obtain ⟨m, _, _, h2, h3⟩ := wy_next h
    rw [h3, List.length_cons, wy_length h2]
theorem wy_head {k : Nat} {n : α} : (wyOf G k n).head? = some n := by
  cases k with
  | zero => rfl
  | succ k =>
    unfold wyOf
    split <;> rfl
theorem wy_last : ∀ {k : Nat} {n : α}, far G n = some k → ∃ l, (wyOf G k n).getLast? = some l ∧ G.fr l = true
  | 0, n, h => ⟨n, rfl, dist_zero.mp (far_some.mp h)⟩
  | k + 1, n, h => by
    obtain ⟨m, _, _, h2, h3⟩ := wy_next h
    obtain ⟨l, e1, e2⟩ := wy_last h2
    refine ⟨l, ?_, e2⟩
    rw [h3, List.getLast?_cons, e1]
    rfl
/-- walks that end at the first front and name none twice, as the law grows them -/
inductive PW (G : Gr α) (n : α) : List α → Prop
  | one : PW G n [n]
  | snoc {row : List α} {l o : α} : PW G n row → row.getLast? = some l → G.fr l = false → o ∈ G.lead l → o ∉ row → PW G n (row ++ [o])
def Done (G : Gr α) (row : List α) : Prop := ∃ l, row.getLast? = some l ∧ G.fr l = true
theorem pw_wy (n : α) : ∀ (k : Nat) (x : α) (pre : List α), PW G n (pre ++ [x]) → far G x = some k → (∀ y, y ∈ pre → ∃ j, far G y = some j ∧ k < j) → PW G n (pre ++ wyOf G k x)
  | 0, x, pre, h, _, _ => h
  | k + 1, x, pre, h, hf, hp => by
    obtain ⟨m, _, h1, h2, h3⟩ := wy_next hf
    rw [h3]
    have e : pre ++ x :: wyOf G k m = (pre ++ [x]) ++ wyOf G k m := by simp
    rw [e]
    have hall : ∀ y, y ∈ pre ++ [x] → ∃ j, far G y = some j ∧ k < j := by
      intro y hy
      rcases List.mem_append.mp hy with hy | hy
      · obtain ⟨j, e1, e2⟩ := hp y hy
        exact ⟨j, e1, by omega⟩
      · rw [List.mem_singleton.mp hy]
        exact ⟨k + 1, hf, by omega⟩
    refine pw_wy n k m (pre ++ [x]) (.snoc h (l := x) (by simp) (dist_pos (far_some.mp hf)) h1 fun hm => ?_) h2 hall
    obtain ⟨j, e1, e2⟩ := hall m hm
    rw [h2] at e1
    cases e1
    omega
theorem wy_pw {n : α} {k : Nat} (h : far G n = some k) : PW G n (wyOf G k n) := pw_wy n k n [] .one h (fun y hy => by cases hy)
theorem pw_nodup {n : α} {row : List α} (h : PW G n row) : row.Nodup := by
  induction h with
  | one => simp
  | snoc h e1 e2 e3 e4 ih =>
    rw [List.nodup_append]
    refine ⟨ih, by simp, ?_⟩
    intro a ha b hb
    rw [List.mem_singleton.mp hb]
    intro z
    subst z
    exact e4 ha
def Chn (G : Gr α) : List α → Prop
  | [] => True
  | [_] => True
  | a :: b :: r => b ∈ G.lead a ∧ Chn G (b :: r)
theorem chn_snoc {o l : α} : ∀ {row : List α}, Chn G row → row.getLast? = some l → o ∈ G.lead l → Chn G (row ++ [o])
  | [], _, e, _ => by cases e
  | [a], _, e, h => by
    have : a = l := by simpa using e
    subst this
    exact ⟨h, trivial⟩
  | a :: b :: r, h, e, ho => by
    refine ⟨h.1, chn_snoc (row := b :: r) h.2 ?_ ho⟩
    rw [← e]
    simp [List.getLast?_cons]
theorem pw_chn {n : α} {row : List α} (h : PW G n row) : Chn G row ∧ ∃ r, row = n :: r := by
  induction h with
  | one => exact ⟨trivial, [], rfl⟩
  | snoc h e1 e2 e3 e4 ih =>
    obtain ⟨i1, r, i2⟩ := ih
    refine ⟨chn_snoc i1 e1 e3, ?_⟩
    subst i2
    exact ⟨r ++ [_], rfl⟩
theorem pw_front {n : α} {row : List α} (h : PW G n row) : ∀ x, x ∈ row.dropLast → G.fr x = false := by
  induction h with
  | one => intro x hx; cases hx
  | @snoc row l o h e1 e2 e3 e4 ih =>
    intro x hx
    rw [List.dropLast_concat] at hx
    by_cases q : x ∈ row.dropLast
    · exact ih x q
    · have hne : row ≠ [] := by intro z; subst z; cases hx
      have hl : row.getLast hne = l := by
        rw [List.getLast?_eq_some_getLast hne] at e1
        exact Option.some.inj e1
      rw [← List.dropLast_concat_getLast hne] at hx
      rcases List.mem_append.mp hx with z | z
      · exact (q z).elim
      · rw [List.mem_singleton.mp z, hl]
        exact e2
theorem chn_pth : ∀ {r : List α} {x : α}, Chn G (x :: r) → Done G (x :: r) → Pth G x r.length
  | [], x, _, ⟨l, e1, e2⟩ => by
    have : x = l := by simpa using e1
    subst this
    exact .zero e2
  | y :: r, x, h, ⟨l, e1, e2⟩ => .succ h.1 (chn_pth h.2 ⟨l, by rw [← e1]; simp [List.getLast?_cons], e2⟩)
/-- comparing rows -/
def rowLt (lt : α → α → Bool) : List α → List α → Bool
  | [], [] => false
  | [], _ :: _ => true
  | _ :: _, [] => false
  | x :: xs, y :: ys => if x = y then rowLt lt xs ys else lt x y
theorem rowLt_asym {lt : α → α → Bool} (ha : ∀ x y, lt x y = true → lt y x = false) : ∀ {xs ys : List α}, rowLt lt xs ys = true → rowLt lt ys xs = false
  | [], [], h => by cases h
  | [], _ :: _, _ => rfl
  | _ :: _, [], h => by cases h
  | x :: xs, y :: ys, h => by
    unfold rowLt at h ⊢
    by_cases q : x = y
    · rw [if_pos q] at h
      rw [if_pos q.symm]
      exact rowLt_asym ha h
    · rw [if_neg q] at h
      rw [if_neg fun z => q z.symm]
      exact ha x y h
theorem find_first {lt : α → α → Bool} {p : α → Bool} : ∀ {l : List α} {m y : α}, l.Pairwise (fun a b => lt a b = true) → l.find? p = some m → y ∈ l → p y = true → m = y ∨ lt m y = true
  | [], _, _, _, _, h, _ => by cases h
  | a :: l, m, y, hp, hf, hy, hq => by
    rw [List.pairwise_cons] at hp
    rw [List.find?_cons] at hf
    split at hf
    · next e =>
      cases hf
      rcases List.mem_cons.mp hy with z | z
      · exact .inl z.symm
      · exact .inr (hp.1 y z)
    · next e =>
      rcases List.mem_cons.mp hy with z | z
      · subst z; rw [hq] at e; cases e
      · exact find_first hp.2 hf z hq
theorem wy_least {lt : α → α → Bool} (hs : ∀ x, (G.lead x).Pairwise fun a b => lt a b = true) (hi : ∀ x, lt x x = false) : ∀ {k : Nat} {x : α} {r : List α}, far G x = some k → Chn G (x :: r) → Done G (x :: r) → r.length = k → wyOf G k x = x :: r ∨ rowLt lt (wyOf G k x) (x :: r) = true
  | 0, x, r, hf, hc, hd, hl => by
    rw [List.length_eq_zero_iff.mp hl]
    exact .inl rfl
  | k + 1, x, r, hf, hc, hd, hl => by
    cases r with
    | nil => cases hl
    | cons y r =>
      have hl' : r.length = k := by simpa using hl
      have hd' : Done G (y :: r) := by
        obtain ⟨l, e1, e2⟩ := hd
        exact ⟨l, by rw [← e1]; simp [List.getLast?_cons], e2⟩
      have hp := chn_pth hc.2 hd'
      rw [hl'] at hp
      have hfy : far G y = some k := by
        obtain ⟨j, e1, e2⟩ := far_le hp
        rcases Nat.lt_or_ge j k with z | z
        · exact ((far_some.mp hf).2 (j + 1) (by omega) (.succ hc.1 (far_some.mp e1).1)).elim
        · rw [show k = j by omega]; exact e1
      obtain ⟨m, h0, h1, h2, h3⟩ := wy_next hf
      rw [h3]
      rcases find_first (hs x) h0 hc.1 (by simpa using hfy) with z | z
      · subst z
        rcases wy_least hs hi h2 hc.2 hd' hl' with e | e
        · left; rw [e]
        · right
          unfold rowLt
          rw [if_pos rfl]
          exact e
      · right
        unfold rowLt
        rw [if_pos rfl]
        obtain ⟨t, ht⟩ : ∃ t, wyOf G k m = m :: t := by
          have := wy_head (G := G) (k := k) (n := m)
          cases q : wyOf G k m with
          | nil => rw [q] at this; cases this
          | cons a t => rw [q] at this; cases this; exact ⟨t, rfl⟩
        rw [ht]
        unfold rowLt
        have : m ≠ y := fun e => by subst e; rw [hi] at z; cases z
        rw [if_neg this]
        exact z
/-- the law's own list of all walks -/
def frLast (G : Gr α) (row : List α) : Bool := match row.getLast? with
  | some l => G.fr l
  | none => false
def exts (G : Gr α) (row : List α) : List (List α) := match row.getLast? with
  | some l => (G.st.filter fun p => decide (p.1 = l) && !decide (p.2 ∈ row)).map fun p => row ++ [p.2]
  | none => []
def walksFrom (G : Gr α) : Nat → List (List α) → List (List α) → List (List α)
  | 0, _, found => found
  | t + 1, rows, found => walksFrom G t ((rows.filter fun r => !frLast G r).flatMap (exts G)) (found ++ rows.filter (frLast G))
def walksF (G : Gr α) (n : α) : List (List α) := walksFrom G G.ns.length [[n]] []
theorem frLast_done {row : List α} : frLast G row = true ↔ Done G row := by
  unfold frLast Done
  cases row.getLast? with
  | none => simp
  | some l => simp
theorem mem_exts {row q : List α} : q ∈ exts G row ↔ ∃ l o, row.getLast? = some l ∧ o ∈ G.lead l ∧ o ∉ row ∧ q = row ++ [o] := by
  unfold exts
  cases e : row.getLast? with
  | none => simp
  | some l =>
    simp only [List.mem_map, List.mem_filter, Bool.and_eq_true, decide_eq_true_eq, Bool.not_eq_true', decide_eq_false_iff_not]
    constructor
    · rintro ⟨⟨a, b⟩, ⟨h1, h2, h3⟩, h4⟩
      simp only at h2 h3 h4
      subst h2
      exact ⟨a, b, rfl, mem_lead.mpr h1, h3, h4.symm⟩
    · rintro ⟨l', o, h1, h2, h3, h4⟩
      cases h1
      exact ⟨(l, o), ⟨mem_lead.mp h2, rfl, h3⟩, h4.symm⟩
theorem pw_ne {n : α} {row : List α} (h : PW G n row) : 1 ≤ row.length := by
  obtain ⟨_, r, e⟩ := pw_chn h
  rw [e]; simp
theorem walksFrom_ok {n : α} : ∀ (t : Nat) (rows found : List (List α)) (i : Nat), (∀ row, row ∈ rows ↔ PW G n row ∧ row.length = i + 1) → (∀ row, row ∈ found ↔ PW G n row ∧ Done G row ∧ row.length ≤ i) →
    ∀ row, row ∈ walksFrom G t rows found ↔ PW G n row ∧ Done G row ∧ row.length ≤ i + t
  | 0, rows, found, i, h1, h2 => h2
  | t + 1, rows, found, i, h1, h2 => by
    intro row
    unfold walksFrom
    rw [walksFrom_ok t _ _ (i + 1) ?_ ?_ row]
    · rw [show i + 1 + t = i + (t + 1) by omega]
    · intro q
      simp only [List.mem_flatMap, List.mem_filter, Bool.not_eq_true', mem_exts]
      constructor
      · rintro ⟨r, ⟨h3, h4⟩, l, o, e1, e2, e3, rfl⟩
        obtain ⟨h5, h6⟩ := (h1 r).mp h3
        refine ⟨.snoc h5 e1 ?_ e2 e3, by simp [h6]⟩
        unfold frLast at h4
        rw [e1] at h4
        exact h4
      · rintro ⟨h3, h4⟩
        cases h3 with
        | one => simp at h4
        | @snoc r l o h5 e1 e2 e3 e4 =>
          refine ⟨r, ⟨(h1 r).mpr ⟨h5, by simpa using h4⟩, ?_⟩, l, o, e1, e3, e4, rfl⟩
          unfold frLast
          rw [e1]
          exact e2
    · intro q
      simp only [List.mem_append, List.mem_filter, h1, h2, frLast_done]
      constructor
      · rintro (⟨a, b, c⟩ | ⟨⟨a, b⟩, c⟩)
        · exact ⟨a, b, by omega⟩
        · exact ⟨a, c, by omega⟩
      · rintro ⟨a, b, c⟩
        rcases Nat.lt_or_ge i q.length with z | z
        · exact .inr ⟨⟨a, by omega⟩, b⟩
        · exact .inl ⟨a, b, z⟩
theorem nodup_len {l : List α} : ∀ {m : List α}, l.Nodup → (∀ x, x ∈ l → x ∈ m) → l.length ≤ m.length := by
  induction l with
  | nil => intro m _ _; simp
  | cons a l ih =>
    intro m hn hs
    rw [List.nodup_cons] at hn
    have ha := hs a List.mem_cons_self
    have := ih (m := m.erase a) hn.2 fun x hx => by
      have hne : x ≠ a := fun z => by subst z; exact hn.1 hx
      exact (List.mem_erase_of_ne hne).mpr (hs x (List.mem_cons_of_mem _ hx))
    rw [List.length_erase_of_mem ha] at this
    have hp : 0 < m.length := List.length_pos_of_mem ha
    simp only [List.length_cons]
    omega
structure Gr.Ok (G : Gr α) : Prop where
  st : ∀ p, p ∈ G.st → p.1 ∈ G.ns ∧ p.2 ∈ G.ns
  fr : ∀ n, G.fr n = true → n ∈ G.ns
theorem pw_in (ok : G.Ok) {n : α} (hn : n ∈ G.ns) {row : List α} (h : PW G n row) : ∀ x, x ∈ row → x ∈ G.ns := by
  induction h with
  | one => intro x hx; rw [List.mem_singleton.mp hx]; exact hn
  | snoc h e1 e2 e3 e4 ih =>
    intro x hx
    rcases List.mem_append.mp hx with z | z
    · exact ih x z
    · rw [List.mem_singleton.mp z]
      exact (ok.st _ (mem_lead.mp e3)).2
theorem mem_walks (ok : G.Ok) {n : α} (hn : n ∈ G.ns) {row : List α} : row ∈ walksF G n ↔ PW G n row ∧ Done G row := by
  unfold walksF
  rw [walksFrom_ok G.ns.length [[n]] [] 0 ?_ ?_ row]
  · constructor
    · rintro ⟨a, b, _⟩; exact ⟨a, b⟩
    · rintro ⟨a, b⟩
      refine ⟨a, b, ?_⟩
      rw [Nat.zero_add]
      exact nodup_len (pw_nodup a) (pw_in ok hn a)
  · intro row
    rw [List.mem_singleton]
    constructor
    · rintro rfl; exact ⟨.one, rfl⟩
    · rintro ⟨h, e⟩
      obtain ⟨_, r, e2⟩ := pw_chn h
      subst e2
      have : r = [] := by simpa using e
      rw [this]
  · intro row
    simp only [List.not_mem_nil, false_iff]
    rintro ⟨h, _, e⟩
    have := pw_ne h
    omega
theorem walks_none (ok : G.Ok) {n : α} (hn : n ∈ G.ns) : walksF G n = [] ↔ far G n = none := by
  constructor
  · intro h
    cases q : far G n with
    | none => rfl
    | some k =>
      have : wyOf G k n ∈ walksF G n := (mem_walks ok hn).mpr ⟨wy_pw q, wy_last q⟩
      rw [h] at this
      cases this
  · intro h
    cases q : walksF G n with
    | nil => rfl
    | cons r rs =>
      have : r ∈ walksF G n := by rw [q]; exact List.mem_cons_self
      obtain ⟨h1, h2⟩ := (mem_walks ok hn).mp this
      obtain ⟨h3, t, rfl⟩ := pw_chn h1
      exact (far_none.mp h _ (chn_pth h3 h2)).elim
theorem wy_best (ok : G.Ok) {lt : α → α → Bool} (hs : ∀ x, (G.lead x).Pairwise fun a b => lt a b = true) (hi : ∀ x, lt x x = false) {n : α} (hn : n ∈ G.ns) {k : Nat} (hf : far G n = some k) :
    wyOf G k n ∈ walksF G n ∧ ∀ r, r ∈ walksF G n → r = wyOf G k n ∨ (wyOf G k n).length < r.length ∨ ((wyOf G k n).length = r.length ∧ rowLt lt (wyOf G k n) r = true) := by
  refine ⟨(mem_walks ok hn).mpr ⟨wy_pw hf, wy_last hf⟩, fun r hr => ?_⟩
  obtain ⟨h1, h2⟩ := (mem_walks ok hn).mp hr
  obtain ⟨h3, t, rfl⟩ := pw_chn h1
  obtain ⟨j, e1, e2⟩ := far_le (chn_pth h3 h2)
  rw [hf] at e1
  cases e1
  rw [wy_length hf, List.length_cons]
  rcases Nat.lt_or_ge k t.length with z | z
  · exact .inr (.inl (by omega))
  · rcases wy_least hs hi hf h3 h2 (by omega) with e | e
    · exact .inl e.symm
    · exact .inr (.inr ⟨by omega, e⟩)
theorem lead_sorted {lt : α → α → Bool} {lt2 : α × α → α × α → Bool} (h2 : ∀ a b c, lt2 (a, b) (a, c) = true → lt b c = true) (hs : G.st.Pairwise fun p q => lt2 p q = true) (x : α) : (G.lead x).Pairwise fun a b => lt a b = true := by
  unfold Gr.lead
  rw [List.pairwise_map]
  refine (hs.filter _).imp_of_mem ?_
  intro p q hp hq h
  obtain ⟨a, b⟩ := p
  obtain ⟨c, d⟩ := q
  have e1 : a = x := by simpa using (List.mem_filter.mp hp).2
  have e2 : c = x := by simpa using (List.mem_filter.mp hq).2
  subst e1 e2
  exact h2 _ _ _ h
/-- more steps -/
theorem pth_mono {G' : Gr α} (h1 : ∀ p, p ∈ G.st → p ∈ G'.st) (h2 : ∀ n, G.fr n = true → G'.fr n = true) {n : α} {k : Nat} (h : Pth G n k) : Pth G' n k := by
  induction h with
  | zero e => exact .zero (h2 _ e)
  | succ e _ ih => exact .succ (mem_lead.mpr (h1 _ (mem_lead.mp e))) ih
theorem far_mono {G' : Gr α} (h1 : ∀ p, p ∈ G.st → p ∈ G'.st) (h2 : ∀ n, G.fr n = true → G'.fr n = true) {n : α} {k : Nat} (h : far G n = some k) : ∃ j, far G' n = some j ∧ j ≤ k :=
  far_le (pth_mono h1 h2 (far_some.mp h).1)
theorem chn_steps : ∀ {row : List α}, Chn G row → ∀ p, p ∈ row.zip row.tail → p ∈ G.st
  | [], _, p, hp => by cases hp
  | [a], _, p, hp => by cases hp
  | a :: b :: r, h, p, hp => by
    simp only [List.tail_cons, List.zip_cons_cons] at hp
    rcases List.mem_cons.mp hp with z | z
    · rw [z]; exact mem_lead.mp h.1
    · exact chn_steps (row := b :: r) h.2 p z
/-- distances turn by turn -/
def upTo (G : Gr α) (t : Nat) (n : α) : Prop := ∃ j, j ≤ t ∧ far G n = some j
theorem late_iff {t : Nat} {n : α} : (¬ upTo G t n ∧ ∃ m, m ∈ G.lead n ∧ upTo G t m) ↔ far G n = some (t + 1) := by
  constructor
  · rintro ⟨h1, m, h2, j, h3, h4⟩
    obtain ⟨i, e1, e2⟩ := far_le (Pth.succ h2 (far_some.mp h4).1)
    rcases Nat.lt_or_ge t i with z | z
    · rw [e1, show i = t + 1 by omega]
    · exact (h1 ⟨i, z, e1⟩).elim
  · intro h
    refine ⟨?_, ?_⟩
    · rintro ⟨j, e1, e2⟩
      rw [h] at e2
      cases e2
      omega
    · obtain ⟨m, h1, h2⟩ := dist_down (far_some.mp h)
      exact ⟨m, h1, t, Nat.le_refl _, far_some.mpr h2⟩
theorem far_in (ok : G.Ok) {n : α} {k : Nat} (h : far G n = some k) : n ∈ G.ns := by
  cases k with
  | zero => exact ok.fr n (dist_zero.mp (far_some.mp h))
  | succ k =>
    obtain ⟨m, h1, _⟩ := dist_down (far_some.mp h)
    exact (ok.st _ (mem_lead.mp h1)).1
theorem no_late (ok : G.Ok) {t : Nat} (h : ∀ n, n ∈ G.ns → far G n ≠ some (t + 1)) : ∀ {n : α} {k : Nat}, far G n = some k → k ≤ t := by
  intro n k
  induction k generalizing n with
  | zero => intro _; omega
  | succ k ih =>
    intro hf
    obtain ⟨m, h1, h2⟩ := dist_down (far_some.mp hf)
    have := ih (far_some.mpr h2)
    rcases Nat.lt_or_ge k t with z | z
    · omega
    · exact (h n (far_in ok hf) (by rw [hf, show k = t by omega])).elim
end
end Pm
end

section
set_option linter.all false
set_option maxRecDepth 100000
/-! Plain facts, part 2: cells beside each other, connected sets, the growing of parcels. -/
namespace Pm
abbrev Cell := Int × Int
def onB (h w : Int) (c : Cell) : Prop := 0 ≤ c.1 ∧ c.1 < h ∧ 0 ≤ c.2 ∧ c.2 < w
instance (h w : Int) (c : Cell) : Decidable (onB h w c) := by unfold onB; infer_instance
def four (c : Cell) : List Cell := [(c.1 - 1, c.2), (c.1, c.2 - 1), (c.1, c.2 + 1), (c.1 + 1, c.2)]
def Adj (c d : Cell) : Prop := d ∈ four c
theorem adj_iff {a b c d : Int} : Adj (a, b) (c, d) ↔ (c = a - 1 ∧ d = b) ∨ (c = a ∧ d = b - 1) ∨ (c = a ∧ d = b + 1) ∨ (c = a + 1 ∧ d = b) := by
  unfold Adj four
  simp [Prod.ext_iff]
theorem Adj.symm {c d : Cell} (h : Adj c d) : Adj d c := by
  obtain ⟨a, b⟩ := c
  obtain ⟨e, f⟩ := d
  rw [adj_iff] at h ⊢
  omega
def nbs (h w : Int) (c : Cell) : List Cell := (four c).filter fun d => decide (onB h w d)
theorem mem_nbs {h w : Int} {c d : Cell} : d ∈ nbs h w c ↔ Adj c d ∧ onB h w d := by
  unfold nbs Adj
  rw [List.mem_filter]
  simp
theorem grid_all {h w : Int} (P : Cell → Prop) {c0 : Cell} (h0 : onB h w c0) (p0 : P c0) (cl : ∀ c d, onB h w c → onB h w d → Adj c d → P c → P d) : ∀ c, onB h w c → P c := by
  have up : ∀ (n : Nat) (b : Int), onB h w ((n : Int), b) → P ((n : Int), b) → P (0, b) := by
    intro n
    induction n with
    | zero => intro b _ h; exact h
    | succ n ih =>
      intro b hb hp
      have h1 : onB h w ((n : Int), b) := by unfold onB at hb ⊢; simp only at hb ⊢; omega
      exact ih b h1 (cl _ _ hb h1 (adj_iff.mpr (by omega)) hp)
  have left : ∀ (n : Nat), onB h w (0, (n : Int)) → P (0, (n : Int)) → P (0, 0) := by
    intro n
    induction n with
    | zero => intro _ h; exact h
    | succ n ih =>
      intro hb hp
      have h1 : onB h w (0, (n : Int)) := by unfold onB at hb ⊢; simp only at hb ⊢; omega
      exact ih h1 (cl _ _ hb h1 (adj_iff.mpr (by omega)) hp)
  have z : P (0, 0) := by
    obtain ⟨a, b⟩ := c0
    unfold onB at h0
    simp only at h0
    obtain ⟨n, rfl⟩ := Int.eq_ofNat_of_zero_le h0.1
    obtain ⟨m, rfl⟩ := Int.eq_ofNat_of_zero_le h0.2.2.1
    refine left m ?_ (up n m ?_ p0)
    · unfold onB; simp only; omega
    · unfold onB; simp only; omega
  have right : ∀ (n : Nat), onB h w (0, (n : Int)) → P (0, (n : Int)) := by
    intro n
    induction n with
    | zero => intro _; exact z
    | succ n ih =>
      intro hb
      have h1 : onB h w (0, (n : Int)) := by unfold onB at hb ⊢; simp only at hb ⊢; omega
      exact cl _ _ h1 hb (adj_iff.mpr (by omega)) (ih h1)
  have down : ∀ (n m : Nat), onB h w ((n : Int), (m : Int)) → P ((n : Int), (m : Int)) := by
    intro n m
    induction n with
    | zero => intro hb; exact right m hb
    | succ n ih =>
      intro hb
      have h1 : onB h w ((n : Int), (m : Int)) := by unfold onB at hb ⊢; simp only at hb ⊢; omega
      exact cl _ _ h1 hb (adj_iff.mpr (by omega)) (ih h1)
  rintro ⟨a, b⟩ hc
  have hc' := hc
  unfold onB at hc
  simp only at hc
  obtain ⟨n, rfl⟩ := Int.eq_ofNat_of_zero_le hc.1
  obtain ⟨m, rfl⟩ := Int.eq_ofNat_of_zero_le hc.2.2.1
  exact down n m hc'
/-- a set that is neither empty nor all has a neighbour outside -/
theorem grid_edge {h w : Int} (P : Cell → Prop) [DecidablePred P] {c0 c1 : Cell} (h0 : onB h w c0) (p0 : P c0) (h1 : onB h w c1) (p1 : ¬ P c1) : ∃ c d, onB h w c ∧ onB h w d ∧ Adj c d ∧ P c ∧ ¬ P d := by
  refine Classical.byContradiction fun n => p1 (grid_all P h0 p0 (fun c d hc hd a p => ?_) c1 h1)
  exact Classical.byContradiction fun q => n ⟨c, d, hc, hd, a, p, q⟩
inductive Conn (S : Cell → Prop) (a : Cell) : Cell → Prop
  | refl : Conn S a a
  | step {b c : Cell} : Conn S a b → Adj b c → S c → Conn S a c
theorem Conn.mono {S T : Cell → Prop} {a b : Cell} (h : Conn S a b) (st : ∀ x, S x → T x) : Conn T a b := by
  induction h with
  | refl => exact .refl
  | step _ h2 h3 ih => exact .step ih h2 (st _ h3)
theorem Conn.trans {S : Cell → Prop} {a b c : Cell} (h : Conn S a b) (k : Conn S b c) : Conn S a c := by
  induction k with
  | refl => exact h
  | step _ h2 h3 ih => exact .step ih h2 h3
theorem Conn.inS {S : Cell → Prop} {a b : Cell} (h : Conn S a b) (ha : S a) : S b := by
  cases h with
  | refl => exact ha
  | step _ _ h3 => exact h3
theorem Conn.symm {S : Cell → Prop} {a b : Cell} (h : Conn S a b) (ha : S a) : Conn S b a := by
  induction h with
  | refl => exact .refl
  | @step b c h1 h2 h3 ih => exact Conn.trans (.step .refl h2.symm (h1.inS ha)) ih
def Whole (S : Cell → Prop) : Prop := ∃ a, S a ∧ ∀ b, S b → Conn S a b
theorem Whole.all {S : Cell → Prop} (h : Whole S) {x y : Cell} (hx : S x) (hy : S y) : Conn S x y := by
  obtain ⟨a, ha, k⟩ := h
  exact ((k x hx).symm ha).trans (k y hy)
/-! growing -/
def putN {β : Type} (nm : Cell → β) (c : Cell) (n : β) : Cell → β := fun x => if x = c then n else nm x
def cls {β : Type} (cs : List Cell) (nm : Cell → β) (n : β) : Cell → Prop := fun x => x ∈ cs ∧ nm x = n
/-- every name's cells hang together -/
def Gi {β : Type} (cs : List Cell) (nm : Cell → β) : Prop := ∀ c, c ∈ cs → Whole (cls cs nm (nm c))
section
variable {β : Type} {cs : List Cell} {nm : Cell → β} {c d : Cell} {n : β}
theorem gi_nil : Gi [] nm := fun c h => by cases h
theorem putN_of (hc : c ∉ cs) {x : Cell} (hx : x ∈ cs) : putN nm c n x = nm x := if_neg fun (z : x = c) => hc (z ▸ hx)
theorem putN_self : putN nm c n c = n := if_pos rfl
theorem gi_new (h : Gi cs nm) (hc : c ∉ cs) (hn : ∀ x, x ∈ cs → nm x ≠ n) : Gi (cs ++ [c]) (putN nm c n) := by
  intro x hx
  rcases List.mem_append.mp hx with z | z
  · rw [putN_of hc z]
    obtain ⟨a, ⟨ha, ha2⟩, k⟩ := h x z
    refine ⟨a, ⟨List.mem_append_left _ ha, (putN_of hc ha).trans ha2⟩, fun b hb => ?_⟩
    obtain ⟨hb1, hb2⟩ := hb
    rcases List.mem_append.mp hb1 with y | y
    · rw [putN_of hc y] at hb2
      exact (k b ⟨y, hb2⟩).mono fun u hu => ⟨List.mem_append_left _ hu.1, (putN_of hc hu.1).trans hu.2⟩
    · rw [List.mem_singleton.mp y, putN_self] at hb2
      exact (hn x z hb2.symm).elim
  · rw [List.mem_singleton.mp z, putN_self]
    refine ⟨c, ⟨List.mem_append_right _ List.mem_cons_self, putN_self⟩, fun b hb => ?_⟩
    obtain ⟨hb1, hb2⟩ := hb
    rcases List.mem_append.mp hb1 with y | y
    · rw [putN_of hc y] at hb2
      exact (hn b y hb2).elim
    · rw [List.mem_singleton.mp y]
      exact .refl
theorem gi_grow (h : Gi cs nm) (hc : c ∉ cs) (hd : d ∈ cs) (ha : Adj d c) (hn : n = nm d) : Gi (cs ++ [c]) (putN nm c n) := by
  subst hn
  have up : ∀ m, ∀ u, cls cs nm m u → cls (cs ++ [c]) (putN nm c (nm d)) m u := fun m u hu => ⟨List.mem_append_left _ hu.1, (putN_of hc hu.1).trans hu.2⟩
  have key : ∀ x, x ∈ cs → Whole (cls (cs ++ [c]) (putN nm c (nm d)) (nm x)) := by
    intro x hx
    have hw := h x hx
    obtain ⟨a, ha1, k⟩ := hw
    refine ⟨a, up _ _ ha1, fun b hb => ?_⟩
    obtain ⟨hb1, hb2⟩ := hb
    rcases List.mem_append.mp hb1 with y | y
    · rw [putN_of hc y] at hb2
      exact (k b ⟨y, hb2⟩).mono (up _)
    · have e : b = c := List.mem_singleton.mp y
      subst e
      rw [putN_self] at hb2
      exact .step ((k d ⟨hd, hb2⟩).mono (up _)) ha ⟨hb1, by rw [putN_self]; exact hb2⟩
  intro x hx
  rcases List.mem_append.mp hx with z | z
  · rw [putN_of hc z]; exact key x z
  · rw [List.mem_singleton.mp z, putN_self]; exact key d hd
end
/-- a list with no doubles that holds another and one more -/
theorem nodup_len2 {α : Type} [DecidableEq α] {l : List α} : ∀ {m : List α}, l.Nodup → (∀ x, x ∈ l → x ∈ m) → l.length ≤ m.length := by
  induction l with
  | nil => intro m _ _; simp
  | cons a l ih =>
    intro m hn hs
    rw [List.nodup_cons] at hn
    have ha := hs a List.mem_cons_self
    have := ih (m := m.erase a) hn.2 fun x hx => by
      have hne : x ≠ a := fun z => by subst z; exact hn.1 hx
      exact (List.mem_erase_of_ne hne).mpr (hs x (List.mem_cons_of_mem _ hx))
    rw [List.length_erase_of_mem ha] at this
    have hp : 0 < m.length := List.length_pos_of_mem ha
    simp only [List.length_cons]
    omega
theorem more_len {α : Type} [DecidableEq α] {l m : List α} {c : α} (hl : l.Nodup) (hc : c ∉ l) (hs : ∀ x, x ∈ l → x ∈ m) (hm : c ∈ m) : l.length + 1 ≤ m.length := by
  have : (c :: l).length ≤ m.length := nodup_len2 (List.nodup_cons.mpr ⟨hc, hl⟩) fun x hx => by
    rcases List.mem_cons.mp hx with z | z
    · rw [z]; exact hm
    · exact hs x z
  simpa using this
/-- a closed set that holds the start holds all that hangs on it -/
theorem conn_closed {S : Cell → Prop} {a : Cell} {seen : List Cell} (h0 : a ∈ seen) (cl : ∀ x, x ∈ seen → ∀ y, Adj x y → S y → y ∈ seen) {b : Cell} (h : Conn S a b) : b ∈ seen := by
  induction h with
  | refl => exact h0
  | step _ h2 h3 ih => exact cl _ ih _ h2 h3
/-! lists that rise -/
theorem sorted_eq {α : Type} {lt : α → α → Bool} (hi : ∀ x, lt x x = false) (ha : ∀ x y, lt x y = true → lt y x = false) : ∀ {xs ys : List α}, xs.Pairwise (fun a b => lt a b = true) → ys.Pairwise (fun a b => lt a b = true) → (∀ x, x ∈ xs ↔ x ∈ ys) → xs = ys
  | [], [], _, _, _ => rfl
  | [], y :: ys, _, _, h => absurd ((h y).mpr List.mem_cons_self) (by simp)
  | x :: xs, [], _, _, h => absurd ((h x).mp List.mem_cons_self) (by simp)
  | x :: xs, y :: ys, hx, hy, h => by
    rw [List.pairwise_cons] at hx hy
    have e : x = y := by
      rcases List.mem_cons.mp ((h x).mp List.mem_cons_self) with z | z
      · exact z
      · rcases List.mem_cons.mp ((h y).mpr List.mem_cons_self) with q | q
        · exact q.symm
        · have h1 := hy.1 x z
          have h2 := hx.1 y q
          rw [ha _ _ h1] at h2
          cases h2
    subst e
    congr 1
    refine sorted_eq hi ha hx.2 hy.2 fun u => ?_
    constructor
    · intro hu
      rcases List.mem_cons.mp ((h u).mp (List.mem_cons_of_mem _ hu)) with z | z
      · subst z
        have := hx.1 u hu
        rw [hi] at this
        cases this
      · exact z
    · intro hu
      rcases List.mem_cons.mp ((h u).mpr (List.mem_cons_of_mem _ hu)) with z | z
      · subst z
        have := hy.1 u hu
        rw [hi] at this
        cases this
      · exact z
theorem foldl_min {α : Type} {lt : α → α → Bool} {m : α} : ∀ {xs : List α} {x : α}, (m = x ∨ m ∈ xs) → (∀ y, y = x ∨ y ∈ xs → y = m ∨ (lt m y = true ∧ lt y m = false)) → (lt m m = false) → xs.foldl (fun a y => if lt y a = true then y else a) x = m
  | [], x, h, _, _ => by
    rcases h with h | h
    · exact h.symm
    · cases h
  | y :: ys, x, h, hl, hm => by
    rw [List.foldl_cons]
    have hall : ∀ z, z ∈ ys → z = m ∨ (lt m z = true ∧ lt z m = false) := fun z hz => hl z (.inr (List.mem_cons_of_mem _ hz))
    have hy := hl y (.inr List.mem_cons_self)
    have hx := hl x (.inl rfl)
    by_cases q : lt y x = true
    · rw [if_pos q]
      refine foldl_min ?_ (fun z hz => ?_) hm
      · rcases h with h | h
        · subst h
          rcases hy with e | ⟨_, e⟩
          · exact .inl e.symm
          · rw [q] at e; cases e
        · rcases List.mem_cons.mp h with h | h
          · exact .inl h
          · exact .inr h
      · rcases hz with rfl | hz
        · exact hy
        · exact hall z hz
    · rw [if_neg q]
      refine foldl_min ?_ (fun z hz => ?_) hm
      · rcases h with h | h
        · exact .inl h
        · rcases List.mem_cons.mp h with h | h
          · subst h
            rcases hx with e | ⟨e, _⟩
            · exact .inl e.symm
            · exact (q e).elim
          · exact .inr h
      · rcases hz with rfl | hz
        · exact hx
        · exact hall z hz
end Pm
end

section
set_option linter.all false
set_option maxRecDepth 100000
/-! Plain facts, part 3: a list's items in order, each once; boards. -/
namespace Pm
section
variable {α : Type} [DecidableEq α] {lt : α → α → Bool}
def ins1 (lt : α → α → Bool) (x : α) : List α → List α
  | [] => [x]
  | y :: ys => if lt x y = true then x :: y :: ys else if x = y then y :: ys else y :: ins1 lt x ys
def usort (lt : α → α → Bool) : List α → List α
  | [] => []
  | x :: xs => ins1 lt x (usort lt xs)
theorem mem_ins1 {x z : α} : ∀ {l : List α}, z ∈ ins1 lt x l ↔ z = x ∨ z ∈ l
  | [] => by simp [ins1]
  | y :: ys => by
    unfold ins1
    split
    · simp
    · split
      · next h => subst h; simp
      · simp [mem_ins1 (l := ys)]
        constructor
        · rintro (h | h | h) <;> simp [h]
        · rintro (h | h | h) <;> simp [h]
theorem mem_usort {z : α} : ∀ {l : List α}, z ∈ usort lt l ↔ z ∈ l
  | [] => by simp [usort]
  | x :: xs => by
    unfold usort
    rw [mem_ins1, mem_usort, List.mem_cons]
structure Lin (lt : α → α → Bool) : Prop where
  ir : ∀ x, lt x x = false
  tr : ∀ x y z, lt x y = true → lt y z = true → lt x z = true
  to : ∀ x y, lt x y = false → lt y x = false → x = y
theorem Lin.as (L : Lin lt) (x y : α) (h : lt x y = true) : lt y x = false := by
  cases q : lt y x with
  | false => rfl
  | true =>
    have := L.tr _ _ _ h q
    rw [L.ir] at this
    cases this
theorem ins1_sorted (L : Lin lt) {x : α} : ∀ {l : List α}, l.Pairwise (fun a b => lt a b = true) → (ins1 lt x l).Pairwise fun a b => lt a b = true
  | [], _ => by simp [ins1]
  | y :: ys, h => by
    rw [List.pairwise_cons] at h
    unfold ins1
    split
    · next e =>
      refine List.pairwise_cons.mpr ⟨fun z hz => ?_, List.pairwise_cons.mpr h⟩
      rcases List.mem_cons.mp hz with q | q
      · rw [q]; exact e
      · exact L.tr _ _ _ e (h.1 z q)
    · next e =>
      split
      · exact List.pairwise_cons.mpr h
      · next n =>
        refine List.pairwise_cons.mpr ⟨fun z hz => ?_, ins1_sorted L h.2⟩
        rcases mem_ins1.mp hz with q | q
        · rw [q]
          cases r : lt y x with
          | true => rfl
          | false => exact (n (L.to _ _ (by simpa using e) r)).elim
        · exact h.1 z q
theorem usort_sorted (L : Lin lt) : ∀ l : List α, (usort lt l).Pairwise fun a b => lt a b = true
  | [] => by simp [usort]
  | x :: xs => by
    unfold usort
    exact ins1_sorted L (usort_sorted L xs)
theorem sorted_nodup (L : Lin lt) {l : List α} (h : l.Pairwise fun a b => lt a b = true) : l.Nodup := h.imp fun {a b} e z => by
  subst z
  rw [L.ir] at e
  cases e
theorem usort_nodup (L : Lin lt) (l : List α) : (usort lt l).Nodup := sorted_nodup L (usort_sorted L l)
theorem usort_eq (L : Lin lt) {ys l : List α} (h : ys.Pairwise fun a b => lt a b = true) (m : ∀ x, x ∈ ys ↔ x ∈ l) : ys = usort lt l :=
  sorted_eq L.ir L.as h (usort_sorted L l) fun x => (m x).trans mem_usort.symm
theorem usort_congr (L : Lin lt) {l m : List α} (h : ∀ x, x ∈ l ↔ x ∈ m) : usort lt l = usort lt m := usort_eq L (usort_sorted L l) fun x => mem_usort.trans (h x)
/-- a list in order with no doubles, as sorted() gives it -/
theorem sorted_strict (L : Lin lt) {l : List α} (h : l.Pairwise fun x y => lt y x = false) (n : l.Nodup) : l.Pairwise fun x y => lt x y = true := by
  have := List.Pairwise.and h n
  refine this.imp ?_
  rintro a b ⟨h1, h2⟩
  cases q : lt a b with
  | true => rfl
  | false => exact (h2 (L.to _ _ q h1)).elim
end
/-! the cells of a board -/
def allC (h w : Nat) : List Cell := (List.range h).flatMap fun r => (List.range w).map fun c => (((r : Nat) : Int), ((c : Nat) : Int))
theorem mem_allC {h w : Nat} {c : Cell} : c ∈ allC h w ↔ onB h w c := by
  unfold allC onB
  simp only [List.mem_flatMap, List.mem_range, List.mem_map]
  constructor
  · rintro ⟨r, hr, k, hk, rfl⟩
    simp only
    omega
  · rintro ⟨h1, h2, h3, h4⟩
    obtain ⟨a, b⟩ := c
    simp only at h1 h2 h3 h4
    exact ⟨a.toNat, by omega, b.toNat, by omega, by ext <;> simp <;> omega⟩
theorem allC_nodup {h w : Nat} : (allC h w).Nodup := by
  unfold allC
  unfold List.Nodup
  rw [List.pairwise_flatMap]
  refine ⟨fun r _ => ?_, ?_⟩
  · rw [List.pairwise_map]
    exact List.nodup_range.imp fun {a b} e z => e (Int.ofNat.inj (congrArg Prod.snd z))
  · refine List.nodup_range.imp fun {a b} e x hx y hy z => e ?_
    obtain ⟨k, _, rfl⟩ := List.mem_map.mp hx
    obtain ⟨l, _, rfl⟩ := List.mem_map.mp hy
    exact Int.ofNat.inj (congrArg Prod.fst z)
theorem allC_length {h w : Nat} : (allC h w).length = h * w := by
  unfold allC
  rw [List.length_flatMap]
  simp
  rw [show (fun (_ : Nat) => w) = Function.const Nat w from rfl, List.map_const, List.sum_replicate_nat, List.length_range]
end Pm
end

section
set_option Elab.async false
set_option linter.all false
set_option maxRecDepth 100000
/-! Contracts of the program's defs. -/
namespace Dk
open PySem PySem.Spec PyProof.Rows L2 Dl Pm
@[simp] abbrev vd (d : D) : Dl.Arg := .val d
@[simp] abbrev strsD (ns : List Str) : D := .lst (ns.map D.str)
@[simp] abbrev cellsD (cs : List Cell) : D := .lst (cs.map cellD)
@[simp] abbrev pairsD (ps : List (Str × Str)) : D := .lst (ps.map pairD)
def keyC (c : Cell) : List Key := [.inl c.1, .inl c.2]
def keyP (p : Str × Str) : List Key := [.inr p.1, .inr p.2]
def keyN (n : Str) : Key := .inr n
def validN (x : Str) : Prop := 1 ≤ x.length ∧ x.length ≤ 6 ∧ ∀ c, c ∈ x.cps.toList → c ∈ ("abcdefghijklmnopqrstuvwxyz" : Str).cps.toList
structure Bd where
  h : Nat
  w : Nat
  nm : Cell → Str
  road : List Cell
def rowsD (h w : Nat) (nm : Cell → Str) : D := .lst ((List.range h).map fun r => .lst ((List.range w).map fun c => .str (nm (((r : Nat) : Int), ((c : Nat) : Int)))))
def namesOf (h w : Nat) (nm : Cell → Str) : List Str := usort Sx.ltT ((allC h w).map nm)
def adjN (h w : Nat) (nm : Cell → Str) : List (Str × Str) := (allC h w).flatMap fun c => ((nbs h w c).filter fun d => decide (nm c ≠ nm d)).map fun d => (nm c, nm d)
def prsOf (h w : Nat) (nm : Cell → Str) : List (Str × Str) := usort Sx.ltTT (adjN h w nm)
def isE (h w : Int) (c : Cell) : Bool := decide (c.1 = 0 ∨ c.1 = h - 1 ∨ c.2 = 0 ∨ c.2 = w - 1)
def Bd.rows (B : Bd) : D := rowsD B.h B.w B.nm
def Bd.names (B : Bd) : List Str := namesOf B.h B.w B.nm
def Bd.pairs (B : Bd) : List (Str × Str) := prsOf B.h B.w B.nm
def Bd.front (B : Bd) : List Str := usort Sx.ltT (B.road.map B.nm)
structure Bd.Ok (B : Bd) : Prop where
  h1 : 1 ≤ B.h
  h2 : B.h ≤ 12
  w1 : 1 ≤ B.w
  w2 : B.w ≤ 12
  va : ∀ c, c ∈ allC B.h B.w → validN (B.nm c)
  le : B.names.length ≤ 6
  gi : Gi (allC B.h B.w) B.nm
  rn : B.road.Nodup
  re : ∀ c, c ∈ B.road → c ∈ allC B.h B.w ∧ isE B.h B.w c = true
def Bd.gr (B : Bd) (st : List (Str × Str)) : Gr Str := ⟨B.names, st, fun n => decide (n ∈ B.front)⟩
def IsPlatF (B : Bd) (ns : List Str) (ds : List D) : Prop := ns = (["own_rows", "own_cells", "height", "width", "own_road", "own_borders", "own_rims"] : List Str) ∧ ∃ (cl : List D) (rd : List Cell) (ps : List (Str × Str)) (bf : Str × Str → Int) (rims : D),
  ds = [B.rows, .dk (B.names.map keyN) cl, .int B.h, .int B.w, cellsD rd, .dt (ps.map keyP) (ps.map fun p => .int (bf p)), rims] ∧ cl.length = B.names.length ∧ (∀ c, c ∈ rd ↔ c ∈ B.road) ∧ rd.length = B.road.length ∧ (∀ p, p ∈ ps ↔ p ∈ B.pairs) ∧ ∀ p, p ∈ ps → 0 < bf p
def IsPlat (B : Bd) (d : D) : Prop := ∃ ns ds, d = .node (.ins 0 ns) ds ∧ IsPlatF B ns ds ∧ B.Ok
def IsWaysF (B : Bd) (st : List (Str × Str)) (ns : List Str) (ds : List D) : Prop := ns = (["plat", "own_steps", "own_leads", "own_fronts"] : List Str) ∧ ∃ pd, IsPlat B pd ∧
  ds = [pd, pairsD st, .dk (B.names.map keyN) (B.names.map fun n => strsD ((B.gr st).lead n)), .dk (B.names.map keyN) (B.names.map fun n => .bl (decide (n ∈ B.front)))]
structure StOk (B : Bd) (st : List (Str × Str)) : Prop where
  so : st.Pairwise fun x y => Sx.ltTT x y = true
  me : ∀ p, p ∈ st → p ∈ B.pairs
def IsWays (B : Bd) (st : List (Str × Str)) (d : D) : Prop := ∃ ns ds, d = .node (.ins 1 ns) ds ∧ IsWaysF B st ns ds ∧ StOk B st
/-! the program -/
def C_is_whole : Con := fun as P => ∃ i, as = [vd (.int i)] ∧ P (.bl true)
def C_is_number : Con := fun as P => ∃ v l m, as = [vd (.int v), vd (.int l), vd (.int m)] ∧ P (.bl (decide (l ≤ v ∧ v ≤ m)))
def C_is_name : Con := fun as P => ∃ x, as = [vd (.str x)] ∧ validN x ∧ P (.bl true)
def C_is_cell : Con := fun as P => ∃ c, as = [vd (cellD c)] ∧ P (.bl (decide (onB 12 12 c)))
def C_beside : Con := fun as P => ∃ c, as = [vd (cellD c)] ∧ P (cellsD (nbs 12 12 c))
def C_check_cells : Con := fun as P => ∃ cs : List Cell, as = [vd (cellsD cs)] ∧ cs.Nodup ∧ (∀ c, c ∈ cs → onB 12 12 c) ∧ P .non
def C_group_of : Con := fun as P => ∃ (a : Cell) (cs : List Cell) (vs : List D), as = [vd (cellD a), vd (.dt (cs.map keyC) vs), vd (.bl false)] ∧ vs.length = cs.length ∧ cs.Nodup ∧ (∀ c, c ∈ cs → onB 12 12 c) ∧ a ∈ cs ∧ ∀ g : List Cell, g.Nodup → (∀ x, x ∈ g ↔ Conn (fun c => c ∈ cs) a x) → P (cellsD g)
def C_groups : Con := fun as P => ∃ cs : List Cell, as = [vd (cellsD cs), vd (.bl false)] ∧ cs.Nodup ∧ (∀ c, c ∈ cs → onB 12 12 c) ∧ Whole (fun c => c ∈ cs) ∧ ∀ x, P (.lst [x])
def C_pieces : Con := fun as P => ∃ cs : List Cell, as = [vd (cellsD cs)] ∧ cs.Nodup ∧ (∀ c, c ∈ cs → onB 12 12 c) ∧ Whole (fun c => c ∈ cs) ∧ ∀ x, P (.lst [x])
def C_hangs_together : Con := fun as P => ∃ cs : List Cell, as = [vd (cellsD cs)] ∧ cs.Nodup ∧ (∀ c, c ∈ cs → onB 12 12 c) ∧ Whole (fun c => c ∈ cs) ∧ P (.bl true)
def C_is_list : Con := fun as P => ∃ t ds, as = [vd (.node t ds)] ∧ (t = .lst ∨ t = .tup) ∧ P (.bl true)
def C_check_rows : Con := fun as P => ∃ (h w : Nat) (nm : Cell → Str), as = [vd (rowsD h w nm)] ∧ 1 ≤ h ∧ h ≤ 12 ∧ 1 ≤ w ∧ w ≤ 12 ∧ (∀ c, c ∈ allC h w → validN (nm c)) ∧ P .non
def C_parcels_of : Con := fun as P => ∃ (h w : Nat) (nm : Cell → Str), as = [vd (rowsD h w nm)] ∧ 1 ≤ h ∧ h ≤ 12 ∧ 1 ≤ w ∧ w ≤ 12 ∧ P (.dk ((namesOf h w nm).map keyN) ((namesOf h w nm).map fun n => cellsD ((allC h w).filter fun c => decide (nm c = n))))
def C_is_edge : Con := fun as P => ∃ (h w : Nat) (c : Cell), as = [vd (cellD c), vd (.int h), vd (.int w)] ∧ h ≤ 12 ∧ w ≤ 12 ∧ onB h w c ∧ P (.bl (isE h w c))
def C_check_road : Con := fun as P => ∃ (h w : Nat) (cs : List Cell), as = [vd (cellsD cs), vd (.int h), vd (.int w)] ∧ h ≤ 12 ∧ w ≤ 12 ∧ cs.Nodup ∧ (∀ c, c ∈ cs → onB h w c ∧ isE h w c = true) ∧ P .non
def C_borders_of : Con := fun as P => ∃ (h w : Nat) (nm : Cell → Str), as = [vd (rowsD h w nm)] ∧ 1 ≤ h ∧ h ≤ 12 ∧ 1 ≤ w ∧ w ≤ 12 ∧ ∀ (ps : List (Str × Str)) (bf : Str × Str → Int) (rims : D), (∀ p, p ∈ ps ↔ p ∈ prsOf h w nm) → (∀ p, p ∈ ps → 0 < bf p) → P (.tup [.dt (ps.map keyP) (ps.map fun p => .int (bf p)), rims])
def C_Plat___init__ : ConI := fun as P => ∃ B : Bd, as = [vd B.rows, vd (cellsD B.road)] ∧ B.Ok ∧ ∀ ns ds, IsPlatF B ns ds → P ns ds
def C_Plat_names : Con := fun as P => ∃ B d, as = [vd d] ∧ IsPlat B d ∧ P (strsD B.names)
def C_Plat_fronts : Con := fun as P => ∃ B d n, as = [vd d, vd (.str n)] ∧ IsPlat B d ∧ n ∈ B.names ∧ P (.bl (decide (n ∈ B.front)))
def C_Plat_border : Con := fun as P => ∃ B d m n, as = [vd d, vd (.str m), vd (.str n)] ∧ IsPlat B d ∧ (m, n) ∈ B.pairs ∧ ∀ i : Int, 0 < i → P (.int i)
def C_Plat_need_parcel : Con := fun as P => ∃ B d n, as = [vd d, vd (.str n)] ∧ IsPlat B d ∧ n ∈ B.names ∧ P .non
def C_Plat___contains__ : Con := fun as P => ∃ B d n, as = [vd d, vd (.str n)] ∧ IsPlat B d ∧ P (.bl (decide (n ∈ B.names)))
def C_is_step : Con := fun as P => ∃ B d p, as = [vd d, vd (pairD p)] ∧ IsPlat B d ∧ p ∈ B.pairs ∧ P (.bl true)
def C_check_steps : Con := fun as P => ∃ (B : Bd) (d : D) (t : Tag) (ps : List (Str × Str)), as = [vd d, vd (.node t (ps.map pairD))] ∧ (t = .lst ∨ t = .tup) ∧ IsPlat B d ∧ (∀ p, p ∈ ps → p ∈ B.pairs) ∧ P .non
def C_onward : Con := fun as P => ∃ (B : Bd) (st : List (Str × Str)), as = [vd (strsD B.names), vd (pairsD st)] ∧ B.Ok ∧ StOk B st ∧ P (.dk (B.names.map keyN) (B.names.map fun n => strsD ((B.gr st).lead n)))
def C_Ways___init__ : ConI := fun as P => ∃ (B : Bd) (d : D) (ps : List (Str × Str)), as = [vd d, vd (pairsD ps)] ∧ IsPlat B d ∧ (∀ p, p ∈ ps → p ∈ B.pairs) ∧ ps.length < 64 ∧ ∀ ns ds, IsWaysF B (usort Sx.ltTT ps) ns ds → P ns ds
def C_Ways_need_parcel : Con := fun as P => ∃ B st d n, as = [vd d, vd (.str n)] ∧ IsWays B st d ∧ n ∈ B.names ∧ P .non
def C_Ways_distances : Con := fun as P => ∃ B st d, as = [vd d, vd (.str "")] ∧ IsWays B st d ∧ ∀ ks : List Str, (∀ n, n ∈ ks ↔ (far (B.gr st) n).isSome = true) → P (.dk (ks.map keyN) (ks.map fun n => .int (((far (B.gr st) n).getD 0 : Nat) : Int)))
def C_Ways_comes : Con := fun as P => ∃ B st d n, as = [vd d, vd (.str n)] ∧ IsWays B st d ∧ n ∈ B.names ∧ P (.bl (far (B.gr st) n).isSome)
def C_Ways_way : ConM := fun as P R => ∃ B st d n, as = [vd d, vd (.str n)] ∧ IsWays B st d ∧ n ∈ B.names ∧ (far (B.gr st) n = none → P .non) ∧ ∀ k, far (B.gr st) n = some k → R .lst ((wyOf (B.gr st) k n).map D.str)
def C_Ways_bare : Con := fun as P => ∃ B st d, as = [vd d] ∧ IsWays B st d ∧ P (strsD (B.names.filter fun n => !(far (B.gr st) n).isSome))
def C_Ways_with_steps : Con := fun as P => ∃ B st d p, as = [vd d, vd (.tup [pairD p])] ∧ IsWays B st d ∧ p ∈ B.pairs ∧ ∀ d', IsWays B (usort Sx.ltTT (st ++ [p])) d' → P d'
/-! the law's own -/
def C__law_draw : Con := fun as P => ∃ n : Int, as = [.bag, vd (.int n)] ∧ (0 < n ∧ n < 1073741824) ∧ ∀ r : Int, 0 ≤ r → r < n → P (.int r)
def C__law_pick : Con := fun as P => (∃ ds, as = [.bag, vd (.lst ds)] ∧ (ds ≠ [] ∧ ds.length < 1000) ∧ ∀ d, d ∈ ds → P d) ∨ (∃ z : Str, as = [.bag, vd (.str z)] ∧ 0 < z.length ∧ z.length ≤ 100 ∧ ∀ c, c ∈ z.cps.toList → P (.str ⟨#[c]⟩))
def C__law_mixed : Con := fun as P => ∃ ds, as = [.bag, vd (.lst ds)] ∧ ds.length < 1000 ∧ ∀ es : List D, es.Perm ds → P (.lst es)
def C__law_word : Con := fun as P => as = [.bag, vd (.int 6)] ∧ ∀ x, validN x → P (.str x)
def C__law_names : Con := fun as P => ∃ m : Nat, as = [.bag, vd (.int m)] ∧ m ≤ 6 ∧ ∀ ns : List Str, ns.Nodup → ns.length = m → (∀ x, x ∈ ns → validN x) → P (strsD ns)
def C__law_four : Con := fun as P => as = [] ∧ P (cellsD [(-1, 0), (0, -1), (0, 1), (1, 0)])
def C__law_all_cells : Con := fun as P => ∃ h w : Nat, as = [vd (.int h), vd (.int w)] ∧ h ≤ 12 ∧ w ≤ 12 ∧ P (cellsD (allC h w))
def C__law_sizes : Con := fun as P => as = [.bag] ∧ ∀ h w : Nat, 1 ≤ h → h ≤ 12 → 1 ≤ w → w ≤ 12 → P (.tup [.int h, .int w])
def C__law_sides : Con := fun as P => ∃ (h w : Nat) (c : Cell), as = [vd (.int h), vd (.int w), vd (cellD c)] ∧ P (cellsD (nbs h w c))
def C__law_grown : Con := fun as P => ∃ (h w : Nat) (ns : List Str), as = [.bag, vd (.int h), vd (.int w), vd (strsD ns)] ∧ 1 ≤ h ∧ h ≤ 12 ∧ 1 ≤ w ∧ w ≤ 12 ∧ ns.Nodup ∧ ns ≠ [] ∧ (∀ x, x ∈ ns → validN x) ∧
  ∀ (cs : List Cell) (nm : Cell → Str), (∀ c, c ∈ cs ↔ c ∈ allC h w) → Gi cs nm → (∀ c, c ∈ cs → nm c ∈ ns) → P (.dt (cs.map keyC) (cs.map fun c => .str (nm c)))
def C__law_edge : Con := fun as P => ∃ (h w : Nat) (c : Cell), as = [vd (.int h), vd (.int w), vd (cellD c)] ∧ P (.bl (isE h w c))
def C__law_map : Con := fun as P => as = [.bag, vd (.int 6)] ∧ ∀ B : Bd, B.Ok → P (.lst [B.rows, cellsD B.road])
def C__law_made : Con := fun as P => ∃ B : Bd, as = [vd B.rows, vd (cellsD B.road)] ∧ B.Ok ∧ ∀ d, IsPlat B d → P d
def C__law_named : Con := fun as P => ∃ B : Bd, as = [vd B.rows] ∧ B.Ok ∧ P (strsD B.names)
def C__law_fronting : Con := fun as P => ∃ B : Bd, as = [vd B.rows, vd (cellsD B.road)] ∧ B.Ok ∧ P (strsD B.front)
def C__law_possible : Con := fun as P => ∃ B : Bd, as = [vd B.rows] ∧ B.Ok ∧ P (pairsD B.pairs)
def C__law_given : Con := fun as P => ∃ B : Bd, as = [.bag, vd B.rows] ∧ B.Ok ∧ ∀ ps : List (Str × Str), (∀ p, p ∈ ps → p ∈ B.pairs) → ps.length < 60 → P (pairsD ps)
def C__law_walks : Con := fun as P => ∃ (B : Bd) (st : List (Str × Str)) (n : Str), as = [vd (.str n), vd (strsD B.names), vd (pairsD st), vd (strsD B.front)] ∧ B.Ok ∧ StOk B st ∧ n ∈ B.names ∧ ((walksF (B.gr st) n).length < 100000 → P (.lst ((walksF (B.gr st) n).map strsD)))
def bestD : List (List Str) → D
  | [] => .non
  | w :: ws => strsD (PySem.W.minOf ((w.length : Int), w) (ws.map fun v => ((v.length : Int), v))).2
def C__law_best : Con := fun as P => ∃ ws : List (List Str), as = [vd (.lst (ws.map strsD))] ∧ ws.length < 100000 ∧ (∀ r, r ∈ ws → ∀ x, x ∈ r → validN x) ∧ P (bestD ws)
/-- plain data of lists, so deep at most -/
def okD : Nat → D → Bool
  | _, .non => true
  | _, .bl _ => true
  | _, .int _ => true
  | _, .str _ => true
  | n + 1, .node .lst ds => decide (ds.length ≤ 1000) && ds.all (okD n)
  | _, _ => false
def C_sameN (n : Nat) : Con := fun as P => ∃ d, as = [vd d, vd d] ∧ okD n d = true ∧ P (.bl true)
def C__law_same : Con := C_sameN 4
def C__law_bag : ConF := fun as P => ∃ ns : List Int, as = [vd (.lst (ns.map D.int))] ∧ ns.length ≤ 63 ∧ P .lst [.lst (ns.map D.int), .int 0, .int 0, .int (12030 + 31 * (ns.length : Int)), .int 0]
end Dk
end

section
set_option Elab.async false
set_option linter.all false
set_option maxRecDepth 100000
set_option maxHeartbeats 1000000
/-! Helpers of the contracts' proofs: dicts over a list and a function, slots. -/
namespace Dk
open L2 Dl Pm
section
variable {α κ : Type} [DecidableEq α] [DecidableEq κ] {k : α → κ} {f : α → D} {l : List α} {x : α} {d : D}
def putL (l : List α) (x : α) : List α := if x ∈ l then l else l ++ [x]
def putF (f : α → D) (x : α) (d : D) : α → D := fun y => if y = x then d else f y
theorem mem_putL {y : α} : y ∈ putL l x ↔ y ∈ l ∨ y = x := by
  unfold putL
  split
  · next h =>
    constructor
    · exact .inl
    · rintro (z | z)
      · exact z
      · rw [z]; exact h
  · simp
theorem putL_new (h : x ∉ l) : putL l x = l ++ [x] := if_neg h
theorem putL_nodup (h : l.Nodup) : (putL l x).Nodup := by
  unfold putL
  split
  · exact h
  · next n =>
    rw [List.nodup_append]
    refine ⟨h, by simp, ?_⟩
    intro a ha b hb
    rw [List.mem_singleton.mp hb]
    intro z
    subst z
    exact n ha
theorem putL_len : (putL l x).length ≤ l.length + 1 := by
  unfold putL
  split
  · omega
  · simp
theorem look_map (hk : ∀ a b, k a = k b → a = b) : ∀ {l : List α}, look (l.map k) (l.map f) (k x) = if x ∈ l then some (f x) else none
  | [] => rfl
  | a :: l => by
    rw [List.map_cons, List.map_cons, look]
    by_cases h : a = x
    · subst h
      rw [if_pos rfl, if_pos List.mem_cons_self]
    · rw [if_neg fun z => h (hk _ _ z), look_map hk]
      have : (x ∈ a :: l) ↔ x ∈ l := by
        rw [List.mem_cons]
        exact ⟨fun z => z.resolve_left fun q => h q.symm, .inr⟩
      by_cases q : x ∈ l
      · rw [if_pos q, if_pos (this.mpr q)]
      · rw [if_neg q, if_neg fun z => q (this.mp z)]
theorem mem_mapk (hk : ∀ a b, k a = k b → a = b) : k x ∈ l.map k ↔ x ∈ l := by
  rw [List.mem_map]
  exact ⟨fun ⟨y, h1, h2⟩ => hk _ _ h2 ▸ h1, fun h => ⟨x, h, rfl⟩⟩
theorem putKs_map (hk : ∀ a b, k a = k b → a = b) : putKs (l.map k) (k x) = (putL l x).map k := by
  unfold putKs putL
  by_cases h : x ∈ l
  · rw [if_pos ((mem_mapk hk).mpr h), if_pos h]
  · rw [if_neg fun z => h ((mem_mapk hk).mp z), if_neg h, List.map_append]
    rfl
theorem repl_map (hk : ∀ a b, k a = k b → a = b) : ∀ {l : List α}, repl (l.map k) (l.map f) (k x) d = l.map (putF f x d)
  | [] => rfl
  | a :: l => by
    rw [List.map_cons, List.map_cons, repl, repl_map hk, List.map_cons]
    congr 1
    unfold putF
    by_cases h : a = x
    · rw [if_pos (by rw [h]), if_pos h]
    · rw [if_neg fun z => h (hk _ _ z), if_neg h]
theorem putDs_map (hk : ∀ a b, k a = k b → a = b) : putDs (l.map k) (l.map f) (k x) d = (putL l x).map (putF f x d) := by
  unfold putDs putL
  by_cases h : x ∈ l
  · rw [if_pos ((mem_mapk hk).mpr h), if_pos h, repl_map hk]
  · rw [if_neg fun z => h ((mem_mapk hk).mp z), if_neg h, List.map_append]
    congr 1
    · refine List.map_congr_left fun y hy => ?_
      unfold putF
      rw [if_neg fun (z : y = x) => h (z ▸ hy)]
    · simp [putF]
end
theorem keyC_inj (a b : Cell) (h : keyC a = keyC b) : a = b := by
  unfold keyC at h
  simp at h
  exact Prod.ext h.1 h.2
theorem keyP_inj (a b : PySem.Str × PySem.Str) (h : keyP a = keyP b) : a = b := by
  unfold keyP at h
  simp at h
  exact Prod.ext h.1 h.2
theorem keyN_inj (a b : PySem.Str) (h : keyN a = keyN b) : a = b := by
  unfold keyN at h
  exact Sum.inr.inj h
section
variable {f : Cell → D} {g : PySem.Str × PySem.Str → D} {q : PySem.Str → D} {cs : List Cell} {ps : List (PySem.Str × PySem.Str)} {ns : List PySem.Str} {d : D}
@[simp high] theorem dlook_cell {ks : List (List Key)} {ds : List D} {a b : Int} : dlook (.dt ks) ds (.node .tup [.int a, .int b]) = some (look ks ds (keyC (a, b))) := rfl
@[simp high] theorem dlook_pair {ks : List (List Key)} {ds : List D} {a b : PySem.Str} : dlook (.dt ks) ds (.node .tup [.str a, .str b]) = some (look ks ds (keyP (a, b))) := rfl
@[simp high] theorem dlook_str {ks : List Key} {ds : List D} {a : PySem.Str} : dlook (.dk ks) ds (.str a) = some (look ks ds (keyN a)) := rfl
@[simp high] theorem dput_cell {a b : Int} : dputE (.dt (cs.map keyC)) (cs.map f) (.node .tup [.int a, .int b]) d = some (.dt ((putL cs (a, b)).map keyC), (putL cs (a, b)).map (putF f (a, b) d)) := by
  show some (Tag.dt (putKs _ (keyC (a, b))), putDs _ _ (keyC (a, b)) d) = _
  rw [putKs_map keyC_inj, putDs_map keyC_inj]
@[simp high] theorem dput_pair {a b : PySem.Str} : dputE (.dt (ps.map keyP)) (ps.map g) (.node .tup [.str a, .str b]) d = some (.dt ((putL ps (a, b)).map keyP), (putL ps (a, b)).map (putF g (a, b) d)) := by
  show some (Tag.dt (putKs _ (keyP (a, b))), putDs _ _ (keyP (a, b)) d) = _
  rw [putKs_map keyP_inj, putDs_map keyP_inj]
@[simp high] theorem dput_str {a : PySem.Str} : dputE (.dk (ns.map keyN)) (ns.map q) (.str a) d = some (.dk ((putL ns a).map keyN), (putL ns a).map (putF q a d)) := by
  show some (Tag.dk (putKs _ (keyN a)), putDs _ _ (keyN a) d) = _
  rw [putKs_map keyN_inj, putDs_map keyN_inj]
@[simp high] theorem look_cells {c : Cell} : look (cs.map keyC) (cs.map f) (keyC c) = if c ∈ cs then some (f c) else none := by
  rw [look_map keyC_inj]
  by_cases h : c ∈ cs <;> simp [h]
@[simp high] theorem look_pairs {c : PySem.Str × PySem.Str} : look (ps.map keyP) (ps.map g) (keyP c) = if c ∈ ps then some (g c) else none := by
  rw [look_map keyP_inj]
  by_cases h : c ∈ ps <;> simp [h]
@[simp high] theorem look_strs {c : PySem.Str} : look (ns.map keyN) (ns.map q) (keyN c) = if c ∈ ns then some (q c) else none := look_map keyN_inj
/-- has this key? whatever the values are -/
theorem look_has {κ : Type} [DecidableEq κ] {j : κ} : ∀ {ks : List κ} {vs : List D}, vs.length = ks.length → (look ks vs j).isSome = decide (j ∈ ks)
  | [], [], _ => by simp [look]
  | [], _ :: _, h => by cases h
  | _ :: _, [], h => by cases h
  | a :: ks, v :: vs, h => by
    unfold look
    by_cases e : a = j
    · subst e; simp
    · have e' : ¬ j = a := fun z => e z.symm
      rw [if_neg e, look_has (by simpa using h)]
      simp [e']
end
theorem plain_ok {s : Env} {vs : List Nat} (h : ∀ i ∈ vs, s[i]? = some none ∨ ∃ d, s[i]? = some (some (.val d))) : plainAt s vs := fun i hi t ds => by
  rcases h i hi with h | ⟨d, h⟩ <;> rw [h]
  · exact ⟨(by simp), (by simp)⟩
  · exact ⟨(by simp), (by simp)⟩
end Dk
end

section
set_option Elab.async false
set_option linter.all false
set_option maxRecDepth 100000
set_option maxHeartbeats 1000000
namespace Dk
open L2 Dl Pm
theorem c_is_whole : Keeps N_is_whole 1 C_is_whole den_is_whole := by
  rintro as P - ⟨i, rfl, h⟩
  simp [den_is_whole]
  exact h
@[simp] theorem x_is_whole {i : Int} {P : D → Prop} : C_is_whole [.val (.int i)] P ↔ P (.bl true) := by
  simp [C_is_whole]
theorem c_is_number : Keeps N_is_number 3 C_is_number (den_is_number C_is_whole) := by
  rintro as P - ⟨v, l, m, rfl, h⟩
  simp [den_is_number]
  by_cases h1 : l ≤ v
  · simpa [h1] using h
  · simpa [h1] using h
@[simp] theorem x_is_number {v l m : Int} {P : D → Prop} : C_is_number [.val (.int v), .val (.int l), .val (.int m)] P ↔ P (.bl (decide (l ≤ v ∧ v ≤ m))) := by
  unfold C_is_number
  constructor
  · rintro ⟨v', l', m', e, h⟩
    simp at e
    obtain ⟨rfl, rfl, rfl⟩ := e
    exact h
  · intro h
    exact ⟨v, l, m, rfl, h⟩
theorem c_is_cell : Keeps N_is_cell 1 C_is_cell (den_is_cell C_is_number) := by
  rintro as P - ⟨c, rfl, h⟩
  simp [den_is_cell, -Bool.decide_and]
  have e : (decide (onB 12 12 c)) = (decide (0 ≤ c.1 ∧ c.1 ≤ 11) && decide (0 ≤ c.2 ∧ c.2 ≤ 11)) := by
    rw [← Bool.decide_and]
    apply decide_eq_decide.mpr
    unfold onB
    omega
  rw [e] at h
  by_cases h1 : 0 ≤ c.1 ∧ c.1 ≤ 11
  · rw [if_pos h1]
    rw [decide_eq_true h1] at h
    exact h
  · rw [if_neg h1]
    rw [decide_eq_false h1] at h
    exact h
@[simp] theorem x_is_cell {a b : Int} {P : D → Prop} : C_is_cell [.val (.node .tup [.int a, .int b])] P ↔ P (.bl (decide (onB 12 12 (a, b)))) := by
  unfold C_is_cell
  constructor
  · rintro ⟨c, e, h⟩
    simp at e
    obtain ⟨rfl, rfl⟩ := e
    exact h
  · intro h
    exact ⟨(a, b), rfl, h⟩
def toC : D → Cell
  | .node .tup [.int a, .int b] => (a, b)
  | _ => (0, 0)
theorem c_beside : Keeps N_beside 1 C_beside (den_beside C_is_cell) := by
  rintro as P - ⟨c, rfl, h⟩
  simp [den_beside, -lcD]
  refine ⟨plain_ok (by simp), lcD_by (fun d => if onB 12 12 (toC d) then some d else none) (by simp) ?_ ?_⟩
  · intro d hd K hK
    simp at hd
    rcases hd with rfl | rfl | rfl | rfl <;>
    · simp [toC] at hK ⊢
      split <;> simp_all
  · unfold nbs four at h
    simp [List.filterMap_cons, List.filter_cons, toC] at h ⊢
    repeat' split at h <;> simp_all
theorem c_is_list : Keeps N_is_list 1 C_is_list den_is_list := by
  rintro as P - ⟨t, ds, rfl, ht, h⟩
  simp [den_is_list]
  rcases ht with rfl | rfl <;> simpa using h
@[simp] theorem x_is_list {t : Tag} {ds : List D} {P : D → Prop} : C_is_list [.val (.node t ds)] P ↔ (t = .lst ∨ t = .tup) ∧ P (.bl true) := by
  unfold C_is_list
  constructor
  · rintro ⟨t', ds', e, h1, h2⟩
    simp at e
    obtain ⟨rfl, rfl⟩ := e
    exact ⟨h1, h2⟩
  · rintro ⟨h1, h2⟩
    exact ⟨t, ds, rfl, h1, h2⟩
end Dk
end

section
set_option Elab.async false
set_option linter.all false
set_option maxRecDepth 100000
set_option maxHeartbeats 1000000
namespace Dk
open L2 Dl Pm
@[simp] theorem x_beside {a b : Int} {P : D → Prop} : C_beside [.val (.node .tup [.int a, .int b])] P ↔ P (cellsD (nbs 12 12 (a, b))) := by
  unfold C_beside
  constructor
  · rintro ⟨c, e, h⟩
    simp at e
    obtain ⟨rfl, rfl⟩ := e
    exact h
  · intro h
    exact ⟨(a, b), rfl, h⟩
theorem zipIdx_get {α : Type} {l : List α} {i : Nat} {x : α × Nat} (h : l.zipIdx[i]? = some x) : l[i]? = some x.1 ∧ x.2 = i := by
  rw [List.getElem?_zipIdx] at h
  cases q : l[i]? with
  | none => rw [q] at h; cases h
  | some y =>
    rw [q] at h
    cases h
    exact ⟨rfl, by simp⟩
theorem pairs_get {ds : List D} {i : Nat} {d : D} (h : (Dl.pairsOf ds)[i]? = some d) : ∃ x, ds[i]? = some x ∧ d = .tup [.int (i : Nat), x] := by
  unfold Dl.pairsOf at h
  rw [List.getElem?_map] at h
  cases q : ds.zipIdx[i]? with
  | none => rw [q] at h; cases h
  | some y =>
    rw [q] at h
    cases h
    obtain ⟨h1, h2⟩ := zipIdx_get q
    exact ⟨y.1, h1, by subst h2; rfl⟩
theorem map_get {α β : Type} {f : α → β} {l : List α} {i : Nat} {y : β} (h : (l.map f)[i]? = some y) : ∃ x, l[i]? = some x ∧ y = f x := by
  rw [List.getElem?_map] at h
  cases q : l[i]? with
  | none => rw [q] at h; cases h
  | some x => rw [q] at h; cases h; exact ⟨x, rfl, rfl⟩
theorem take_succ_get {α : Type} {l : List α} {i : Nat} {x : α} (h : l[i]? = some x) : l.take (i + 1) = l.take i ++ [x] := by
  rw [List.take_add_one, h]
  rfl
theorem nodup_take_new {α : Type} {l : List α} {i : Nat} {x : α} (n : l.Nodup) (h : l[i]? = some x) : x ∉ l.take i := by
  intro hm
  have : (l.take (i + 1)).Nodup := n.sublist (List.take_sublist _ _)
  rw [take_succ_get h, List.nodup_append] at this
  exact this.2.2 x hm x List.mem_cons_self rfl
theorem pairs_len {ds : List D} : (Dl.pairsOf ds).length = ds.length := by
  unfold Dl.pairsOf
  simp
theorem on_len {cs : List Cell} {h w : Nat} (n : cs.Nodup) (hb : ∀ c, c ∈ cs → onB h w c) : cs.length ≤ h * w := by
  rw [← allC_length (h := h) (w := w)]
  exact nodup_len2 n fun x hx => mem_allC.mpr (hb x hx)
theorem c_check_cells : Keeps N_check_cells 1 C_check_cells (den_check_cells C_is_cell) := by
  rintro as P - ⟨cs, rfl, hn, hb, h⟩
  have hlen : cs.length ≤ 144 := on_len (h := 12) (w := 12) hn hb
  simp [den_check_cells, -forD, -dlook, -dputE]
  refine for_by (fun i s => ∃ (x2 x3 : Option Slot) (ts : List Cell) (f : Cell → D), s = [some (.val (cellsD cs)), some (.own (.dt (ts.map keyC)) (ts.map f)), x2, x3] ∧ ts.length ≤ i ∧ ∀ x, x ∈ ts → x ∈ cs.take i) ⟨none, none, [], fun _ => .non, by simp⟩ ?_ ?_
  · rintro i d s K hd ⟨x2, x3, ts, f, rfl, hl, hm⟩ hK
    obtain ⟨x, hx, rfl⟩ := pairs_get hd
    obtain ⟨c, hc, rfl⟩ := map_get hx
    have hcn : c ∉ ts := fun z => nodup_take_new hn hc (hm c z)
    have hon := hb c (List.mem_of_getElem? hc)
    have hi : i < cs.length := (List.getElem?_eq_some_iff.mp hc).1
    simp [hon, hcn, -dlook, -dputE]
    refine ⟨by omega, hK _ ⟨_, _, _, _, rfl, ?_, fun x hx => ?_⟩⟩
    · have := putL_len (l := ts) (x := (c.1, c.2))
      omega
    · rw [take_succ_get hc]
      rcases mem_putL.mp hx with z | z
      · exact List.mem_append_left _ (hm x z)
      · rw [z]; simp
  · rintro s ⟨x2, x3, ts, f, rfl, _⟩
    exact h
end Dk
end

section
set_option Elab.async false
set_option linter.all false
set_option maxRecDepth 100000
set_option maxHeartbeats 1000000
namespace Dk
open L2 Dl Pm
/-- data that == with [] may look at -/
def shp (n : Nat) (d : D) : Prop := ∃ p, toP d = some p ∧ p.canLay0 = true ∧ p.depth ≤ n
theorem shps {n : Nat} : ∀ {ds : List D}, (∀ d, d ∈ ds → shp n d) → ∃ xs, toPs ds = some xs ∧ PySem.PyData.canLayAll0 xs = true ∧ PySem.PyData.depthAll xs ≤ n
  | [], _ => ⟨[], by simp [toPs], by simp [PySem.PyData.canLayAll0], by simp [PySem.PyData.depthAll]⟩
  | d :: ds, h => by
    obtain ⟨p, h1, h2, h3⟩ := h d List.mem_cons_self
    obtain ⟨xs, h4, h5, h6⟩ := shps (ds := ds) fun e he => h e (List.mem_cons_of_mem _ he)
    refine ⟨p :: xs, by simp [toPs, h1, h4], by simp [PySem.PyData.canLayAll0, h2, h5], ?_⟩
    simp only [PySem.PyData.depthAll]
    omega
theorem shp_int {i : Int} : shp 0 (.int i) := ⟨.int i, by simp [toP], by simp [PySem.PyData.canLay0], by simp [PySem.PyData.depth]⟩
theorem shp_str {x : PySem.Str} (h : PySem.PyData.strOk x = true) : shp 0 (.str x) := ⟨.str x, by simp [toP], by simp [PySem.PyData.canLay0, h], by simp [PySem.PyData.depth]⟩
theorem shp_non : shp 0 .non := ⟨.none, by simp [toP], by simp [PySem.PyData.canLay0], by simp [PySem.PyData.depth]⟩
theorem shp_bl {b : Bool} : shp 0 (.bl b) := ⟨.bool b, by simp [toP], by simp [PySem.PyData.canLay0], by simp [PySem.PyData.depth]⟩
theorem shp_tup {n : Nat} {ds : List D} (h : ∀ d, d ∈ ds → shp n d) : shp (n + 1) (.tup ds) := by
  obtain ⟨xs, h1, h2, h3⟩ := shps h
  exact ⟨.tuple xs, by simp [toP, h1], by simp [PySem.PyData.canLay0, h2], by simp only [PySem.PyData.depth]; omega⟩
theorem shp_lst {n : Nat} {ds : List D} (h : ∀ d, d ∈ ds → shp n d) : shp (n + 1) (.lst ds) := by
  obtain ⟨xs, h1, h2, h3⟩ := shps h
  exact ⟨.list xs, by simp [toP, h1], by simp [PySem.PyData.canLay0, h2], by simp only [PySem.PyData.depth]; omega⟩
theorem shp_nil {n : Nat} (hn : n ≤ 63) {ds : List D} (h : ∀ d, d ∈ ds → shp n d) : ∃ xs, toPs ds = some xs ∧ PySem.SeqAt.shaped (.list xs) = true := by
  obtain ⟨xs, h1, h2, h3⟩ := shps h
  refine ⟨xs, h1, ?_⟩
  have h4 : (PySem.PyData.list xs).depth ≤ 64 := by
    rw [PySem.PyData.depth]
    omega
  have h5 : (PySem.PyData.list xs).canLay0 = true := by
    rw [PySem.PyData.canLay0]
    exact h2
  unfold PySem.SeqAt.shaped
  rw [h5, decide_eq_true h4]
  rfl
theorem shp_cells (cs : List Cell) : ∃ xs, toPs (cs.map cellD) = some xs ∧ PySem.SeqAt.shaped (.list xs) = true := shp_nil (n := 1) (by decide) fun d hd => by
  obtain ⟨c, _, rfl⟩ := List.mem_map.mp hd
  refine shp_tup (n := 0) fun e he => ?_
  simp at he
  rcases he with rfl | rfl <;> exact shp_int
theorem strOk_of {x : PySem.Str} (h : validN x) : PySem.PyData.strOk x = true := by
  have k : ∀ c : Nat, c ∈ ("abcdefghijklmnopqrstuvwxyz" : PySem.Str).cps.toList → c < 0x110000 := by decide +kernel
  unfold PySem.PyData.strOk
  rw [Array.all_eq_true']
  intro c hc
  exact decide_eq_true (k c (h.2.2 c (Array.mem_toList_iff.mpr hc)))
theorem shp_strs {ns : List PySem.Str} (h : ∀ x, x ∈ ns → validN x) : ∃ xs, toPs (ns.map D.str) = some xs ∧ PySem.SeqAt.shaped (.list xs) = true := shp_nil (n := 0) (by decide) fun d hd => by
  obtain ⟨c, hc, rfl⟩ := List.mem_map.mp hd
  exact shp_str (strOk_of (h c hc))
theorem shp_rows {rs : List (List PySem.Str)} (h : ∀ r, r ∈ rs → ∀ x, x ∈ r → validN x) : ∃ xs, toPs (rs.map strsD) = some xs ∧ PySem.SeqAt.shaped (.list xs) = true := shp_nil (n := 1) (by decide) fun d hd => by
  obtain ⟨r, hr, rfl⟩ := List.mem_map.mp hd
  refine shp_lst (n := 0) fun e he => ?_
  obtain ⟨c, hc, rfl⟩ := List.mem_map.mp he
  exact shp_str (strOk_of (h r hr c hc))
@[simp] theorem comp_keyC : ((fun l => D.node Tag.tup (List.map keyD l)) ∘ keyC) = cellD := rfl
@[simp] theorem comp_keyP : ((fun l => D.node Tag.tup (List.map keyD l)) ∘ keyP) = pairD := rfl
@[simp] theorem comp_keyN : (keyD ∘ keyN) = D.str := rfl
/-- pop() of a list by its last item -/
theorem concat_of {α : Type} (l : List α) : l = [] ∨ ∃ l0 x, l = l0 ++ [x] := by
  cases h : l.reverse with
  | nil => exact .inl (List.reverse_eq_nil_iff.mp h)
  | cons x r => exact .inr ⟨r.reverse, x, by rw [← List.reverse_reverse l, h]; simp⟩
end Dk
end

section
set_option Elab.async false
set_option linter.all false
set_option maxRecDepth 100000
set_option maxHeartbeats 2000000
namespace Dk
open L2 Dl Pm
structure GInv (cs : List Cell) (a : Cell) (seen left : List Cell) : Prop where
  h0 : a ∈ seen
  nd : seen.Nodup
  co : ∀ x, x ∈ seen → Conn (fun c => c ∈ cs) a x
  ls : ∀ x, x ∈ left → x ∈ seen
  nl : left.Nodup
theorem GInv.sub {cs : List Cell} {a : Cell} {seen left : List Cell} (g : GInv cs a seen left) (ha : a ∈ cs) : ∀ x, x ∈ seen → x ∈ cs := fun x hx => (g.co x hx).inS (S := fun c => c ∈ cs) ha
theorem c_group_of : Keeps N_group_of 3 C_group_of (den_group_of C_beside) := by
  rintro as P - ⟨a, cs, vs, rfl, hv, hn, hb, ha, h⟩
  have hlen : cs.length ≤ 144 := on_len (h := 12) (w := 12) hn hb
  simp [den_group_of, -forD, -dlook, -dputE]
  refine while_dby (fun n s => ∃ (x5 x6 : Option Slot) (seen left : List Cell) (f : Cell → D), s = [some (.val (cellD a)), some (.val (.dt (cs.map keyC) vs)), some (.val (.bl false)), some (.own (.dt (seen.map keyC)) (seen.map f)), some (.own .lst (left.map cellD)), x5, x6] ∧
    GInv cs a seen left ∧ (∀ x, x ∈ seen → x ∉ left → ∀ y, Adj x y → y ∈ cs → y ∈ seen) ∧ n = 2 * (cs.length - seen.length) + left.length ) (2 * (cs.length - 1) + 1) ?_ ?_
  · refine ⟨none, none, [a], [a], fun _ => .bl true, by simp [keyC], ⟨by simp, by simp, ?_, by simp, by simp⟩, ?_, by simp⟩
    · intro x hx
      rw [List.mem_singleton.mp hx]
      exact .refl
    · intro x hx hx2
      exact (hx2 hx).elim
  · rintro n s K ⟨x5, x6, seen, left, f, rfl, g, cl, rfl⟩ hK
    have hsl : seen.length ≤ cs.length := nodup_len2 g.nd (g.sub ha)
    rcases concat_of left with rfl | ⟨l0, c, rfl⟩
    · simp [-dlook, -dputE]
      refine ⟨⟨[], by simp [toPs], rfl⟩, .inl fun cs' hp _ => ?_⟩
      refine h cs' (hp.nodup_iff.mpr g.nd) fun x => hp.mem_iff.trans ⟨g.co x, fun hc => ?_⟩
      exact conn_closed g.h0 (fun y hy z hz hz2 => cl y hy (by simp) z hz hz2) hc
    · simp [-forD, -dlook, -dputE]
      have hc : c ∈ seen := g.ls c (by simp)
      refine ⟨by have := shp_cells (l0 ++ [c]); rwa [List.map_append] at this, ?_⟩
      refine for_by (fun i s => ∃ (x6 : Option Slot) (seen' left' : List Cell) (f' : Cell → D), s = [some (.val (cellD a)), some (.val (.dt (cs.map keyC) vs)), some (.val (.bl false)), some (.own (.dt (seen'.map keyC)) (seen'.map f')), some (.own .lst (left'.map cellD)), some (.val (cellD c)), x6] ∧
        GInv cs a seen' left' ∧ (∀ x, x ∈ seen → x ∈ seen') ∧ (∀ x, x ∈ seen' → x ∉ left' → x ≠ c → ∀ y, Adj x y → y ∈ cs → y ∈ seen') ∧ (∀ x, x ∈ (nbs 12 12 (c.1, c.2)).take i → x ∈ cs → x ∈ seen') ∧
        2 * (cs.length - seen'.length) + left'.length ≤ 2 * (cs.length - seen.length) + l0.length) ?_ ?_ ?_
      · refine ⟨x6, seen, l0, f, rfl, ⟨g.h0, g.nd, g.co, fun x hx => g.ls x (by simp [hx]), (List.nodup_append.mp g.nl).1⟩, fun x hx => hx, fun x hx hx2 hx3 => cl x hx (by simp [hx2, hx3]), by simp, by omega⟩
      · rintro i d s Kk hd ⟨x6, seen', left', f', rfl, g', hs', cl', pr, me⟩ hKk
        obtain ⟨y, hy, rfl⟩ := map_get hd
        have hya : Adj c y := (mem_nbs.mp (List.mem_of_getElem? hy)).1
        have hsl' : seen'.length ≤ cs.length := nodup_len2 g'.nd (g'.sub ha)
        have hss : seen.length ≤ seen'.length := nodup_len2 g.nd hs'
        have hl' : left'.length ≤ seen'.length := nodup_len2 g'.nl g'.ls
        simp [-dlook, -dputE]
        rw [look_has (by simpa using hv)]
        have hstep : ∀ x, x ∈ (nbs 12 12 (c.1, c.2)).take (i + 1) → x ∈ (nbs 12 12 (c.1, c.2)).take i ∨ x = y := by
          intro x hx
          rw [take_succ_get hy] at hx
          simpa using hx
        have hstay : (y ∈ cs → y ∈ seen') → Kk [some (.val (cellD a)), some (.val (.dt (cs.map keyC) vs)), some (.val (.bl false)), some (.own (.dt (seen'.map keyC)) (seen'.map f')), some (.own .lst (left'.map cellD)), some (.val (cellD c)), some (.val (cellD y))] := by
          intro q
          refine hKk _ ⟨_, _, _, _, rfl, g', hs', cl', fun x hx hx2 => ?_, me⟩
          rcases hstep x hx with z | z
          · exact pr x z hx2
          · rw [z]; exact q (z ▸ hx2)
        have hm : keyC (y.1, y.2) ∈ cs.map keyC ↔ y ∈ cs := mem_mapk keyC_inj
        simp only [decide_eq_true_eq, hm]
        by_cases q1 : y ∈ cs
        · rw [if_pos q1]
          by_cases q2 : y ∈ seen'
          · rw [if_pos (show (y.1, y.2) ∈ seen' from q2)]
            exact hstay fun _ => q2
          · rw [if_neg (show ¬ (y.1, y.2) ∈ seen' from q2)]
            refine ⟨by omega, by omega, ?_⟩
            rw [show List.map cellD left' ++ [cellD y] = (left' ++ [y]).map cellD by simp]
            rw [show putL seen' (y.1, y.2) = seen' ++ [y] from putL_new q2]
            have hlt : seen'.length + 1 ≤ cs.length := more_len (c := y) g'.nd q2 (g'.sub ha) q1
            refine hKk _ ⟨_, seen' ++ [y], left' ++ [y], _, rfl, ⟨List.mem_append_left _ g'.h0, ?_, ?_, ?_, ?_⟩, fun x hx => List.mem_append_left _ (hs' x hx), ?_, ?_, ?_⟩
            · rw [← putL_new q2]; exact putL_nodup g'.nd
            · intro x hx
              rcases List.mem_append.mp hx with z | z
              · exact g'.co x z
              · rw [List.mem_singleton.mp z]
                exact .step (g'.co c (hs' c hc)) hya q1
            · intro x hx
              rcases List.mem_append.mp hx with z | z
              · exact List.mem_append_left _ (g'.ls x z)
              · exact List.mem_append_right _ z
            · rw [← putL_new (fun z => q2 (g'.ls y z))]; exact putL_nodup g'.nl
            · intro x hx hx2 hx3 z hz hz2
              rcases List.mem_append.mp hx with w | w
              · exact List.mem_append_left _ (cl' x w (fun u => hx2 (List.mem_append_left _ u)) hx3 z hz hz2)
              · exact (hx2 (List.mem_append_right _ w)).elim
            · intro x hx hx2
              rcases hstep x hx with z | z
              · exact List.mem_append_left _ (pr x z hx2)
              · rw [z]; simp
            · simp only [List.length_append, List.length_singleton]
              omega
        · rw [if_neg q1]
          exact hstay fun z => (q1 z).elim
      · rintro s ⟨x6, seen', left', f', rfl, g', hs', cl', pr, me⟩
        refine hK (2 * (cs.length - seen'.length) + left'.length) _ (by simp; omega) ⟨_, _, _, _, _, rfl, g', fun x hx hx2 y hy hy2 => ?_, rfl⟩
        by_cases e : x = c
        · subst e
          refine pr y ?_ hy2
          rw [List.length_map, List.take_length]
          exact mem_nbs.mpr ⟨hy, hb y hy2⟩
        · exact cl' x hx hx2 e y hy hy2
end Dk
end

section
set_option Elab.async false
set_option linter.all false
set_option maxRecDepth 100000
set_option maxHeartbeats 2000000
namespace Dk
open L2 Dl Pm
/-! dict comprehensions -/
def dputs : Tag × List D → List (D × D) → Option (Tag × List D)
  | t, [] => some t
  | t, x :: xs => (dputE t.1 t.2 x.1 x.2).bind fun t2 => dputs t2 xs
theorem repl_len {κ : Type} [DecidableEq κ] {k : κ} {d : D} : ∀ {ks : List κ} {ds : List D}, (repl ks ds k d).length ≤ ds.length
  | [], ds => by simp [repl]
  | _ :: _, [] => by simp [repl]
  | a :: ks, e :: ds => by
    rw [repl, List.length_cons, List.length_cons]
    have := repl_len (k := k) (d := d) (ks := ks) (ds := ds)
    omega
theorem putDs_len {κ : Type} [DecidableEq κ] {k : κ} {d : D} {ks : List κ} {ds : List D} : (putDs ks ds k d).length ≤ ds.length + 1 := by
  unfold putDs
  split
  · have := repl_len (k := k) (d := d) (ks := ks) (ds := ds)
    omega
  · simp
theorem dputE_len {t t2 : Tag} {ds ds2 : List D} {k d : D} (h : dputE t ds k d = some (t2, ds2)) : ds2.length ≤ ds.length + 1 := by
  unfold dputE at h
  split at h
  · rw [Option.map_eq_some_iff] at h
    obtain ⟨j, _, e⟩ := h
    cases e
    exact putDs_len
  · rw [Option.map_eq_some_iff] at h
    obtain ⟨j, _, e⟩ := h
    cases e
    exact putDs_len
  · cases h
theorem dcD_by {dG : GDen} {tt : TDen} {dk dv : VDen} {vs : List Nat} {s0 : Env} (f : D → Option (D × D)) : ∀ {ds : List D} {t : Tag} {acc : List D} {P : Tag → List D → Prop}, acc.length + ds.length ≤ 100000 →
    (∀ d ∈ ds, ∀ Kk : Option (D × D) → Prop, Kk (f d) → dG d (wipeE s0 vs) fun s2 => tt s2 fun b s3 => if b = true then dk s3 fun k s4 => dv s4 fun r s5 => wipeE s5 vs = wipeE s0 vs ∧ Kk (some (k, r)) else wipeE s3 vs = wipeE s0 vs ∧ Kk none) →
    ∀ {t2 : Tag} {acc2 : List D}, dputs (t, acc) (ds.filterMap f) = some (t2, acc2) → P t2 acc2 → dcD dG tt dk dv vs s0 ds t acc P
  | [], t, acc, P, hl, _, t2, acc2, h, hp => by
    cases h
    exact hp
  | d :: ds, t, acc, P, hl, hs, t2, acc2, h, hp => by
    rw [List.length_cons] at hl
    unfold dcD
    have key : ∀ o : Option (D × D), o = f d → match o with
        | some (k, r) => acc.length < 100000 ∧ ∃ t3 acc3, dputE t acc k r = some (t3, acc3) ∧ dcD dG tt dk dv vs s0 ds t3 acc3 P
        | none => dcD dG tt dk dv vs s0 ds t acc P := by
      intro o ho
      rw [List.filterMap_cons, ← ho] at h
      cases o with
      | none => exact dcD_by f (by omega) (fun e he => hs e (List.mem_cons_of_mem _ he)) h hp
      | some kr =>
        obtain ⟨k, r⟩ := kr
        refine ⟨by omega, ?_⟩
        simp only [dputs] at h
        cases q : dputE t acc k r with
        | none => rw [q] at h; cases h
        | some u =>
          obtain ⟨t3, acc3⟩ := u
          rw [q] at h
          have := dputE_len q
          exact ⟨t3, acc3, rfl, dcD_by f (by omega) (fun e he => hs e (List.mem_cons_of_mem _ he)) h hp⟩
    exact hs d List.mem_cons_self (fun o => match o with
        | some (k, r) => acc.length < 100000 ∧ ∃ t3 acc3, dputE t acc k r = some (t3, acc3) ∧ dcD dG tt dk dv vs s0 ds t3 acc3 P
        | none => dcD dG tt dk dv vs s0 ds t acc P) (key _ rfl)
theorem dputs_map {α κ : Type} [DecidableEq α] (T : List κ → Tag) (k : α → κ) (toD : α → D) (hput : ∀ (l : List α) (f : α → D) (x : α) (d : D), dputE (T (l.map k)) (l.map f) (toD x) d = some (T ((putL l x).map k), (putL l x).map (putF f x d))) (v : α → D) :
    ∀ (xs l : List α), (l ++ xs).Nodup → dputs (T (l.map k), l.map v) (xs.map fun x => (toD x, v x)) = some (T ((l ++ xs).map k), (l ++ xs).map v)
  | [], l, _ => by simp [dputs]
  | x :: xs, l, h => by
    have hx : x ∉ l := by
      intro z
      rw [List.nodup_append] at h
      exact h.2.2 x z x List.mem_cons_self rfl
    rw [List.map_cons, dputs, hput, Option.bind_some, putL_new hx]
    have e : (l ++ [x]).map (putF v x (v x)) = (l ++ [x]).map v := by
      refine List.map_congr_left fun y _ => ?_
      unfold putF
      split
      · next z => rw [z]
      · rfl
    rw [e, dputs_map T k toD hput v xs (l ++ [x]) (by simpa using h)]
    simp
theorem dputs_cells (v : Cell → D) {xs : List Cell} (h : xs.Nodup) : dputs (.dt [], []) (xs.map fun x => (cellD x, v x)) = some (.dt (xs.map keyC), xs.map v) :=
  dputs_map .dt keyC cellD (fun l f x d => dput_cell) v xs [] (by simpa using h)
theorem dputs_strs (v : PySem.Str → D) {xs : List PySem.Str} (h : xs.Nodup) : dputs (.dk [], []) (xs.map fun x => (.str x, v x)) = some (.dk (xs.map keyN), xs.map v) :=
  dputs_map .dk keyN D.str (fun l f x d => dput_str) v xs [] (by simpa using h)
theorem x_group_of {a : Cell} {cs : List Cell} {vs : List D} {P : D → Prop} (h : vs.length = cs.length ∧ cs.Nodup ∧ (∀ c, c ∈ cs → onB 12 12 c) ∧ a ∈ cs ∧ ∀ g : List Cell, g.Nodup → (∀ x, x ∈ g ↔ Conn (fun c => c ∈ cs) a x) → P (cellsD g)) :
    C_group_of [.val (cellD a), .val (.dt (cs.map keyC) vs), .val (.bl false)] P := ⟨a, cs, vs, rfl, h⟩
theorem c_groups : Keeps N_groups 2 C_groups (den_groups C_group_of) := by
  rintro as P - ⟨cs, rfl, hn, hb, hw, h⟩
  have hlen : cs.length ≤ 144 := on_len (h := 12) (w := 12) hn hb
  obtain ⟨a0, ha0, hall⟩ := id hw
  have hpos : 0 < cs.length := List.length_pos_of_mem ha0
  simp [den_groups, -forD, -dlook, -dputE]
  refine ⟨plain_ok (by simp), dcD_by (fun d => some (d, .bl true)) (by simp; omega) ?_ (t2 := .dt (cs.map keyC)) (acc2 := cs.map fun _ => .bl true) ?_ ?_⟩
  · intro d _ Kk hk
    simp
    exact hk
  · have := dputs_cells (fun _ => .bl true) hn
    rw [← this]
    congr 1
    rw [List.filterMap_map]
    rw [show ((fun d => some (d, D.bl true)) ∘ cellD) = (some ∘ fun x => (cellD x, D.bl true)) from rfl, List.filterMap_eq_map]
  · left
    intro cs' hp _
    refine for_by (fun i s => ∃ (x5 x6 x7 : Option Slot) (seen : List Cell) (f : Cell → D) (found : List D), s = [some (.val (cellsD cs)), some (.val (.bl false)), some (.val (.dt (cs.map keyC) (cs.map fun _ => .bl true))), some (.own (.dt (seen.map keyC)) (seen.map f)), some (.own .lst found), x5, x6, x7] ∧
      ((i = 0 ∧ seen = [] ∧ found = []) ∨ (0 < i ∧ (∀ x, x ∈ cs → x ∈ seen) ∧ found.length = 1))) ⟨none, none, none, [], fun _ => .non, [], by simp, .inl ⟨rfl, rfl, rfl⟩⟩ ?_ ?_
    · rintro i d s Kk hd ⟨x5, x6, x7, seen, f, found, rfl, hi⟩ hK
      obtain ⟨c, hc, rfl⟩ := map_get hd
      have hcs : c ∈ cs := hp.mem_iff.mp (List.mem_of_getElem? hc)
      rcases hi with ⟨rfl, rfl, rfl⟩ | ⟨h1, h2, h3⟩
      · simp [-forD, -dlook, -dputE, look]
        refine x_group_of ⟨by simp, hn, hb, hcs, fun g gn gm => ?_⟩
        simp [-forD, -dlook, -dputE]
        refine for_by (fun j s => ∃ (x7 : Option Slot) (seen : List Cell) (f : Cell → D), s = [some (.val (cellsD cs)), some (.val (.bl false)), some (.val (.dt (cs.map keyC) (cs.map fun _ => .bl true))), some (.own (.dt (seen.map keyC)) (seen.map f)), some (.own .lst [cellsD g]), some (.val (cellD c)), some (.val (cellsD g)), x7] ∧
          seen.length ≤ j ∧ ∀ x, x ∈ g.take j → x ∈ seen) ⟨x7, [], fun _ => .non, by simp, by simp, by simp⟩ ?_ ?_
        · rintro j d s Kk hd ⟨x7, seen, f, rfl, hl, hm⟩ hK
          obtain ⟨y, hy, rfl⟩ := map_get hd
          have hj : j < g.length := (List.getElem?_eq_some_iff.mp hy).1
          have hg : g.length ≤ cs.length := nodup_len2 gn fun x hx => ((gm x).mp hx).inS (S := fun c => c ∈ cs) hcs
          simp [-dlook, -dputE]
          refine ⟨by omega, hK _ ⟨_, _, _, rfl, ?_, fun x hx => ?_⟩⟩
          · have := putL_len (l := seen) (x := (y.1, y.2))
            omega
          · rw [take_succ_get hy] at hx
            rcases List.mem_append.mp hx with z | z
            · exact mem_putL.mpr (.inl (hm x z))
            · exact mem_putL.mpr (.inr (List.mem_singleton.mp z))
        · rintro s ⟨x7, seen, f, rfl, _, hm⟩
          refine hK _ ⟨_, _, _, _, _, _, rfl, .inr ⟨by omega, fun x hx => hm x ?_, rfl⟩⟩
          rw [List.length_map, List.take_length]
          exact (gm x).mpr (hw.all hcs hx)
      · have hin : (c.1, c.2) ∈ seen := h2 c hcs
        simp [-forD, -dlook, -dputE, hin]
        exact hK _ ⟨_, _, _, _, _, _, rfl, .inr ⟨by omega, h2, h3⟩⟩
    · rintro s ⟨x5, x6, x7, seen, f, found, rfl, hi⟩
      have hl : cs'.length = cs.length := hp.length_eq
      rcases hi with ⟨h1, _, _⟩ | ⟨_, _, h3⟩
      · simp at h1; rw [h1] at hl; simp at hl; omega
      · match found, h3 with
        | [x], _ => exact h x
theorem c_pieces : Keeps N_pieces 1 C_pieces (den_pieces C_check_cells C_groups) := by
  rintro as P - ⟨cs, rfl, hn, hb, hw, h⟩
  simp [den_pieces]
  exact ⟨cs, rfl, hn, hb, cs, rfl, hn, hb, hw, h⟩
theorem c_hangs_together : Keeps N_hangs_together 1 C_hangs_together (den_hangs_together C_pieces) := by
  rintro as P - ⟨cs, rfl, hn, hb, hw, h⟩
  simp [den_hangs_together]
  refine ⟨cs, rfl, hn, hb, hw, fun x => ?_⟩
  simpa using h
end Dk
end

section
set_option Elab.async false
set_option linter.all false
set_option maxRecDepth 100000
set_option maxHeartbeats 2000000
namespace Dk
open L2 Dl Pm
theorem toBls_map {α : Type} (g : α → Bool) : ∀ l : List α, toBls (l.map fun x => .bl (g x)) = some (l.map g)
  | [] => rfl
  | x :: l => by rw [List.map_cons, toBls, toBls_map g l]; rfl
theorem toBls_rep (b : Bool) : ∀ n : Nat, toBls (List.replicate n (.bl b)) = some (List.replicate n b)
  | 0 => rfl
  | n + 1 => by rw [List.replicate_succ, toBls, toBls_rep b n]; rfl
theorem filterMap_const {α β : Type} (b : β) (l : List α) : l.filterMap (fun _ => some b) = List.replicate l.length b := by
  induction l with
  | nil => rfl
  | cons x l ih => rw [List.filterMap_cons, ih]; rfl
theorem letters_le {x : PySem.Str} (h : validN x) : x.length ≤ PySem.sizeLine := Nat.le_trans h.2.1 (by decide)
theorem signs_mem {z : PySem.Str} {d : D} (h : d ∈ signs z) : ∃ c, c ∈ z.cps.toList ∧ d = .str ⟨#[c]⟩ := by
  unfold signs at h
  obtain ⟨c, h1, h2⟩ := List.mem_map.mp h
  exact ⟨c, h1, h2.symm⟩
theorem signs_len {z : PySem.Str} : (signs z).length = z.length := by
  unfold signs PySem.Str.length
  simp
theorem c_is_name : Keeps N_is_name 1 C_is_name den_is_name := by
  rintro as P - ⟨x, rfl, hv, h⟩
  simp [den_is_name, letters_le hv]
  have h1 : (1 : Int) ≤ (x.length : Int) := by have := hv.1; omega
  have h2 : (x.length : Int) ≤ 6 := by have := hv.2.1; omega
  rw [if_pos (by omega)]
  simp [h2]
  refine ⟨plain_ok (by simp), lcD_by (fun _ => some (.bl true)) (by rw [signs_len]; have := hv.2.1; omega) ?_ ?_⟩
  · intro d hd K hK
    obtain ⟨c, hc, rfl⟩ := signs_mem hd
    simp
    have := hv.2.2 c hc
    rw [decide_eq_true (by simpa using this)]
    exact hK
  · rw [filterMap_const]
    simp [toBls_rep]
    exact h
theorem x_is_name {x : PySem.Str} {P : D → Prop} (h : validN x ∧ P (.bl true)) : C_is_name [.val (.str x)] P := ⟨x, rfl, h⟩
abbrev rowD (w : Nat) (nm : Cell → PySem.Str) (r : Nat) : D := .lst ((List.range w).map fun c => .str (nm (((r : Nat) : Int), ((c : Nat) : Int))))
theorem rowsD_eq (h w : Nat) (nm : Cell → PySem.Str) : rowsD h w nm = .lst ((List.range h).map (rowD w nm)) := rfl
theorem atI_map {α : Type} {f : Nat → α} {n i : Nat} (h : i < n) : atI ((List.range n).map f) (i : Int) = some (f i) := by
  rw [atI_n, List.getElem?_map, List.getElem?_range h]
  rfl
theorem atI_map0 {α : Type} {f : Nat → α} {n : Nat} (h : 1 ≤ n) : atI ((List.range n).map f) 0 = some (f 0) := atI_map (i := 0) h
theorem range_get {n i x : Nat} (h : (List.range n)[i]? = some x) : i < n ∧ x = i := by
  have hl : i < n := by
    have := (List.getElem?_eq_some_iff.mp h).1
    simpa using this
  rw [List.getElem?_range hl] at h
  cases h
  exact ⟨hl, rfl⟩
theorem c_check_rows : Keeps N_check_rows 1 C_check_rows (den_check_rows C_is_list C_is_name) := by
  rintro as P - ⟨h, w, nm, rfl, h1, h2, w1, w2, hv, hp⟩
  have a1 : (1 : Int) ≤ (h : Int) := by omega
  have a2 : (h : Int) ≤ 12 := by omega
  have b1 : (1 : Int) ≤ (w : Int) := by omega
  have b2 : (w : Int) ≤ 12 := by omega
  rw [rowsD_eq]
  simp [den_check_rows, a1, a2, -forD]
  refine for_by (fun i s => ∃ (x1 x2 : Option Slot), s = [some (.val (.lst ((List.range h).map (rowD w nm)))), x1, x2, none]) ⟨none, none, by simp⟩ ?_ ?_
  · rintro i d s Kk hd ⟨x1, x2, rfl⟩ hK
    obtain ⟨x, hx, rfl⟩ := pairs_get hd
    obtain ⟨r, hr, rfl⟩ := map_get hx
    obtain ⟨hi, rfl⟩ := range_get hr
    simp [b1, b2, atI_map0 h1]
    refine ⟨plain_ok (by simp), lcD_by (fun _ => some (.bl true)) (by simp; omega) ?_ ?_⟩
    · intro d hd K hK
      obtain ⟨c, hc, rfl⟩ := List.mem_map.mp hd
      simp
      refine x_is_name ⟨hv _ (mem_allC.mpr ?_), hK⟩
      have := List.mem_range.mp hc
      unfold onB
      simp only
      omega
    · rw [filterMap_const]
      simp [toBls_rep]
      exact hK _ ⟨_, _, rfl⟩
  · rintro s ⟨x1, x2, rfl⟩
    exact hp
theorem isE_if {h w : Int} {c : Cell} {P : D → Prop} (hp : P (.bl (isE h w c))) : if 0 = c.1 ∨ h - 1 = c.1 then P (.bl true) else P (.bl (decide (0 = c.2) || decide (w - 1 = c.2))) := by
  by_cases q : 0 = c.1 ∨ h - 1 = c.1
  · rw [if_pos q]
    rwa [show isE h w c = true from decide_eq_true (by rcases q with z | z <;> simp [z.symm])] at hp
  · rw [if_neg q, ← Bool.decide_or]
    rwa [show isE h w c = decide (0 = c.2 ∨ w - 1 = c.2) from decide_eq_decide.mpr (by omega)] at hp
theorem c_is_edge : Keeps N_is_edge 3 C_is_edge (den_is_edge C_is_cell) := by
  rintro as P - ⟨h, w, c, rfl, h2, w2, hb, hp⟩
  have hb' := hb
  unfold onB at hb'
  have o12 : onB 12 12 c := by unfold onB; omega
  have n1 : ¬ (h : Int) ≤ c.1 := by omega
  have n2 : ¬ (w : Int) ≤ c.2 := by omega
  simp [den_is_edge, o12, n1, n2, sameK, flatD, eqF]
  exact isE_if hp
theorem c__law_edge : Keeps N__law_edge 3 C__law_edge den__law_edge := by
  rintro as P - ⟨h, w, c, rfl, hp⟩
  simp [den__law_edge, sameK, flatD, eqF]
  exact isE_if hp
theorem x_is_edge {c : Cell} {h w : Nat} {P : D → Prop} (q : h ≤ 12 ∧ w ≤ 12 ∧ onB h w c ∧ P (.bl (isE h w c))) : C_is_edge [.val (cellD c), .val (.int h), .val (.int w)] P := ⟨h, w, c, rfl, q⟩
theorem c_check_road : Keeps N_check_road 3 C_check_road (den_check_road C_is_list C_is_edge) := by
  rintro as P - ⟨h, w, cs, rfl, h2, w2, hn, hb, hp⟩
  have hlen : cs.length ≤ 144 := by
    have := on_len (h := h) (w := w) hn fun c hc => (hb c hc).1
    have := Nat.mul_le_mul h2 w2
    omega
  simp [den_check_road, -forD, -dlook, -dputE]
  refine for_by (fun i s => ∃ (x4 x5 : Option Slot) (ts : List Cell) (f : Cell → D), s = [some (.val (cellsD cs)), some (.val (.int h)), some (.val (.int w)), some (.own (.dt (ts.map keyC)) (ts.map f)), x4, x5] ∧ ts.length ≤ i ∧ ∀ x, x ∈ ts → x ∈ cs.take i) ⟨none, none, [], fun _ => .non, by simp⟩ ?_ ?_
  · rintro i d s K hd ⟨x4, x5, ts, f, rfl, hl, hm⟩ hK
    obtain ⟨x, hx, rfl⟩ := pairs_get hd
    obtain ⟨c, hc, rfl⟩ := map_get hx
    have hcn : c ∉ ts := fun z => nodup_take_new hn hc (hm c z)
    obtain ⟨hon, hie⟩ := hb c (List.mem_of_getElem? hc)
    have hi : i < cs.length := (List.getElem?_eq_some_iff.mp hc).1
    simp [-dlook, -dputE]
    refine x_is_edge ⟨h2, w2, hon, ?_⟩
    rw [hie]
    simp [hcn, -dlook, -dputE]
    refine ⟨by omega, hK _ ⟨_, _, _, _, rfl, ?_, fun x hx => ?_⟩⟩
    · have := putL_len (l := ts) (x := (c.1, c.2))
      omega
    · rw [take_succ_get hc]
      rcases mem_putL.mp hx with z | z
      · exact List.mem_append_left _ (hm x z)
      · rw [z]; simp
  · rintro s ⟨x4, x5, ts, f, rfl, _⟩
    exact hp
end Dk
end

section
set_option Elab.async false
set_option linter.all false
set_option maxRecDepth 100000
set_option maxHeartbeats 2000000
namespace Dk
open L2 Dl Pm
/-! boxes -/
theorem uForD_by {dG : GDen} {dU : UDen} {E : UEnds} (I : Nat → Env → Mx → Prop) : ∀ (ds : List D) (k : Nat) (s : Env) (m : Mx), I k s m →
    (∀ (i : Nat) (d : D) (s : Env) (m : Mx) (Kk : Env → Mx → Prop), ds[i]? = some d → I (k + i) s m → (∀ s' m', I (k + i + 1) s' m' → Kk s' m') → dG d s fun s1 => dU s1 m ⟨Kk, E.rt⟩) → (∀ s m, I (k + ds.length) s m → E.nx s m) → uForD dG dU ds s m E
  | [], k, s, m, h0, _, he => he s m h0
  | d :: ds, k, s, m, h0, hs, he => by
    refine hs 0 d s m _ rfl h0 fun s' m' h' => ?_
    refine uForD_by I ds (k + 1) s' m' h' (fun i e t mm Kk h1 h2 h3 => ?_) fun t mm h => he t mm ?_
    · refine hs (i + 1) e t mm Kk (by simpa using h1) ?_ fun s2 m2 h4 => h3 s2 m2 ?_
      · rw [show k + (i + 1) = k + 1 + i by omega]; exact h2
      · rw [show k + 1 + i + 1 = k + (i + 1) + 1 by omega]; exact h4
    · rw [List.length_cons, show k + (ds.length + 1) = k + 1 + ds.length by omega]; exact h
theorem ufor_by {dG : GDen} {dU : UDen} {E : UEnds} {ds : List D} {s : Env} {m : Mx} (I : Nat → Env → Mx → Prop) (h0 : I 0 s m)
    (hs : ∀ (i : Nat) (d : D) (s : Env) (m : Mx) (Kk : Env → Mx → Prop), ds[i]? = some d → I i s m → (∀ s' m', I (i + 1) s' m' → Kk s' m') → dG d s fun s1 => dU s1 m ⟨Kk, E.rt⟩) (he : ∀ s m, I ds.length s m → E.nx s m) : uForD dG dU ds s m E :=
  uForD_by I ds 0 s m h0 (fun i d s m Kk h1 h2 h3 => hs i d s m Kk h1 (by rw [Nat.zero_add] at h2; exact h2) fun s' m' h => h3 s' m' (by rw [Nat.zero_add]; exact h)) fun s m h => he s m (by rw [Nat.zero_add] at h; exact h)
/-- a box of growing lists by a list of names and what each holds -/
def mxOf (ns : List PySem.Str) (g : PySem.Str → List D) : Mx := ns.map fun n => (keyN n, g n)
theorem mx_get {ns : List PySem.Str} {g : PySem.Str → List D} {n : PySem.Str} (hn : n ∈ ns) : ∃ i, (mxOf ns g)[i]? = some (keyN n, g n) ∧ i < ns.length ∧ ns[i]? = some n := by
  obtain ⟨i, hi, e⟩ := List.getElem_of_mem hn
  have e' : ns[i]? = some n := by rw [List.getElem?_eq_getElem hi, e]
  refine ⟨i, ?_, hi, e'⟩
  unfold mxOf
  rw [List.getElem?_map, e']
  rfl
theorem mx_set {ns : List PySem.Str} {g : PySem.Str → List D} {n : PySem.Str} {i : Nat} {ds : List D} (hd : ns.Nodup) (hi : ns[i]? = some n) : (mxOf ns g).set i (keyN n, ds) = mxOf ns fun x => if x = n then ds else g x := by
  unfold mxOf
  refine List.ext_getElem? fun j => ?_
  rw [List.getElem?_set, List.getElem?_map]
  have hil : i < ns.length := (List.getElem?_eq_some_iff.mp hi).1
  by_cases e : i = j
  · subst e
    rw [if_pos rfl, if_pos (by simpa using hil), List.getElem?_map, hi]
    simp
  · rw [if_neg e, List.getElem?_map]
    cases q : ns[j]? with
    | none => rfl
    | some x =>
      have : x ≠ n := fun z => e (by
        subst z
        exact (List.getElem?_inj hil hd).mp (hi.trans q.symm))
      simp [this]
theorem ucD_strs {dG : GDen} {dk : VDen} {vs : List Nat} {s0 : Env} {P : Mx → Prop} : ∀ (ns : List PySem.Str) (ks : List PySem.Str), (ks ++ ns).Nodup → (ks ++ ns).length ≤ 1000 →
    (∀ n ∈ ns, ∀ Kk : D → Prop, Kk (.str n) → dG (.str n) (wipeE s0 vs) fun s2 => dk s2 fun kd s3 => wipeE s3 vs = wipeE s0 vs ∧ Kk kd) → P (mxOf (ks ++ ns) fun _ => []) → ucD dG dk vs s0 (ns.map D.str) (mxOf ks fun _ => []) P
  | [], ks, _, _, _, h => by
    rw [List.map_nil, ucD]
    simpa using h
  | n :: ns, ks, hd, hl, hs, h => by
    rw [List.map_cons, ucD]
    refine hs n List.mem_cons_self (fun kd => (mxOf ks fun _ => []).length < 100000 ∧ ∃ k, keyOf kd = some k ∧ k ∉ (mxOf ks fun _ => []).map (·.1) ∧ ucD dG dk vs s0 (ns.map D.str) (mxOf ks (fun _ => []) ++ [(k, [])]) P) ?_
    have hn : n ∉ ks := fun z => by
      rw [List.nodup_append] at hd
      exact hd.2.2 n z n List.mem_cons_self rfl
    have e : mxOf ks (fun _ => []) ++ [(keyN n, [])] = mxOf (ks ++ [n]) fun _ => [] := by
      unfold mxOf
      rw [List.map_append]
      rfl
    refine ⟨?_, keyN n, rfl, ?_, ?_⟩
    · unfold mxOf
      rw [List.length_map]
      rw [List.length_append] at hl
      omega
    · unfold mxOf
      rw [List.map_map]
      exact fun z => hn ((mem_mapk (k := keyN) keyN_inj).mp z)
    · rw [e]
      refine ucD_strs ns (ks ++ [n]) (by simpa using hd) (by simpa using hl) (fun x hx => hs x (List.mem_cons_of_mem _ hx)) ?_
      simpa using h
theorem boxD_of (ns : List PySem.Str) (g : PySem.Str → List D) : boxD (mxOf ns g) = .dk (ns.map keyN) (ns.map fun n => .lst (g n)) := by
  unfold boxD mxOf
  rw [List.map_map, List.map_map]
  rfl
theorem tot_L {α : Type} {lt : α → α → Bool} (h : Sx.Tot lt) : Lin lt := ⟨h.1, fun _ _ _ => h.2, fun _ _ => h.3⟩
theorem lin_T : Lin Sx.ltT := tot_L Sx.tot_T
theorem lin_TT : Lin Sx.ltTT := tot_L Sx.tot_TT
theorem names_nodup {h w : Nat} {nm : Cell → PySem.Str} : (namesOf h w nm).Nodup := usort_nodup lin_T _
theorem mem_names {h w : Nat} {nm : Cell → PySem.Str} {n : PySem.Str} : n ∈ namesOf h w nm ↔ ∃ c, c ∈ allC h w ∧ nm c = n := mem_usort.trans List.mem_map
theorem lead_in {B : Bd} {st : List (PySem.Str × PySem.Str)} {n m : PySem.Str} : m ∈ (B.gr st).lead n ↔ (n, m) ∈ st := mem_lead
theorem mem_adjN {h w : Nat} {nm : Cell → PySem.Str} {p : PySem.Str × PySem.Str} : p ∈ adjN h w nm ↔ ∃ c d, c ∈ allC h w ∧ d ∈ nbs h w c ∧ nm c ≠ nm d ∧ p = (nm c, nm d) := by
  unfold adjN
  simp only [List.mem_flatMap, List.mem_map, List.mem_filter, decide_eq_true_eq]
  constructor
  · rintro ⟨c, hc, d, ⟨hd, hn⟩, rfl⟩; exact ⟨c, d, hc, hd, hn, rfl⟩
  · rintro ⟨c, d, hc, hd, hn, rfl⟩; exact ⟨c, hc, d, ⟨hd, hn⟩, rfl⟩
theorem mem_prs {h w : Nat} {nm : Cell → PySem.Str} {p : PySem.Str × PySem.Str} : p ∈ prsOf h w nm ↔ p ∈ adjN h w nm := mem_usort
theorem prs_names {h w : Nat} {nm : Cell → PySem.Str} {p : PySem.Str × PySem.Str} (q : p ∈ prsOf h w nm) : p.1 ∈ namesOf h w nm ∧ p.2 ∈ namesOf h w nm := by
  obtain ⟨c, d, hc, hd, _, rfl⟩ := mem_adjN.mp (mem_prs.mp q)
  exact ⟨mem_names.mpr ⟨c, hc, rfl⟩, mem_names.mpr ⟨d, mem_allC.mpr (mem_nbs.mp hd).2, rfl⟩⟩
theorem names_len {h w : Nat} {nm : Cell → PySem.Str} (h2 : h ≤ 12) (w2 : w ≤ 12) : (namesOf h w nm).length ≤ 144 := by
  have : (namesOf h w nm).length ≤ ((allC h w).map nm).length := nodup_len2 names_nodup fun x hx => mem_usort.mp hx
  rw [List.length_map, allC_length] at this
  have := Nat.mul_le_mul h2 w2
  omega
theorem len_sq {ns : List PySem.Str} {st : List (PySem.Str × PySem.Str)} (hn : ns.length ≤ 6) (nd : st.Nodup) (hm : ∀ p, p ∈ st → p.1 ∈ ns ∧ p.2 ∈ ns) : st.length ≤ 36 := by
  have : st.length ≤ (ns.flatMap fun a => ns.map fun b => (a, b)).length := nodup_len2 nd fun p hp => by
    obtain ⟨h1, h2⟩ := hm p hp
    exact List.mem_flatMap.mpr ⟨p.1, h1, List.mem_map.mpr ⟨p.2, h2, rfl⟩⟩
  rw [List.length_flatMap] at this
  simp only [List.length_map] at this
  rw [show (fun (_ : PySem.Str) => ns.length) = Function.const PySem.Str ns.length from rfl, List.map_const, List.sum_replicate_nat] at this
  have := Nat.mul_le_mul hn hn
  omega
theorem StOk.nd {B : Bd} {st : List (PySem.Str × PySem.Str)} (so : StOk B st) : st.Nodup := sorted_nodup lin_TT so.so
theorem StOk.len {B : Bd} {st : List (PySem.Str × PySem.Str)} (ok : B.Ok) (so : StOk B st) : st.length ≤ 36 := len_sq ok.le so.nd fun p hp => prs_names (so.me p hp)
theorem c_onward : Keeps N_onward 2 C_onward den_onward := by
  rintro as P - ⟨B, st, rfl, ok, so, hp⟩
  have hnl := ok.le
  have hnd : B.names.Nodup := names_nodup
  simp [den_onward, -uForD, -uApp, plain_ok]
  refine ucD_strs B.names [] (by simpa using hnd) (by simp; omega) ?_ ?_
  · intro n _ Kk hk
    simpa using hk
  · refine ufor_by (fun i s m => ∃ (x4 x5 : Option Slot), s = [some (.val (strsD B.names)), some (.val (pairsD st)), none, none, x4, x5] ∧ m = mxOf B.names fun n => (((st.take i).filter fun p => decide (p.1 = n)).map fun p => .str p.2)) ⟨none, none, by simp, by simp⟩ ?_ ?_
    · rintro i d s m Kk hd ⟨x4, x5, rfl, rfl⟩ hK
      obtain ⟨p, hq, rfl⟩ := map_get hd
      have hin := (prs_names (so.me p (List.mem_of_getElem? hq))).1
      obtain ⟨j, hj, hjl, hj2⟩ := mx_get (g := fun n => (((st.take i).filter fun p => decide (p.1 = n)).map fun p => D.str p.2)) hin
      have hil : i < st.length := (List.getElem?_eq_some_iff.mp hq).1
      have hsl := so.len ok
      simp
      refine ⟨j, _, hj, ?_, hK _ _ ⟨_, _, rfl, ?_⟩⟩
      · rw [List.length_map]
        have := List.length_filter_le (fun q => decide (q.1 = p.1)) (st.take i)
        rw [List.length_take] at this
        omega
      · refine (mx_set hnd hj2).trans ?_
        unfold mxOf
        refine List.map_congr_left fun n _ => ?_
        dsimp only
        rw [take_succ_get hq, List.filter_append, List.map_append]
        by_cases e : n = p.1
        · subst e; simp
        · have e' : ¬ p.1 = n := fun z => e z.symm
          simp [e, e']
    · rintro s m ⟨x4, x5, rfl, rfl⟩
      simp only [List.length_map, List.take_length, boxD_of]
      simpa [Gr.lead, Bd.gr, Function.comp_def] using hp
end Dk
end

section
set_option Elab.async false
set_option linter.all false
set_option maxRecDepth 100000
set_option maxHeartbeats 2000000
namespace Dk
open L2 Dl Pm
theorem toStrs_f {α : Type} (f : α → PySem.Str) (l : List α) : toStrs (l.map fun x => .str (f x)) = some (l.map f) := by
  have := toStrs_map (l.map f)
  rwa [List.map_map] at this
theorem toRows_f (h w : Nat) (nm : Cell → PySem.Str) : ∀ l : List Nat, toRows (l.map (rowD w nm)) = some (l.map fun r => (List.range w).map fun c => nm (((r : Nat) : Int), ((c : Nat) : Int)))
  | [] => rfl
  | r :: l => by
    rw [List.map_cons, toRows, toStrs_f, toRows_f h w nm l]
    rfl
theorem rows_flat (h w : Nat) (nm : Cell → PySem.Str) : ((List.range h).map fun r => (List.range w).map fun c => nm (((r : Nat) : Int), ((c : Nat) : Int))).flatten = (allC h w).map nm := by
  unfold allC
  rw [List.map_flatMap, List.flatMap]
  simp [Function.comp_def]
/-- the cells that have been passed: i rows whole and j of the next -/
def upC (w i j : Nat) : List Cell := allC i w ++ (List.range j).map fun c => (((i : Nat) : Int), ((c : Nat) : Int))
theorem allC_succ (i w : Nat) : allC (i + 1) w = upC w i w := by
  unfold upC allC
  rw [List.range_succ, List.flatMap_append]
  simp
theorem upC_zero (w i : Nat) : upC w i 0 = allC i w := by
  unfold upC
  simp
theorem upC_succ (w i j : Nat) : upC w i (j + 1) = upC w i j ++ [(((i : Nat) : Int), ((j : Nat) : Int))] := by
  unfold upC
  rw [List.range_succ, List.map_append, List.append_assoc]
  rfl
theorem upC_len {w i j : Nat} : (upC w i j).length = i * w + j := by
  unfold upC
  rw [List.length_append, allC_length, List.length_map, List.length_range]
theorem filt_step {nm : Cell → PySem.Str} {l : List Cell} {c : Cell} {n : PySem.Str} : cellsD ((l ++ [c]).filter fun d => decide (nm d = n)) = .lst (if n = nm c then (l.filter fun d => decide (nm d = n)).map cellD ++ [cellD c] else (l.filter fun d => decide (nm d = n)).map cellD) := by
  by_cases e : n = nm c
  · simp [e, List.filter_append]
  · have e' : ¬ nm c = n := fun z => e z.symm
    simp [e, e', List.filter_append]
theorem c_parcels_of : Keeps N_parcels_of 1 C_parcels_of den_parcels_of := by
  rintro as P - ⟨h, w, nm, rfl, h1, h2, w1, w2, hp⟩
  have hnl := names_len (nm := nm) h2 w2
  have hsz := Nat.mul_le_mul h2 w2
  have hnd : (namesOf h w nm).Nodup := names_nodup
  rw [rowsD_eq]
  simp [den_parcels_of, toRows_f h w nm, rows_flat, allC_length, -List.length_flatten, -List.mem_flatten, -List.mem_map]
  refine ⟨by omega, fun ys hm hs => ?_⟩
  have ey : ys = namesOf h w nm := usort_eq lin_T hs hm
  subst ey
  refine ⟨by simp [plainAt], ucD_strs (namesOf h w nm) [] (by simpa using hnd) (by simp; omega) ?_ ?_⟩
  · intro n _ Kk hk
    simpa using hk
  refine ufor_by (fun i s m => ∃ (x2 x3 x5 x6 : Option Slot), s = [some (.val (.lst ((List.range h).map (rowD w nm)))), some (.val (strsD (namesOf h w nm))), x2, x3, none, x5, x6] ∧ m = mxOf (namesOf h w nm) fun n => ((allC i w).filter fun c => decide (nm c = n)).map cellD) ⟨none, none, none, none, by simp, by simp [allC]⟩ ?_ ?_
  · rintro i d s m Kk hd ⟨x2, x3, x5, x6, rfl, rfl⟩ hK
    obtain ⟨x, hx, rfl⟩ := pairs_get hd
    obtain ⟨r, hr, rfl⟩ := map_get hx
    obtain ⟨hi, rfl⟩ := range_get hr
    simp
    refine ufor_by (fun j s m => ∃ (x3 x6 : Option Slot), s = [some (.val (.lst ((List.range h).map (rowD w nm)))), some (.val (strsD (namesOf h w nm))), some (.val (rowD w nm r)), x3, none, some (.val (.int r)), x6] ∧ m = mxOf (namesOf h w nm) fun n => ((upC w r j).filter fun c => decide (nm c = n)).map cellD) ⟨x3, x6, by simp, by simp [upC_zero]⟩ ?_ ?_
    · rintro j d s m Kk hd ⟨x3, x6, rfl, rfl⟩ hK
      obtain ⟨x, hx, rfl⟩ := pairs_get hd
      obtain ⟨c, hc, rfl⟩ := map_get hx
      obtain ⟨hj, rfl⟩ := range_get hc
      have hin : nm (((r : Nat) : Int), ((c : Nat) : Int)) ∈ namesOf h w nm := mem_names.mpr ⟨_, mem_allC.mpr (by unfold onB; simp only; omega), rfl⟩
      obtain ⟨k, hk, hkl, hk2⟩ := mx_get (g := fun n => ((upC w r c).filter fun c => decide (nm c = n)).map cellD) hin
      simp
      refine ⟨k, _, hk, ?_, hK _ _ ⟨_, _, rfl, ?_⟩⟩
      · rw [List.length_map]
        have h1 := List.length_filter_le (fun d => decide (nm d = nm (((r : Nat) : Int), ((c : Nat) : Int)))) (upC w r c)
        rw [upC_len] at h1
        have : r * w ≤ 12 * 12 := Nat.mul_le_mul (by omega) w2
        omega
      · refine (mx_set hnd hk2).trans ?_
        unfold mxOf
        refine List.map_congr_left fun n _ => ?_
        dsimp only
        rw [upC_succ]
        have := filt_step (nm := nm) (l := upC w r c) (c := (((r : Nat) : Int), ((c : Nat) : Int))) (n := n)
        simp only [D.node.injEq, true_and] at this
        rw [this]
        by_cases e : n = nm (((r : Nat) : Int), ((c : Nat) : Int))
        · simp [e]
        · simp [e]
    · rintro s m ⟨x3, x6, rfl, rfl⟩
      refine hK _ _ ⟨_, _, _, _, rfl, ?_⟩
      rw [pairs_len, List.length_map, List.length_range, allC_succ]
  · rintro s m ⟨x2, x3, x5, x6, rfl, rfl⟩
    simp only [pairs_len, List.length_map, List.length_range, boxD_of]
    exact hp
end Dk
end

section
set_option Elab.async false
set_option linter.all false
set_option maxRecDepth 100000
set_option maxHeartbeats 2000000
namespace Dk
open L2 Dl Pm
theorem nat_cell {h w : Nat} {d : Cell} (hd : onB h w d) : ∃ a b : Nat, a < h ∧ b < w ∧ d = (((a : Nat) : Int), ((b : Nat) : Int)) := by
  obtain ⟨x, y⟩ := d
  unfold onB at hd
  simp only at hd
  exact ⟨x.toNat, y.toNat, by omega, by omega, by ext <;> simp <;> omega⟩
theorem nbs_sub {h w : Nat} {c : Cell} (h2 : h ≤ 12) (w2 : w ≤ 12) : (nbs 12 12 c).filter (fun d => decide (d.1 < (h : Int)) && decide (d.2 < (w : Int))) = nbs h w c := by
  unfold nbs
  rw [List.filter_filter]
  refine List.filter_congr fun d _ => ?_
  rw [← Bool.decide_and, ← Bool.decide_and]
  apply decide_eq_decide.mpr
  unfold onB
  omega
theorem filterMap_cells {f : D → Option D} {g : Cell → Bool} (hf : ∀ c, f (cellD c) = if g c = true then some (cellD c) else none) : ∀ l : List Cell, (l.map cellD).filterMap f = (l.filter g).map cellD
  | [] => rfl
  | c :: l => by
    rw [List.map_cons, List.filterMap_cons, hf, List.filter_cons]
    by_cases e : g c = true
    · rw [if_pos e, if_pos e, List.map_cons, filterMap_cells hf l]
    · rw [if_neg e, if_neg e, filterMap_cells hf l]
@[simp] theorem getD_ite {c : Prop} [Decidable c] {a b : Int} : (if c then some (D.int a) else none).getD (D.int b) = D.int (if c then a else b) := by
  by_cases h : c
  · simp [h]
  · simp [h]
theorem nbs_len {h w : Int} {c : Cell} : (nbs h w c).length ≤ 4 := by
  unfold nbs
  exact Nat.le_trans (List.length_filter_le _ _) (by simp [four])
structure BInv (h w : Nat) (nm : Cell → PySem.Str) (done : List Cell) (ps : List (PySem.Str × PySem.Str)) (f : PySem.Str × PySem.Str → D) (n : Nat) : Prop where
  len : ps.length ≤ 4 * n
  bf : ∃ bf : PySem.Str × PySem.Str → Int, f = (fun p => .int (bf p)) ∧ ∀ p, p ∈ ps → 0 < bf p
  mem : ∀ p, p ∈ ps ↔ ∃ c d, c ∈ done ∧ d ∈ nbs h w c ∧ nm c ≠ nm d ∧ p = (nm c, nm d)
structure RInv (rs : List PySem.Str) (f : PySem.Str → D) (n : Nat) : Prop where
  len : rs.length ≤ n
  rf : ∃ rf : PySem.Str → Int, f = fun p => .int (rf p)
theorem putF_ints {α : Type} [DecidableEq α] {rf : α → Int} {n : α} {v : Int} : putF (fun p => D.int (rf p)) n (.int v) = fun p => .int (if p = n then v else rf p) := by
  funext y
  unfold putF
  split <;> rfl
theorem putF_int {α : Type} [DecidableEq α] {rf : α → Int} {n : α} {v : Int} : ∃ r2 : α → Int, putF (fun p => D.int (rf p)) n (.int v) = fun p => .int (r2 p) := ⟨_, putF_ints⟩
theorem c_borders_of : Keeps N_borders_of 1 C_borders_of (den_borders_of C_beside) := by
  rintro as P - ⟨h, w, nm, rfl, h1, h2, w1, w2, hp⟩
  have hsz := Nat.mul_le_mul h2 w2
  rw [rowsD_eq]
  simp [den_borders_of, -forD, -dlook, -dputE]
  refine for_by (fun i s => ∃ (x3 x4 x5 x6 x7 x8 x9 : Option Slot) (ps : List (PySem.Str × PySem.Str)) (f : PySem.Str × PySem.Str → D) (rs : List PySem.Str) (g : PySem.Str → D), s = [some (.val (.lst ((List.range h).map (rowD w nm)))), some (.own (.dt (ps.map keyP)) (ps.map f)), some (.own (.dk (rs.map keyN)) (rs.map g)), x3, x4, x5, x6, x7, x8, x9, none] ∧
    BInv h w nm (allC i w) ps f (i * w) ∧ RInv rs g (i * w)) ⟨none, none, none, none, none, none, none, [], fun _ => .int 0, [], fun _ => .int 0, by simp, ⟨by simp, ⟨fun _ => 0, rfl, by simp⟩, by simp [allC]⟩, ⟨by simp, ⟨fun _ => 0, rfl⟩⟩⟩ ?_ ?_
  · rintro i d s Kk hd ⟨x3, x4, x5, x6, x7, x8, x9, ps, f, rs, g, rfl, bi, ri⟩ hK
    obtain ⟨x, hx, rfl⟩ := pairs_get hd
    obtain ⟨r, hr, rfl⟩ := map_get hx
    obtain ⟨hi, rfl⟩ := range_get hr
    simp [-forD, -dlook, -dputE]
    refine for_by (fun j s => ∃ (x5 x6 x7 x8 x9 : Option Slot) (ps : List (PySem.Str × PySem.Str)) (f : PySem.Str × PySem.Str → D) (rs : List PySem.Str) (g : PySem.Str → D), s = [some (.val (.lst ((List.range h).map (rowD w nm)))), some (.own (.dt (ps.map keyP)) (ps.map f)), some (.own (.dk (rs.map keyN)) (rs.map g)), some (.val (.int r)), some (.val (rowD w nm r)), x5, x6, x7, x8, x9, none] ∧
      BInv h w nm (upC w r j) ps f (r * w + j) ∧ RInv rs g (r * w + j)) ⟨x5, x6, x7, x8, x9, ps, f, rs, g, by simp, by simpa [upC_zero] using bi, by simpa using ri⟩ ?_ ?_
    · rintro j d s Kk hd ⟨x5, x6, x7, x8, x9, ps, f, rs, g, rfl, bi, ri⟩ hK
      obtain ⟨x, hx, rfl⟩ := pairs_get hd
      obtain ⟨c, hc, rfl⟩ := map_get hx
      obtain ⟨hj, rfl⟩ := range_get hc
      obtain ⟨rf, rfl⟩ := ri.rf
      have hrw : r * w ≤ 12 * 12 := Nat.mul_le_mul (by omega) w2
      have rl := ri.len
      simp [-forD, -dlook, -dputE]
      refine ⟨plain_ok (by simp), lcD_by (fun d => if (decide ((toC d).1 < (h : Int)) && decide ((toC d).2 < (w : Int))) = true then some d else none) (by have := nbs_len (h := 12) (w := 12) (c := (((r : Nat) : Int), ((c : Nat) : Int))); simp; omega) ?_ ?_⟩
      · intro d hd K hK
        obtain ⟨y, hy, rfl⟩ := List.mem_map.mp hd
        simp [toC, -forD, -dlook, -dputE] at hK ⊢
        by_cases e1 : y.1 < h
        · by_cases e2 : y.2 < w
          · simpa [e1, e2] using hK
          · simpa [e1, e2] using hK
        · simpa [e1] using hK
      · rw [filterMap_cells (g := fun d => decide (d.1 < (h : Int)) && decide (d.2 < (w : Int))) (fun c => rfl), nbs_sub h2 w2]
        simp [-forD, -dlook, -dputE]
        refine ⟨by omega, ?_⟩
        have bl := bi.len
        generalize hrims : putL rs (nm (((r : Nat) : Int), ((c : Nat) : Int))) = rs2
        generalize hrg : (putF (fun p => D.int (rf p)) (nm (((r : Nat) : Int), ((c : Nat) : Int))) _) = g2
        have hri2 : RInv rs2 g2 (r * w + (c + 1)) := by
          refine ⟨?_, ?_⟩
          · rw [← hrims]
            have := putL_len (l := rs) (x := nm (((r : Nat) : Int), ((c : Nat) : Int)))
            omega
          · rw [← hrg]
            exact putF_int
        have hbo : onB h w (((r : Nat) : Int), ((c : Nat) : Int)) := by unfold onB; simp only; omega
        refine for_by (fun k s => ∃ (x8 x9 : Option Slot) (ps2 : List (PySem.Str × PySem.Str)) (bf : PySem.Str × PySem.Str → Int), s = [some (.val (.lst ((List.range h).map (rowD w nm)))), some (.own (.dt (ps2.map keyP)) (ps2.map fun p => .int (bf p))), some (.own (.dk (rs2.map keyN)) (rs2.map g2)), some (.val (.int r)), some (.val (rowD w nm r)), some (.val (.int c)), some (.val (.str (nm (((r : Nat) : Int), ((c : Nat) : Int))))), some (.val (cellsD (nbs h w (((r : Nat) : Int), ((c : Nat) : Int))))), x8, x9, none] ∧
          ps2.length ≤ 4 * (r * w + c) + k ∧ (∀ p, p ∈ ps2 → 0 < bf p) ∧ ∀ p, p ∈ ps2 ↔ p ∈ ps ∨ ∃ d, d ∈ (nbs h w (((r : Nat) : Int), ((c : Nat) : Int))).take k ∧ nm (((r : Nat) : Int), ((c : Nat) : Int)) ≠ nm d ∧ p = (nm (((r : Nat) : Int), ((c : Nat) : Int)), nm d)) ?_ ?_ ?_
        · obtain ⟨bf, rfl, hpos⟩ := bi.bf
          exact ⟨x8, x9, ps, bf, rfl, bl, hpos, by simp⟩
        · rintro k d s Kk hd ⟨x8, x9, ps2, bf, rfl, l2, pos2, m2⟩ hK
          obtain ⟨y, hy, rfl⟩ := map_get hd
          obtain ⟨a, b, ha, hb, rfl⟩ := nat_cell (mem_nbs.mp (List.mem_of_getElem? hy)).2
          have hkl : k < 4 := Nat.lt_of_lt_of_le (List.getElem?_eq_some_iff.mp hy).1 nbs_len
          simp [atI_map ha, atI_map hb, -dlook, -dputE]
          have hstep : ∀ d, d ∈ (nbs h w (((r : Nat) : Int), ((c : Nat) : Int))).take (k + 1) ↔ d ∈ (nbs h w (((r : Nat) : Int), ((c : Nat) : Int))).take k ∨ d = (((a : Nat) : Int), ((b : Nat) : Int)) := by
            intro d
            rw [take_succ_get hy]
            simp
          by_cases e : nm (((a : Nat) : Int), ((b : Nat) : Int)) = nm (((r : Nat) : Int), ((c : Nat) : Int))
          · rw [if_pos e]
            refine hK _ ⟨_, _, _, _, rfl, by omega, pos2, fun p => (m2 p).trans (or_congr Iff.rfl ⟨?_, ?_⟩)⟩
            · rintro ⟨d, h1, h2, h3⟩
              exact ⟨d, (hstep d).mpr (.inl h1), h2, h3⟩
            · rintro ⟨d, h1, h2, h3⟩
              rcases (hstep d).mp h1 with z | z
              · exact ⟨d, z, h2, h3⟩
              · rw [z] at h2; exact (h2 e.symm).elim
          · rw [if_neg e]
            refine ⟨by omega, ?_⟩
            rw [putF_ints]
            refine hK _ ⟨_, _, _, _, rfl, ?_, fun p hp => ?_, fun p => ?_⟩
            · have := putL_len (l := ps2) (x := (nm (((r : Nat) : Int), ((c : Nat) : Int)), nm (((a : Nat) : Int), ((b : Nat) : Int))))
              omega
            · by_cases q : p = (nm (((r : Nat) : Int), ((c : Nat) : Int)), nm (((a : Nat) : Int), ((b : Nat) : Int)))
              · rw [if_pos q]
                split
                · next q2 => have := pos2 _ q2; omega
                · omega
              · rw [if_neg q]
                exact pos2 p ((mem_putL.mp hp).resolve_right q)
            · rw [mem_putL, m2]
              constructor
              · rintro ((z | ⟨d, h1, h2, h3⟩) | z)
                · exact .inl z
                · exact .inr ⟨d, (hstep d).mpr (.inl h1), h2, h3⟩
                · exact .inr ⟨_, (hstep _).mpr (.inr rfl), fun z => e z.symm, z⟩
              · rintro (z | ⟨d, h1, h2, h3⟩)
                · exact .inl (.inl z)
                · rcases (hstep d).mp h1 with z | z
                  · exact .inl (.inr ⟨d, z, h2, h3⟩)
                  · rw [z] at h3; exact .inr h3
        · rintro s ⟨x8, x9, ps2, bf, rfl, l2, pos2, m2⟩
          rw [List.length_map, List.take_length] at *
          refine hK _ ⟨_, _, _, _, _, _, _, _, _, rfl, ⟨?_, ⟨bf, rfl, pos2⟩, fun p => ?_⟩, hri2⟩
          · have := nbs_len (h := h) (w := w) (c := (((r : Nat) : Int), ((c : Nat) : Int)))
            omega
          · rw [m2, bi.mem]
            simp only [upC_succ, List.mem_append, List.mem_singleton]
            constructor
            · rintro (⟨c', d, q1, q2, q3, q4⟩ | ⟨d, q1, q2, q3⟩)
              · exact ⟨c', d, .inl q1, q2, q3, q4⟩
              · exact ⟨_, d, .inr rfl, q1, q2, q3⟩
            · rintro ⟨c', d, (q1 | rfl), q2, q3, q4⟩
              · exact .inl ⟨c', d, q1, q2, q3, q4⟩
              · exact .inr ⟨d, q2, q3, q4⟩
    · rintro s ⟨x5, x6, x7, x8, x9, ps, f, rs, g, rfl, bi, ri⟩
      refine hK _ ⟨_, _, _, _, _, _, _, _, _, _, _, rfl, ?_, ?_⟩
      · rw [pairs_len, List.length_map, List.length_range, ← allC_succ, ← Nat.succ_mul] at bi
        exact bi
      · rw [pairs_len, List.length_map, List.length_range, ← Nat.succ_mul] at ri
        exact ri
  · rintro s ⟨x3, x4, x5, x6, x7, x8, x9, ps, f, rs, g, rfl, bi, ri⟩
    obtain ⟨bf, rfl, hpos⟩ := bi.bf
    simp [-dlook, -dputE]
    refine hp ps bf _ (fun p => ?_) hpos
    rw [mem_prs, mem_adjN, bi.mem, pairs_len, List.length_map, List.length_range]
end Dk
end

section
set_option Elab.async false
set_option linter.all false
namespace Dk
open L2 Dl Pm
@[simp] theorem ne_0 : (("own_rows" : PySem.Str) = "own_cells") = False := eq_false (by decide +kernel)
@[simp] theorem ne_1 : (("own_rows" : PySem.Str) = "height") = False := eq_false (by decide +kernel)
@[simp] theorem ne_2 : (("own_rows" : PySem.Str) = "width") = False := eq_false (by decide +kernel)
@[simp] theorem ne_3 : (("own_rows" : PySem.Str) = "own_road") = False := eq_false (by decide +kernel)
@[simp] theorem ne_4 : (("own_rows" : PySem.Str) = "own_borders") = False := eq_false (by decide +kernel)
@[simp] theorem ne_5 : (("own_rows" : PySem.Str) = "own_rims") = False := eq_false (by decide +kernel)
@[simp] theorem ne_6 : (("own_rows" : PySem.Str) = "names") = False := eq_false (by decide +kernel)
@[simp] theorem ne_7 : (("own_rows" : PySem.Str) = "fronts") = False := eq_false (by decide +kernel)
@[simp] theorem ne_8 : (("own_rows" : PySem.Str) = "border") = False := eq_false (by decide +kernel)
@[simp] theorem ne_9 : (("own_rows" : PySem.Str) = "need_parcel") = False := eq_false (by decide +kernel)
@[simp] theorem ne_10 : (("own_cells" : PySem.Str) = "own_rows") = False := eq_false (by decide +kernel)
@[simp] theorem ne_11 : (("own_cells" : PySem.Str) = "height") = False := eq_false (by decide +kernel)
@[simp] theorem ne_12 : (("own_cells" : PySem.Str) = "width") = False := eq_false (by decide +kernel)
@[simp] theorem ne_13 : (("own_cells" : PySem.Str) = "own_road") = False := eq_false (by decide +kernel)
@[simp] theorem ne_14 : (("own_cells" : PySem.Str) = "own_borders") = False := eq_false (by decide +kernel)
@[simp] theorem ne_15 : (("own_cells" : PySem.Str) = "own_rims") = False := eq_false (by decide +kernel)
@[simp] theorem ne_16 : (("own_cells" : PySem.Str) = "names") = False := eq_false (by decide +kernel)
@[simp] theorem ne_17 : (("own_cells" : PySem.Str) = "fronts") = False := eq_false (by decide +kernel)
@[simp] theorem ne_18 : (("own_cells" : PySem.Str) = "border") = False := eq_false (by decide +kernel)
@[simp] theorem ne_19 : (("own_cells" : PySem.Str) = "need_parcel") = False := eq_false (by decide +kernel)
@[simp] theorem ne_20 : (("height" : PySem.Str) = "own_rows") = False := eq_false (by decide +kernel)
@[simp] theorem ne_21 : (("height" : PySem.Str) = "own_cells") = False := eq_false (by decide +kernel)
@[simp] theorem ne_22 : (("height" : PySem.Str) = "width") = False := eq_false (by decide +kernel)
@[simp] theorem ne_23 : (("height" : PySem.Str) = "own_road") = False := eq_false (by decide +kernel)
@[simp] theorem ne_24 : (("height" : PySem.Str) = "own_borders") = False := eq_false (by decide +kernel)
@[simp] theorem ne_25 : (("height" : PySem.Str) = "own_rims") = False := eq_false (by decide +kernel)
@[simp] theorem ne_26 : (("height" : PySem.Str) = "names") = False := eq_false (by decide +kernel)
@[simp] theorem ne_27 : (("height" : PySem.Str) = "fronts") = False := eq_false (by decide +kernel)
@[simp] theorem ne_28 : (("height" : PySem.Str) = "border") = False := eq_false (by decide +kernel)
@[simp] theorem ne_29 : (("height" : PySem.Str) = "need_parcel") = False := eq_false (by decide +kernel)
@[simp] theorem ne_30 : (("width" : PySem.Str) = "own_rows") = False := eq_false (by decide +kernel)
@[simp] theorem ne_31 : (("width" : PySem.Str) = "own_cells") = False := eq_false (by decide +kernel)
@[simp] theorem ne_32 : (("width" : PySem.Str) = "height") = False := eq_false (by decide +kernel)
@[simp] theorem ne_33 : (("width" : PySem.Str) = "own_road") = False := eq_false (by decide +kernel)
@[simp] theorem ne_34 : (("width" : PySem.Str) = "own_borders") = False := eq_false (by decide +kernel)
@[simp] theorem ne_35 : (("width" : PySem.Str) = "own_rims") = False := eq_false (by decide +kernel)
@[simp] theorem ne_36 : (("width" : PySem.Str) = "names") = False := eq_false (by decide +kernel)
@[simp] theorem ne_37 : (("width" : PySem.Str) = "fronts") = False := eq_false (by decide +kernel)
@[simp] theorem ne_38 : (("width" : PySem.Str) = "border") = False := eq_false (by decide +kernel)
@[simp] theorem ne_39 : (("width" : PySem.Str) = "need_parcel") = False := eq_false (by decide +kernel)
@[simp] theorem ne_40 : (("own_road" : PySem.Str) = "own_rows") = False := eq_false (by decide +kernel)
@[simp] theorem ne_41 : (("own_road" : PySem.Str) = "own_cells") = False := eq_false (by decide +kernel)
@[simp] theorem ne_42 : (("own_road" : PySem.Str) = "height") = False := eq_false (by decide +kernel)
@[simp] theorem ne_43 : (("own_road" : PySem.Str) = "width") = False := eq_false (by decide +kernel)
@[simp] theorem ne_44 : (("own_road" : PySem.Str) = "own_borders") = False := eq_false (by decide +kernel)
@[simp] theorem ne_45 : (("own_road" : PySem.Str) = "own_rims") = False := eq_false (by decide +kernel)
@[simp] theorem ne_46 : (("own_road" : PySem.Str) = "names") = False := eq_false (by decide +kernel)
@[simp] theorem ne_47 : (("own_road" : PySem.Str) = "fronts") = False := eq_false (by decide +kernel)
@[simp] theorem ne_48 : (("own_road" : PySem.Str) = "border") = False := eq_false (by decide +kernel)
@[simp] theorem ne_49 : (("own_road" : PySem.Str) = "need_parcel") = False := eq_false (by decide +kernel)
@[simp] theorem ne_50 : (("own_borders" : PySem.Str) = "own_rows") = False := eq_false (by decide +kernel)
@[simp] theorem ne_51 : (("own_borders" : PySem.Str) = "own_cells") = False := eq_false (by decide +kernel)
@[simp] theorem ne_52 : (("own_borders" : PySem.Str) = "height") = False := eq_false (by decide +kernel)
@[simp] theorem ne_53 : (("own_borders" : PySem.Str) = "width") = False := eq_false (by decide +kernel)
@[simp] theorem ne_54 : (("own_borders" : PySem.Str) = "own_road") = False := eq_false (by decide +kernel)
@[simp] theorem ne_55 : (("own_borders" : PySem.Str) = "own_rims") = False := eq_false (by decide +kernel)
@[simp] theorem ne_56 : (("own_borders" : PySem.Str) = "names") = False := eq_false (by decide +kernel)
@[simp] theorem ne_57 : (("own_borders" : PySem.Str) = "fronts") = False := eq_false (by decide +kernel)
@[simp] theorem ne_58 : (("own_borders" : PySem.Str) = "border") = False := eq_false (by decide +kernel)
@[simp] theorem ne_59 : (("own_borders" : PySem.Str) = "need_parcel") = False := eq_false (by decide +kernel)
@[simp] theorem ne_60 : (("own_rims" : PySem.Str) = "own_rows") = False := eq_false (by decide +kernel)
@[simp] theorem ne_61 : (("own_rims" : PySem.Str) = "own_cells") = False := eq_false (by decide +kernel)
@[simp] theorem ne_62 : (("own_rims" : PySem.Str) = "height") = False := eq_false (by decide +kernel)
@[simp] theorem ne_63 : (("own_rims" : PySem.Str) = "width") = False := eq_false (by decide +kernel)
@[simp] theorem ne_64 : (("own_rims" : PySem.Str) = "own_road") = False := eq_false (by decide +kernel)
@[simp] theorem ne_65 : (("own_rims" : PySem.Str) = "own_borders") = False := eq_false (by decide +kernel)
@[simp] theorem ne_66 : (("own_rims" : PySem.Str) = "names") = False := eq_false (by decide +kernel)
@[simp] theorem ne_67 : (("own_rims" : PySem.Str) = "fronts") = False := eq_false (by decide +kernel)
@[simp] theorem ne_68 : (("own_rims" : PySem.Str) = "border") = False := eq_false (by decide +kernel)
@[simp] theorem ne_69 : (("own_rims" : PySem.Str) = "need_parcel") = False := eq_false (by decide +kernel)
@[simp] theorem ne_70 : (("plat" : PySem.Str) = "own_steps") = False := eq_false (by decide +kernel)
@[simp] theorem ne_71 : (("plat" : PySem.Str) = "own_leads") = False := eq_false (by decide +kernel)
@[simp] theorem ne_72 : (("plat" : PySem.Str) = "own_fronts") = False := eq_false (by decide +kernel)
@[simp] theorem ne_73 : (("plat" : PySem.Str) = "with_steps") = False := eq_false (by decide +kernel)
@[simp] theorem ne_74 : (("plat" : PySem.Str) = "comes") = False := eq_false (by decide +kernel)
@[simp] theorem ne_75 : (("plat" : PySem.Str) = "way") = False := eq_false (by decide +kernel)
@[simp] theorem ne_76 : (("plat" : PySem.Str) = "bare") = False := eq_false (by decide +kernel)
@[simp] theorem ne_77 : (("plat" : PySem.Str) = "distances") = False := eq_false (by decide +kernel)
@[simp] theorem ne_78 : (("plat" : PySem.Str) = "need_parcel") = False := eq_false (by decide +kernel)
@[simp] theorem ne_79 : (("own_steps" : PySem.Str) = "plat") = False := eq_false (by decide +kernel)
@[simp] theorem ne_80 : (("own_steps" : PySem.Str) = "own_leads") = False := eq_false (by decide +kernel)
@[simp] theorem ne_81 : (("own_steps" : PySem.Str) = "own_fronts") = False := eq_false (by decide +kernel)
@[simp] theorem ne_82 : (("own_steps" : PySem.Str) = "with_steps") = False := eq_false (by decide +kernel)
@[simp] theorem ne_83 : (("own_steps" : PySem.Str) = "comes") = False := eq_false (by decide +kernel)
@[simp] theorem ne_84 : (("own_steps" : PySem.Str) = "way") = False := eq_false (by decide +kernel)
@[simp] theorem ne_85 : (("own_steps" : PySem.Str) = "bare") = False := eq_false (by decide +kernel)
@[simp] theorem ne_86 : (("own_steps" : PySem.Str) = "distances") = False := eq_false (by decide +kernel)
@[simp] theorem ne_87 : (("own_steps" : PySem.Str) = "need_parcel") = False := eq_false (by decide +kernel)
@[simp] theorem ne_88 : (("own_leads" : PySem.Str) = "plat") = False := eq_false (by decide +kernel)
@[simp] theorem ne_89 : (("own_leads" : PySem.Str) = "own_steps") = False := eq_false (by decide +kernel)
@[simp] theorem ne_90 : (("own_leads" : PySem.Str) = "own_fronts") = False := eq_false (by decide +kernel)
@[simp] theorem ne_91 : (("own_leads" : PySem.Str) = "with_steps") = False := eq_false (by decide +kernel)
@[simp] theorem ne_92 : (("own_leads" : PySem.Str) = "comes") = False := eq_false (by decide +kernel)
@[simp] theorem ne_93 : (("own_leads" : PySem.Str) = "way") = False := eq_false (by decide +kernel)
@[simp] theorem ne_94 : (("own_leads" : PySem.Str) = "bare") = False := eq_false (by decide +kernel)
@[simp] theorem ne_95 : (("own_leads" : PySem.Str) = "distances") = False := eq_false (by decide +kernel)
@[simp] theorem ne_96 : (("own_leads" : PySem.Str) = "need_parcel") = False := eq_false (by decide +kernel)
@[simp] theorem ne_97 : (("own_fronts" : PySem.Str) = "plat") = False := eq_false (by decide +kernel)
@[simp] theorem ne_98 : (("own_fronts" : PySem.Str) = "own_steps") = False := eq_false (by decide +kernel)
@[simp] theorem ne_99 : (("own_fronts" : PySem.Str) = "own_leads") = False := eq_false (by decide +kernel)
@[simp] theorem ne_100 : (("own_fronts" : PySem.Str) = "with_steps") = False := eq_false (by decide +kernel)
@[simp] theorem ne_101 : (("own_fronts" : PySem.Str) = "comes") = False := eq_false (by decide +kernel)
@[simp] theorem ne_102 : (("own_fronts" : PySem.Str) = "way") = False := eq_false (by decide +kernel)
@[simp] theorem ne_103 : (("own_fronts" : PySem.Str) = "bare") = False := eq_false (by decide +kernel)
@[simp] theorem ne_104 : (("own_fronts" : PySem.Str) = "distances") = False := eq_false (by decide +kernel)
@[simp] theorem ne_105 : (("own_fronts" : PySem.Str) = "need_parcel") = False := eq_false (by decide +kernel)
theorem look_none {j : PySem.Str} : ∀ {ks : List PySem.Str} {ds : List D}, j ∉ ks → look ks ds j = none
  | [], _, _ => by unfold look; rfl
  | _ :: _, [], _ => by unfold look; rfl
  | k :: ks, d :: ds, h => by
    rw [look, if_neg fun z => h (by rw [z]; exact List.mem_cons_self)]
    exact look_none fun z => h (List.mem_cons_of_mem _ z)
@[simp] theorem look_P_names {ds : List D} : look (["own_rows", "own_cells", "height", "width", "own_road", "own_borders", "own_rims"] : List PySem.Str) ds "names" = none := look_none (by decide +kernel)
@[simp] theorem look_P_fronts {ds : List D} : look (["own_rows", "own_cells", "height", "width", "own_road", "own_borders", "own_rims"] : List PySem.Str) ds "fronts" = none := look_none (by decide +kernel)
@[simp] theorem look_P_border {ds : List D} : look (["own_rows", "own_cells", "height", "width", "own_road", "own_borders", "own_rims"] : List PySem.Str) ds "border" = none := look_none (by decide +kernel)
@[simp] theorem look_P_need_parcel {ds : List D} : look (["own_rows", "own_cells", "height", "width", "own_road", "own_borders", "own_rims"] : List PySem.Str) ds "need_parcel" = none := look_none (by decide +kernel)
@[simp] theorem look_W_with_steps {ds : List D} : look (["plat", "own_steps", "own_leads", "own_fronts"] : List PySem.Str) ds "with_steps" = none := look_none (by decide +kernel)
@[simp] theorem look_W_comes {ds : List D} : look (["plat", "own_steps", "own_leads", "own_fronts"] : List PySem.Str) ds "comes" = none := look_none (by decide +kernel)
@[simp] theorem look_W_way {ds : List D} : look (["plat", "own_steps", "own_leads", "own_fronts"] : List PySem.Str) ds "way" = none := look_none (by decide +kernel)
@[simp] theorem look_W_bare {ds : List D} : look (["plat", "own_steps", "own_leads", "own_fronts"] : List PySem.Str) ds "bare" = none := look_none (by decide +kernel)
@[simp] theorem look_W_distances {ds : List D} : look (["plat", "own_steps", "own_leads", "own_fronts"] : List PySem.Str) ds "distances" = none := look_none (by decide +kernel)
@[simp] theorem look_W_need_parcel {ds : List D} : look (["plat", "own_steps", "own_leads", "own_fronts"] : List PySem.Str) ds "need_parcel" = none := look_none (by decide +kernel)
end Dk
end

section
set_option Elab.async false
set_option linter.all false
set_option maxRecDepth 100000
set_option maxHeartbeats 2000000
namespace Dk
open L2 Dl Pm
@[simp] theorem look_nil {κ : Type} [DecidableEq κ] {ds : List D} {j : κ} : look [] ds j = none := by
  unfold look
  rfl
@[simp] theorem look_cons {κ : Type} [DecidableEq κ] {k j : κ} {ks : List κ} {d : D} {ds : List D} : look (k :: ks) (d :: ds) j = if k = j then some d else look ks ds j := by
  rw [look]
theorem look_names {n : PySem.Str} : ∀ {ns : List PySem.Str} {vs : List D}, vs.length = ns.length → (look (ns.map keyN) vs (keyN n)).isSome = decide (n ∈ ns)
  | [], [], _ => by simp
  | [], _ :: _, h => by cases h
  | _ :: _, [], h => by cases h
  | a :: ns, v :: vs, h => by
    rw [List.map_cons, look_cons]
    by_cases e : a = n
    · subst e; simp
    · have e' : ¬ n = a := fun z => e z.symm
      rw [if_neg fun z => e (keyN_inj _ _ z), look_names (by simpa using h)]
      simp [e']
theorem c_Plat_names : Keeps N_Plat_names 1 C_Plat_names den_Plat_names := by
  rintro as P - ⟨B, d, rfl, ⟨ns, ds, rfl, ⟨rfl, cl, rd, ps, bf, rims, rfl, hc, hr, hrl, hps, hpos⟩, ok⟩, hp⟩
  simp [den_Plat_names]
  exact hp
theorem c_Plat_need_parcel : Keeps N_Plat_need_parcel 2 C_Plat_need_parcel den_Plat_need_parcel := by
  rintro as P - ⟨B, d, n, rfl, ⟨ns, ds, rfl, ⟨rfl, cl, rd, ps, bf, rims, rfl, hc, hr, hrl, hps, hpos⟩, ok⟩, hn, hp⟩
  simp [den_Plat_need_parcel, -dlook]
  refine ⟨fun z => ?_, hp⟩
  have := look_names (n := n) hc
  rw [z, decide_eq_true hn] at this
  cases this
theorem c_Plat___contains__ : Keeps N_Plat___contains__ 2 C_Plat___contains__ den_Plat___contains__ := by
  rintro as P - ⟨B, d, n, rfl, ⟨ns, ds, rfl, ⟨rfl, cl, rd, ps, bf, rims, rfl, hc, hr, hrl, hps, hpos⟩, ok⟩, hp⟩
  simp [den_Plat___contains__, -dlook]
  rw [look_names hc]
  exact hp
theorem x_need {B : Bd} {d : D} {n : PySem.Str} {P : D → Prop} (q : IsPlat B d ∧ n ∈ B.names ∧ P .non) : C_Plat_need_parcel [.val d, .val (.str n)] P := ⟨B, d, n, rfl, q⟩
theorem IsPlat.node {B : Bd} {d : D} (h : IsPlat B d) : ∃ ds, d = .node (.ins 0 ["own_rows", "own_cells", "height", "width", "own_road", "own_borders", "own_rims"]) ds ∧ IsPlatF B ["own_rows", "own_cells", "height", "width", "own_road", "own_borders", "own_rims"] ds ∧ B.Ok := by
  obtain ⟨ns, ds, rfl, ⟨rfl, q⟩, ok⟩ := h
  exact ⟨ds, rfl, ⟨rfl, q⟩, ok⟩
theorem c_Plat_border : Keeps N_Plat_border 3 C_Plat_border (den_Plat_border C_Plat_need_parcel) := by
  rintro as P - ⟨B, d, m, n, rfl, hpl, hmn, hp⟩
  have hpl' := hpl
  obtain ⟨hm, hn⟩ := prs_names hmn
  obtain ⟨ns, ds, rfl, ⟨rfl, cl, rd, ps, bf, rims, rfl, hc, hr, hrl, hps, hpos⟩, ok⟩ := hpl
  simp [den_Plat_border, -dlook]
  refine x_need ⟨hpl', hm, x_need ⟨hpl', hn, ?_⟩⟩
  have hin := (hps (m, n)).mpr hmn
  rw [if_pos hin]
  exact hp _ (hpos _ hin)
end Dk
end

section
set_option Elab.async false
set_option linter.all false
set_option maxRecDepth 100000
set_option maxHeartbeats 2000000
namespace Dk
open L2 Dl Pm
theorem Bd.Ok.on {B : Bd} (ok : B.Ok) {c : Cell} (hc : c ∈ B.road) : onB B.h B.w c := mem_allC.mp (ok.re c hc).1
theorem Bd.Ok.rl {B : Bd} (ok : B.Ok) : B.road.length ≤ 144 := by
  have h1 := on_len (h := B.h) (w := B.w) ok.rn fun c hc => ok.on hc
  have h2 := Nat.mul_le_mul ok.h2 ok.w2
  omega
theorem mem_front {B : Bd} {n : PySem.Str} : n ∈ B.front ↔ ∃ c, c ∈ B.road ∧ B.nm c = n := mem_usort.trans List.mem_map
theorem front_names {B : Bd} (ok : B.Ok) {n : PySem.Str} (h : n ∈ B.front) : n ∈ B.names := by
  obtain ⟨c, h1, h2⟩ := mem_front.mp h
  exact mem_names.mpr ⟨c, (ok.re c h1).1, h2⟩
theorem filterMap_some {α β : Type} (f : α → β) (l : List α) : l.filterMap (fun x => some (f x)) = l.map f := by
  rw [show (fun x => some (f x)) = some ∘ f from rfl, List.filterMap_eq_map]
theorem c_Plat_fronts : Keeps N_Plat_fronts 2 C_Plat_fronts (den_Plat_fronts C_Plat_need_parcel) := by
  rintro as P - ⟨B, d, n, rfl, hpl, hn, hp⟩
  have hpl' := hpl
  obtain ⟨ns, ds, rfl, ⟨rfl, cl, rd, ps, bf, rims, rfl, hc, hr, hrl, hps, hpos⟩, ok⟩ := hpl
  have hrl2 := ok.rl
  simp [den_Plat_fronts, -dlook]
  refine x_need ⟨hpl', hn, ?_, ?_⟩
  · refine plain_ok (by simp)
  refine lcD_by (fun d => some (.bl (decide (B.nm (toC d) = n)))) (by simp; omega) ?_ ?_
  · intro d hd K hK
    obtain ⟨y, hy, rfl⟩ := List.mem_map.mp hd
    obtain ⟨a, b, ha, hb, rfl⟩ := nat_cell (ok.on ((hr y).mp hy))
    simp [Bd.rows, rowsD_eq, atI_map ha, atI_map hb] at hK ⊢
    exact hK
  · rw [List.filterMap_map]
    rw [show ((fun d => some (D.bl (decide (B.nm (toC d) = n)))) ∘ cellD) = (fun c : Cell => some (D.bl (decide (B.nm c = n)))) from rfl, filterMap_some]
    simp [toBls_map]
    rw [show (rd.any fun x => decide (B.nm x = n)) = decide (n ∈ B.front) from ?_]
    · exact hp
    · rw [Bool.eq_iff_iff]
      simp only [List.any_eq_true, decide_eq_true_eq, mem_front, hr]
theorem x_has {B : Bd} {d : D} {n : PySem.Str} {P : D → Prop} (q : IsPlat B d ∧ P (.bl (decide (n ∈ B.names)))) : C_Plat___contains__ [.val d, .val (.str n)] P := ⟨B, d, n, rfl, q⟩
theorem c_is_step : Keeps N_is_step 2 C_is_step (den_is_step C_Plat___contains__ C_Plat_border) := by
  rintro as P - ⟨B, d, p, rfl, hpl, hm, hp⟩
  have hpl' := hpl
  obtain ⟨h1, h2⟩ := prs_names hm
  obtain ⟨ds, rfl, _, ok⟩ := hpl.node
  simp [den_is_step]
  refine x_has ⟨hpl', ?_⟩
  rw [decide_eq_true (show p.1 ∈ B.names from h1)]
  simp
  refine x_has ⟨hpl', ?_⟩
  rw [decide_eq_true (show p.2 ∈ B.names from h2)]
  simp
  refine ⟨B, _, p.1, p.2, rfl, hpl', hm, fun i hi => ?_⟩
  simp [hi]
  exact hp
theorem c_check_steps : Keeps N_check_steps 2 C_check_steps (den_check_steps C_is_list C_is_step) := by
  rintro as P - ⟨B, d, t, ps, rfl, ht, hpl, hm, hp⟩
  rcases ht with rfl | rfl
  · simp [den_check_steps, -forD]
    refine for_by (fun i s => ∃ (x2 x3 : Option Slot), s = [some (.val d), some (.val (pairsD ps)), x2, x3]) ⟨none, none, by simp⟩ ?_ ?_
    · rintro i e s K hd ⟨x2, x3, rfl⟩ hK
      obtain ⟨x, hx, rfl⟩ := pairs_get hd
      obtain ⟨p, hq, rfl⟩ := map_get hx
      simp
      refine ⟨B, d, p, rfl, hpl, hm p (List.mem_of_getElem? hq), ?_⟩
      simp
      exact hK _ ⟨_, _, rfl⟩
    · rintro s ⟨x2, x3, rfl⟩
      exact hp
  · simp [den_check_steps, -forD]
    refine for_by (fun i s => ∃ (x2 x3 : Option Slot), s = [some (.val d), some (.val (.tup (ps.map pairD))), x2, x3]) ⟨none, none, by simp⟩ ?_ ?_
    · rintro i e s K hd ⟨x2, x3, rfl⟩ hK
      obtain ⟨x, hx, rfl⟩ := pairs_get hd
      obtain ⟨p, hq, rfl⟩ := map_get hx
      simp
      refine ⟨B, d, p, rfl, hpl, hm p (List.mem_of_getElem? hq), ?_⟩
      simp
      exact hK _ ⟨_, _, rfl⟩
    · rintro s ⟨x2, x3, rfl⟩
      exact hp
end Dk
end

section
set_option Elab.async false
set_option linter.all false
set_option maxRecDepth 100000
set_option maxHeartbeats 4000000
namespace Dk
open L2 Dl Pm
/-- one statement, then the rest: what holds between them -/
theorem seq_by (Q : Env → Prop) {dS dT : SDen} {s : Env} {E : DEnds} (h1 : ∀ K : Env → Prop, (∀ s1, Q s1 → K s1) → dS s { E with nx := K }) (h2 : ∀ s1, Q s1 → dT s1 E) : dSeq dS dT s E := h1 _ h2
theorem seq_to (s1 : Env) {dS dT : SDen} {s : Env} {E : DEnds} (h1 : ∀ K : Env → Prop, K s1 → dS s { E with nx := K }) (h2 : dT s1 E) : dSeq dS dT s E := h1 _ h2
theorem whole_filter {h w : Nat} {nm : Cell → PySem.Str} {n : PySem.Str} (g : Gi (allC h w) nm) (hn : n ∈ namesOf h w nm) : Whole fun c => c ∈ (allC h w).filter fun c => decide (nm c = n) := by
  obtain ⟨c, hc, rfl⟩ := mem_names.mp hn
  have := g c hc
  unfold cls at this
  simpa [List.mem_filter] using this
theorem c_Plat___init__ : KeepsI 0 N_Plat___init__ 3 C_Plat___init__ (den_Plat___init__ C_check_rows C_parcels_of C_hangs_together C_check_road C_borders_of) := by
  rintro as P - ⟨B, rfl, ok, hp⟩
  have h1 := ok.h1
  have h2 := ok.h2
  have w1 := ok.w1
  have w2 := ok.w2
  have hnl : (namesOf B.h B.w B.nm).length ≤ 6 := ok.le
  have hrl := ok.rl
  have hrows : B.rows = .lst ((List.range B.h).map (rowD B.w B.nm)) := rfl
  show den_Plat___init__ _ _ _ _ _ [some (.own (.ins 0 []) []), some (.val B.rows), some (.val (cellsD B.road)), none, none] _
  unfold den_Plat___init__
  refine seq_to [some (.own (.ins 0 []) []), some (.val B.rows), some (.val (cellsD B.road)), none, none] ?_ ?_
  · intro K hK
    simp
    exact ⟨B.h, B.w, B.nm, rfl, h1, h2, w1, w2, ok.va, hK⟩
  refine seq_to [some (.own (.ins 0 ["own_rows"]) [B.rows]), some (.val B.rows), some (.val (cellsD B.road)), none, none] ?_ ?_
  · intro K hK
    rw [hrows] at hK ⊢
    simp
    refine ⟨plain_ok (by simp), lcD_by some (by simp; omega) ?_ ?_⟩
    · intro d hd K hK
      obtain ⟨r, hr, rfl⟩ := List.mem_map.mp hd
      simp
      exact hK
    · rw [List.filterMap_some]
      exact hK
  refine seq_to [some (.own (.ins 0 ["own_rows", "own_cells"]) [B.rows, .dk ((namesOf B.h B.w B.nm).map keyN) ((namesOf B.h B.w B.nm).map fun n => cellsD ((allC B.h B.w).filter fun c => decide (B.nm c = n)))]), some (.val B.rows), some (.val (cellsD B.road)), none, none] ?_ ?_
  · intro K hK
    simp
    refine ⟨B.h, B.w, B.nm, rfl, h1, h2, w1, w2, ?_⟩
    simp
    simpa using hK
  refine seq_to [some (.own (.ins 0 ["own_rows", "own_cells"]) [B.rows, .dk ((namesOf B.h B.w B.nm).map keyN) ((namesOf B.h B.w B.nm).map fun n => cellsD ((allC B.h B.w).filter fun c => decide (B.nm c = n)))]), some (.val B.rows), some (.val (cellsD B.road)), none, none] ?_ ?_
  · intro K hK
    simp
    refine ⟨by omega, ?_⟩
    simpa using hK
  refine seq_by (fun s => ∃ x4 : Option Slot, s = [some (.own (.ins 0 ["own_rows", "own_cells"]) [B.rows, .dk ((namesOf B.h B.w B.nm).map keyN) ((namesOf B.h B.w B.nm).map fun n => cellsD ((allC B.h B.w).filter fun c => decide (B.nm c = n)))]), some (.val B.rows), some (.val (cellsD B.road)), none, x4]) ?_ ?_
  · intro K hK
    simp [diKeys, -forD]
    refine for_by (fun i s => ∃ x4 : Option Slot, s = [some (.own (.ins 0 ["own_rows", "own_cells"]) [B.rows, .dk ((namesOf B.h B.w B.nm).map keyN) ((namesOf B.h B.w B.nm).map fun n => cellsD ((allC B.h B.w).filter fun c => decide (B.nm c = n)))]), some (.val B.rows), some (.val (cellsD B.road)), none, x4]) ⟨none, by simp⟩ ?_ ?_
    · rintro i d s K2 hd ⟨x4, rfl⟩ hK2
      obtain ⟨n, hn, rfl⟩ := map_get hd
      have hin : n ∈ namesOf B.h B.w B.nm := List.mem_of_getElem? hn
      simp [-dlook]
      rw [if_pos hin]
      refine ⟨_, rfl, (allC_nodup).filter _, fun c hc => ?_, whole_filter ok.gi hin, ?_⟩
      · have := mem_allC.mp (List.mem_filter.mp hc).1
        unfold onB at this ⊢
        omega
      · simp
        simpa using hK2 _ ⟨_, rfl⟩
    · rintro s ⟨x4, rfl⟩
      exact hK _ ⟨x4, rfl⟩
  rintro _ ⟨x4, rfl⟩
  refine seq_to [some (.own (.ins 0 ["own_rows", "own_cells", "height"]) [B.rows, .dk ((namesOf B.h B.w B.nm).map keyN) ((namesOf B.h B.w B.nm).map fun n => cellsD ((allC B.h B.w).filter fun c => decide (B.nm c = n))), .int B.h]), some (.val B.rows), some (.val (cellsD B.road)), none, x4] ?_ ?_
  · intro K hK
    rw [hrows] at hK ⊢
    simp
    simpa using hK
  refine seq_to [some (.own (.ins 0 ["own_rows", "own_cells", "height", "width"]) [B.rows, .dk ((namesOf B.h B.w B.nm).map keyN) ((namesOf B.h B.w B.nm).map fun n => cellsD ((allC B.h B.w).filter fun c => decide (B.nm c = n))), .int B.h, .int B.w]), some (.val B.rows), some (.val (cellsD B.road)), none, x4] ?_ ?_
  · intro K hK
    rw [hrows] at hK ⊢
    simp [atI_map0 h1]
    simpa using hK
  refine seq_to [some (.own (.ins 0 ["own_rows", "own_cells", "height", "width"]) [B.rows, .dk ((namesOf B.h B.w B.nm).map keyN) ((namesOf B.h B.w B.nm).map fun n => cellsD ((allC B.h B.w).filter fun c => decide (B.nm c = n))), .int B.h, .int B.w]), some (.val B.rows), some (.val (cellsD B.road)), none, x4] ?_ ?_
  · intro K hK
    simp
    refine ⟨B.h, B.w, B.road, rfl, h2, w2, ok.rn, fun c hc => ⟨ok.on hc, (ok.re c hc).2⟩, ?_⟩
    simpa using hK
  refine seq_by (fun s => ∃ rd : List Cell, rd.Perm B.road ∧ s = [some (.own (.ins 0 ["own_rows", "own_cells", "height", "width", "own_road"]) [B.rows, .dk ((namesOf B.h B.w B.nm).map keyN) ((namesOf B.h B.w B.nm).map fun n => cellsD ((allC B.h B.w).filter fun c => decide (B.nm c = n))), .int B.h, .int B.w, cellsD rd]), some (.val B.rows), some (.val (cellsD B.road)), none, x4]) ?_ ?_
  · intro K hK
    simp
    left
    intro rd hperm _
    simpa using hK _ ⟨rd, hperm, rfl⟩
  rintro _ ⟨rd, hperm, rfl⟩
  simp
  refine ⟨B.h, B.w, B.nm, rfl, h1, h2, w1, w2, fun ps bf rims hm hpos => ?_⟩
  simp
  exact hp _ _ ⟨rfl, _, rd, ps, bf, rims, rfl, by simp [Bd.names], fun c => hperm.mem_iff, hperm.length_eq, hm, hpos⟩
end Dk
end

section
set_option Elab.async false
set_option linter.all false
set_option maxRecDepth 100000
set_option maxHeartbeats 4000000
namespace Dk
open L2 Dl Pm
theorem IsPlat.ok {B : Bd} {d : D} (h : IsPlat B d) : B.Ok := by
  obtain ⟨_, _, _, _, ok⟩ := h
  exact ok
theorem stOk_usort {B : Bd} {ps : List (PySem.Str × PySem.Str)} (h : ∀ p, p ∈ ps → p ∈ B.pairs) : StOk B (usort Sx.ltTT ps) := ⟨usort_sorted lin_TT _, fun p hp => h p (mem_usort.mp hp)⟩
theorem c_Ways___init__ : KeepsI 1 N_Ways___init__ 3 C_Ways___init__ (den_Ways___init__ C_check_steps C_onward C_Plat_names C_Plat_fronts) := by
  rintro as P - ⟨B, d, ps, rfl, hpl, hm, hl, hp⟩
  have ok := hpl.ok
  have hnl : B.names.length ≤ 6 := ok.le
  have hnd : B.names.Nodup := names_nodup
  have so := stOk_usort hm
  show den_Ways___init__ _ _ _ _ [some (.own (.ins 1 []) []), some (.val d), some (.val (pairsD ps)), none] _
  unfold den_Ways___init__
  refine seq_to [some (.own (.ins 1 []) []), some (.val d), some (.val (pairsD ps)), none] ?_ ?_
  · intro K hK
    simp
    exact ⟨B, d, .lst, ps, rfl, .inl rfl, hpl, hm, hK⟩
  refine seq_to [some (.own (.ins 1 ["plat"]) [d]), some (.val d), some (.val (pairsD ps)), none] ?_ ?_
  · intro K hK
    simpa using hK
  refine seq_to [some (.own (.ins 1 ["plat", "own_steps"]) [d, pairsD (usort Sx.ltTT ps)]), some (.val d), some (.val (pairsD ps)), none] ?_ ?_
  · intro K hK
    simp
    right
    refine ⟨hl, fun ys hy hs => ?_⟩
    have : ys = usort Sx.ltTT ps := usort_eq lin_TT hs fun x => hy x.1 x.2
    subst this
    simpa using hK
  refine seq_to [some (.own (.ins 1 ["plat", "own_steps", "own_leads"]) [d, pairsD (usort Sx.ltTT ps), .dk (B.names.map keyN) (B.names.map fun n => strsD ((B.gr (usort Sx.ltTT ps)).lead n))]), some (.val d), some (.val (pairsD ps)), none] ?_ ?_
  · intro K hK
    obtain ⟨ds, rfl, _, _⟩ := hpl.node
    simp
    refine ⟨B, _, rfl, hpl, ?_⟩
    refine ⟨B, _, rfl, ok, so, ?_⟩
    simpa using hK
  · obtain ⟨ds, rfl, _, _⟩ := hpl.node
    simp
    refine ⟨B, _, rfl, hpl, ?_⟩
    refine ⟨plain_ok (by simp), dcD_by (fun d => match d with | .str n => some (.str n, .bl (decide (n ∈ B.front))) | _ => none) (by simp; omega) ?_ (t2 := .dk (B.names.map keyN)) (acc2 := B.names.map fun n => .bl (decide (n ∈ B.front))) ?_ ?_⟩
    · intro e he Kk hk
      obtain ⟨n, hn, rfl⟩ := List.mem_map.mp he
      simp
      exact ⟨B, _, n, rfl, hpl, hn, hk⟩
    · have := dputs_strs (fun n => .bl (decide (n ∈ B.front))) hnd
      rw [← this, List.filterMap_map]
      congr 1
      exact filterMap_some (fun n => (D.str n, D.bl (decide (n ∈ B.front)))) B.names
    · exact hp _ _ ⟨rfl, _, hpl, rfl⟩
theorem IsWays.elim {B : Bd} {st : List (PySem.Str × PySem.Str)} {d : D} (h : IsWays B st d) : ∃ pd, d = .node (.ins 1 ["plat", "own_steps", "own_leads", "own_fronts"]) [pd, pairsD st, .dk (B.names.map keyN) (B.names.map fun n => strsD ((B.gr st).lead n)), .dk (B.names.map keyN) (B.names.map fun n => .bl (decide (n ∈ B.front)))] ∧ IsPlat B pd ∧ StOk B st := by
  obtain ⟨ns, ds, rfl, ⟨rfl, pd, hpl, rfl⟩, so⟩ := h
  exact ⟨pd, rfl, hpl, so⟩
theorem c_Ways_need_parcel : Keeps N_Ways_need_parcel 2 C_Ways_need_parcel (den_Ways_need_parcel C_Plat___contains__) := by
  rintro as P - ⟨B, st, d, n, rfl, hw, hn, hp⟩
  obtain ⟨pd, rfl, hpl, so⟩ := hw.elim
  obtain ⟨ds, rfl, _, _⟩ := id hpl.node
  simp [den_Ways_need_parcel]
  refine ⟨B, _, n, rfl, hpl, ?_⟩
  rw [decide_eq_true hn]
  simp
  exact hp
theorem c_Ways_comes : Keeps N_Ways_comes 2 C_Ways_comes (den_Ways_comes C_Ways_need_parcel C_Ways_distances) := by
  rintro as P - ⟨B, st, d, n, rfl, hw, hn, hp⟩
  obtain ⟨pd, rfl, hpl, so⟩ := hw.elim
  simp [den_Ways_comes, -dlook]
  refine ⟨B, st, _, n, rfl, hw, hn, ?_⟩
  refine ⟨B, st, _, rfl, hw, fun ks hk => ?_⟩
  simp [-dlook]
  have e : decide (n ∈ ks) = (far (B.gr st) n).isSome := by
    rw [Bool.eq_iff_iff, decide_eq_true_eq]
    exact hk n
  by_cases q : n ∈ ks
  · simp [q] at e ⊢
    rw [e] at hp
    exact hp
  · simp [q] at e ⊢
    rw [e] at hp
    exact hp
theorem filterMap_strs {f : D → Option D} {g : PySem.Str → Bool} (hf : ∀ c, f (.str c) = if g c = true then some (.str c) else none) : ∀ l : List PySem.Str, (l.map D.str).filterMap f = (l.filter g).map D.str
  | [] => rfl
  | c :: l => by
    rw [List.map_cons, List.filterMap_cons, hf, List.filter_cons]
    by_cases e : g c = true
    · rw [if_pos e, if_pos e, List.map_cons, filterMap_strs hf l]
    · rw [if_neg e, if_neg e, filterMap_strs hf l]
def toS : D → PySem.Str
  | .str x => x
  | _ => ""
theorem c_Ways_bare : Keeps N_Ways_bare 1 C_Ways_bare (den_Ways_bare C_Ways_distances) := by
  rintro as P - ⟨B, st, d, rfl, hw, hp⟩
  obtain ⟨pd, rfl, hpl, so⟩ := hw.elim
  have hnl : B.names.length ≤ 6 := hpl.ok.le
  simp [den_Ways_bare, diKeys, -dlook]
  refine ⟨B, st, _, rfl, hw, fun ks hk => ?_⟩
  refine ⟨plain_ok (by simp), lcD_by (fun d => if (!(far (B.gr st) (toS d)).isSome) = true then some d else none) (by simp; omega) ?_ ?_⟩
  · intro d hd K hK
    obtain ⟨n, hn, rfl⟩ := List.mem_map.mp hd
    simp [-dlook]
    have e : decide (n ∈ ks) = (far (B.gr st) n).isSome := by
      rw [Bool.eq_iff_iff, decide_eq_true_eq]
      exact hk n
    by_cases q : n ∈ ks
    · simp [q, toS] at e hK ⊢
      obtain ⟨k, hk2⟩ := Option.isSome_iff_exists.mp e
      simp [hk2] at hK
      exact hK
    · simp [q, toS] at e hK ⊢
      simp [e] at hK
      exact hK
  · rw [filterMap_strs (g := fun n => !(far (B.gr st) n).isSome) (fun c => rfl)]
    exact hp
theorem argsD_map {α : Type} (f : α → D) : ∀ l : List α, argsD (l.map (Arg.val ∘ f)) = some (l.map f)
  | [] => rfl
  | x :: l => by
    rw [List.map_cons]
    show (argsD (l.map (Arg.val ∘ f))).map (f x :: ·) = _
    rw [argsD_map f l]
    rfl
theorem c_Ways_with_steps : Keeps N_Ways_with_steps 2 C_Ways_with_steps (den_Ways_with_steps C_check_steps C_Ways___init__) := by
  rintro as P - ⟨B, st, d, p, rfl, hw, hm, hp⟩
  obtain ⟨pd, rfl, hpl, so⟩ := hw.elim
  have hsl := so.len hpl.ok
  have hall : ∀ q, q ∈ st ++ [p] → q ∈ B.pairs := fun q hq => by
    rcases List.mem_append.mp hq with z | z
    · exact so.me q z
    · rw [List.mem_singleton.mp z]; exact hm
  simp [den_Ways_with_steps]
  refine ⟨B, pd, .tup, [p], rfl, .inr rfl, hpl, by simpa using hm, ?_⟩
  have hargs : argsD (List.map (Arg.val ∘ pairD) st ++ [Arg.val (pairD p)]) = some ((st ++ [p]).map pairD) := by
    rw [show List.map (Arg.val ∘ pairD) st ++ [Arg.val (pairD p)] = (st ++ [p]).map (Arg.val ∘ pairD) by simp]
    exact argsD_map _ _
  simp [hargs]
  refine ⟨by omega, B, pd, st ++ [p], by simp, hpl, hall, by simp; omega, fun ns ds h => ?_⟩
  exact hp _ ⟨ns, ds, rfl, h, stOk_usort hall⟩
end Dk
end

section
set_option Elab.async false
set_option linter.all false
set_option maxRecDepth 100000
set_option maxHeartbeats 4000000
namespace Dk
open L2 Dl Pm
theorem Bd.Ok.names_ne {B : Bd} (ok : B.Ok) {n : PySem.Str} (h : n ∈ B.names) : validN n := by
  obtain ⟨c, hc, rfl⟩ := mem_names.mp h
  exact ok.va c hc
theorem valid_ne {n : PySem.Str} (h : validN n) : n ≠ "" := by
  intro z
  have h1 := h.1
  rw [z] at h1
  have : ("" : PySem.Str).length = 0 := by decide +kernel
  omega
theorem gr_ok {B : Bd} {st : List (PySem.Str × PySem.Str)} (ok : B.Ok) (so : StOk B st) : (B.gr st).Ok := ⟨fun p hp => prs_names (so.me p hp), fun n hn => front_names ok (of_decide_eq_true hn)⟩
theorem filterMap_strs2 {β : Type} {f : D → Option β} {g : PySem.Str → Bool} {v : PySem.Str → β} (hf : ∀ c, f (.str c) = if g c = true then some (v c) else none) : ∀ l : List PySem.Str, (l.map D.str).filterMap f = (l.filter g).map v
  | [] => rfl
  | c :: l => by
    rw [List.map_cons, List.filterMap_cons, hf, List.filter_cons]
    by_cases e : g c = true
    · rw [if_pos e, if_pos e, List.map_cons, filterMap_strs2 hf l]
    · rw [if_neg e, if_neg e, filterMap_strs2 hf l]
noncomputable def farI (B : Bd) (st : List (PySem.Str × PySem.Str)) (n : PySem.Str) : Int := (((far (B.gr st) n).getD 0 : Nat) : Int)
theorem c_Ways_distances : Keeps N_Ways_distances 2 C_Ways_distances den_Ways_distances := by
  rintro as P - ⟨B, st, d, rfl, hw, hp⟩
  obtain ⟨pd, rfl, hpl, so⟩ := hw.elim
  have ok := hpl.ok
  have gok := gr_ok ok so
  have hnl : B.names.length ≤ 6 := ok.le
  have hnd : B.names.Nodup := names_nodup
  show den_Ways_distances [some (.val _), some (.val (.str "")), none, none, none, none, none, none] _
  generalize hself : D.node _ _ = self
  unfold den_Ways_distances
  refine seq_to [some (.val self), some (.val (.str "")), some (.own (.dk ((B.names.filter fun n => decide (n ∈ B.front)).map keyN)) ((B.names.filter fun n => decide (n ∈ B.front)).map fun n => .int (farI B st n))), none, none, none, none, none] ?_ ?_
  · intro K hK
    subst hself
    simp [diKeys, -dlook, -dputE]
    refine ⟨plain_ok (by simp), dcD_by (fun d => if (toS d) ∈ B.front then some (d, .int 0) else none) (by simp; omega) ?_ (t2 := .dk ((B.names.filter fun n => decide (n ∈ B.front)).map keyN)) (acc2 := (B.names.filter fun n => decide (n ∈ B.front)).map fun n => .int (farI B st n)) ?_ hK⟩
    · intro d hd Kk hk
      obtain ⟨n, hn, rfl⟩ := List.mem_map.mp hd
      have hne := valid_ne (ok.names_ne hn)
      simp [hn, hne, toS, -dlook] at hk ⊢
      by_cases e : n ∈ B.front
      · simpa [e] using hk
      · simpa [e] using hk
    · have := dputs_strs (fun n => .int (farI B st n)) (hnd.filter fun n => decide (n ∈ B.front))
      rw [← this]
      congr 1
      refine filterMap_strs2 (g := fun n => decide (n ∈ B.front)) (v := fun n => (D.str n, D.int (farI B st n))) (fun c => ?_) B.names
      by_cases e : c ∈ B.front
      · have hf : far (B.gr st) c = some 0 := far_some.mpr (dist_zero.mpr (decide_eq_true e))
        simp [toS, e, farI, hf]
      · simp [toS, e]
  refine seq_to [some (.val self), some (.val (.str "")), some (.own (.dk ((B.names.filter fun n => decide (n ∈ B.front)).map keyN)) ((B.names.filter fun n => decide (n ∈ B.front)).map fun n => .int (farI B st n))), none, some (.val (.int 0)), some (.val (.bl true)), none, none] ?_ ?_
  · intro K hK
    simpa using hK
  refine seq_by (fun s => ∃ (x3 x4 x5 x6 x7 : Option Slot) (ks : List PySem.Str), (∀ n, n ∈ ks ↔ (far (B.gr st) n).isSome = true) ∧ s = [some (.val self), some (.val (.str "")), some (.own (.dk (ks.map keyN)) (ks.map fun n => .int (farI B st n))), x3, x4, x5, x6, x7]) ?_ ?_
  · intro K hK
    refine while_dby (fun m s => ∃ (x3 x6 : Option Slot) (ks : List PySem.Str) (t : Nat) (ti : Int) (b : Bool), s = [some (.val self), some (.val (.str "")), some (.own (.dk (ks.map keyN)) (ks.map fun n => .int (farI B st n))), x3, some (.val (.int ti)), some (.val (.bl b)), x6, none] ∧ (x3 = none ∨ ∃ d, x3 = some (.val d)) ∧ ti = t ∧
      ks.Nodup ∧ (∀ n, n ∈ ks ↔ upTo (B.gr st) t n) ∧ (b = false → ∃ t', t = t' + 1 ∧ ∀ n, n ∈ B.names → far (B.gr st) n ≠ some t) ∧ m = if b = true then B.names.length + 1 - ks.length else 0) (B.names.length + 1 - (B.names.filter fun n => decide (n ∈ B.front)).length) ?_ ?_
    · refine ⟨none, none, _, 0, 0, true, rfl, .inl rfl, rfl, hnd.filter _, fun n => ?_, by simp, by simp⟩
      rw [List.mem_filter, decide_eq_true_eq]
      constructor
      · rintro ⟨_, h⟩
        exact ⟨0, Nat.le_refl _, far_some.mpr (dist_zero.mpr (decide_eq_true h))⟩
      · rintro ⟨j, h1, h2⟩
        have : j = 0 := by omega
        subst this
        have h3 : n ∈ B.front := of_decide_eq_true (dist_zero.mp (far_some.mp h2))
        exact ⟨front_names ok h3, h3⟩
    · rintro m s K2 ⟨x3, x6, ks, t, ti, b, rfl, hx3, hti, hkn, hks, hb, rfl⟩ hK2
      have hsub : ∀ n, n ∈ ks → n ∈ B.names := fun n hn => by
        obtain ⟨j, _, h⟩ := (hks n).mp hn
        exact far_in gok h
      have hkl : ks.length ≤ B.names.length := nodup_len2 hkn hsub
      cases b with
      | false =>
        simp
        refine hK _ ⟨_, _, _, _, _, ks, fun n => ?_, rfl⟩
        obtain ⟨t', rfl, ht⟩ := hb rfl
        rw [hks]
        constructor
        · rintro ⟨j, _, h⟩; rw [h]; rfl
        · intro h
          obtain ⟨k, hk⟩ := Option.isSome_iff_exists.mp h
          exact ⟨k, Nat.le_succ_of_le (no_late gok ht hk), hk⟩
      | true =>
        simp only [dTest, dVar, List.getElem?_cons_succ, List.getElem?_cons_zero, if_true]
        have hlate : ∀ n, n ∈ B.names → ((n ∉ ks ∧ ∃ x, x ∈ (B.gr st).lead n ∧ x ∈ ks) ↔ far (B.gr st) n = some (t + 1)) := fun n hn => by
          rw [← late_iff, hks]
          simp only [hks]
        obtain ⟨lb, hlb⟩ : ∃ lb : PySem.Str → Bool, ∀ n, lb n = true ↔ far (B.gr st) n = some (t + 1) := ⟨fun n => decide (far (B.gr st) n = some (t + 1)), fun n => decide_eq_true_iff⟩
        refine seq_to [some (.val self), some (.val (.str "")), some (.own (.dk (ks.map keyN)) (ks.map fun n => .int (farI B st n))), x3, some (.val (.int ti)), some (.val (.bl true)), some (.val (strsD (B.names.filter lb))), none] ?_ ?_
        · intro K hK
          subst hself
          simp [diKeys, -dlook, -dputE]
          refine ⟨plain_ok (by simpa using hx3), lcD_by (fun d => if lb (toS d) = true then some d else none) (by simp; omega) ?_ ?_⟩
          · intro d hd K hK
            obtain ⟨n, hn, rfl⟩ := List.mem_map.mp hd
            have hne := valid_ne (ok.names_ne hn)
            have hK' : K (if lb n = true then some (.str n) else none) := hK
            simp [hne, hn, -dlook]
            have hll : ((B.gr st).lead n).length ≤ 36 := by
              have h1 := so.len ok
              have h2 := List.length_filter_le (fun p : PySem.Str × PySem.Str => decide (p.1 = n)) st
              unfold Gr.lead
              rw [List.length_map]
              exact Nat.le_trans h2 h1
            by_cases q : n ∈ ks
            · rw [if_pos q]
              rwa [if_neg fun z => ((hlate n hn).mpr ((hlb n).mp z)).1 q] at hK'
            · rw [if_neg q]
              refine ⟨plain_ok (by simp), lcD_by (fun d => some (.bl (decide (toS d ∈ ks)))) (by simp; omega) ?_ ?_⟩
              · intro d hd K hK
                obtain ⟨m, hm, rfl⟩ := List.mem_map.mp hd
                simp [toS, -dlook] at hK ⊢
                by_cases e : m ∈ ks
                · simpa [e] using hK
                · simpa [e] using hK
              · rw [List.filterMap_map]
                rw [show ((fun d => some (D.bl (decide (toS d ∈ ks)))) ∘ D.str) = (fun c : PySem.Str => some (D.bl (decide (c ∈ ks)))) from rfl, filterMap_some, toBls_map]
                simp
                have hl := hlate n hn
                by_cases e : ∃ x, x ∈ (B.gr st).lead n ∧ x ∈ ks
                · rw [if_pos e]
                  rwa [if_pos ((hlb n).mpr (hl.mp ⟨q, e⟩))] at hK'
                · rw [if_neg e]
                  rwa [if_neg fun z => e (hl.mpr ((hlb n).mp z)).2] at hK'
          · rw [filterMap_strs (g := lb) (fun c => rfl)]
            exact hK
        generalize hL : B.names.filter lb = L
        have hLv : ∀ x, x ∈ L → validN x := fun x hx => ok.names_ne (by rw [← hL] at hx; exact (List.mem_filter.mp hx).1)
        have hLn : L.Nodup := by rw [← hL]; exact hnd.filter _
        have hLm : ∀ n, n ∈ L ↔ far (B.gr st) n = some (t + 1) := fun n => by
          rw [← hL, List.mem_filter, hlb]
          exact ⟨fun z => z.2, fun z => ⟨far_in gok z, z⟩⟩
        refine seq_by (fun s => ∃ bb : Bool, (bb = true ↔ L ≠ []) ∧ s = [some (.val self), some (.val (.str "")), some (.own (.dk (ks.map keyN)) (ks.map fun n => .int (farI B st n))), x3, some (.val (.int (ti + 1))), some (.val (.bl bb)), some (.val (strsD L)), none]) ?_ ?_
        · intro K hK
          simp
          refine ⟨shp_strs hLv, ?_⟩
          cases L with
          | nil => exact hK _ ⟨false, by simp, rfl⟩
          | cons a L => exact hK _ ⟨true, by simp, rfl⟩
        · rintro _ ⟨bb, hbb, rfl⟩
          have hLk : ∀ n, n ∈ L → n ∉ ks := fun n hn => ((hlate n (far_in gok ((hLm n).mp hn))).mpr ((hLm n).mp hn)).1
          have hLn2 : (ks ++ L).Nodup := List.nodup_append.mpr ⟨hkn, hLn, fun a ha b hb z => hLk b hb (z ▸ ha)⟩
          have hLl : (ks ++ L).length ≤ B.names.length := nodup_len2 hLn2 fun n hn => by
            rcases List.mem_append.mp hn with z | z
            · exact hsub n z
            · exact far_in gok ((hLm n).mp z)
          rw [List.length_append] at hLl
          simp [-forD, -dlook, -dputE]
          refine for_by (fun i s => ∃ x3 : Option Slot, s = [some (.val self), some (.val (.str "")), some (.own (.dk ((ks ++ L.take i).map keyN)) ((ks ++ L.take i).map fun n => .int (farI B st n))), x3, some (.val (.int (ti + 1))), some (.val (.bl bb)), some (.val (strsD L)), none] ∧ (x3 = none ∨ ∃ d, x3 = some (.val d))) ⟨x3, by simp, hx3⟩ ?_ ?_
          · rintro i d s Kk hd ⟨x3, rfl, _⟩ hK
            obtain ⟨n, hn, rfl⟩ := map_get hd
            have hfn := (hLm n).mp (List.mem_of_getElem? hn)
            have hnn : n ∉ ks ++ L.take i := fun z => by
              rcases List.mem_append.mp z with y | y
              · exact hLk n (List.mem_of_getElem? hn) y
              · exact nodup_take_new hLn hn y
            have hil : (ks ++ L.take i).length < 100000 := by
              rw [List.length_append, List.length_take]
              omega
            generalize hu : ks ++ L.take i = u at hnn hil ⊢
            simp [-dlook, -dputE]
            refine ⟨hil, ?_⟩
            rw [putL_new hnn, putF_ints]
            have e1 : (fun p => D.int (if p = n then (ti + 1) else farI B st p)) = fun p => D.int (farI B st p) := by
              funext p
              by_cases e : p = n
              · subst e
                simp [farI, hfn, hti]
              · rw [if_neg e]
            rw [e1, ← hu, List.append_assoc, ← take_succ_get hn]
            exact hK _ ⟨_, rfl, .inr ⟨_, rfl⟩⟩
          · rintro s ⟨x3, rfl, hx3⟩
            rw [List.length_map, List.take_length]
            refine hK2 (if bb = true then B.names.length + 1 - (ks ++ L).length else 0) _ ?_ ⟨_, _, ks ++ L, t + 1, ti + 1, bb, rfl, hx3, by omega, hLn2, ?_, ?_, rfl⟩
            · rw [if_pos rfl]
              split
              · next h =>
                have := List.length_pos_iff.mpr (hbb.mp h)
                rw [List.length_append]
                omega
              · omega
            · intro n
              rw [List.mem_append, hks, hLm]
              constructor
              · rintro (⟨j, h1, h2⟩ | h)
                · exact ⟨j, by omega, h2⟩
                · exact ⟨t + 1, Nat.le_refl _, h⟩
              · rintro ⟨j, h1, h2⟩
                rcases Nat.lt_or_ge t j with z | z
                · right; rw [h2, show j = t + 1 by omega]
                · left; exact ⟨j, z, h2⟩
            · intro hbf
              refine ⟨t, rfl, fun n _ hf => ?_⟩
              have : L = [] := Classical.byContradiction fun z => by rw [hbb.mpr z] at hbf; cases hbf
              have h2 := (hLm n).mpr hf
              rw [this] at h2
              cases h2
  · rintro s ⟨x3, x4, x5, x6, x7, ks, hk, rfl⟩
    simp
    exact hp ks hk
end Dk
end

section
set_option Elab.async false
set_option linter.all false
set_option maxRecDepth 100000
set_option maxHeartbeats 4000000
namespace Dk
open L2 Dl Pm
theorem atI_last {α : Type} (l : List α) (x : α) : atI (l ++ [x]) (-1) = some x := by
  unfold atI ixN
  rw [if_neg (by decide)]
  simp
  rw [if_pos (by omega)]
  simp
  rw [List.getElem?_append_right (by omega)]
  rw [show ((-1 + ((l.length : Int) + 1)).toNat - l.length) = 0 by omega]
  rfl
theorem far_small {B : Bd} {st : List (PySem.Str × PySem.Str)} (ok : B.Ok) (so : StOk B st) {n : PySem.Str} (hn : n ∈ B.names) {k : Nat} (hf : far (B.gr st) n = some k) : k < 6 := by
  have gok := gr_ok ok so
  have h1 : (wyOf (B.gr st) k n).length ≤ B.names.length := nodup_len2 (pw_nodup (wy_pw hf)) (pw_in gok hn (wy_pw hf))
  rw [wy_length hf] at h1
  have := ok.le
  omega
theorem lead_len {B : Bd} {st : List (PySem.Str × PySem.Str)} (ok : B.Ok) (so : StOk B st) {x : PySem.Str} : ((B.gr st).lead x).length ≤ 36 := by
  have h1 := so.len ok
  have h2 := List.length_filter_le (fun p : PySem.Str × PySem.Str => decide (p.1 = x)) st
  unfold Gr.lead
  rw [List.length_map]
  exact Nat.le_trans h2 h1
theorem c_Ways_way : KeepsM N_Ways_way 2 C_Ways_way (den_Ways_way C_Ways_need_parcel C_Ways_distances) := by
  rintro as P R - ⟨B, st, d, n, rfl, hw, hn, hp, hr⟩
  obtain ⟨pd, hself, hpl, so⟩ := hw.elim
  have ok := hpl.ok
  have gok := gr_ok ok so
  have hnl : B.names.length ≤ 6 := ok.le
  show den_Ways_way _ _ [some (.val d), some (.val (.str n)), none, none, none, none] _
  unfold den_Ways_way
  refine seq_to [some (.val d), some (.val (.str n)), none, none, none, none] ?_ ?_
  · intro K hK
    subst hself
    simp
    exact ⟨B, st, _, n, rfl, hw, hn, hK⟩
  refine seq_by (fun s => ∃ ks : List PySem.Str, (∀ n, n ∈ ks ↔ (far (B.gr st) n).isSome = true) ∧ s = [some (.val d), some (.val (.str n)), some (.val (.dk (ks.map keyN) (ks.map fun n => .int (farI B st n)))), none, none, none]) ?_ ?_
  · intro K hK
    subst hself
    simp
    exact ⟨B, st, _, rfl, hw, fun ks hk => hK _ ⟨ks, hk, rfl⟩⟩
  rintro _ ⟨ks, hk, rfl⟩
  cases hf : far (B.gr st) n with
  | none =>
    have : n ∉ ks := fun z => by have := (hk n).mp z; rw [hf] at this; cases this
    simp [this, -dlook]
    exact hp hf
  | some k0 =>
    have hnk : n ∈ ks := (hk n).mpr (by rw [hf]; rfl)
    have hr' := hr k0 hf
    have hk0 := far_small ok so hn hf
    refine seq_to [some (.val d), some (.val (.str n)), some (.val (.dk (ks.map keyN) (ks.map fun n => .int (farI B st n)))), none, none, none] ?_ ?_
    · intro K hK
      simp [hnk, -dlook]
      exact hK
    refine seq_to [some (.val d), some (.val (.str n)), some (.val (.dk (ks.map keyN) (ks.map fun n => .int (farI B st n)))), some (.own .lst [.str n]), none, none] ?_ ?_
    · intro K hK
      simp
      exact hK
    refine seq_by (fun s => ∃ x4 : Option Slot, s = [some (.val d), some (.val (.str n)), some (.val (.dk (ks.map keyN) (ks.map fun n => .int (farI B st n)))), some (.own .lst ((wyOf (B.gr st) k0 n).map .str)), x4, none]) ?_ ?_
    · intro K hK
      refine while_dby (fun m s => ∃ (x4 : Option Slot) (pre : List PySem.Str) (x : PySem.Str), s = [some (.val d), some (.val (.str n)), some (.val (.dk (ks.map keyN) (ks.map fun n => .int (farI B st n)))), some (.own .lst ((pre ++ [x]).map .str)), x4, none] ∧
        far (B.gr st) x = some m ∧ wyOf (B.gr st) k0 n = pre ++ wyOf (B.gr st) m x ∧ pre.length + m = k0) k0 ⟨none, [], n, by simp, hf, rfl, by simp⟩ ?_
      rintro m s K2 ⟨x4, pre, x, rfl, hx, hwy, hpl2⟩ hK2
      have hxk : x ∈ ks := (hk x).mpr (by rw [hx]; rfl)
      have hxI : farI B st x = m := by unfold farI; rw [hx]; rfl
      cases m with
      | zero =>
        simp [atI_last, hxk, hxI, -dlook]
        rw [hwy] at hK
        have := hK _ ⟨x4, rfl⟩
        simpa [wyOf] using this
      | succ m =>
        obtain ⟨y, hy1, hy2, hy3, hy4⟩ := wy_next hx
        have hxn : x ∈ B.names := far_in gok hx
        have hpos : (0 : Int) < ((m + 1 : Nat) : Int) := by omega
        subst hself
        simp [atI_last, hxk, hxI, hxn, hpos, -dlook]
        obtain ⟨lb, hlb⟩ : ∃ lb : PySem.Str → Bool, ∀ z, lb z = decide (far (B.gr st) z = some m) := ⟨fun z => decide (far (B.gr st) z = some m), fun z => rfl⟩
        refine ⟨plain_ok (by simp), lcD_by (fun e => if lb (toS e) = true then some e else none) (by have := lead_len (x := x) ok so; simp; omega) ?_ ?_⟩
        · intro e he K hK
          obtain ⟨z, hz, rfl⟩ := List.mem_map.mp he
          have hK' : K (if lb z = true then some (.str z) else none) := hK
          simp [-dlook]
          have e1 : ((if z ∈ ks then farI B st z else -1) = (m : Int)) ↔ lb z = true := by
            rw [hlb, decide_eq_true_iff]
            cases hz2 : far (B.gr st) z with
            | none =>
              have : z ∉ ks := fun q => by have := (hk z).mp q; rw [hz2] at this; cases this
              rw [if_neg this]
              constructor
              · intro q; omega
              · intro q; cases q
            | some j =>
              have : z ∈ ks := (hk z).mpr (by rw [hz2]; rfl)
              rw [if_pos this]
              unfold farI
              rw [hz2, Option.getD_some]
              constructor
              · intro q; rw [show j = m by omega]
              · intro q; cases q; rfl
          by_cases q : lb z = true
          · rw [if_pos (e1.mpr q)]
            rwa [if_pos q] at hK'
          · rw [if_neg fun u => q (e1.mp u)]
            rwa [if_neg q] at hK'
        · rw [filterMap_strs (g := lb) (fun c => rfl)]
          have hfl : ∃ tl, ((B.gr st).lead x).filter lb = y :: tl := by
            have h1 := List.head?_filter (p := lb) (l := (B.gr st).lead x)
            rw [show lb = fun z => decide (far (B.gr st) z = some m) from funext hlb] at h1 ⊢
            rw [hy1] at h1
            cases q : ((B.gr st).lead x).filter fun z => decide (far (B.gr st) z = some m) with
            | nil => rw [q] at h1; cases h1
            | cons a tl => rw [q] at h1; cases h1; exact ⟨tl, rfl⟩
          obtain ⟨tl, hfl⟩ := hfl
          rw [hfl]
          simp
          refine ⟨by omega, ?_⟩
          rw [show List.map D.str pre ++ [D.str x, D.str y] = ((pre ++ [x]) ++ [y]).map D.str by simp]
          exact hK2 m _ (Nat.lt_succ_self m) ⟨_, pre ++ [x], y, rfl, hy3, by rw [hwy, hy4]; simp, by simp; omega⟩
    · rintro _ ⟨x4, rfl⟩
      simp
      exact ⟨trivial, hr'⟩
end Dk
end

section
set_option Elab.async false
set_option linter.all false
set_option maxRecDepth 100000
set_option maxHeartbeats 4000000
namespace Dk
open L2 Dl Pm
theorem atI_in {α : Type} {l : List α} {r : Int} (h0 : 0 ≤ r) (h1 : r < l.length) : ∃ d, atI l r = some d ∧ d ∈ l := by
  have hl : r.toNat < l.length := by omega
  refine ⟨l[r.toNat], ?_, List.getElem_mem hl⟩
  have e : atI l r = atI l ((r.toNat : Nat) : Int) := by rw [show ((r.toNat : Nat) : Int) = r by omega]
  rw [e, atI_n]
  simp
theorem c__law_pick : Keeps N__law_pick 2 C__law_pick (den__law_pick C__law_draw) := by
  rintro as P - (⟨ds, rfl, ⟨hne, hdl⟩, hp⟩ | ⟨z, rfl, h0, hz, hp⟩)
  · have hpos := List.length_pos_iff.mpr hne
    simp [den__law_pick]
    refine ⟨_, rfl, by omega, fun r h0 h1 => ?_⟩
    obtain ⟨d, e, hd⟩ := atI_in h0 h1
    simp [e]
    exact hp d hd
  · have hsl : z.length ≤ PySem.sizeLine := Nat.le_trans hz (by decide)
    simp [den__law_pick, hsl]
    refine ⟨_, rfl, by omega, fun r h0 h1 => ?_⟩
    obtain ⟨c, e, hc⟩ := atI_in (l := z.cps.toList) h0 (by simpa [PySem.Str.length] using h1)
    simp [e]
    exact ⟨hsl, hp c hc⟩
theorem x_draw {n : Int} {P : D → Prop} (h : (0 < n ∧ n < 1073741824) ∧ ∀ r : Int, 0 ≤ r → r < n → P (.int r)) : C__law_draw [.bag, .val (.int n)] P := ⟨n, rfl, h⟩
theorem perm_ins {α : Type} {es ds : List α} {d : α} (j : Nat) (h : es.Perm ds) : (es.take j ++ [d] ++ es.drop j).Perm (ds ++ [d]) := by
  have h1 : (es.take j ++ [d] ++ es.drop j).Perm ((es.take j ++ es.drop j) ++ [d]) := by
    rw [List.append_assoc, List.append_assoc]
    exact List.Perm.append_left _ List.perm_append_comm
  rw [List.take_append_drop] at h1
  exact h1.trans (h.append_right [d])
theorem c__law_mixed : Keeps N__law_mixed 2 C__law_mixed (den__law_mixed C__law_draw) := by
  rintro as P - ⟨ds, rfl, hl, hp⟩
  simp [den__law_mixed, -forD]
  refine for_by (fun i s => ∃ (x3 : Option Slot) (es : List D), s = [some .bag, some (.val (.lst ds)), some (.own .lst es), x3] ∧ es.Perm (ds.take i)) ⟨none, [], by simp⟩ ?_ ?_
  · rintro i d s K hd ⟨x3, es, rfl, he⟩ hK
    have hi : i < ds.length := (List.getElem?_eq_some_iff.mp hd).1
    have hel : es.length = i := by rw [he.length_eq, List.length_take]; omega
    simp
    refine x_draw ⟨by omega, fun r h0 h1 => ?_⟩
    simp
    refine ⟨h0, by omega, by omega, hK _ ⟨_, _, rfl, ?_⟩⟩
    rw [take_succ_get hd]
    have := perm_ins r.toNat he (d := d)
    simpa using this
  · rintro s ⟨x3, es, rfl, he⟩
    simp
    rw [List.take_length] at he
    exact hp es he
theorem c__law_four : Keeps N__law_four 0 C__law_four den__law_four := by
  rintro as P - ⟨rfl, hp⟩
  simp [den__law_four]
  exact hp
theorem c__law_all_cells : Keeps N__law_all_cells 2 C__law_all_cells den__law_all_cells := by
  rintro as P - ⟨h, w, rfl, h2, w2, hp⟩
  have hh : (-(2 ^ 62) : Int) ≤ h ∧ (h : Int) < 2 ^ 62 := by omega
  have hw : (-(2 ^ 62) : Int) ≤ w ∧ (w : Int) < 2 ^ 62 := by omega
  simp [den__law_all_cells, -forD]
  refine ⟨by omega, ?_⟩
  refine for_by (fun i s => ∃ (x3 : Option Slot), s = [some (.val (.int h)), some (.val (.int w)), some (.val (cellsD (allC i w))), x3, none]) ⟨none, by simp [allC]⟩ ?_ ?_
  · rintro i d s K hd ⟨x3, rfl⟩ hK
    obtain ⟨r, hr, rfl⟩ := map_get hd
    obtain ⟨hi, rfl⟩ := range_get hr
    simp
    refine ⟨by omega, plain_ok (by simp), lcD_by (fun e => match e with | .int c => some (.tup [.int r, .int c]) | _ => none) (by simp; omega) ?_ ?_⟩
    · intro e he K hK
      obtain ⟨c, hc, rfl⟩ := List.mem_map.mp he
      simp
      exact hK
    · rw [List.filterMap_map]
      rw [show ((fun e => match e with | .int c => some (D.tup [.int r, .int c]) | _ => none) ∘ fun k : Nat => D.int ((k : Nat) : Int)) = fun c : Nat => some (cellD (((r : Nat) : Int), ((c : Nat) : Int))) from rfl, filterMap_some]
      simp
      refine ⟨?_, ?_⟩
      · rw [allC_length]
        have := Nat.mul_le_mul (show r ≤ 12 by omega) w2
        omega
      · refine hK _ ⟨some (.val (.int r)), ?_⟩
        rw [allC_succ]
        unfold upC
        rw [cellsD, List.map_append, List.map_map]
        rfl
  · rintro s ⟨x3, rfl⟩
    simp
    simpa using hp
theorem c__law_sizes : Keeps N__law_sizes 1 C__law_sizes (den__law_sizes C__law_draw C__law_pick) := by
  rintro as P - ⟨rfl, hp⟩
  simp [den__law_sizes]
  refine x_draw ⟨by decide, fun r h0 h1 => ?_⟩
  simp
  split
  · refine .inl ⟨_, rfl, by simp, fun d hd => ?_⟩
    simp at hd
    rcases hd with rfl | rfl | rfl | rfl
    · exact hp 12 12 (by decide) (by decide) (by decide) (by decide)
    · exact hp 1 12 (by decide) (by decide) (by decide) (by decide)
    · exact hp 12 1 (by decide) (by decide) (by decide) (by decide)
    · exact hp 7 5 (by decide) (by decide) (by decide) (by decide)
  · refine x_draw ⟨by decide, fun a a0 a1 => ?_⟩
    simp
    refine x_draw ⟨by decide, fun b b0 b1 => ?_⟩
    simp
    obtain ⟨x, rfl⟩ := Int.eq_ofNat_of_zero_le a0
    obtain ⟨y, rfl⟩ := Int.eq_ofNat_of_zero_le b0
    have := hp (1 + x) (1 + y) (by omega) (by omega) (by omega) (by omega)
    simpa using this
theorem x_four {P : D → Prop} (h : P (cellsD [(-1, 0), (0, -1), (0, 1), (1, 0)])) : C__law_four [] P := ⟨rfl, h⟩
theorem c__law_sides : Keeps N__law_sides 3 C__law_sides (den__law_sides C__law_four) := by
  rintro as P - ⟨h, w, c, rfl, hp⟩
  simp [den__law_sides]
  refine x_four ?_
  simp
  refine ⟨plain_ok (by simp), lcD_by (fun e => some (cellD (c.1 + (toC e).1, c.2 + (toC e).2))) (by simp) ?_ ?_⟩
  · intro e he K hK
    simp at he
    rcases he with rfl | rfl | rfl | rfl <;>
    · simp [toC] at hK ⊢
      exact hK
  · rw [filterMap_some]
    simp [toC]
    refine ⟨plain_ok (by simp), lcD_by (fun d => if decide (onB h w (toC d)) = true then some d else none) (by simp) ?_ ?_⟩
    · intro e he K hK
      obtain ⟨x, y, rfl⟩ : ∃ x y, e = cellD (x, y) := by
        simp at he
        rcases he with rfl | rfl | rfl | rfl
        · exact ⟨_, _, rfl⟩
        · exact ⟨_, _, rfl⟩
        · exact ⟨_, _, rfl⟩
        · exact ⟨_, _, rfl⟩
      simp [toC, onB] at hK ⊢
      by_cases e1 : 0 ≤ x
      · by_cases e2 : x < h
        · by_cases e3 : 0 ≤ y
          · by_cases e4 : y < w <;> simpa [e1, e2, e3, e4] using hK
          · simpa [e1, e2, e3] using hK
        · simpa [e1, e2] using hK
      · simpa [e1] using hK
    · have e4 : [D.tup [.int (c.1 + -1), .int c.2], D.tup [.int c.1, .int (c.2 + -1)], D.tup [.int c.1, .int (c.2 + 1)], D.tup [.int (c.1 + 1), .int c.2]] = (four c).map cellD := by
        simp [four, Int.sub_eq_add_neg]
      rw [e4, filterMap_cells (g := fun d => decide (onB h w d)) (fun c => rfl)]
      exact hp
end Dk
end

section
set_option Elab.async false
set_option linter.all false
set_option maxRecDepth 100000
set_option maxHeartbeats 4000000
namespace Dk
open L2 Dl Pm
abbrev Lts : List Nat := ("abcdefghijklmnopqrstuvwxyz" : PySem.Str).cps.toList
theorem rel_mem {R : D → Option D → Prop} {ds : List D} {outs : List (Option D)} (hl : outs.length = ds.length) (h : ∀ (i : Nat) (d : D) (o : Option D), ds[i]? = some d → outs[i]? = some o → R d o) : ∀ o, o ∈ outs → ∃ d, d ∈ ds ∧ R d o := by
  intro o ho
  obtain ⟨i, hi, e⟩ := List.getElem_of_mem ho
  have hd : i < ds.length := by omega
  refine ⟨ds[i], List.getElem_mem hd, h i _ o (List.getElem?_eq_getElem hd) ?_⟩
  rw [List.getElem?_eq_getElem hi, e]
theorem outs_signs : ∀ {outs : List (Option D)}, (∀ o, o ∈ outs → ∃ c, c ∈ Lts ∧ o = some (.str ⟨#[c]⟩)) → ∃ cs : List Nat, outs.filterMap id = cs.map (fun c => D.str ⟨#[c]⟩) ∧ cs.length = outs.length ∧ ∀ c, c ∈ cs → c ∈ Lts
  | [], _ => ⟨[], rfl, rfl, by simp⟩
  | o :: outs, h => by
    obtain ⟨c, hc, rfl⟩ := h o List.mem_cons_self
    obtain ⟨cs, e1, e2, e3⟩ := outs_signs fun o ho => h o (List.mem_cons_of_mem _ ho)
    refine ⟨c :: cs, by simp [e1], by simp [e2], fun x hx => ?_⟩
    rcases List.mem_cons.mp hx with z | z
    · rw [z]; exact hc
    · exact e3 x z
theorem joinL_nil : ∀ ls : List (List Nat), TL.joinL [] ls = ls.flatten
  | [] => rfl
  | [p] => by simp [TL.joinL]
  | p :: q :: r => by
    rw [TL.joinL, joinL_nil (q :: r)]
    simp
theorem join_signs (cs : List Nat) : (PySem.Txt.join "" (cs.map fun c => (⟨#[c]⟩ : PySem.Str))).cps.toList = cs := by
  have e := TL.tl_join "" (cs.map fun c => (⟨#[c]⟩ : PySem.Str))
  rw [← TL.join_eq] at e
  have e0 : TL.tl ("" : PySem.Str) = [] := by decide +kernel
  rw [e0, joinL_nil, List.map_map] at e
  refine Eq.trans e ?_
  rw [show (TL.tl ∘ fun c => (⟨#[c]⟩ : PySem.Str)) = fun c => [c] from rfl]
  clear e
  induction cs with
  | nil => rfl
  | cons c cs ih => simp [ih]
theorem x_pickS {z : PySem.Str} {P : D → Prop} (h : 0 < z.length ∧ z.length ≤ 100 ∧ ∀ c, c ∈ z.cps.toList → P (.str ⟨#[c]⟩)) : C__law_pick [.bag, .val (.str z)] P := .inr ⟨z, rfl, h⟩
theorem c__law_word : Keeps N__law_word 2 C__law_word (den__law_word C__law_draw C__law_pick) := by
  rintro as P - ⟨rfl, hp⟩
  show den__law_word _ _ [some .bag, some (.val (.int 6)), none, none] _
  unfold den__law_word
  refine seq_to [some .bag, some (.val (.int 6)), some (.val (.str "abcdefghijklmnopqrstuvwxyz")), none] ?_ ?_
  · intro K hK
    exact hK
  simp
  refine x_draw ⟨by decide, fun r h0 h1 => ?_⟩
  simp
  refine ⟨by omega, by omega, plain_ok (by simp), ?_⟩
  refine lcD_rel (fun _ o => ∃ c, c ∈ Lts ∧ o = some (.str ⟨#[c]⟩)) _ _ _ (by simp; omega) ?_ ?_
  · intro d hd K hK
    obtain ⟨k, hk, rfl⟩ := List.mem_map.mp hd
    simp
    refine x_pickS ⟨by decide +kernel, by decide +kernel, fun c hc => ?_⟩
    exact hK _ ⟨c, hc, rfl⟩
  · intro outs hl hr
    obtain ⟨cs, e1, e2, e3⟩ := outs_signs fun o ho => by
      obtain ⟨d, _, h⟩ := rel_mem hl hr o ho
      exact h
    rw [List.nil_append, e1]
    have hcl : cs.length = (1 + r).toNat := by rw [e2, hl]; simp
    refine ⟨_, toStrs_f (fun c => (⟨#[c]⟩ : PySem.Str)) cs, ?_, hp _ ⟨?_, ?_, ?_⟩⟩
    · rw [List.map_map, show ((fun x : PySem.Str => x.length) ∘ fun c => (⟨#[c]⟩ : PySem.Str)) = Function.const Nat 1 from rfl, List.map_const, List.sum_replicate_nat]
      omega
    · unfold PySem.Str.length
      rw [← Array.length_toList, join_signs]
      omega
    · unfold PySem.Str.length
      rw [← Array.length_toList, join_signs]
      omega
    · intro c hc
      rw [join_signs] at hc
      exact e3 c hc
theorem cut_mem {z : PySem.Str} {lo hi : Option Int} {c : Nat} (h : c ∈ (cutS z lo hi).cps.toList) : c ∈ z.cps.toList := by
  unfold cutS at h
  simp only [List.toList_toArray] at h
  exact List.mem_of_mem_drop (List.mem_of_mem_take h)
theorem len_tl {z : PySem.Str} : z.length = z.cps.toList.length := by
  unfold PySem.Str.length
  simp
theorem cut_len {z : PySem.Str} {lo hi : Option Int} : (cutS z lo hi).length ≤ z.length := by
  rw [len_tl, len_tl]
  unfold cutS
  simp only [List.toList_toArray, List.length_take, List.length_drop]
  omega
theorem cut_to {z : PySem.Str} (k : Nat) : (cutS z none (some (k : Int))).length = min k z.length := by
  rw [len_tl, len_tl]
  unfold cutS
  rw [HT.sIx_nat, HT.sIx_none]
  simp only [List.toList_toArray, List.length_take, List.length_drop, len_tl]
  omega
theorem app_len {x y : PySem.Str} : (x ++ y).length = x.length + y.length := by
  rw [len_tl, len_tl, len_tl]
  have := TL.tl_append x y
  rw [show (x ++ y).cps.toList = x.cps.toList ++ y.cps.toList from this, List.length_append]
theorem app_mem {x y : PySem.Str} {c : Nat} (h : c ∈ (x ++ y).cps.toList) : c ∈ x.cps.toList ∨ c ∈ y.cps.toList := by
  have := TL.tl_append x y
  rw [show (x ++ y).cps.toList = x.cps.toList ++ y.cps.toList from this] at h
  exact List.mem_append.mp h
/-- an older name with a letter of another put in, cut to six -/
theorem mix_valid {o w : PySem.Str} (ho : validN o) (hw : validN w) (a b : Option Int) : validN (cutS (cutS o none a ++ cutS w none (some 1) ++ cutS o b none) none (some 6)) := by
  have h1 : (cutS w none (some 1)).length = 1 := by
    have := cut_to (z := w) 1
    have := hw.1
    simp only [Int.natCast_one] at *
    omega
  refine ⟨?_, ?_, fun c hc => ?_⟩
  · have := cut_to (z := cutS o none a ++ cutS w none (some 1) ++ cutS o b none) 6
    rw [app_len, app_len, h1] at this
    have e : ((6 : Nat) : Int) = 6 := rfl
    rw [e] at this
    omega
  · have := cut_to (z := cutS o none a ++ cutS w none (some 1) ++ cutS o b none) 6
    have e : ((6 : Nat) : Int) = 6 := rfl
    rw [e] at this
    omega
  · rcases app_mem (cut_mem hc) with z | z
    · rcases app_mem z with y | y
      · exact ho.2.2 c (cut_mem y)
      · exact hw.2.2 c (cut_mem y)
    · exact ho.2.2 c (cut_mem z)
abbrev Alt : List PySem.Str := ("abcdefghijklmnop" : PySem.Str).cps.toList.map fun c => ⟨#[c]⟩
theorem alt_nodup : Alt.Nodup := by decide +kernel
theorem alt_len : Alt.length = 16 := by decide +kernel
theorem alt_valid : ∀ x, x ∈ Alt → validN x := by
  intro x hx
  obtain ⟨c, hc, rfl⟩ := List.mem_map.mp hx
  refine ⟨Nat.le_refl _, show 1 ≤ 6 by decide, fun d hd => ?_⟩
  have e : d = c := by simpa using hd
  subst e
  have : ∀ c, c ∈ ("abcdefghijklmnop" : PySem.Str).cps.toList → c ∈ Lts := by decide +kernel
  exact this _ hc
theorem alt_signs : signs "abcdefghijklmnop" = Alt.map D.str := by
  unfold signs Alt
  rw [List.map_map]
  rfl
theorem any_strs {ns : List PySem.Str} {x : PySem.Str} : ((ns.map D.str).any fun z => eqF z (.str x)) = decide (x ∈ ns) := by
  induction ns with
  | nil => simp
  | cons a ns ih =>
    rw [List.map_cons, List.any_cons, ih]
    simp only [eqF, List.mem_cons]
    by_cases e : a = x
    · subst e; simp
    · have e' : ¬ x = a := fun z => e z.symm
      simp [e, e']
theorem all_strs {ns : List PySem.Str} {x : PySem.Str} : (ns.map D.str).all (sameK (.str x)) = true := by
  induction ns with
  | nil => rfl
  | cons a ns ih => rw [List.map_cons, List.all_cons, ih]; rfl
theorem c__law_names : Keeps N__law_names 2 C__law_names (den__law_names C__law_word C__law_draw C__law_pick) := by
  rintro as P - ⟨m, rfl, hm, hp⟩
  show den__law_names _ _ _ [some .bag, some (.val (.int m)), none, none, none, none, none, none] _
  unfold den__law_names
  refine seq_to [some .bag, some (.val (.int m)), some (.own .lst []), none, none, none, none, none] ?_ ?_
  · intro K hK
    simp
    exact hK
  refine seq_by (fun s => ∃ (x3 x4 x5 x6 : Option Slot) (ns : List PySem.Str), s = [some .bag, some (.val (.int m)), some (.own .lst (ns.map .str)), x3, x4, x5, x6, none] ∧ ns.Nodup ∧ ns.length = m ∧ ∀ x, x ∈ ns → validN x) ?_ ?_
  · intro K hK
    simp [-forD]
    refine ⟨by omega, ?_⟩
    refine for_by (fun i s => ∃ (x3 x4 x5 x6 : Option Slot) (ns : List PySem.Str), s = [some .bag, some (.val (.int m)), some (.own .lst (ns.map .str)), x3, x4, x5, x6, none] ∧ ns.Nodup ∧ ns.length = i ∧ ∀ x, x ∈ ns → validN x) ⟨none, none, none, none, [], by simp⟩ ?_ ?_
    · rintro i d s K2 hd ⟨x3, x4, x5, x6, ns, rfl, nd, nl, nv⟩ hK2
      obtain ⟨k, hk, rfl⟩ := map_get hd
      obtain ⟨hi, rfl⟩ := range_get hk
      show dSeq _ _ [some .bag, some (.val (.int m)), some (.own .lst (ns.map .str)), some (.val (.int k)), x4, x5, x6, none] _
      refine seq_by (fun s => ∃ w : PySem.Str, validN w ∧ s = [some .bag, some (.val (.int m)), some (.own .lst (ns.map .str)), some (.val (.int k)), some (.val (.str w)), x5, x6, none]) ?_ ?_
      · intro K hK
        simp
        exact ⟨rfl, fun w hw => hK _ ⟨w, hw, rfl⟩⟩
      rintro _ ⟨w, hw, rfl⟩
      refine seq_by (fun s => ∃ (w : PySem.Str) (x5 x6 : Option Slot), validN w ∧ s = [some .bag, some (.val (.int m)), some (.own .lst (ns.map .str)), some (.val (.int k)), some (.val (.str w)), x5, x6, none]) ?_ ?_
      · intro K hK
        simp
        refine ⟨shp_strs nv, ?_⟩
        have hstay : K [some .bag, some (.val (.int m)), some (.own .lst (ns.map .str)), some (.val (.int k)), some (.val (.str w)), x5, x6, none] := hK _ ⟨w, x5, x6, hw, rfl⟩
        cases hns : ns with
        | nil => rw [hns] at hstay; simpa using hstay
        | cons a tl =>
          rw [← hns]
          have hne : ns.map D.str ≠ [] := by rw [hns]; simp
          have hne2 : ns ≠ [] := by rw [hns]; simp
          simp [hne2]
          refine x_draw ⟨by decide, fun r h0 h1 => ?_⟩
          simp
          split
          · refine .inl ⟨_, rfl, ⟨hne, by simp; omega⟩, fun d hd => ?_⟩
            obtain ⟨o, ho, rfl⟩ := List.mem_map.mp hd
            have hov := nv o ho
            have l1 := letters_le hov
            have l2 := letters_le hw
            have ho1 := hov.1
            have ho6 := hov.2.1
            have hw6 := hw.2.1
            have c1 : ∀ a b, (cutS o a b).length ≤ 6 := fun a b => Nat.le_trans cut_len ho6
            have c2 : ∀ a b, (cutS w a b).length ≤ 6 := fun a b => Nat.le_trans cut_len hw6
            have hsz : (18 : Nat) ≤ PySem.sizeLine := by decide
            simp [l1, l2]
            refine x_draw ⟨by omega, fun at1 _ _ => ?_⟩
            simp
            have q1 := c1 none (some at1)
            have q2 := c2 none (some 1)
            refine ⟨by omega, ?_⟩
            refine x_draw ⟨by decide, fun dd _ _ => ?_⟩
            simp
            have q3 := c1 (some (at1 + dd)) none
            refine ⟨by rw [app_len]; omega, by rw [app_len, app_len]; omega, ?_⟩
            exact hK _ ⟨_, _, _, mix_valid hov hw _ _, rfl⟩
          · exact hstay
      · rintro _ ⟨w, x5, x6, hw, rfl⟩
        have hcv : ∀ x, x ∈ w :: Alt → validN x := fun x hx => by
          rcases List.mem_cons.mp hx with z | z
          · rw [z]; exact hw
          · exact alt_valid x z
        have hex : ∃ y tl, (w :: Alt).filter (fun x => !decide (x ∈ ns)) = y :: tl := by
          cases q : (w :: Alt).filter (fun x => !decide (x ∈ ns)) with
          | cons y tl => exact ⟨y, tl, rfl⟩
          | nil =>
            have h1 : Alt.length ≤ ns.length := nodup_len2 alt_nodup fun x hx => by
              have := List.filter_eq_nil_iff.mp q x (List.mem_cons_of_mem _ hx)
              simpa using this
            rw [alt_len] at h1
            omega
        obtain ⟨y, tl, hy⟩ := hex
        have hym : y ∈ w :: Alt ∧ y ∉ ns := by
          have : y ∈ (w :: Alt).filter (fun x => !decide (x ∈ ns)) := by rw [hy]; exact List.mem_cons_self
          rw [List.mem_filter] at this
          simpa using this
        simp
        refine ⟨by decide +kernel, ?_⟩
        rw [alt_signs]
        refine ⟨by simp; decide +kernel, plain_ok (by simp), lcD_by (fun d => if (!decide (toS d ∈ ns)) = true then some d else none) (by simp; decide +kernel) ?_ ?_⟩
        · intro d hd K hK
          have hd2 : d ∈ (w :: Alt).map D.str := hd
          obtain ⟨x, hx, rfl⟩ := List.mem_map.mp hd2
          have hK' : K (if (!decide (x ∈ ns)) = true then some (.str x) else none) := hK
          have ha := all_strs (ns := ns) (x := x)
          have hb := any_strs (ns := ns) (x := x)
          simp [ha, hb, flatD, -List.all_map, -List.any_map, -List.all_eq_true, -List.any_eq_true]
          by_cases q : x ∈ ns
          · simpa [q] using hK'
          · simpa [q] using hK'
        · have e : D.str w :: Alt.map D.str = (w :: Alt).map D.str := rfl
          rw [e, filterMap_strs (g := fun x => !decide (x ∈ ns)) (fun c => rfl), hy]
          simp
          refine ⟨by omega, ?_⟩
          rw [show List.map D.str ns ++ [D.str y] = (ns ++ [y]).map D.str by simp]
          refine hK2 _ ⟨_, _, _, _, ns ++ [y], rfl, ?_, by simp; omega, fun x hx => ?_⟩
          · rw [← putL_new hym.2]; exact putL_nodup nd
          · rcases List.mem_append.mp hx with z | z
            · exact nv x z
            · rw [List.mem_singleton.mp z]; exact hcv y hym.1
    · rintro s ⟨x3, x4, x5, x6, ns, rfl, nd, nl, nv⟩
      exact hK _ ⟨_, _, _, _, ns, rfl, nd, by simpa using nl, nv⟩
  · rintro _ ⟨x3, x4, x5, x6, ns, rfl, nd, nl, nv⟩
    simp
    exact hp ns nd nl nv
end Dk
end

section
set_option Elab.async false
set_option linter.all false
set_option maxRecDepth 100000
set_option maxHeartbeats 4000000
namespace Dk
open L2 Dl Pm
theorem x_all {h w : Nat} {P : D → Prop} (q : h ≤ 12 ∧ w ≤ 12 ∧ P (cellsD (allC h w))) : C__law_all_cells [.val (.int h), .val (.int w)] P := ⟨h, w, rfl, q⟩
theorem x_sides {h w : Nat} {c : Cell} {P : D → Prop} (q : P (cellsD (nbs h w c))) : C__law_sides [.val (.int h), .val (.int w), .val (cellD c)] P := ⟨h, w, c, rfl, q⟩
theorem x_pick {ds : List D} {P : D → Prop} (q : (ds ≠ [] ∧ ds.length < 1000) ∧ ∀ d, d ∈ ds → P d) : C__law_pick [.bag, .val (.lst ds)] P := .inl ⟨ds, rfl, q⟩
theorem putF_nm {nm : Cell → PySem.Str} {c : Cell} {n : PySem.Str} : putF (fun x => D.str (nm x)) c (.str n) = fun x => .str (putN nm c n x) := by
  funext x
  unfold putF putN
  split <;> rfl
theorem erase_perm {α : Type} : ∀ {l : List α} {i : Nat} {c : α}, l[i]? = some c → (c :: l.eraseIdx i).Perm l
  | [], i, c, h => by simp at h
  | a :: l, 0, c, h => by
    simp at h
    subst h
    simp
  | a :: l, i + 1, c, h => by
    have := erase_perm (l := l) (i := i) (c := c) (by simpa using h)
    rw [List.eraseIdx_cons_succ]
    exact (List.Perm.swap a c _).trans (List.Perm.cons a this)
theorem erase_map {α β : Type} (f : α → β) : ∀ (l : List α) (i : Nat), (l.map f).eraseIdx i = (l.eraseIdx i).map f
  | [], i => by simp
  | a :: l, 0 => by simp
  | a :: l, i + 1 => by
    rw [List.map_cons, List.eraseIdx_cons_succ, List.eraseIdx_cons_succ, List.map_cons, erase_map f l i]
structure Gw (h w : Nat) (ns : List PySem.Str) (cs : List Cell) (nm : Cell → PySem.Str) : Prop where
  nd : cs.Nodup
  on : ∀ c, c ∈ cs → c ∈ allC h w
  gi : Gi cs nm
  na : ∀ c, c ∈ cs → nm c ∈ ns
theorem Gw.len {h w : Nat} {ns : List PySem.Str} {cs : List Cell} {nm : Cell → PySem.Str} (g : Gw h w ns cs nm) (h2 : h ≤ 12) (w2 : w ≤ 12) : cs.length ≤ h * w ∧ h * w ≤ 144 := by
  have := nodup_len2 g.nd g.on
  rw [allC_length] at this
  exact ⟨this, Nat.mul_le_mul h2 w2⟩
theorem filterMap_cells2 {β : Type} {f : D → Option β} {g : Cell → Bool} {v : Cell → β} (hf : ∀ c, f (cellD c) = if g c = true then some (v c) else none) : ∀ l : List Cell, (l.map cellD).filterMap f = (l.filter g).map v
  | [] => rfl
  | c :: l => by
    rw [List.map_cons, List.filterMap_cons, hf, List.filter_cons]
    by_cases e : g c = true
    · rw [if_pos e, if_pos e, List.map_cons, filterMap_cells2 hf l]
    · rw [if_neg e, if_neg e, filterMap_cells2 hf l]
theorem c__law_grown : Keeps N__law_grown 4 C__law_grown (den__law_grown C__law_all_cells C__law_draw C__law_sides C__law_pick) := by
  rintro as P - ⟨h, w, ns, rfl, h1, h2, w1, w2, nnd, nne, nva, hp⟩
  have hsz : h * w ≤ 144 := Nat.mul_le_mul h2 w2
  have hsz1 : 1 ≤ h * w := Nat.mul_le_mul h1 w1
  show den__law_grown _ _ _ _ [some .bag, some (.val (.int h)), some (.val (.int w)), some (.val (strsD ns)), none, none, none, none, none, none, none, none] _
  unfold den__law_grown
  refine seq_to [some .bag, some (.val (.int h)), some (.val (.int w)), some (.val (strsD ns)), some (.val (cellsD (allC h w))), some (.own (.dt []) []), none, none, none, none, none, none] ?_ ?_
  · intro K hK
    simp
    exact x_all ⟨h2, w2, hK⟩
  refine seq_to [some .bag, some (.val (.int h)), some (.val (.int w)), some (.val (strsD ns)), some (.val (cellsD (allC h w))), some (.own (.dt []) []), some (.own .lst ((allC h w).map cellD)), none, none, none, none, none] ?_ ?_
  · intro K hK
    simp
    exact hK
  refine seq_by (fun s => ∃ (x7 : Option Slot) (cs : List Cell) (nm : Cell → PySem.Str) (left : List Cell), s = [some .bag, some (.val (.int h)), some (.val (.int w)), some (.val (strsD ns)), some (.val (cellsD (allC h w))), some (.own (.dt (cs.map keyC)) (cs.map fun c => .str (nm c))), some (.own .lst (left.map cellD)), x7, none, none, none, none] ∧
    Gw h w ns cs nm ∧ left.Nodup ∧ (∀ c, c ∈ left ↔ c ∈ allC h w ∧ c ∉ cs) ∧ 1 ≤ cs.length) ?_ ?_
  · intro K hK
    simp [-forD]
    refine for_by (fun i s => ∃ (x7 : Option Slot) (cs : List Cell) (nm : Cell → PySem.Str) (left : List Cell), s = [some .bag, some (.val (.int h)), some (.val (.int w)), some (.val (strsD ns)), some (.val (cellsD (allC h w))), some (.own (.dt (cs.map keyC)) (cs.map fun c => .str (nm c))), some (.own .lst (left.map cellD)), x7, none, none, none, none] ∧
      Gw h w ns cs nm ∧ left.Nodup ∧ (∀ c, c ∈ left ↔ c ∈ allC h w ∧ c ∉ cs) ∧ (∀ c, c ∈ cs → nm c ∈ ns.take i) ∧ (1 ≤ i → 1 ≤ cs.length)) ⟨none, [], fun _ => "", allC h w, by simp, ⟨by simp, by simp, gi_nil, by simp⟩, allC_nodup, by simp, by simp, by omega⟩ ?_ ?_
    · rintro i d s Kk hd ⟨x7, cs, nm, left, rfl, g, ln, lm, hu, hone⟩ hK
      obtain ⟨n, hn, rfl⟩ := map_get hd
      have gl := (g.len h2 w2).1
      have htk : ∀ c, c ∈ cs → nm c ∈ ns.take (i + 1) := fun c hc => by
        rw [take_succ_get hn]
        exact List.mem_append_left _ (hu c hc)
      have hll : left.length ≤ h * w := by
        have := nodup_len2 ln fun c hc => ((lm c).mp hc).1
        rwa [allC_length] at this
      simp [-dlook, -dputE]
      refine ⟨shp_cells left, ?_⟩
      by_cases hl : left = []
      · subst hl
        simp [-dlook, -dputE]
        refine hK _ ⟨_, cs, nm, [], rfl, g, ln, lm, htk, fun _ => ?_⟩
        rcases Nat.eq_zero_or_pos cs.length with z | z
        · have : cs = [] := List.length_eq_zero_iff.mp z
          subst this
          have h0 : ((0 : Int), (0 : Int)) ∈ allC h w := mem_allC.mpr (by unfold onB; simp only; omega)
          exact absurd ((lm _).mpr ⟨h0, by simp⟩) (by simp)
        · exact z
      · simp [hl, -dlook, -dputE]
        have hlp : 0 < left.length := List.length_pos_iff.mpr hl
        refine x_draw ⟨by omega, fun r r0 r1 => ?_⟩
        have hr : r.toNat < left.length := by omega
        obtain ⟨c, hc⟩ : ∃ c, left[r.toNat]? = some c := ⟨_, List.getElem?_eq_getElem hr⟩
        simp [hc, r0, -dlook, -dputE]
        have hcl : c ∈ left := List.mem_of_getElem? hc
        have hperm : (c :: left.eraseIdx r.toNat).Perm left := erase_perm hc
        have hcc : c ∉ cs := ((lm c).mp hcl).2
        refine ⟨by omega, by omega, ?_⟩
        rw [putF_nm, putL_new (show (c.1, c.2) ∉ cs from hcc)]
        rw [erase_map]
        have hnd2 := hperm.nodup_iff.mpr ln
        rw [List.nodup_cons] at hnd2
        have hnew : ∀ x, x ∈ cs → nm x ≠ n := fun x hx e => nodup_take_new nnd hn (e ▸ hu x hx)
        refine hK _ ⟨_, cs ++ [c], putN nm c n, left.eraseIdx r.toNat, rfl, ⟨?_, ?_, gi_new g.gi hcc hnew, ?_⟩, hnd2.2, fun x => ?_, ?_, fun _ => by simp⟩
        · rw [← putL_new hcc]; exact putL_nodup g.nd
        · intro x hx
          rcases List.mem_append.mp hx with z | z
          · exact g.on x z
          · rw [List.mem_singleton.mp z]; exact ((lm c).mp hcl).1
        · intro x hx
          rcases List.mem_append.mp hx with z | z
          · rw [putN_of hcc z]; exact g.na x z
          · rw [List.mem_singleton.mp z, putN_self]; exact List.mem_of_getElem? hn
        · have h3 := hperm.mem_iff (a := x)
          rw [lm, List.mem_cons] at h3
          constructor
          · intro hx
            obtain ⟨h4, h5⟩ := h3.mp (.inr hx)
            refine ⟨h4, fun z => ?_⟩
            rcases List.mem_append.mp z with y | y
            · exact h5 y
            · rw [List.mem_singleton.mp y] at hx; exact hnd2.1 hx
          · rintro ⟨h4, h5⟩
            rcases h3.mpr ⟨h4, fun z => h5 (List.mem_append_left _ z)⟩ with z | z
            · exact (h5 (by rw [z]; simp)).elim
            · exact z
        · intro x hx
          rcases List.mem_append.mp hx with z | z
          · rw [putN_of hcc z]; exact htk x z
          · rw [List.mem_singleton.mp z, putN_self, take_succ_get hn]; simp
    · rintro s ⟨x7, cs, nm, left, rfl, g, ln, lm, hu, hone⟩
      refine hK _ ⟨_, cs, nm, left, rfl, g, ln, lm, hone ?_⟩
      rw [List.length_map]
      exact List.length_pos_iff.mpr nne
  · rintro _ ⟨x7, cs, nm, left, rfl, g, ln, lm, hone⟩
    simp [-forD, -dlook, -dputE]
    rw [allC_length]
    refine ⟨by omega, ?_⟩
    refine for_by (fun t s => ∃ (x7 x8 x9 x10 x11 : Option Slot) (cs : List Cell) (nm : Cell → PySem.Str) (left : List Cell), s = [some .bag, some (.val (.int h)), some (.val (.int w)), some (.val (strsD ns)), some (.val (cellsD (allC h w))), some (.own (.dt (cs.map keyC)) (cs.map fun c => .str (nm c))), some (.val (cellsD left)), x7, x8, x9, x10, x11] ∧ (x9 = none ∨ ∃ d, x9 = some (.val d)) ∧ (x11 = none ∨ ∃ d, x11 = some (.val d)) ∧
      Gw h w ns cs nm ∧ left.Nodup ∧ (∀ c, c ∈ left ↔ c ∈ allC h w ∧ c ∉ cs) ∧ t + 1 ≤ cs.length) ⟨x7, none, none, none, none, cs, nm, left, by simp, .inl rfl, .inl rfl, g, ln, lm, by omega⟩ ?_ ?_
    · rintro t d s Kk hd ⟨x7, x8, x9, x10, x11, cs, nm, left, rfl, hx9, hx11, g, ln, lm, hone⟩ hK
      have hgl := (g.len h2 w2).1
      show dSeq _ _ [some .bag, some (.val (.int h)), some (.val (.int w)), some (.val (strsD ns)), some (.val (cellsD (allC h w))), some (.own (.dt (cs.map keyC)) (cs.map fun c => .str (nm c))), some (.val (cellsD left)), x7, some (.val d), x9, x10, x11] _
      refine seq_by (fun s => ∃ (x9 x10 : Option Slot) (cs2 : List Cell) (nm2 : Cell → PySem.Str), s = [some .bag, some (.val (.int h)), some (.val (.int w)), some (.val (strsD ns)), some (.val (cellsD (allC h w))), some (.own (.dt (cs2.map keyC)) (cs2.map fun c => .str (nm2 c))), some (.val (cellsD left)), x7, some (.val d), x9, x10, x11] ∧ (x9 = none ∨ ∃ d, x9 = some (.val d)) ∧
        Gw h w ns cs2 nm2 ∧ (∀ c, c ∈ cs → c ∈ cs2) ∧ (∀ c, c ∈ left → (∃ d, d ∈ nbs h w c ∧ d ∈ cs) → c ∈ cs2)) ?_ ?_
      · intro K hK
        simp [-forD, -dlook, -dputE]
        refine for_by (fun j s => ∃ (x9 x10 : Option Slot) (cs2 : List Cell) (nm2 : Cell → PySem.Str), s = [some .bag, some (.val (.int h)), some (.val (.int w)), some (.val (strsD ns)), some (.val (cellsD (allC h w))), some (.own (.dt (cs2.map keyC)) (cs2.map fun c => .str (nm2 c))), some (.val (cellsD left)), x7, some (.val d), x9, x10, x11] ∧ (x9 = none ∨ ∃ d, x9 = some (.val d)) ∧
          Gw h w ns cs2 nm2 ∧ (∀ c, c ∈ cs → c ∈ cs2) ∧ (∀ c, c ∈ cs2 → c ∈ cs ∨ c ∈ left.take j) ∧ (∀ c, c ∈ left.take j → (∃ d, d ∈ nbs h w c ∧ d ∈ cs) → c ∈ cs2)) ⟨x9, x10, cs, nm, by simp, hx9, g, fun _ hc => hc, fun _ hc => .inl hc, by simp⟩ ?_ ?_
        · rintro j e s Kk hd ⟨x9, x10, cs2, nm2, rfl, hx9, g2, up, dn, pr⟩ hK
          obtain ⟨c, hc, rfl⟩ := map_get hd
          have hcl : c ∈ left := List.mem_of_getElem? hc
          have hcc : c ∉ cs2 := fun z => by
            rcases dn c z with y | y
            · exact ((lm c).mp hcl).2 y
            · exact nodup_take_new ln hc y
          have hgl2 := (g2.len h2 w2).1
          obtain ⟨lb, hlb⟩ : ∃ lb : Cell → Bool, ∀ z, lb z = decide (z ∈ cs2) := ⟨fun z => decide (z ∈ cs2), fun z => rfl⟩
          show dSeq _ _ [some .bag, some (.val (.int h)), some (.val (.int w)), some (.val (strsD ns)), some (.val (cellsD (allC h w))), some (.own (.dt (cs2.map keyC)) (cs2.map fun c => .str (nm2 c))), some (.val (cellsD left)), x7, some (.val d), some (.val (cellD c)), x10, x11] _
          refine seq_to [some .bag, some (.val (.int h)), some (.val (.int w)), some (.val (strsD ns)), some (.val (cellsD (allC h w))), some (.own (.dt (cs2.map keyC)) (cs2.map fun c => .str (nm2 c))), some (.val (cellsD left)), x7, some (.val d), some (.val (cellD c)), some (.val (strsD (((nbs h w c).filter lb).map nm2))), x11] ?_ ?_
          · intro K hK
            simp [-dlook, -dputE]
            refine x_sides ?_
            simp [-dlook, -dputE]
            refine ⟨plain_ok (by simpa using hx11), lcD_by (fun e => if lb (toC e) = true then some (.str (nm2 (toC e))) else none) (by have := nbs_len (h := h) (w := w) (c := c); simp; omega) ?_ ?_⟩
            · intro e he K hK
              obtain ⟨y, hy, rfl⟩ := List.mem_map.mp he
              have hK' : K (if lb y = true then some (.str (nm2 y)) else none) := hK
              have e0 := hlb y
              simp [-dlook, -dputE]
              by_cases q : y ∈ cs2
              · rw [decide_eq_true q] at e0
                simp [q, -dlook, -dputE]
                rwa [if_pos e0] at hK'
              · rw [decide_eq_false q] at e0
                simp [q, -dlook, -dputE]
                rwa [if_neg (by rw [e0]; decide)] at hK'
            · rw [filterMap_cells2 (g := lb) (v := fun y => .str (nm2 y)) (fun c => rfl)]
              have e : strsD (((nbs h w c).filter lb).map nm2) = .lst (((nbs h w c).filter lb).map fun y => .str (nm2 y)) := by simp [Function.comp_def]
              rw [e] at hK
              exact hK
          · have hnv : ∀ x, x ∈ ((nbs h w c).filter lb).map nm2 → ∃ y, y ∈ nbs h w c ∧ y ∈ cs2 ∧ nm2 y = x := fun x hx => by
              obtain ⟨y, hy, rfl⟩ := List.mem_map.mp hx
              rw [List.mem_filter, hlb, decide_eq_true_eq] at hy
              exact ⟨y, hy.1, hy.2, rfl⟩
            have hstep : ∀ x, x ∈ left.take (j + 1) → x ∈ left.take j ∨ x = c := fun x hx => by
              rw [take_succ_get hc] at hx
              simpa using hx
            have hdn : ∀ x, x ∈ cs2 → x ∈ cs ∨ x ∈ left.take (j + 1) := fun x hx => by
              rcases dn x hx with z | z
              · exact .inl z
              · rw [take_succ_get hc]; exact .inr (List.mem_append_left _ z)
            have hNm : ∀ y, y ∈ nbs h w c → y ∈ cs2 → nm2 y ∈ ((nbs h w c).filter lb).map nm2 := fun y hy hy2 => List.mem_map.mpr ⟨y, List.mem_filter.mpr ⟨hy, by rw [hlb]; exact decide_eq_true hy2⟩, rfl⟩
            generalize hN : ((nbs h w c).filter lb).map nm2 = N
            rw [hN] at hnv hNm
            simp [-dlook, -dputE]
            refine ⟨shp_strs fun x hx => ?_, ?_⟩
            · obtain ⟨y, _, hy, rfl⟩ := hnv x hx
              exact nva _ (g2.na y hy)
            by_cases hNe : N = []
            · rw [if_pos hNe]
              refine hK _ ⟨_, _, cs2, nm2, rfl, .inr ⟨_, rfl⟩, g2, up, hdn, fun x hx hd => ?_⟩
              rcases hstep x hx with z | z
              · exact pr x z hd
              · obtain ⟨y, hy, hy2⟩ := hd
                rw [z] at hy
                have := hNm y hy (up y hy2)
                rw [hNe] at this
                cases this
            · rw [if_neg hNe]
              refine x_pick ⟨⟨by simpa using hNe, by have := nbs_len (h := h) (w := w) (c := c); have := List.length_filter_le lb (nbs h w c); rw [← hN]; simp; omega⟩, fun v hv => ?_⟩
              obtain ⟨x, hx, rfl⟩ := List.mem_map.mp hv
              obtain ⟨y, hy, hy2, rfl⟩ := hnv x hx
              refine ⟨by omega, ?_⟩
              rw [putF_nm, putL_new (show (c.1, c.2) ∉ cs2 from hcc)]
              refine hK _ ⟨_, _, cs2 ++ [c], putN nm2 c (nm2 y), rfl, .inr ⟨_, rfl⟩, ⟨?_, ?_, gi_grow g2.gi hcc hy2 (mem_nbs.mp hy).1.symm rfl, ?_⟩, fun x hx => List.mem_append_left _ (up x hx), fun x hx => ?_, fun x hx hd => ?_⟩
              · rw [← putL_new hcc]; exact putL_nodup g2.nd
              · intro x hx
                rcases List.mem_append.mp hx with z | z
                · exact g2.on x z
                · rw [List.mem_singleton.mp z]; exact ((lm c).mp hcl).1
              · intro x hx
                rcases List.mem_append.mp hx with z | z
                · rw [putN_of hcc z]; exact g2.na x z
                · rw [List.mem_singleton.mp z, putN_self]; exact g2.na y hy2
              · rcases List.mem_append.mp hx with z | z
                · exact hdn x z
                · rw [List.mem_singleton.mp z, take_succ_get hc]; exact .inr (by simp)
              · rcases hstep x hx with z | z
                · exact List.mem_append_left _ (pr x z hd)
                · rw [z]; simp
        · rintro s ⟨x9, x10, cs2, nm2, rfl, hx9, g2, up, dn, pr⟩
          rw [List.length_map, List.take_length] at pr
          exact hK _ ⟨_, _, cs2, nm2, rfl, hx9, g2, up, pr⟩
      · rintro _ ⟨x9, x10, cs2, nm2, rfl, hx9, g2, up, pr⟩
        have hgl2 := (g2.len h2 w2).1
        obtain ⟨lb, hlb⟩ : ∃ lb : Cell → Bool, ∀ z, lb z = !decide (z ∈ cs2) := ⟨fun z => !decide (z ∈ cs2), fun z => rfl⟩
        refine seq_to [some .bag, some (.val (.int h)), some (.val (.int w)), some (.val (strsD ns)), some (.val (cellsD (allC h w))), some (.own (.dt (cs2.map keyC)) (cs2.map fun c => .str (nm2 c))), some (.val (cellsD ((allC h w).filter lb))), x7, some (.val d), x9, x10, x11] ?_ ?_
        · intro K hK
          simp [-dlook, -dputE]
          refine ⟨plain_ok (by simpa using hx9), lcD_by (fun e => if lb (toC e) = true then some e else none) (by simp [allC_length]; omega) ?_ ?_⟩
          · intro e he K hK
            obtain ⟨y, hy, rfl⟩ := List.mem_map.mp he
            have hK' : K (if lb y = true then some (cellD y) else none) := hK
            have e0 := hlb y
            simp [-dlook, -dputE]
            by_cases q : y ∈ cs2
            · rw [decide_eq_true q] at e0
              simp [q, -dlook, -dputE]
              rwa [if_neg (by rw [e0]; decide)] at hK'
            · rw [decide_eq_false q] at e0
              simp [q, -dlook, -dputE]
              rwa [if_pos (show lb y = true from e0)] at hK'
          · rw [filterMap_cells (g := lb) (fun c => rfl)]
            exact hK
        · have hLm : ∀ c, c ∈ (allC h w).filter lb ↔ c ∈ allC h w ∧ c ∉ cs2 := fun c => by
            rw [List.mem_filter, hlb]
            simp
          have hLn : ((allC h w).filter lb).Nodup := allC_nodup.filter _
          generalize hL : (allC h w).filter lb = L at hLm hLn
          simp
          refine ⟨shp_cells L, ?_⟩
          by_cases hLe : L = []
          · rw [if_pos hLe]
            subst hLe
            refine hp cs2 nm2 (fun c => ⟨g2.on c, fun hc => ?_⟩) g2.gi g2.na
            exact Classical.byContradiction fun z => absurd ((hLm c).mpr ⟨hc, z⟩) (by simp)
          · rw [if_neg hLe]
            refine hK _ ⟨_, _, _, _, _, cs2, nm2, L, rfl, hx9, hx11, g2, hLn, hLm, ?_⟩
            obtain ⟨c1, hc1⟩ := List.exists_mem_of_ne_nil L hLe
            obtain ⟨o1, o2⟩ := (hLm c1).mp hc1
            obtain ⟨c0, hc0⟩ : ∃ c0, c0 ∈ cs := List.exists_mem_of_ne_nil cs (by intro z; rw [z] at hone; simp at hone)
            obtain ⟨a, b, ha, hb, hab, pa, pb⟩ := grid_edge (h := h) (w := w) (fun c => c ∈ cs) (mem_allC.mp (g.on c0 hc0)) hc0 (mem_allC.mp o1) (fun z => o2 (up c1 z))
            have hbl : b ∈ left := (lm b).mpr ⟨mem_allC.mpr hb, pb⟩
            have hb2 : b ∈ cs2 := pr b hbl ⟨a, mem_nbs.mpr ⟨hab.symm, ha⟩, pa⟩
            have := more_len (c := b) g.nd pb up hb2
            omega
    · rintro s ⟨x7, x8, x9, x10, x11, cs, nm, left, rfl, hx9, hx11, g, ln, lm, hone⟩
      have := (g.len h2 w2).1
      rw [List.length_map, List.length_range] at hone
      omega
end Dk
end

section
set_option Elab.async false
set_option linter.all false
set_option maxRecDepth 100000
set_option maxHeartbeats 4000000
namespace Dk
open L2 Dl Pm
theorem outs_sub {α : Type} (f : α → D) : ∀ (l : List α) (outs : List (Option D)), outs.length = (l.map f).length → (∀ (i : Nat) (d : D) (o : Option D), (l.map f)[i]? = some d → outs[i]? = some o → o = some d ∨ o = none) → ∃ rd : List α, outs.filterMap id = rd.map f ∧ rd.Sublist l
  | [], outs, hl, _ => ⟨[], by rw [List.length_eq_zero_iff.mp hl]; rfl, List.Sublist.slnil⟩
  | a :: l, [], hl, _ => by simp at hl
  | a :: l, o :: outs, hl, h => by
    obtain ⟨rd, e1, e2⟩ := outs_sub f l outs (by simpa using hl) fun i d p q1 q2 => h (i + 1) d p (by simpa using q1) (by simpa using q2)
    rcases h 0 (f a) o (by simp) (by simp) with rfl | rfl
    · exact ⟨a :: rd, by simp [e1], e2.cons₂ a⟩
    · exact ⟨rd, by simp [e1], e2.cons a⟩
theorem gi_congr {cs ds : List Cell} {nm : Cell → PySem.Str} (h : ∀ c, c ∈ cs ↔ c ∈ ds) (g : Gi cs nm) : Gi ds nm := by
  intro c hc
  have := g c ((h c).mpr hc)
  rwa [show cls cs nm (nm c) = cls ds nm (nm c) from funext fun x => propext (and_congr (h x) Iff.rfl)] at this
theorem x_edge {h w : Nat} {c : Cell} {P : D → Prop} (q : P (.bl (isE h w c))) : C__law_edge [.val (.int h), .val (.int w), .val (cellD c)] P := ⟨h, w, c, rfl, q⟩
theorem c__law_map : Keeps N__law_map 2 C__law_map (den__law_map C__law_sizes C__law_grown C__law_names C__law_draw C__law_all_cells C__law_edge) := by
  rintro as P - ⟨rfl, hp⟩
  show den__law_map _ _ _ _ _ _ [some .bag, some (.val (.int 6)), none, none, none, none, none, none, none, none] _
  unfold den__law_map
  refine seq_by (fun s => ∃ h w : Nat, 1 ≤ h ∧ h ≤ 12 ∧ 1 ≤ w ∧ w ≤ 12 ∧ s = [some .bag, some (.val (.int 6)), some (.val (.int h)), some (.val (.int w)), none, none, none, none, none, none]) ?_ ?_
  · intro K hK
    simp
    refine ⟨rfl, fun h w h1 h2 w1 w2 => ?_⟩
    simp
    exact hK _ ⟨h, w, h1, h2, w1, w2, rfl⟩
  rintro _ ⟨h, w, h1, h2, w1, w2, rfl⟩
  refine seq_by (fun s => ∃ (cs : List Cell) (nm : Cell → PySem.Str), (∀ c, c ∈ cs ↔ c ∈ allC h w) ∧ Gi cs nm ∧ (∃ ns : List PySem.Str, ns.length ≤ 6 ∧ (∀ x, x ∈ ns → validN x) ∧ ∀ c, c ∈ cs → nm c ∈ ns) ∧
    s = [some .bag, some (.val (.int 6)), some (.val (.int h)), some (.val (.int w)), some (.val (.dt (cs.map keyC) (cs.map fun c => .str (nm c)))), none, none, none, none, none]) ?_ ?_
  · intro K hK
    simp
    refine x_draw ⟨by decide, fun r r0 r1 => ?_⟩
    obtain ⟨k, rfl⟩ := Int.eq_ofNat_of_zero_le r0
    simp
    refine ⟨1 + k, by simp, by omega, fun ns nd nl nv => ?_⟩
    simp
    refine ⟨h, w, ns, rfl, h1, h2, w1, w2, nd, by intro z; rw [z] at nl; simp at nl; omega, nv, fun cs nm hcs gi hna => ?_⟩
    exact hK _ ⟨cs, nm, hcs, gi, ⟨ns, by omega, nv, hna⟩, rfl⟩
  rintro _ ⟨cs, nm, hcs, gi, ⟨ns, nl, nv, hna⟩, rfl⟩
  have hin : ∀ r c : Nat, r < h → c < w → ((((r : Nat) : Int), ((c : Nat) : Int)) : Cell) ∈ cs := fun r c hr hc => (hcs _).mpr (mem_allC.mpr (by unfold onB; simp only; omega))
  refine seq_to [some .bag, some (.val (.int 6)), some (.val (.int h)), some (.val (.int w)), some (.val (.dt (cs.map keyC) (cs.map fun c => .str (nm c)))), some (.val (rowsD h w nm)), none, none, none, none] ?_ ?_
  · intro K hK
    rw [rowsD_eq] at hK
    simp [-dlook]
    refine ⟨by omega, plain_ok (by simp), lcD_by (fun e => match e with | .int r => some (rowD w nm r.toNat) | _ => none) (by simp; omega) ?_ ?_⟩
    · intro e he K hK
      obtain ⟨r, hr, rfl⟩ := List.mem_map.mp he
      have hr' := List.mem_range.mp hr
      simp [-dlook] at hK ⊢
      refine ⟨by omega, plain_ok (by simp), lcD_by (fun e => match e with | .int c => some (.str (nm (((r : Nat) : Int), c))) | _ => none) (by simp; omega) ?_ ?_⟩
      · intro e he K hK
        obtain ⟨c, hc, rfl⟩ := List.mem_map.mp he
        have hc' := List.mem_range.mp hc
        have := hin r c hr' hc'
        simp [this, -dlook]
        exact hK
      · rw [List.filterMap_map]
        rw [show ((fun e => match e with | .int c => some (D.str (nm (((r : Nat) : Int), c))) | _ => none) ∘ fun k : Nat => D.int ((k : Nat) : Int)) = fun c : Nat => some (D.str (nm (((r : Nat) : Int), ((c : Nat) : Int)))) from rfl, filterMap_some]
        exact hK
    · rw [List.filterMap_map]
      rw [show ((fun e => match e with | .int r => some (rowD w nm r.toNat) | _ => none) ∘ fun k : Nat => D.int ((k : Nat) : Int)) = fun r : Nat => some (rowD w nm r) from rfl, filterMap_some]
      exact hK
  obtain ⟨lb, hlb⟩ : ∃ lb : Cell → Bool, ∀ z, lb z = isE h w z := ⟨fun z => isE h w z, fun z => rfl⟩
  refine seq_to [some .bag, some (.val (.int 6)), some (.val (.int h)), some (.val (.int w)), some (.val (.dt (cs.map keyC) (cs.map fun c => .str (nm c)))), some (.val (rowsD h w nm)), none, none, some (.val (cellsD ((allC h w).filter lb))), none] ?_ ?_
  · intro K hK
    simp
    refine x_all ⟨h2, w2, ?_⟩
    simp
    refine ⟨plain_ok (by simp), lcD_by (fun e => if lb (toC e) = true then some e else none) (by simp [allC_length]; have := Nat.mul_le_mul h2 w2; omega) ?_ ?_⟩
    · intro e he K hK
      obtain ⟨c, hc, rfl⟩ := List.mem_map.mp he
      have hK' : K (if lb c = true then some (cellD c) else none) := hK
      simp
      refine x_edge ?_
      rw [← hlb]
      by_cases q : lb c = true
      · rw [q] at hK' ⊢; simpa using hK'
      · rw [show lb c = false by simpa using q] at hK' ⊢; simpa using hK'
    · rw [filterMap_cells (g := lb) (fun c => rfl)]
      exact hK
  simp
  refine ⟨plain_ok (by simp), lcD_rel (fun d o => o = some d ∨ o = none) _ _ _ ?_ ?_ ?_⟩
  · have h3 := List.length_filter_le lb (allC h w)
    rw [allC_length] at h3
    have := Nat.mul_le_mul h2 w2
    simp
    omega
  · intro d hd K hK
    obtain ⟨c, hc, rfl⟩ := List.mem_map.mp hd
    simp
    refine x_draw ⟨by decide, fun r r0 r1 => ?_⟩
    simp
    split
    · exact hK _ (.inl rfl)
    · exact hK _ (.inr rfl)
  · intro outs hl hr
    obtain ⟨rd, e1, e2⟩ := outs_sub cellD _ outs hl hr
    rw [List.nil_append, e1]
    have hmem : ∀ c, c ∈ rd → c ∈ allC h w ∧ isE h w c = true := fun c hc => by
      have := e2.subset hc
      rw [List.mem_filter, hlb] at this
      exact this
    refine hp ⟨h, w, nm, rd⟩ ⟨h1, h2, w1, w2, fun c hc => nv _ (hna c ((hcs c).mpr hc)), ?_, gi_congr hcs gi, (allC_nodup.filter _).sublist e2, hmem⟩
    refine Nat.le_trans (nodup_len2 names_nodup fun x hx => ?_) nl
    obtain ⟨c, hc, rfl⟩ := mem_names.mp hx
    exact hna c ((hcs c).mpr hc)
end Dk
end

section
set_option Elab.async false
set_option linter.all false
set_option maxRecDepth 100000
set_option maxHeartbeats 4000000
namespace Dk
open L2 Dl Pm
theorem rowsB (B : Bd) : B.rows = .lst ((List.range B.h).map (rowD B.w B.nm)) := rfl
theorem c__law_made : Keeps N__law_made 2 C__law_made (den__law_made C_Plat___init__) := by
  rintro as P - ⟨B, rfl, ok, hp⟩
  have h2 := ok.h2
  simp [den__law_made, rowsB]
  refine ⟨plain_ok (by simp), lcD_by some (by simp; omega) ?_ ?_⟩
  · intro d hd K hK
    obtain ⟨r, hr, rfl⟩ := List.mem_map.mp hd
    simp
    exact hK
  · rw [List.filterMap_some]
    exact ⟨B, rfl, ok, fun ns ds hf => hp _ ⟨ns, ds, rfl, hf, ok⟩⟩
theorem rows_flatD (h w : Nat) (nm : Cell → PySem.Str) : ((List.range h).map fun r => (List.range w).map fun c => D.str (nm (((r : Nat) : Int), ((c : Nat) : Int)))).flatten = ((allC h w).map nm).map D.str := by
  unfold allC
  rw [List.map_map, List.map_flatMap, List.flatMap]
  simp [Function.comp_def]
theorem c__law_named : Keeps N__law_named 1 C__law_named den__law_named := by
  rintro as P - ⟨B, rfl, ok, hp⟩
  have h1 := ok.h1
  have h2 := ok.h2
  have w2 := ok.w2
  have hsz : B.h * B.w ≤ 144 := Nat.mul_le_mul h2 w2
  simp [den__law_named, rowsB, -List.length_flatten, -List.mem_flatten, -List.mem_map, -List.map_map]
  refine ⟨plain_ok (by simp), lcD_by some (by simp; omega) ?_ ?_⟩
  · intro d hd K hK
    obtain ⟨r, hr, rfl⟩ := List.mem_map.mp hd
    simp
    exact hK
  · rw [List.filterMap_some]
    refine ⟨(List.range B.h).map fun r => (List.range B.w).map fun c => D.str (B.nm (((r : Nat) : Int), ((c : Nat) : Int))), by rw [List.map_map]; rfl, ?_, ?_, .inl ⟨(allC B.h B.w).map B.nm, ?_, ?_, fun ys hy hs => ?_⟩⟩
    · intro z
      have := congrArg List.length z
      simp at this
      omega
    · rw [rows_flatD, List.length_map, List.length_map, allC_length]
      omega
    · rw [rows_flatD, toStrs_map]
    · rw [List.length_map, allC_length]
      omega
    · have : ys = B.names := usort_eq lin_T hs hy
      rw [this]
      exact hp
theorem c__law_fronting : Keeps N__law_fronting 2 C__law_fronting den__law_fronting := by
  rintro as P - ⟨B, rfl, ok, hp⟩
  have hrl := ok.rl
  simp [den__law_fronting, rowsB, -List.mem_map]
  refine ⟨plain_ok (by simp), lcD_by (fun d => some (.str (B.nm (toC d)))) (by simp; omega) ?_ ?_⟩
  · intro d hd K hK
    obtain ⟨c, hc, rfl⟩ := List.mem_map.mp hd
    obtain ⟨a, b, ha, hb, rfl⟩ := nat_cell (ok.on hc)
    simp [atI_map ha, atI_map hb, toC] at hK ⊢
    exact hK
  · rw [List.filterMap_map]
    rw [show ((fun d => some (D.str (B.nm (toC d)))) ∘ cellD) = (fun c : Cell => some (D.str (B.nm c))) from rfl, filterMap_some]
    left
    refine ⟨B.road.map B.nm, toStrs_f B.nm B.road, by simp; omega, fun ys hy hs => ?_⟩
    have : ys = B.front := usort_eq lin_T hs hy
    rw [this]
    exact hp
theorem c__law_possible : Keeps N__law_possible 1 C__law_possible (den__law_possible C__law_all_cells C__law_sides) := by
  rintro as P - ⟨B, rfl, ok, hp⟩
  have h1 := ok.h1
  have h2 := ok.h2
  have w1 := ok.w1
  have w2 := ok.w2
  have hsz : B.h * B.w ≤ 144 := Nat.mul_le_mul h2 w2
  show den__law_possible _ _ [some (.val B.rows), none, none, none, none, none] _
  unfold den__law_possible
  refine seq_to [some (.val B.rows), some (.own (.dt []) []), none, none, none, none] ?_ ?_
  · intro K hK
    simp
    exact hK
  refine seq_by (fun s => ∃ (x2 x3 x4 x5 : Option Slot) (ps : List (PySem.Str × PySem.Str)) (f : PySem.Str × PySem.Str → D), s = [some (.val B.rows), some (.own (.dt (ps.map keyP)) (ps.map f)), x2, x3, x4, x5] ∧ ps.Nodup ∧ ∀ p, p ∈ ps ↔ p ∈ adjN B.h B.w B.nm) ?_ ?_
  · intro K hK
    rw [rowsB] at hK ⊢
    simp [atI_map0 h1, -forD, -dlook, -dputE]
    refine x_all ⟨h2, w2, ?_⟩
    simp [-forD, -dlook, -dputE]
    refine for_by (fun i s => ∃ (x2 x3 x4 x5 : Option Slot) (ps : List (PySem.Str × PySem.Str)) (f : PySem.Str × PySem.Str → D), s = [some (.val (.lst ((List.range B.h).map (rowD B.w B.nm)))), some (.own (.dt (ps.map keyP)) (ps.map f)), x2, x3, x4, x5] ∧ ps.Nodup ∧ ps.length ≤ 4 * i ∧
      ∀ p, p ∈ ps ↔ ∃ c d, c ∈ (allC B.h B.w).take i ∧ d ∈ nbs B.h B.w c ∧ B.nm c ≠ B.nm d ∧ p = (B.nm c, B.nm d)) ⟨none, none, none, none, [], fun _ => .non, by simp, by simp, by simp, by simp⟩ ?_ ?_
    · rintro i d s Kk hd ⟨x2, x3, x4, x5, ps, f, rfl, nd, hl, hm⟩ hK
      obtain ⟨c, hc, rfl⟩ := map_get hd
      have hil : i < (allC B.h B.w).length := (List.getElem?_eq_some_iff.mp hc).1
      rw [allC_length] at hil
      simp [atI_map0 h1, -forD, -dlook, -dputE]
      refine x_sides ?_
      obtain ⟨ca, cb, hca, hcb, rfl⟩ := nat_cell (mem_allC.mp (List.mem_of_getElem? hc))
      simp [-forD, -dlook, -dputE]
      refine for_by (fun j s => ∃ (x3 x4 x5 : Option Slot) (ps2 : List (PySem.Str × PySem.Str)) (f : PySem.Str × PySem.Str → D), s = [some (.val (.lst ((List.range B.h).map (rowD B.w B.nm)))), some (.own (.dt (ps2.map keyP)) (ps2.map f)), some (.val (cellD (((ca : Nat) : Int), ((cb : Nat) : Int)))), x3, x4, x5] ∧ ps2.Nodup ∧ ps2.length ≤ 4 * i + j ∧
        ∀ p, p ∈ ps2 ↔ p ∈ ps ∨ ∃ d, d ∈ (nbs B.h B.w (((ca : Nat) : Int), ((cb : Nat) : Int))).take j ∧ B.nm (((ca : Nat) : Int), ((cb : Nat) : Int)) ≠ B.nm d ∧ p = (B.nm (((ca : Nat) : Int), ((cb : Nat) : Int)), B.nm d)) ⟨x3, x4, x5, ps, f, by simp, nd, by omega, by simp⟩ ?_ ?_
      · rintro j e s Kk hd ⟨x3, x4, x5, ps2, f, rfl, nd2, hl2, hm2⟩ hK
        obtain ⟨y, hy, rfl⟩ := map_get hd
        have hjl : j < 4 := Nat.lt_of_lt_of_le (List.getElem?_eq_some_iff.mp hy).1 nbs_len
        obtain ⟨a, b, ha, hb, rfl⟩ := nat_cell (mem_nbs.mp (List.mem_of_getElem? hy)).2
        have hstep : ∀ d, d ∈ (nbs B.h B.w (((ca : Nat) : Int), ((cb : Nat) : Int))).take (j + 1) ↔ d ∈ (nbs B.h B.w (((ca : Nat) : Int), ((cb : Nat) : Int))).take j ∨ d = (((a : Nat) : Int), ((b : Nat) : Int)) := by
          intro d
          rw [take_succ_get hy]
          simp
        simp [atI_map ha, atI_map hb, atI_map hca, atI_map hcb, -dlook, -dputE]
        split
        · next q =>
          refine hK _ ⟨_, _, _, ps2, f, rfl, nd2, by omega, fun p => (hm2 p).trans (or_congr Iff.rfl ⟨?_, ?_⟩)⟩
          · rintro ⟨d, h1, h2, h3⟩
            exact ⟨d, (hstep d).mpr (.inl h1), h2, h3⟩
          · rintro ⟨d, h1, h2, h3⟩
            rcases (hstep d).mp h1 with z | z
            · exact ⟨d, z, h2, h3⟩
            · rw [z] at h2; exact (h2 q).elim
        · next q =>
          refine ⟨by omega, hK _ ⟨_, _, _, _, _, rfl, putL_nodup nd2, ?_, fun p => ?_⟩⟩
          · have := putL_len (l := ps2) (x := (B.nm (((ca : Nat) : Int), ((cb : Nat) : Int)), B.nm (((a : Nat) : Int), ((b : Nat) : Int))))
            omega
          · rw [mem_putL, hm2]
            constructor
            · rintro ((z | ⟨d, h1, h2, h3⟩) | z)
              · exact .inl z
              · exact .inr ⟨d, (hstep d).mpr (.inl h1), h2, h3⟩
              · exact .inr ⟨_, (hstep _).mpr (.inr rfl), q, z⟩
            · rintro (z | ⟨d, h1, h2, h3⟩)
              · exact .inl (.inl z)
              · rcases (hstep d).mp h1 with z | z
                · exact .inl (.inr ⟨d, z, h2, h3⟩)
                · rw [z] at h3; exact .inr h3
      · rintro s ⟨x3, x4, x5, ps2, f, rfl, nd2, hl2, hm2⟩
        rw [List.length_map] at hl2
        rw [List.length_map, List.take_length] at hm2
        refine hK _ ⟨_, _, _, _, ps2, f, rfl, nd2, ?_, fun p => ?_⟩
        · have := nbs_len (h := B.h) (w := B.w) (c := (((ca : Nat) : Int), ((cb : Nat) : Int)))
          omega
        · rw [hm2, hm]
          simp only [take_succ_get hc, List.mem_append, List.mem_singleton]
          constructor
          · rintro (⟨c', d, q1, q2, q3, q4⟩ | ⟨d, q1, q2, q3⟩)
            · exact ⟨c', d, .inl q1, q2, q3, q4⟩
            · exact ⟨_, d, .inr rfl, q1, q2, q3⟩
          · rintro ⟨c', d, (q1 | rfl), q2, q3, q4⟩
            · exact .inl ⟨c', d, q1, q2, q3, q4⟩
            · exact .inr ⟨d, q2, q3, q4⟩
    · rintro s ⟨x2, x3, x4, x5, ps, f, rfl, nd, hl, hm⟩
      refine hK _ ⟨_, _, _, _, ps, f, rfl, nd, fun p => ?_⟩
      rw [hm, mem_adjN, List.length_map, List.take_length]
  rintro _ ⟨x2, x3, x4, x5, ps, f, rfl, nd, hm⟩
  simp [-dlook, -dputE]
  right
  intro ps2 hperm hs
  have : ps2 = B.pairs := usort_eq lin_TT (sorted_strict lin_TT hs (hperm.nodup_iff.mpr nd)) fun x => hperm.mem_iff.trans (hm x)
  rw [this]
  exact hp
end Dk
end

section
set_option Elab.async false
set_option linter.all false
set_option maxRecDepth 100000
set_option maxHeartbeats 4000000
namespace Dk
open L2 Dl Pm
def toPr : D → PySem.Str × PySem.Str
  | .node .tup [.str a, .str b] => (a, b)
  | _ => ("", "")
theorem perm_pairs {es : List D} {ps : List (PySem.Str × PySem.Str)} (h : es.Perm (ps.map pairD)) : ∃ qs : List (PySem.Str × PySem.Str), es = qs.map pairD ∧ qs.Perm ps := by
  refine ⟨es.map toPr, ?_, ?_⟩
  · rw [List.map_map]
    conv => lhs; rw [← List.map_id es]
    refine List.map_congr_left fun e he => ?_
    obtain ⟨p, _, rfl⟩ := List.mem_map.mp (h.mem_iff.mp he)
    rfl
  · have := h.map toPr
    rwa [List.map_map, show (toPr ∘ pairD) = id from rfl, List.map_id] at this
theorem pairs_stOk (B : Bd) : StOk B B.pairs := ⟨usort_sorted lin_TT _, fun p hp => hp⟩
theorem x_possible {B : Bd} {P : D → Prop} (q : B.Ok ∧ P (pairsD B.pairs)) : C__law_possible [.val B.rows] P := ⟨B, rfl, q⟩
theorem cutD_to {α : Type} (f : α → D) (l : List α) {r : Int} (h : 0 ≤ r) : cutD (l.map f) none (some r) = (l.take r.toNat).map f := by
  obtain ⟨k, rfl⟩ := Int.eq_ofNat_of_zero_le h
  unfold cutD
  rw [HT.sIx_none, HT.sIx_nat, List.drop_zero, Nat.sub_zero, ← List.map_take]
  congr 1
  rw [List.length_map, Int.toNat_natCast]
  rcases Nat.le_total k l.length with z | z
  · rw [Nat.min_eq_left z]
  · rw [Nat.min_eq_right z, List.take_length, List.take_of_length_le z]
theorem c__law_given : Keeps N__law_given 2 C__law_given (den__law_given C__law_pick C__law_possible C__law_draw C__law_mixed) := by
  rintro as P - ⟨B, rfl, ok, hp⟩
  have hpl := (pairs_stOk B).len ok
  show den__law_given _ _ _ _ [some .bag, some (.val B.rows), none, none, none] _
  unfold den__law_given
  refine seq_by (fun s => ∃ k : Int, (0 < k ∧ k < 1073741824) ∧ s = [some .bag, some (.val B.rows), some (.val (.int k)), none, none]) ?_ ?_
  · intro K hK
    simp
    refine x_pick ⟨by simp, fun d hd => ?_⟩
    simp at hd
    rcases hd with rfl | rfl | rfl
    · exact hK _ ⟨2, by decide, rfl⟩
    · exact hK _ ⟨3, by decide, rfl⟩
    · exact hK _ ⟨1, by decide, rfl⟩
  rintro _ ⟨k, hk, rfl⟩
  refine seq_by (fun s => ∃ ps : List (PySem.Str × PySem.Str), ps.Sublist B.pairs ∧ s = [some .bag, some (.val B.rows), some (.val (.int k)), some (.val (pairsD ps)), none]) ?_ ?_
  · intro K hK
    simp
    refine x_possible ⟨ok, ?_⟩
    simp
    refine ⟨plain_ok (by simp), lcD_rel (fun d o => o = some d ∨ o = none) _ _ _ (by simp; omega) ?_ ?_⟩
    · intro d hd K hK
      obtain ⟨c, hc, rfl⟩ := List.mem_map.mp hd
      simp
      refine x_draw ⟨hk, fun r r0 r1 => ?_⟩
      simp
      split
      · exact hK _ (.inl rfl)
      · exact hK _ (.inr rfl)
    · intro outs hl hr
      obtain ⟨rd, e1, e2⟩ := outs_sub pairD _ outs hl hr
      rw [List.nil_append, e1]
      exact hK _ ⟨rd, e2, rfl⟩
  rintro _ ⟨ps, hsub, rfl⟩
  have hps := hsub.length_le
  simp
  refine x_draw ⟨by decide, fun r r0 r1 => ?_⟩
  dsimp only
  rw [cutD_to pairD ps r0]
  generalize hq : ps.take r.toNat = qs
  have hcl : qs.length ≤ 2 := by
    rw [← hq, List.length_take]
    omega
  have hqm : ∀ p, p ∈ qs → p ∈ ps := fun p hp => by
    rw [← hq] at hp
    exact List.mem_of_mem_take hp
  simp
  refine ⟨by omega, ps.map pairD ++ qs.map pairD, rfl, by simp; omega, fun es hes => ?_⟩
  rw [← List.map_append] at hes
  obtain ⟨us, rfl, hperm⟩ := perm_pairs hes
  refine hp us (fun p hp => ?_) ?_
  · rcases List.mem_append.mp (hperm.mem_iff.mp hp) with z | z
    · exact hsub.subset z
    · exact hsub.subset (hqm p z)
  · have := hperm.length_eq
    rw [List.length_append] at this
    omega
theorem minOf_eq (w0 : Int × List PySem.Str) (ws : List (Int × List PySem.Str)) : PySem.W.minOf w0 ws = ws.foldl (fun a y => if PySem.W.DatumOrd.lt y a = true then y else a) w0 := rfl
theorem c__law_best : Keeps N__law_best 1 C__law_best den__law_best := by
  rintro as P - ⟨ws, rfl, hl, hv, hp⟩
  have hsh := shp_rows hv
  cases ws with
  | nil =>
    simp [den__law_best] at hsh ⊢
    exact ⟨hsh, hp⟩
  | cons w ws =>
    have hsh' : ∃ xs, toPs (.lst (w.map D.str) :: ws.map strsD) = some xs ∧ PySem.SeqAt.shaped (.list xs) = true := hsh
    simp [den__law_best]
    refine ⟨hsh, plain_ok (by simp), ?_⟩
    have e : (D.lst (w.map D.str) :: ws.map strsD) = (w :: ws).map strsD := rfl
    rw [show (D.lst (w.map D.str) :: ws.map fun ns => D.lst (ns.map D.str)) = (w :: ws).map strsD from rfl]
    refine lcD_by (fun d => match d with | .node .lst ds => some (.tup [.int ds.length, d]) | _ => none) (by simp at hl ⊢; omega) ?_ ?_
    · intro d hd K hK
      obtain ⟨r, hr, rfl⟩ := List.mem_map.mp hd
      simp at hK ⊢
      exact hK
    · have e2 : ((w :: ws).map strsD).filterMap (fun d => match d with | .node .lst ds => some (D.tup [.int ds.length, d]) | _ => none) = (((w.length : Int), w) :: ws.map fun v => ((v.length : Int), v)).map wD := by
        rw [List.filterMap_map, List.map_cons, List.map_map, List.filterMap_cons]
        simp [Function.comp_def]
      rw [e2]
      simp
      refine ⟨((w.length : Nat) : Int), w, ws.map (fun v : List PySem.Str => (((v.length : Nat) : Int), v)), ⟨⟨rfl, rfl⟩, ?_⟩, hp⟩
      rw [List.map_map]
end Dk
end

section
set_option Elab.async false
set_option linter.all false
set_option maxRecDepth 100000
set_option maxHeartbeats 4000000
namespace Dk
open L2 Dl Pm
theorem lead_nodup {B : Bd} {st : List (PySem.Str × PySem.Str)} (so : StOk B st) {x : PySem.Str} : ((B.gr st).lead x).Nodup := by
  refine sorted_nodup lin_T (lead_sorted (lt2 := Sx.ltTT) (fun a b c h => ?_) so.so x)
  have : (if a = a then Sx.ltT b c else Sx.ltT a a) = true := by
    unfold Sx.ltTT Sx.lex2 at h
    simpa using h
  simpa using this
theorem lead_six {B : Bd} {st : List (PySem.Str × PySem.Str)} (ok : B.Ok) (so : StOk B st) {x : PySem.Str} : ((B.gr st).lead x).length ≤ 6 :=
  Nat.le_trans (nodup_len2 (lead_nodup so) fun y hy => (prs_names (so.me _ (mem_lead.mp hy))).2) ok.le
theorem exts_six {B : Bd} {st : List (PySem.Str × PySem.Str)} (ok : B.Ok) (so : StOk B st) {r : List PySem.Str} : (exts (B.gr st) r).length ≤ 6 := by
  unfold exts
  cases r.getLast? with
  | none => simp
  | some l =>
    simp only [List.length_map]
    refine Nat.le_trans ?_ (lead_six ok so (x := l))
    unfold Gr.lead
    rw [List.length_map]
    rw [show ((B.gr st).st.filter fun p => decide (p.1 = l) && !decide (p.2 ∈ r)) = ((B.gr st).st.filter fun p => decide (p.1 = l)).filter (fun p => !decide (p.2 ∈ r)) by rw [List.filter_filter]; exact List.filter_congr fun p _ => Bool.and_comm _ _]
    exact List.length_filter_le _ _
theorem flat_len {α β : Type} (f : α → List β) (k : Nat) (hf : ∀ x, (f x).length ≤ k) : ∀ l : List α, (l.flatMap f).length ≤ k * l.length
  | [] => by simp
  | x :: l => by
    rw [List.flatMap_cons, List.length_append, List.length_cons, Nat.mul_succ]
    have := flat_len f k hf l
    have := hf x
    omega
theorem six_pow {t : Nat} (h : t ≤ 6) : 6 ^ t ≤ 46656 := by
  have : t = 0 ∨ t = 1 ∨ t = 2 ∨ t = 3 ∨ t = 4 ∨ t = 5 ∨ t = 6 := by omega
  rcases this with rfl | rfl | rfl | rfl | rfl | rfl | rfl <;> decide
theorem filterMap_pairs2 {β : Type} {f : D → Option β} {g : PySem.Str × PySem.Str → Bool} {v : PySem.Str × PySem.Str → β} (hf : ∀ c, f (pairD c) = if g c = true then some (v c) else none) : ∀ l : List (PySem.Str × PySem.Str), (l.map pairD).filterMap f = (l.filter g).map v
  | [] => rfl
  | c :: l => by
    rw [List.map_cons, List.filterMap_cons, hf, List.filter_cons]
    by_cases e : g c = true
    · rw [if_pos e, if_pos e, List.map_cons, filterMap_pairs2 hf l]
    · rw [if_neg e, if_neg e, filterMap_pairs2 hf l]
theorem walks_valid {B : Bd} {st : List (PySem.Str × PySem.Str)} (ok : B.Ok) (so : StOk B st) {n : PySem.Str} (hn : n ∈ B.names) : ∀ r, r ∈ walksF (B.gr st) n → ∀ x, x ∈ r → validN x := fun r hr x hx => by
  have gok := gr_ok ok so
  exact ok.names_ne (pw_in gok hn ((mem_walks gok hn).mp hr).1 x hx)
structure WInv (B : Bd) (st : List (PySem.Str × PySem.Str)) (n : PySem.Str) (t : Nat) (rows found : List (List PySem.Str)) : Prop where
  eq : walksFrom (B.gr st) (B.names.length - t) rows found = walksF (B.gr st) n
  ne : ∀ r, r ∈ rows → ∃ l, r.getLast? = some l
  rl : rows.length ≤ 6 ^ t
  fl : found.length + 1 ≤ 6 ^ t
  ln : ∀ r, r ∈ rows → r.length = t + 1
theorem c__law_walks : Keeps N__law_walks 4 C__law_walks den__law_walks := by
  rintro as P - ⟨B, st, n, rfl, ok, so, hn, hp⟩
  have hnl : B.names.length ≤ 6 := ok.le
  have hsl := so.len ok
  have hn1 : 1 ≤ B.names.length := List.length_pos_of_mem hn
  show den__law_walks [some (.val (.str n)), some (.val (strsD B.names)), some (.val (pairsD st)), some (.val (strsD B.front)), none, none, none, none, none, none, none] _
  unfold den__law_walks
  refine seq_to [some (.val (.str n)), some (.val (strsD B.names)), some (.val (pairsD st)), some (.val (strsD B.front)), some (.own .lst []), some (.val (.lst ([[n]].map strsD))), none, none, none, none, none] ?_ ?_
  · intro K hK
    simp
    exact hK
  refine seq_by (fun s => ∃ (x5 x6 x7 x8 : Option Slot), (walksF (B.gr st) n).length < 100000 ∧ s = [some (.val (.str n)), some (.val (strsD B.names)), some (.val (pairsD st)), some (.val (strsD B.front)), some (.own .lst ((walksF (B.gr st) n).map strsD)), x5, x6, x7, x8, none, none]) ?_ ?_
  · intro K hK
    simp [-forD]
    refine ⟨by omega, ?_⟩
    refine for_by (fun t s => ∃ (x6 x7 x8 : Option Slot) (rows found : List (List PySem.Str)), s = [some (.val (.str n)), some (.val (strsD B.names)), some (.val (pairsD st)), some (.val (strsD B.front)), some (.own .lst (found.map strsD)), some (.val (.lst (rows.map strsD))), x6, x7, x8, none, none] ∧
      WInv B st n t rows found) ⟨none, none, none, [[n]], [], by simp, ⟨rfl, by simp, by simp, by simp, by simp⟩⟩ ?_ ?_
    · rintro t d s Kk hd ⟨x6, x7, x8, rows, found, rfl, wi⟩ hK
      obtain ⟨t', ht', rfl⟩ := map_get hd
      obtain ⟨ht, rfl⟩ := range_get ht'
      have hp6 := six_pow (show t' ≤ 6 by omega)
      have hrl := wi.rl
      have hfl := wi.fl
      show dSeq _ _ [some (.val (.str n)), some (.val (strsD B.names)), some (.val (pairsD st)), some (.val (strsD B.front)), some (.own .lst (found.map strsD)), some (.val (.lst (rows.map strsD))), some (.val (.int t')), x7, x8, none, none] _
      refine seq_to [some (.val (.str n)), some (.val (strsD B.names)), some (.val (pairsD st)), some (.val (strsD B.front)), some (.own .lst (found.map strsD)), some (.val (.lst (rows.map strsD))), some (.val (.int t')), some (.val (.lst [])), x8, none, none] ?_ ?_
      · intro K hK
        simp
        exact hK
      refine seq_by (fun s => ∃ x8 : Option Slot, s = [some (.val (.str n)), some (.val (strsD B.names)), some (.val (pairsD st)), some (.val (strsD B.front)), some (.own .lst ((found ++ rows.filter (frLast (B.gr st))).map strsD)), some (.val (.lst (rows.map strsD))), some (.val (.int t')), some (.val (.lst (((rows.filter fun r => !frLast (B.gr st) r).flatMap (exts (B.gr st))).map strsD))), x8, none, none]) ?_ ?_
      · intro K hK
        simp [-forD]
        refine for_by (fun i s => ∃ x8 : Option Slot, s = [some (.val (.str n)), some (.val (strsD B.names)), some (.val (pairsD st)), some (.val (strsD B.front)), some (.own .lst ((found ++ (rows.take i).filter (frLast (B.gr st))).map strsD)), some (.val (.lst (rows.map strsD))), some (.val (.int t')), some (.val (.lst ((((rows.take i).filter fun r => !frLast (B.gr st) r).flatMap (exts (B.gr st))).map strsD))), x8, none, none]) ⟨x8, by simp⟩ ?_ ?_
        · rintro i e s K2 hd ⟨x8, rfl⟩ hK2
          obtain ⟨r, hr, rfl⟩ := map_get hd
          obtain ⟨l, hl⟩ := wi.ne r (List.mem_of_getElem? hr)
          have hrn := wi.ln r (List.mem_of_getElem? hr)
          have hil : i < rows.length := (List.getElem?_eq_some_iff.mp hr).1
          have hfr : frLast (B.gr st) r = decide (l ∈ B.front) := by unfold frLast; rw [hl]; rfl
          have hf1 : ((rows.take i).filter (frLast (B.gr st))).length ≤ i := by
            have := List.length_filter_le (frLast (B.gr st)) (rows.take i)
            rw [List.length_take] at this
            omega
          have hf2 : (((rows.take i).filter fun r => !frLast (B.gr st) r).flatMap (exts (B.gr st))).length ≤ 6 * i := by
            have h1 := flat_len (exts (B.gr st)) 6 (fun r => exts_six ok so) ((rows.take i).filter fun r => !frLast (B.gr st) r)
            have h2 := List.length_filter_le (fun r => !frLast (B.gr st) r) (rows.take i)
            rw [List.length_take] at h2
            omega
          generalize hFi : (rows.take i).filter (frLast (B.gr st)) = Fi at hf1 hK2 ⊢
          generalize hLi : ((rows.take i).filter fun r => !frLast (B.gr st) r).flatMap (exts (B.gr st)) = Li at hf2 hK2 ⊢
          have hpw : 6 ^ (t' + 1) ≤ 46656 := six_pow (by omega)
          have hps : 6 ^ (t' + 1) = 6 * 6 ^ t' := by rw [Nat.pow_succ, Nat.mul_comm]
          obtain ⟨r0, er⟩ : ∃ r0, r = r0 ++ [l] := by
            rcases concat_of r with z | ⟨r0, x, z⟩
            · rw [z] at hl; cases hl
            · rw [z] at hl; simp at hl; exact ⟨r0, by rw [z, hl]⟩
          have hat : atI (r.map D.str) (-1) = some (.str l) := by
            rw [er, List.map_append]
            exact atI_last _ _
          have ha := all_strs (ns := B.front) (x := l)
          have hb := any_strs (ns := B.front) (x := l)
          simp [hat, ha, hb, flatD, -List.all_map, -List.any_map, -List.all_eq_true, -List.any_eq_true]
          rw [take_succ_get hr, List.filter_append, List.filter_append, hFi, List.flatMap_append, hLi] at hK2
          by_cases q : l ∈ B.front
          · rw [if_pos q]
            refine ⟨by omega, ?_⟩
            have e1 : [r].filter (frLast (B.gr st)) = [r] := by simp [hfr, q]
            have e2 : [r].filter (fun r => !frLast (B.gr st) r) = [] := by simp [hfr, q]
            rw [e1, e2] at hK2
            have := hK2 _ ⟨some (.val (strsD r)), rfl⟩
            simpa using this
          · rw [if_neg q]
            have e1 : [r].filter (frLast (B.gr st)) = [] := by simp [hfr, q]
            have e2 : [r].filter (fun r => !frLast (B.gr st) r) = [r] := by simp [hfr, q]
            rw [e1, e2] at hK2
            have hex : exts (B.gr st) r = (st.filter fun p => decide (p.1 = l) && !decide (p.2 ∈ r)).map fun p => r ++ [p.2] := by
              unfold exts
              rw [hl]
              rfl
            have hexl := exts_six ok so (r := r)
            refine ⟨plain_ok (by simp), lcD_by (fun d => if (decide ((toPr d).1 = l) && !decide ((toPr d).2 ∈ r)) = true then some (strsD (r ++ [(toPr d).2])) else none) (by simp; omega) ?_ ?_⟩
            · intro e he K hK
              obtain ⟨p, hp, rfl⟩ := List.mem_map.mp he
              have hK' : K (if (decide (p.1 = l) && !decide (p.2 ∈ r)) = true then some (strsD (r ++ [p.2])) else none) := hK
              have ha := all_strs (ns := r) (x := p.2)
              have hb := any_strs (ns := r) (x := p.2)
              simp [hat, ha, hb, flatD, -List.all_map, -List.any_map, -List.all_eq_true, -List.any_eq_true]
              by_cases e1 : p.1 = l
              · by_cases e2 : p.2 ∈ r
                · simpa [e1, e2] using hK'
                · simp [e1, e2]
                  simp [e1, e2] at hK'
                  exact ⟨by omega, hK'⟩
              · simpa [e1] using hK'
            · rw [filterMap_pairs2 (g := fun p => decide (p.1 = l) && !decide (p.2 ∈ r)) (v := fun p => strsD (r ++ [p.2])) (fun p => rfl)]
              have e3 : ((st.filter fun p => decide (p.1 = l) && !decide (p.2 ∈ r)).map fun p => strsD (r ++ [p.2])) = (exts (B.gr st) r).map strsD := by
                rw [hex, List.map_map]
                rfl
              rw [e3]
              simp
              refine ⟨by omega, ?_⟩
              have := hK2 _ ⟨some (.val (strsD r)), rfl⟩
              simpa using this
        · rintro s ⟨x8, rfl⟩
          rw [List.length_map, List.take_length]
          exact hK _ ⟨x8, rfl⟩
      · rintro _ ⟨x8, rfl⟩
        simp
        have hps : 6 ^ (t' + 1) = 6 * 6 ^ t' := by rw [Nat.pow_succ, Nat.mul_comm]
        have h1 := flat_len (exts (B.gr st)) 6 (fun r => exts_six ok so) (rows.filter fun r => !frLast (B.gr st) r)
        have h2 := List.length_filter_le (fun r => !frLast (B.gr st) r) rows
        have h3 := List.length_filter_le (frLast (B.gr st)) rows
        refine hK _ ⟨some (.val (.int t')), some (.val (.lst (((rows.filter fun r => !frLast (B.gr st) r).flatMap (exts (B.gr st))).map strsD))), x8, (rows.filter fun r => !frLast (B.gr st) r).flatMap (exts (B.gr st)), found ++ rows.filter (frLast (B.gr st)), by simp, ⟨?_, ?_, ?_, ?_, ?_⟩⟩
        · rw [← wi.eq, show B.names.length - t' = (B.names.length - (t' + 1)) + 1 by omega, walksFrom]
        · intro r hr
          obtain ⟨r0, _, hr0⟩ := List.mem_flatMap.mp hr
          obtain ⟨l, o, _, _, _, rfl⟩ := mem_exts.mp hr0
          exact ⟨o, by simp⟩
        · omega
        · rw [List.length_append]
          omega
        · intro r hr
          obtain ⟨r0, hr0, hr1⟩ := List.mem_flatMap.mp hr
          obtain ⟨l, o, _, _, _, rfl⟩ := mem_exts.mp hr1
          have := wi.ln r0 (List.mem_filter.mp hr0).1
          simp [this]
    · rintro s ⟨x6, x7, x8, rows, found, rfl, wi⟩
      have := wi.eq
      rw [List.length_map, List.length_range, Nat.sub_self, walksFrom] at this
      have hfl := wi.fl
      rw [List.length_map, List.length_range] at hfl
      have := six_pow hnl
      rw [‹found = _›] at hfl ⊢
      exact hK _ ⟨_, _, _, _, by omega, rfl⟩
  · rintro _ ⟨x5, x6, x7, x8, hlt, rfl⟩
    simp
    exact hp hlt
end Dk
end

section
set_option Elab.async false
set_option linter.all false
set_option maxRecDepth 100000
set_option maxHeartbeats 4000000
namespace Dk
open L2 Dl Pm
/-! what the law compares -/
theorem rowLt_eq : ∀ xs ys : List PySem.Str, rowLt Sx.ltT xs ys = PySem.W.listLt xs ys
  | [], [] => rfl
  | [], _ :: _ => rfl
  | _ :: _, [] => rfl
  | x :: xs, y :: ys => by
    unfold rowLt PySem.W.listLt
    by_cases h : x = y
    · rw [if_pos h, if_pos h, rowLt_eq xs ys]
    · rw [if_neg h, if_neg h]
      rfl
noncomputable def wayD (G : Gr PySem.Str) (n : PySem.Str) : D := match far G n with
  | none => .non
  | some k => strsD (wyOf G k n)
theorem pr_lt (a b : Int) (x y : List PySem.Str) : PySem.W.DatumOrd.lt (a, x) (b, y) = if a = b then PySem.W.listLt x y else decide (a < b) := rfl
theorem st_lead_sorted {B : Bd} {st : List (PySem.Str × PySem.Str)} (so : StOk B st) (x : PySem.Str) : ((B.gr st).lead x).Pairwise fun a b => Sx.ltT a b = true := by
  refine lead_sorted (lt2 := Sx.ltTT) (fun a b c h => ?_) so.so x
  unfold Sx.ltTT Sx.lex2 at h
  simpa using h
theorem best_way {B : Bd} {st : List (PySem.Str × PySem.Str)} (ok : B.Ok) (so : StOk B st) {n : PySem.Str} (hn : n ∈ B.names) : bestD (walksF (B.gr st) n) = wayD (B.gr st) n := by
  have gok := gr_ok ok so
  unfold wayD
  cases hf : far (B.gr st) n with
  | none =>
    rw [(walks_none gok hn).mpr hf]
    rfl
  | some k =>
    obtain ⟨h1, h2⟩ := wy_best gok (st_lead_sorted so) Sx.ltT_irrefl hn hf
    cases hw : walksF (B.gr st) n with
    | nil => rw [hw] at h1; cases h1
    | cons w ws =>
      rw [hw] at h1 h2
      have e : PySem.W.minOf ((w.length : Int), w) (ws.map fun v => ((v.length : Int), v)) = (((wyOf (B.gr st) k n).length : Int), wyOf (B.gr st) k n) := by
        rw [minOf_eq]
        refine foldl_min ?_ ?_ ?_
        · rcases List.mem_cons.mp h1 with z | z
          · left; rw [z]
          · right; exact List.mem_map.mpr ⟨_, z, rfl⟩
        · intro y hy
          obtain ⟨r, hr, rfl⟩ : ∃ r, r ∈ w :: ws ∧ y = ((r.length : Int), r) := by
            rcases hy with z | z
            · exact ⟨w, List.mem_cons_self, z⟩
            · obtain ⟨r, h3, h4⟩ := List.mem_map.mp z
              exact ⟨r, List.mem_cons_of_mem _ h3, h4.symm⟩
          rcases h2 r hr with z | z | ⟨z1, z2⟩
          · left; rw [z]
          · right
            have hne : ((wyOf (B.gr st) k n).length : Int) ≠ (r.length : Int) := by omega
            rw [pr_lt, pr_lt, if_neg hne, if_neg hne.symm]
            constructor
            · exact decide_eq_true (by omega)
            · exact decide_eq_false (by omega)
          · right
            have he : ((wyOf (B.gr st) k n).length : Int) = (r.length : Int) := by omega
            rw [pr_lt, pr_lt, if_pos he, if_pos he.symm, ← rowLt_eq, ← rowLt_eq]
            exact ⟨z2, rowLt_asym (fun x y h => Sx.ltT_asym h) z2⟩
        · rw [pr_lt, if_pos rfl, ← rowLt_eq]
          cases q : rowLt Sx.ltT (wyOf (B.gr st) k n) (wyOf (B.gr st) k n) with
          | false => rfl
          | true =>
            have := rowLt_asym (fun x y h => Sx.ltT_asym h) q
            rw [q] at this
            cases this
      show strsD (PySem.W.minOf ((w.length : Int), w) (ws.map fun v => ((v.length : Int), v))).2 = _
      rw [e]
theorem comes_walks {B : Bd} {st : List (PySem.Str × PySem.Str)} (ok : B.Ok) (so : StOk B st) {n : PySem.Str} (hn : n ∈ B.names) : (!(walksF (B.gr st) n).isEmpty) = (far (B.gr st) n).isSome := by
  have h := walks_none (gr_ok ok so) hn
  cases hf : far (B.gr st) n with
  | none => rw [h.mpr hf]; rfl
  | some k =>
    cases hw : walksF (B.gr st) n with
    | nil => rw [h.mp hw] at hf; cases hf
    | cons w ws => rfl
/-- with all steps and a front, every parcel comes out -/
theorem all_come {B : Bd} (ok : B.Ok) (hfr : B.front ≠ []) {n : PySem.Str} (hn : n ∈ B.names) : (far (B.gr B.pairs) n).isSome = true := by
  obtain ⟨f, hf⟩ := List.exists_mem_of_ne_nil _ hfr
  obtain ⟨c0, hc0, hc1⟩ := mem_front.mp hf
  refine Classical.byContradiction fun hnot => ?_
  obtain ⟨c1, hc2, hc3⟩ := mem_names.mp hn
  have p0 : (far (B.gr B.pairs) (B.nm c0)).isSome = true := by
    have : far (B.gr B.pairs) (B.nm c0) = some 0 := far_some.mpr (dist_zero.mpr (decide_eq_true (by rw [hc1]; exact hf)))
    rw [this]; rfl
  have p1 : ¬ (far (B.gr B.pairs) (B.nm c1)).isSome = true := by rw [hc3]; exact hnot
  obtain ⟨c, d, hcb, hdb, had, pc, pd⟩ := grid_edge (h := B.h) (w := B.w) (fun c => (far (B.gr B.pairs) (B.nm c)).isSome = true) (ok.on hc0) p0 (mem_allC.mp hc2) p1
  have hne : B.nm d ≠ B.nm c := fun z => pd (by rw [z]; exact pc)
  have hm : (B.nm d, B.nm c) ∈ B.pairs := mem_prs.mpr (mem_adjN.mpr ⟨d, c, mem_allC.mpr hdb, mem_nbs.mpr ⟨had.symm, hcb⟩, hne, rfl⟩)
  obtain ⟨k, hk⟩ := Option.isSome_iff_exists.mp pc
  obtain ⟨j, hj, _⟩ := far_le (Pth.succ (mem_lead.mpr hm) (far_some.mp hk).1)
  exact pd (by rw [hj]; rfl)
theorem no_front {B : Bd} {st : List (PySem.Str × PySem.Str)} (hfr : B.front = []) {n : PySem.Str} : far (B.gr st) n = none := by
  refine far_none.mpr fun k h => ?_
  induction h with
  | zero e =>
    have := of_decide_eq_true e
    rw [hfr] at this
    cases this
  | succ _ _ ih => exact ih
theorem bare_eq {B : Bd} (ok : B.Ok) : (B.names.filter fun n => !(far (B.gr B.pairs) n).isSome) = if B.front = [] then B.names else [] := by
  by_cases h : B.front = []
  · rw [if_pos h, List.filter_eq_self]
    intro n _
    rw [no_front h]; rfl
  · rw [if_neg h, List.filter_eq_nil_iff]
    intro n hn
    rw [all_come ok h hn]
    decide
theorem front_way {B : Bd} {st : List (PySem.Str × PySem.Str)} {n : PySem.Str} (hn : n ∈ B.front) : wayD (B.gr st) n = strsD [n] := by
  have : far (B.gr st) n = some 0 := far_some.mpr (dist_zero.mpr (decide_eq_true hn))
  unfold wayD
  rw [this]
  rfl
theorem more_steps {B : Bd} {st : List (PySem.Str × PySem.Str)} {p : PySem.Str × PySem.Str} {n : PySem.Str} {k : Nat} (hf : far (B.gr st) n = some k) : ∃ j, far (B.gr (usort Sx.ltTT (st ++ [p]))) n = some j ∧ j ≤ k :=
  far_mono (G := B.gr st) (G' := B.gr (usort Sx.ltTT (st ++ [p]))) (fun q hq => (mem_usort (lt := Sx.ltTT) (l := st ++ [p])).mpr (List.mem_append_left _ hq)) (fun m hm => hm) hf
end Dk
end

section
set_option Elab.async false
set_option linter.all false
set_option maxRecDepth 100000
set_option maxHeartbeats 4000000
namespace Dk
open L2 Dl Pm
/-- a slot that a comprehension may use -/
def pl (x : Option Slot) : Prop := x = none ∨ ∃ d, x = some (.val d)
theorem okD_strs (n : Nat) {l : List PySem.Str} (h : l.length ≤ 1000) : okD (n + 1) (strsD l) = true := by
  show okD (n + 1) (.node .lst (l.map D.str)) = true
  rw [okD, List.length_map, decide_eq_true h, Bool.true_and, List.all_eq_true]
  intro d hd
  obtain ⟨x, _, rfl⟩ := List.mem_map.mp hd
  cases n <;> rfl
theorem okD_way (k : Nat) {G : Gr PySem.Str} {n : PySem.Str} (h : ∀ j, far G n = some j → j < 6) : okD (k + 1) (wayD G n) = true := by
  unfold wayD
  split
  · rfl
  · next j e =>
    have := h j e
    exact okD_strs _ (by rw [wy_length e]; omega)
theorem ifS_by (b : Bool) {ta : TDen} {dS dT : SDen} {s : Env} {E : DEnds} (h1 : ∀ Q : Bool → Env → Prop, Q b s → ta s Q) (h2 : if b = true then dS s E else dT s E) : dIfS ta dS dT s E := h1 (fun c s1 => if c = true then dS s1 E else dT s1 E) h2
theorem cutD_last {α : Type} (f : α → D) (l : List α) (x : α) : cutD ((l ++ [x]).map f) none (some (-1)) = l.map f := by
  unfold cutD
  rw [HT.sIx_none, List.drop_zero, Nat.sub_zero]
  have : HT.sIx ((l ++ [x]).map f).length ((l ++ [x]).map f).length (some (-1)) = l.length := by
    unfold HT.sIx
    dsimp only
    rw [if_pos (by decide)]
    simp
    omega
  rw [this]
  simp
theorem cutD_tail {α : Type} (f : α → D) (l : List α) : cutD (l.map f) (some 1) none = l.tail.map f := by
  unfold cutD
  rw [HT.sIx_none, show (some (1 : Int)) = some ((1 : Nat) : Int) from rfl, HT.sIx_nat]
  cases l with
  | nil => simp
  | cons a l =>
    simp
    rw [List.take_of_length_le (by simp)]
theorem okD_three {n : Nat} {a b c : D} (ha : okD n a = true) (hb : okD n b = true) (hc : okD n c = true) : okD (n + 1) (.node .lst [a, b, c]) = true := by
  rw [okD, List.all_cons, List.all_cons, List.all_cons, ha, hb, hc]
  rfl
theorem okD_pair {n : Nat} {a b : D} (ha : okD n a = true) (hb : okD n b = true) : okD (n + 1) (.node .lst [a, b]) = true := by
  rw [okD, List.all_cons, List.all_cons, ha, hb]
  rfl
theorem okD_rows (k : Nat) {l : List PySem.Str} (h : l.length ≤ 1000) : okD (k + 2) (.node .lst (l.map fun n => strsD [n])) = true := by
  rw [okD, List.length_map, decide_eq_true h, Bool.true_and, List.all_eq_true]
  intro d hd
  obtain ⟨x, _, rfl⟩ := List.mem_map.mp hd
  exact okD_strs k (l := [x]) (by simp)
theorem x_same {d e : D} {P : D → Prop} (h : d = e) (q : okD 4 d = true ∧ P (.bl true)) : C__law_same [.val d, .val e] P := by
  subst h
  exact ⟨d, rfl, q⟩

theorem Bd.Ok.validF {B : Bd} (ok : B.Ok) : ∀ x, x ∈ B.front → validN x := fun x hx => ok.names_ne (front_names ok hx)
theorem x_wayV {B : Bd} {st : List (PySem.Str × PySem.Str)} {d : D} {n : PySem.Str} {Q : D → Prop} (hw : IsWays B st d) (hn : n ∈ B.names) (q : Q (wayD (B.gr st) n)) : C_Ways_way [.val d, .val (.str n)] (fun r => Q r) (fun t es => Q (.node t es)) := by
  refine ⟨B, st, d, n, rfl, hw, hn, fun h => ?_, fun k h => ?_⟩
  · unfold wayD at q
    rw [h] at q
    exact q
  · unfold wayD at q
    rw [h] at q
    exact q
theorem x_wayS {B : Bd} {st : List (PySem.Str × PySem.Str)} {d : D} {n : PySem.Str} {k : Nat} {P : D → Prop} {R : Tag → List D → Prop} (hw : IsWays B st d) (hn : n ∈ B.names) (hf : far (B.gr st) n = some k) (q : R .lst ((wyOf (B.gr st) k n).map D.str)) : C_Ways_way [.val d, .val (.str n)] P R := by
  refine ⟨B, st, d, n, rfl, hw, hn, fun h => ?_, fun j h => ?_⟩
  · rw [hf] at h; cases h
  · rw [hf] at h; cases h; exact q
theorem IsWays.nd {B : Bd} {st : List (PySem.Str × PySem.Str)} {d : D} (h : IsWays B st d) : ∃ wds, d = .node (.ins 1 ["plat", "own_steps", "own_leads", "own_fronts"]) wds := by
  obtain ⟨pd, rfl, _, _⟩ := h.elim
  exact ⟨_, rfl⟩

theorem c_law (N : Env → Prop) (P : D → Prop) (hp : P (.bl true)) : den_law C__law_map C__law_fronting C__law_given C__law_named C__law_made C_Ways___init__ C__law_walks C_Ways_way C__law_same C__law_best C_Ways_comes C__law_possible C_Ways_bare C__law_pick C_Ways_with_steps
    [none, some .bag, none, none, none, none, none, none, none, none, none, none, none, none, none, none, none, none, none, none, none, none] { nx := N, rt := P } := by
  unfold den_law
  refine seq_by (fun s => True) ?_ ?_
  · intro K0 hK0
    simp only [dFor, diRange, dC]
    refine ⟨by decide, by decide, ?_⟩
    refine for_by (fun t s => ∃ (x2 x3 x4 x5 x6 x7 x8 x9 x10 x11 x12 x13 x14 x15 x16 x17 x18 : Option Slot), pl x3 ∧ s = [none, some .bag, x2, x3, x4, x5, x6, x7, x8, x9, x10, x11, x12, x13, x14, x15, x16, x17, x18, none, none, none]) ⟨none, none, none, none, none, none, none, none, none, none, none, none, none, none, none, none, none, .inl rfl, rfl⟩ ?_ ?_
    · rintro it dt s K2 hdt ⟨x2, x3, x4, x5, x6, x7, x8, x9, x10, x11, x12, x13, x14, x15, x16, x17, x18, hx3, rfl⟩ hK2
      show dSeq _ _ [none, some .bag, some (.val dt), x3, x4, x5, x6, x7, x8, x9, x10, x11, x12, x13, x14, x15, x16, x17, x18, none, none, none] _
      refine seq_by (fun s => ∃ B : Bd, B.Ok ∧ s = [none, some .bag, some (.val dt), x3, x4, x5, some (.val (B.rows)), some (.val (cellsD B.road)), x8, x9, x10, x11, x12, x13, x14, x15, x16, x17, x18, none, none, none]) ?_ ?_
      · intro K hK
        simp
        refine ⟨rfl, fun B ok => ?_⟩
        simp
        exact hK _ ⟨B, ok, rfl⟩
      rintro _ ⟨B, ok, rfl⟩
      refine seq_by (fun s => ∃ (pd : D) (ps : List (PySem.Str × PySem.Str)), IsPlat B pd ∧ (∀ p, p ∈ ps → p ∈ B.pairs) ∧ ps.length < 60 ∧ s = [none, some .bag, some (.val dt), x3, x4, x5, some (.val (B.rows)), some (.val (cellsD B.road)), some (.val pd), some (.val (strsD B.names)), some (.val (pairsD ps)), some (.val (strsD B.front)), x12, x13, x14, x15, x16, x17, x18, none, none, none]) ?_ ?_
      · intro K hK
        simp
        refine ⟨B, rfl, ok, fun pd hpd => ?_⟩
        simp
        refine ⟨B, rfl, ok, ?_⟩
        simp
        refine ⟨B, rfl, ok, fun ps hps hpl => ?_⟩
        simp
        refine ⟨B, rfl, ok, ?_⟩
        simp
        exact hK _ ⟨pd, ps, hpd, hps, hpl, rfl⟩
      rintro _ ⟨pd, ps, hpd, hps, hpl, rfl⟩
      have so : StOk B (usort Sx.ltTT ps) := stOk_usort hps
      refine seq_by (fun s => ∃ wds : List D, IsWays B (usort Sx.ltTT ps) (.node (.ins 1 ["plat", "own_steps", "own_leads", "own_fronts"]) wds) ∧ s = [none, some .bag, some (.val dt), x3, x4, x5, some (.val (B.rows)), some (.val (cellsD B.road)), some (.val pd), some (.val (strsD B.names)), some (.val (pairsD ps)), some (.val (strsD B.front)), some (.val (.node (.ins 1 ["plat", "own_steps", "own_leads", "own_fronts"]) wds)), some (.val (pairsD (usort Sx.ltTT ps))), x14, x15, x16, x17, x18, none, none, none]) ?_ ?_
      · intro K hK
        simp
        refine ⟨B, pd, ps, rfl, hpd, hps, by omega, fun ns ds hf => ?_⟩
        simp
        right
        refine ⟨by omega, fun ys hy hs => ?_⟩
        have : ys = usort Sx.ltTT ps := usort_eq lin_TT hs fun x => hy x.1 x.2
        subst this
        have hw : IsWays B (usort Sx.ltTT ps) (.node (.ins 1 ns) ds) := ⟨ns, ds, rfl, hf, so⟩
        obtain ⟨wds, hwd⟩ := hw.nd
        rw [hwd] at hw ⊢
        exact hK _ ⟨wds, hw, rfl⟩
      rintro _ ⟨wds, hw, rfl⟩
      generalize usort Sx.ltTT ps = st at so hw ⊢
      have gok := gr_ok ok so
      refine seq_by (fun s => ∃ (x3 x14 x15 x16 x18 : Option Slot), pl x3 ∧ s = [none, some .bag, some (.val dt), x3, x4, x5, some (.val (B.rows)), some (.val (cellsD B.road)), some (.val pd), some (.val (strsD B.names)), some (.val (pairsD ps)), some (.val (strsD B.front)), some (.val (.node (.ins 1 ["plat", "own_steps", "own_leads", "own_fronts"]) wds)), some (.val (pairsD st)), x14, x15, x16, x17, x18, none, none, none]) ?_ ?_
      · intro K hK
        simp only [dFor, diL, dVar, List.getElem?_cons_succ, List.getElem?_cons_zero]
        refine for_by (fun i s => ∃ (x3 x14 x15 x16 x18 : Option Slot), pl x3 ∧ s = [none, some .bag, some (.val dt), x3, x4, x5, some (.val (B.rows)), some (.val (cellsD B.road)), some (.val pd), some (.val (strsD B.names)), some (.val (pairsD ps)), some (.val (strsD B.front)), some (.val (.node (.ins 1 ["plat", "own_steps", "own_leads", "own_fronts"]) wds)), some (.val (pairsD st)), x14, x15, x16, x17, x18, none, none, none]) ⟨x3, x14, x15, x16, x18, hx3, rfl⟩ ?_ ?_
        · rintro i d s K3 hd ⟨x3, x14, x15, x16, x18, _, rfl⟩ hK3
          obtain ⟨n, hn, rfl⟩ := map_get hd
          have hnm : n ∈ B.names := List.mem_of_getElem? hn
          show dSeq _ _ [none, some .bag, some (.val dt), some (.val (.str n)), x4, x5, some (.val (B.rows)), some (.val (cellsD B.road)), some (.val pd), some (.val (strsD B.names)), some (.val (pairsD ps)), some (.val (strsD B.front)), some (.val (.node (.ins 1 ["plat", "own_steps", "own_leads", "own_fronts"]) wds)), some (.val (pairsD st)), x14, x15, x16, x17, x18, none, none, none] _
          refine seq_by (fun s => (walksF (B.gr st) n).length < 100000 ∧ s = [none, some .bag, some (.val dt), some (.val (.str n)), x4, x5, some (.val (B.rows)), some (.val (cellsD B.road)), some (.val pd), some (.val (strsD B.names)), some (.val (pairsD ps)), some (.val (strsD B.front)), some (.val (.node (.ins 1 ["plat", "own_steps", "own_leads", "own_fronts"]) wds)), some (.val (pairsD st)), some (.val (.lst ((walksF (B.gr st) n).map strsD))), x15, x16, x17, x18, none, none, none]) ?_ ?_
          · intro K hK
            simp
            refine ⟨B, st, n, rfl, ok, so, hnm, fun hlt => ?_⟩
            exact hK _ ⟨hlt, rfl⟩
          rintro _ ⟨hlt, rfl⟩
          have hbest := best_way ok so hnm
          have hcw := comes_walks ok so hnm
          have hwv := walks_valid ok so hnm
          have hwsh := shp_rows hwv
          generalize hW : walksF (B.gr st) n = W at hlt hbest hcw hwv hwsh ⊢
          refine seq_by (fun s => ∃ (x15 x18 : Option Slot), s = [none, some .bag, some (.val dt), some (.val (.str n)), x4, x5, some (.val (B.rows)), some (.val (cellsD B.road)), some (.val pd), some (.val (strsD B.names)), some (.val (pairsD ps)), some (.val (strsD B.front)), some (.val (.node (.ins 1 ["plat", "own_steps", "own_leads", "own_fronts"]) wds)), some (.val (pairsD st)), some (.val (.lst ((W).map strsD))), x15, x16, x17, x18, none, none, none]) ?_ ?_
          · intro K hK
            simp only [dFor, diRange, dC]
            refine ⟨by decide, by decide, ?_⟩
            refine for_by (fun t s => ∃ (x15 x18 : Option Slot), s = [none, some .bag, some (.val dt), some (.val (.str n)), x4, x5, some (.val (B.rows)), some (.val (cellsD B.road)), some (.val pd), some (.val (strsD B.names)), some (.val (pairsD ps)), some (.val (strsD B.front)), some (.val (.node (.ins 1 ["plat", "own_steps", "own_leads", "own_fronts"]) wds)), some (.val (pairsD st)), some (.val (.lst ((W).map strsD))), x15, x16, x17, x18, none, none, none]) ⟨x15, x18, rfl⟩ ?_ ?_
            · rintro j da s K4 hda ⟨x15, x18, rfl⟩ hK4
              show dSeq _ _ [none, some .bag, some (.val dt), some (.val (.str n)), x4, x5, some (.val (B.rows)), some (.val (cellsD B.road)), some (.val pd), some (.val (strsD B.names)), some (.val (pairsD ps)), some (.val (strsD B.front)), some (.val (.node (.ins 1 ["plat", "own_steps", "own_leads", "own_fronts"]) wds)), some (.val (pairsD st)), some (.val (.lst ((W).map strsD))), some (.val da), x16, x17, x18, none, none, none] _
              refine seq_by (fun s => (far (B.gr st) n = none ∧ s = [none, some .bag, some (.val dt), some (.val (.str n)), x4, x5, some (.val (B.rows)), some (.val (cellsD B.road)), some (.val pd), some (.val (strsD B.names)), some (.val (pairsD ps)), some (.val (strsD B.front)), some (.val (.node (.ins 1 ["plat", "own_steps", "own_leads", "own_fronts"]) wds)), some (.val (pairsD st)), some (.val (.lst ((W).map strsD))), some (.val da), x16, x17, some (.val (.non)), none, none, none]) ∨ ∃ k, far (B.gr st) n = some k ∧ s = [none, some .bag, some (.val dt), some (.val (.str n)), x4, x5, some (.val (B.rows)), some (.val (cellsD B.road)), some (.val pd), some (.val (strsD B.names)), some (.val (pairsD ps)), some (.val (strsD B.front)), some (.val (.node (.ins 1 ["plat", "own_steps", "own_leads", "own_fronts"]) wds)), some (.val (pairsD st)), some (.val (.lst ((W).map strsD))), some (.val da), x16, x17, some (.own .lst ((wyOf (B.gr st) k n).map .str)), none, none, none]) ?_ ?_
              · intro K hK
                simp
                exact ⟨B, st, _, n, rfl, hw, hnm, fun h0 => hK _ (.inl ⟨h0, rfl⟩), fun k hk => hK _ (.inr ⟨k, hk, rfl⟩)⟩
              · intro s hs
                refine seq_by (fun s' => s' = s) ?_ ?_
                · intro K hK
                  rcases hs with ⟨h0, rfl⟩ | ⟨k, hk, rfl⟩
                  · have hwd : wayD (B.gr st) n = .non := by unfold wayD; rw [h0]
                    simp
                    refine ⟨B, st, _, n, rfl, hw, hnm, ?_⟩
                    refine x_wayV hw hnm ?_
                    refine ⟨W, rfl, hlt, hwv, hwsh, W, rfl, hlt, hwv, ?_⟩
                    refine x_same (by rw [hbest, hcw, hwd]) ⟨okD_three rfl rfl (okD_way 2 fun j hj => far_small ok so hnm hj), ?_⟩
                    simp
                    exact hK _ rfl
                  · have hwd : wayD (B.gr st) n = strsD (wyOf (B.gr st) k n) := by unfold wayD; rw [hk]
                    simp
                    refine ⟨B, st, _, n, rfl, hw, hnm, ?_⟩
                    refine x_wayV hw hnm ?_
                    refine ⟨W, rfl, hlt, hwv, hwsh, W, rfl, hlt, hwv, ?_⟩
                    refine x_same (by rw [hbest, hcw, hwd]) ⟨okD_three (okD_strs 2 (by rw [wy_length hk]; have := far_small ok so hnm hk; omega)) rfl (okD_way 2 fun j hj => far_small ok so hnm hj), ?_⟩
                    simp
                    exact hK _ rfl
                · rintro s' rfl
                  rcases hs with ⟨h0, rfl⟩ | ⟨k, hk, rfl⟩
                  · simp
                    exact hK4 _ ⟨_, _, rfl⟩
                  · have hkl := far_small ok so hnm hk
                    have hwl := wy_length hk
                    simp
                    refine ⟨by omega, hK4 _ ⟨_, _, rfl⟩⟩
            · rintro s ⟨x15, x18, rfl⟩
              exact hK _ ⟨_, _, rfl⟩
          rintro _ ⟨x15, x18, rfl⟩
          have hfin : ∀ x16 : Option Slot, K3 [none, some .bag, some (.val dt), some (.val (.str n)), x4, x5, some (.val (B.rows)), some (.val (cellsD B.road)), some (.val pd), some (.val (strsD B.names)), some (.val (pairsD ps)), some (.val (strsD B.front)), some (.val (.node (.ins 1 ["plat", "own_steps", "own_leads", "own_fronts"]) wds)), some (.val (pairsD st)), some (.val (.lst ((W).map strsD))), x15, x16, x17, x18, none, none, none] := fun x16 => hK3 _ ⟨_, _, _, x16, x18, .inr ⟨_, rfl⟩, rfl⟩
          refine seq_to [none, some .bag, some (.val dt), some (.val (.str n)), x4, x5, some (.val (B.rows)), some (.val (cellsD B.road)), some (.val pd), some (.val (strsD B.names)), some (.val (pairsD ps)), some (.val (strsD B.front)), some (.val (.node (.ins 1 ["plat", "own_steps", "own_leads", "own_fronts"]) wds)), some (.val (pairsD st)), some (.val (.lst ((W).map strsD))), x15, some (.val (wayD (B.gr st) n)), x17, x18, none, none, none] ?_ ?_
          · intro K hK
            simp
            refine x_wayV hw hnm ?_
            simpa using hK
          have hfin := hfin (some (.val (wayD (B.gr st) n)))
          cases hf : far (B.gr st) n with
          | none =>
            have hwd : wayD (B.gr st) n = .non := by unfold wayD; rw [hf]
            rw [hwd] at hfin ⊢
            simp
            simpa using hfin
          | some k =>
            have hwd : wayD (B.gr st) n = strsD (wyOf (B.gr st) k n) := by unfold wayD; rw [hf]
            rw [hwd] at hfin ⊢
            have hkl := far_small ok so hnm hf
            have hwl := wy_length hf
            have hpw := wy_pw hf
            have hnd := pw_nodup hpw
            obtain ⟨hch, tl, htl⟩ := pw_chn hpw
            have hfr := pw_front hpw
            obtain ⟨l, hl1, hl2⟩ := wy_last hf
            have hlf : l ∈ B.front := of_decide_eq_true hl2
            generalize hw0 : wyOf (B.gr st) k n = w at hfin hwl hpw hnd hch htl hfr hl1 ⊢
            obtain ⟨w0, hw1⟩ : ∃ w0, w = w0 ++ [l] := by
              rcases concat_of w with z | ⟨w0, x, z⟩
              · rw [z] at hl1; cases hl1
              · rw [z] at hl1; simp at hl1; exact ⟨w0, by rw [z, hl1]⟩
            have hat0 : atI (w.map D.str) 0 = some (.str n) := by rw [htl]; simp
            have hat1 : atI (w.map D.str) (-1) = some (.str l) := by
              rw [hw1, List.map_append]
              exact atI_last _ _
            have hcut0 : cutD (w.map D.str) none (some (-1)) = w0.map D.str := by
              rw [hw1]
              exact cutD_last _ _ _
            have hcut1 : cutD (w.map D.str) (some 1) none = w.tail.map D.str := cutD_tail _ _
            have hfr0 : ∀ x, x ∈ w0 → x ∉ B.front := fun x hx hx2 => by
              have := hfr x (by rw [hw1]; simpa using hx)
              have h2 : (B.gr st).fr x = true := decide_eq_true hx2
              rw [this] at h2
              cases h2
            have ha := all_strs (ns := B.front) (x := l)
            have hb := any_strs (ns := B.front) (x := l)
            have hw0l : w0.length ≤ 6 := by
              have := congrArg List.length hw1
              rw [List.length_append] at this
              simp at this
              omega
            refine ifS_by true (s := [none, some .bag, some (.val dt), some (.val (.str n)), x4, x5, some (.val (B.rows)), some (.val (cellsD B.road)), some (.val pd), some (.val (strsD B.names)), some (.val (pairsD ps)), some (.val (strsD B.front)), some (.val (.node (.ins 1 ["plat", "own_steps", "own_leads", "own_fronts"]) wds)), some (.val (pairsD st)), some (.val (.lst ((W).map strsD))), x15, some (.val (strsD w)), x17, x18, none, none, none]) (fun Q hQ => by simpa using hQ) ?_
            rw [if_pos rfl]
            refine seq_by (fun s => s = [none, some .bag, some (.val dt), some (.val (.str n)), x4, x5, some (.val (B.rows)), some (.val (cellsD B.road)), some (.val pd), some (.val (strsD B.names)), some (.val (pairsD ps)), some (.val (strsD B.front)), some (.val (.node (.ins 1 ["plat", "own_steps", "own_leads", "own_fronts"]) wds)), some (.val (pairsD st)), some (.val (.lst ((W).map strsD))), x15, some (.val (strsD w)), x17, x18, none, none, none]) ?_ ?_
            · intro K hK
              simp [hat0, hat1, hcut0, ha, hb, hlf, flatD, -List.all_map, -List.any_map, -List.all_eq_true, -List.any_eq_true]
              refine ⟨plain_ok (by simp), lcD_by (fun _ => some (.bl false)) (by simp; omega) ?_ ?_⟩
              · intro e he K hK
                obtain ⟨x, hx, rfl⟩ := List.mem_map.mp he
                have hx2 := hfr0 x hx
                have ha := all_strs (ns := B.front) (x := x)
                have hb := any_strs (ns := B.front) (x := x)
                simp [ha, hb, hx2, flatD, -List.all_map, -List.any_map, -List.all_eq_true, -List.any_eq_true]
                exact hK
              · rw [filterMap_const]
                simp [toBls_rep]
                refine ⟨by omega, fun ys hy hyn => ?_⟩
                have e1 : ys.length = w.length := Nat.le_antisymm (nodup_len2 hyn fun x hx => (hy x).mp hx) (nodup_len2 hnd fun x hx => (hy x).mpr hx)
                rw [if_pos (by omega)]
                exact hK _ rfl
            · rintro _ rfl
              have hzip : zipOf (w.map D.str) (w.tail.map D.str) = (w.zip w.tail).map pairD := by
                unfold zipOf
                rw [List.zip_map, List.map_map]
                rfl
              have hzl : (w.zip w.tail).length ≤ 7 := by
                rw [List.length_zip]
                omega
              simp only [hcut1, dIfS, dNotT, dTest, dCB, dCons, dFz, dLc, diL, diZip, dVar, List.getElem?_cons_succ, List.getElem?_cons_zero, dSlL, dPart, dNoPart, dC, hzip]
              refine ⟨plain_ok (by simp), lcD_by some (by simp; omega) ?_ ?_⟩
              · intro e he K hK
                obtain ⟨p, hp, rfl⟩ := List.mem_map.mp he
                simp
                exact hK
              rw [List.filterMap_some]
              refine ⟨plain_ok (by simp), lcD_by (fun _ => some (.bl true)) (by simp; omega) ?_ ?_⟩
              · intro e he K hK
                obtain ⟨p, hp, rfl⟩ := List.mem_map.mp he
                have := chn_steps hch p hp
                simp
                refine ⟨p.1, p.2, ⟨rfl, rfl⟩, st, rfl, ?_⟩
                rw [decide_eq_true (show (p.1, p.2) ∈ st from this)]
                exact hK
              · rw [filterMap_const]
                simp [toBls_rep]
                simpa using hfin
        · rintro s ⟨x3, x14, x15, x16, x18, hx3, rfl⟩
          exact hK _ ⟨_, _, _, _, _, hx3, rfl⟩
      rintro _ ⟨x3, x14, x15, x16, x18, hx3, rfl⟩
      have so2 := pairs_stOk B
      have gok2 := gr_ok ok so2
      have hpl2 := so2.len ok
      have hup : usort Sx.ltTT B.pairs = B.pairs := (usort_eq lin_TT so2.so fun x => Iff.rfl).symm
      refine seq_by (fun s => ∃ wd2 : List D, IsWays B B.pairs (.node (.ins 1 ["plat", "own_steps", "own_leads", "own_fronts"]) wd2) ∧ s = [none, some .bag, some (.val dt), x3, some (.val (.node (.ins 1 ["plat", "own_steps", "own_leads", "own_fronts"]) wd2)), x5, some (.val (B.rows)), some (.val (cellsD B.road)), some (.val pd), some (.val (strsD B.names)), some (.val (pairsD ps)), some (.val (strsD B.front)), some (.val (.node (.ins 1 ["plat", "own_steps", "own_leads", "own_fronts"]) wds)), some (.val (pairsD st)), x14, x15, x16, x17, x18, none, none, none]) ?_ ?_
      · intro K hK
        simp
        refine x_possible ⟨ok, ?_⟩
        simp
        refine ⟨B, pd, B.pairs, rfl, hpd, fun p hp => hp, by omega, fun ns ds hf => ?_⟩
        rw [hup] at hf
        have hw2 : IsWays B B.pairs (.node (.ins 1 ns) ds) := ⟨ns, ds, rfl, hf, so2⟩
        obtain ⟨wds, hwd⟩ := hw2.nd
        rw [hwd] at hw2 ⊢
        exact hK _ ⟨wds, hw2, rfl⟩
      rintro _ ⟨wd2, hw2, rfl⟩
      refine seq_by (fun s => s = [none, some .bag, some (.val dt), x3, some (.val (.node (.ins 1 ["plat", "own_steps", "own_leads", "own_fronts"]) wd2)), x5, some (.val (B.rows)), some (.val (cellsD B.road)), some (.val pd), some (.val (strsD B.names)), some (.val (pairsD ps)), some (.val (strsD B.front)), some (.val (.node (.ins 1 ["plat", "own_steps", "own_leads", "own_fronts"]) wds)), some (.val (pairsD st)), x14, x15, x16, x17, x18, none, none, none]) ?_ ?_
      · intro K hK
        simp
        refine ⟨B, B.pairs, _, rfl, hw2, ?_⟩
        dsimp only
        have hnl : B.names.length ≤ 6 := ok.le
        have hfl : B.front.length ≤ 6 := Nat.le_trans (nodup_len2 (usort_nodup lin_T _) fun x hx => front_names ok hx) hnl
        have hways : B.front.map (fun n => wayD (B.gr B.pairs) n) = B.front.map fun n => strsD [n] := List.map_congr_left fun n hn => front_way hn
        have hbare := bare_eq ok
        refine ⟨plain_ok (by simpa [pl] using hx3), lcD_by (fun d => some (wayD (B.gr B.pairs) (toS d))) (by simp; omega) ?_ ?_⟩
        · intro e he K hK
          obtain ⟨n, hn, rfl⟩ := List.mem_map.mp he
          simp
          refine x_wayV hw2 (front_names ok hn) ?_
          exact hK
        rw [List.filterMap_map, show ((fun d => some (wayD (B.gr B.pairs) (toS d))) ∘ D.str) = (fun n : PySem.Str => some (wayD (B.gr B.pairs) n)) from rfl, filterMap_some, hways]
        refine ⟨shp_strs ok.validF, ?_⟩
        have hlast : ∀ (Q : List D → Prop), Q (B.front.map fun n => strsD [n]) → lcD (dgName 3) dYes (dFz (dLst (dCons (dVar 3) dNil))) [3] [none, some .bag, some (.val dt), x3, some (.val (.node (.ins 1 ["plat", "own_steps", "own_leads", "own_fronts"]) wd2)), x5, some (.val (B.rows)), some (.val (cellsD B.road)), some (.val pd), some (.val (strsD B.names)), some (.val (pairsD ps)), some (.val (strsD B.front)), some (.val (.node (.ins 1 ["plat", "own_steps", "own_leads", "own_fronts"]) wds)), some (.val (pairsD st)), x14, x15, x16, x17, x18, none, none, none] (B.front.map D.str) [] Q := by
          intro Q hQ
          refine lcD_by (fun d => some (.lst [d])) (by simp; omega) ?_ ?_
          · intro e he K hK
            obtain ⟨n, hn, rfl⟩ := List.mem_map.mp he
            simp
            exact hK
          · rw [List.filterMap_map, show ((fun d => some (D.lst [d])) ∘ D.str) = (fun n : PySem.Str => some (strsD [n])) from rfl, filterMap_some]
            exact hQ
        by_cases hfe : B.front = []
        · rw [if_pos hfe] at hbare ⊢
          refine ⟨plain_ok (by simpa [pl] using hx3), hlast _ ?_⟩
          refine x_same (by rw [hbare]) ⟨okD_pair (okD_strs 2 (by rw [hbare]; first | omega | simp)) (okD_rows 1 (by omega)), ?_⟩
          simp
          exact hK _ rfl
        · rw [if_neg hfe] at hbare ⊢
          refine ⟨plain_ok (by simpa [pl] using hx3), hlast _ ?_⟩
          refine x_same (by rw [hbare]; rfl) ⟨okD_pair (okD_strs 2 (by rw [hbare]; first | omega | simp)) (okD_rows 1 (by omega)), ?_⟩
          simp
          exact hK _ rfl
      rintro _ rfl
      refine seq_by (fun s => ∃ d5, (d5 = .non ∨ ∃ p, p ∈ B.pairs ∧ d5 = pairD p) ∧ s = [none, some .bag, some (.val dt), x3, some (.val (.node (.ins 1 ["plat", "own_steps", "own_leads", "own_fronts"]) wd2)), some (.val d5), some (.val (B.rows)), some (.val (cellsD B.road)), some (.val pd), some (.val (strsD B.names)), some (.val (pairsD ps)), some (.val (strsD B.front)), some (.val (.node (.ins 1 ["plat", "own_steps", "own_leads", "own_fronts"]) wds)), some (.val (pairsD st)), x14, x15, x16, x17, x18, none, none, none]) ?_ ?_
      · intro K hK
        simp
        refine x_possible ⟨ok, ?_⟩
        simp
        refine ⟨by omega, x_pick ⟨⟨by simp, by simp; omega⟩, fun d hd => ?_⟩⟩
        rcases List.mem_append.mp hd with z | z
        · obtain ⟨p, hp, rfl⟩ := List.mem_map.mp z
          exact hK _ ⟨_, .inr ⟨p, hp, rfl⟩, rfl⟩
        · exact hK _ ⟨_, .inl (List.mem_singleton.mp z), rfl⟩
      rintro _ ⟨d5, hd5, rfl⟩
      rcases hd5 with rfl | ⟨p, hpm, rfl⟩
      · simp
        exact hK2 _ ⟨_, _, _, _, _, _, _, _, _, _, _, _, _, _, _, _, _, hx3, rfl⟩
      refine ifS_by true (s := [none, some .bag, some (.val dt), x3, some (.val (.node (.ins 1 ["plat", "own_steps", "own_leads", "own_fronts"]) wd2)), some (.val (pairD p)), some (.val (B.rows)), some (.val (cellsD B.road)), some (.val pd), some (.val (strsD B.names)), some (.val (pairsD ps)), some (.val (strsD B.front)), some (.val (.node (.ins 1 ["plat", "own_steps", "own_leads", "own_fronts"]) wds)), some (.val (pairsD st)), x14, x15, x16, x17, x18, none, none, none]) (fun Q hQ => by simpa using hQ) ?_
      rw [if_pos rfl]
      refine seq_by (fun s => ∃ wd3 : List D, IsWays B (usort Sx.ltTT (st ++ [p])) (.node (.ins 1 ["plat", "own_steps", "own_leads", "own_fronts"]) wd3) ∧ s = [none, some .bag, some (.val dt), x3, some (.val (.node (.ins 1 ["plat", "own_steps", "own_leads", "own_fronts"]) wd2)), some (.val (pairD p)), some (.val (B.rows)), some (.val (cellsD B.road)), some (.val pd), some (.val (strsD B.names)), some (.val (pairsD ps)), some (.val (strsD B.front)), some (.val (.node (.ins 1 ["plat", "own_steps", "own_leads", "own_fronts"]) wds)), some (.val (pairsD st)), x14, x15, x16, some (.val (.node (.ins 1 ["plat", "own_steps", "own_leads", "own_fronts"]) wd3)), x18, none, none, none]) ?_ ?_
      · intro K hK
        simp
        refine ⟨[pairD p], rfl, by simp, B, st, _, p, rfl, hw, hpm, fun d' hd' => ?_⟩
        obtain ⟨wd3, rfl⟩ := hd'.nd
        exact hK _ ⟨wd3, hd', rfl⟩
      rintro _ ⟨wd3, hw3, rfl⟩
      have hnl : B.names.length ≤ 6 := ok.le
      obtain ⟨lb, hlb⟩ : ∃ lb : PySem.Str → Bool, ∀ n, lb n = (far (B.gr st) n).isSome := ⟨fun n => (far (B.gr st) n).isSome, fun n => rfl⟩
      have hmore : ∀ n, lb n = true → ∃ k j, far (B.gr st) n = some k ∧ far (B.gr (usort Sx.ltTT (st ++ [p]))) n = some j ∧ j ≤ k := fun n hn => by
        rw [hlb] at hn
        obtain ⟨k, hk⟩ := Option.isSome_iff_exists.mp hn
        obtain ⟨j, hj, hjk⟩ := more_steps (p := p) hk
        exact ⟨k, j, hk, hj, hjk⟩
      refine seq_by (fun s => s = [none, some .bag, some (.val dt), x3, some (.val (.node (.ins 1 ["plat", "own_steps", "own_leads", "own_fronts"]) wd2)), some (.val (pairD p)), some (.val (B.rows)), some (.val (cellsD B.road)), some (.val pd), some (.val (strsD B.names)), some (.val (pairsD ps)), some (.val (strsD B.front)), some (.val (.node (.ins 1 ["plat", "own_steps", "own_leads", "own_fronts"]) wds)), some (.val (pairsD st)), x14, x15, x16, some (.val (.node (.ins 1 ["plat", "own_steps", "own_leads", "own_fronts"]) wd3)), x18, none, none, none]) ?_ ?_
      · intro K hK
        simp
        refine ⟨plain_ok (by simpa [pl] using hx3), lcD_by (fun d => if lb (toS d) = true then some (.bl true) else none) (by simp; omega) ?_ ?_⟩
        · intro e he K hK
          obtain ⟨n, hn, rfl⟩ := List.mem_map.mp he
          have hK' : K (if lb n = true then some (.bl true) else none) := hK
          simp
          refine ⟨B, st, _, n, rfl, hw, hn, ?_⟩
          rw [← hlb]
          by_cases q : lb n = true
          · obtain ⟨k, j, _, hj, _⟩ := hmore n q
            rw [q] at hK' ⊢
            simp at hK' ⊢
            refine ⟨B, _, _, n, rfl, hw3, hn, ?_⟩
            rw [hj]
            exact hK'
          · rw [show lb n = false by simpa using q] at hK' ⊢
            simp at hK' ⊢
            exact hK'
        · rw [filterMap_strs2 (g := lb) (v := fun _ => D.bl true) (fun c => rfl), toBls_map (fun _ : PySem.Str => true)]
          simp
          exact hK _ rfl
      rintro _ rfl
      simp
      refine ⟨plain_ok (by simpa [pl] using hx3), lcD_by (fun d => if lb (toS d) = true then some (.bl false) else none) (by simp; omega) ?_ ?_⟩
      · intro e he K hK
        obtain ⟨n, hn, rfl⟩ := List.mem_map.mp he
        have hK' : K (if lb n = true then some (.bl false) else none) := hK
        simp
        refine ⟨B, st, _, n, rfl, hw, hn, ?_⟩
        rw [← hlb]
        by_cases q : lb n = true
        · obtain ⟨k, j, hk, hj, hjk⟩ := hmore n q
          rw [q] at hK' ⊢
          simp at hK' ⊢
          have l1 := wy_length hk
          have l2 := wy_length hj
          refine x_wayS hw3 hn hj ?_
          simp
          refine x_wayS hw hn hk ?_
          simp
          rw [decide_eq_false (by omega)]
          exact hK'
        · rw [show lb n = false by simpa using q] at hK' ⊢
          simp at hK' ⊢
          exact hK'
      · rw [filterMap_strs2 (g := lb) (v := fun _ => D.bl false) (fun c => rfl), toBls_map (fun _ : PySem.Str => false)]
        simp
        exact hK2 _ ⟨_, _, _, _, _, _, _, _, _, _, _, _, _, _, _, _, _, hx3, rfl⟩
    · intro s _
      exact hK0 _ trivial
  · intro s _
    simp
    exact hp
end Dk
end

section
set_option Elab.async false
set_option linter.all false
set_option maxRecDepth 100000
set_option maxHeartbeats 4000000
namespace Dk
open L2 Dl Pm
theorem c_same0 : Keeps N__law_same 2 (C_sameN 0) (den__law_same (C_sameN 0)) := by
  rintro as P - ⟨d, rfl, hd, hp⟩
  cases d with
  | node t ds => cases t <;> cases hd
  | _ => simp [den__law_same]; try exact hp
theorem zip_self {α : Type} : ∀ {l : List α} {a b : α}, (a, b) ∈ l.zip l → a = b ∧ a ∈ l
  | [], a, b, h => by cases h
  | x :: l, a, b, h => by
    rw [List.zip_cons_cons] at h
    rcases List.mem_cons.mp h with z | z
    · cases z; exact ⟨rfl, List.mem_cons_self⟩
    · obtain ⟨h1, h2⟩ := zip_self z
      exact ⟨h1, List.mem_cons_of_mem _ h2⟩
theorem c_same1 (n : Nat) : Keeps N__law_same 2 (C_sameN (n + 1)) (den__law_same (C_sameN n)) := by
  rintro as P - ⟨d, rfl, hd, hp⟩
  cases d with
  | node t ds =>
    cases t with
    | lst =>
      rw [okD, Bool.and_eq_true, decide_eq_true_eq, List.all_eq_true] at hd
      obtain ⟨hl, hd⟩ := hd
      have hz : (zipOf ds ds).length ≤ 1000 := by
        unfold zipOf
        simp
        omega
      simp [den__law_same]
      refine ⟨plain_ok (by simp), lcD_by (fun _ => some (.bl true)) (by omega) ?_ ?_⟩
      · intro e he K hK
        obtain ⟨⟨a, b⟩, hab, rfl⟩ := List.mem_map.mp he
        obtain ⟨rfl, ha⟩ := zip_self hab
        simp
        exact ⟨a, rfl, hd a ha, hK⟩
      · rw [filterMap_const, toBls_rep]
        simp
        exact hp
    | _ => cases hd
  | _ => simp [den__law_same]; try exact hp
theorem take_all {α : Type} (l : List α) (n : Nat) (h : l.length ≤ n) : l.take n = l := List.take_of_length_le h
theorem c__law_bag : KeepsF N__law_bag 1 C__law_bag den__law_bag := by
  rintro as P - ⟨ns, rfl, hl, hp⟩
  have h1 := cutD_to D.int ns (r := 63) (by decide)
  rw [show (63 : Int).toNat = 63 from rfl, take_all ns 63 hl] at h1
  have hm : CMul 31 (ns.length : Int) := .inl ⟨by decide, by decide⟩
  simp [den__law_bag, h1, hm]
  exact ⟨trivial, hp⟩
end Dk
end

section
set_option Elab.async false
set_option linter.all false
set_option maxRecDepth 100000
set_option maxHeartbeats 4000000
namespace Dk
open L2 Dl Pm
@[simp] theorem atI_2 {α : Type} (a b c : α) (l : List α) : atI (a :: b :: c :: l) 2 = some c := atI_n (a :: b :: c :: l) 2
@[simp] theorem atI_3 {α : Type} (a b c d : α) (l : List α) : atI (a :: b :: c :: d :: l) 3 = some d := atI_n (a :: b :: c :: d :: l) 3
@[simp] theorem atI_4 {α : Type} (a b c d e : α) (l : List α) : atI (a :: b :: c :: d :: e :: l) 4 = some e := atI_n (a :: b :: c :: d :: e :: l) 4
theorem rseq_by (Q : Env → Prop) {dR dT : RDen} {s : Env} {E : REnds} (h1 : ∀ K : Env → Prop, (∀ s1, Q s1 → K s1) → dR s { E with nx := K }) (h2 : ∀ s1, Q s1 → dT s1 E) : rSeq dR dT s E := h1 _ h2
def bagL (ns : List Int) (i r sd n : Int) : Option Slot := some (.own .lst [.lst (ns.map D.int), .int i, .int r, .int sd, .int n])
structure BagI (ns : List Int) (i r sd n : Int) : Prop where
  i0 : 0 ≤ i
  i1 : i ≤ ns.length
  r0 : 0 ≤ r
  s0 : 0 ≤ sd
  s1 : sd < 2147483323
  n0 : 0 ≤ n
def DrawPost (ns : List Int) (many : Int) : D → Env → Prop := fun d s' => ∃ (i r sd n res : Int) (rest : Env), d = .int res ∧ 0 ≤ res ∧ res < many ∧ s' = bagL ns i r sd n :: rest ∧ BagI ns i r sd n
theorem emod_ok (a : Int) {m : Int} (h : 0 < m) : 0 ≤ a % m ∧ a % m < m := ⟨Int.emod_nonneg a (by omega), Int.emod_lt_of_pos a h⟩
theorem cmul_r {a b : Int} (h : -(2 ^ 64) < b ∧ b < 2 ^ 64) : CMul a b := .inr h
theorem c__law_draw (ns : List Int) (many i r sd n : Int) (hm : 0 < many ∧ many < 1073741824) (hb : BagI ns i r sd n) :
    den__law_draw [bagL ns i r sd n, some (.val (.int many)), none, none, none] { nx := fun _ => False, rt := DrawPost ns many } := by
  obtain ⟨i0, i1, r0, s0, s1, n0⟩ := hb
  have hmod : ∀ a : Int, 0 ≤ a % 2147483323 ∧ a % 2147483323 < 2147483323 := fun a => emod_ok a (by decide)
  unfold den__law_draw
  refine rseq_by (fun s => s = [bagL ns i r sd (n + 1), some (.val (.int many)), none, none, none]) ?_ ?_
  · intro K hK
    simp [bagL]
    exact hK _ rfl
  rintro _ rfl
  refine rseq_by (fun s => ∃ (x2 : Option Slot) (i r sd : Int), 0 ≤ i ∧ i ≤ ns.length ∧ 0 ≤ r ∧ 0 ≤ sd ∧ sd < 2147483323 ∧ s = [bagL ns i r sd (n + 1), some (.val (.int many)), x2, none, none]) ?_ ?_
  · intro K hK
    have hst : K [bagL ns i r sd (n + 1), some (.val (.int many)), none, none, none] := hK _ ⟨none, i, r, sd, i0, i1, r0, s0, s1, rfl⟩
    simp [bagL] at hst ⊢
    by_cases e1 : r = 0
    · subst e1
      by_cases e2 : i < ns.length
      · obtain ⟨x, hx, _⟩ := atI_in (l := ns.map D.int) i0 (by simpa using e2)
        obtain ⟨c, rfl⟩ : ∃ c, x = .int c := by
          obtain ⟨c, _, hc⟩ := List.mem_map.mp ‹x ∈ _›
          exact ⟨c, hc.symm⟩
        simp [e2, hx]
        have habs : 0 ≤ (if c < 0 then -c else c) := by split <;> omega
        generalize (if c < 0 then -c else c) = a at habs ⊢
        refine ⟨⟨by decide, by decide, by decide⟩, ?_⟩
        split
        · exact hK _ ⟨_, i + 1, a, sd, by omega, by omega, habs, s0, s1, rfl⟩
        · refine ⟨cmul_r (by decide), cmul_r (by decide), hK _ ⟨_, i + 1, 0, _, by omega, by omega, Int.le_refl 0, (hmod _).1, (hmod _).2, rfl⟩⟩
      · simp [e2]
        exact hst
    · simp [e1]
      exact hst
  rintro _ ⟨x2, i, r, sd, i0, i1, r0, s0, s1, rfl⟩
  refine rseq_by (fun s => s = [bagL ns i r sd (n + 1), some (.val (.int many)), x2, none, none]) ?_ ?_
  · intro K hK
    have hst := hK _ rfl
    simp [bagL] at hst ⊢
    by_cases e1 : 0 < r
    · simp [e1]
      refine ⟨hm.1, hm, ?_⟩
      exact ⟨i, r / many, sd, n + 1, r % many, _, rfl, (emod_ok r hm.1).1, (emod_ok r hm.1).2, rfl, i0, i1, Int.ediv_nonneg r0 (by omega), s0, s1, by omega⟩
    · simp [e1]
      exact hst
  rintro _ rfl
  simp [bagL]
  refine ⟨⟨by decide, by decide, by omega⟩, cmul_r (by decide), cmul_r (by decide), ⟨by decide, by decide⟩, cmul_r (by decide), hm.1, ?_⟩
  exact ⟨i, r, _, n + 1, _, _, rfl, (emod_ok _ hm.1).1, (emod_ok _ hm.1).2, rfl, i0, i1, r0, (hmod _).1, (hmod _).2, by omega⟩
end Dk
end

section
set_option Elab.async false
set_option linter.all false
set_option maxRecDepth 100000
set_option maxHeartbeats 4000000
namespace Dk
open PySem PySem.Spec PyProof.Rows L2 Dl
theorem fn_draw {P : Program} {w : World} {K : PySem.W.Frag} {mg : PySem.Str → Option Value} {base : Heap} {CA : Nat → Addr} {k : Nat} {ps : List PySem.Str} {x qual : PySem.Str} {st : Stmt} {f : Addr} {fd : FuncData} (F : FunD K x qual (defArgs st) (defBody st) (defScope st) [] [] f fd) (S : FnScope N__law_draw ps (defScope st)) (hn : ps.length = 2)
    (hb : ∀ (cdv : Value) (A : Around) (outer : List PySem.Env) (s : Shared) (H : Hp) (E : XK), Room k (A.deeper (envOfC qual (defScope st) s.heap.objs.size f cdv)) → DRs CA (cxOf CX0 P w K mg base N__law_draw qual (defScope st) f cdv A outer s H E).nox (defBody st) den__law_draw) : FnOk P w K mg base CX0 (k + 1) f fd ps (spD CA 2 C__law_draw) := by
  refine F.ok S (fun vs H Q E h => (spD_len h).trans hn.symm) fun cdv A outer s H vs Q E hr h => ⟨_, (hb cdv A outer s H E hr).ps.nox, ?_⟩
  obtain ⟨β, F0, as, Pp, sub, bok, r, hl, ⟨m, rfl, hm, hP⟩, q⟩ := h
  obtain ⟨v0, r1, rfl, ⟨b, hib, rfl⟩, v1, r2, rfl, rv1, rnil⟩ := r
  have rv1' : Rep CA F0 (.int m) v1 := rv1
  have e1 : v1 = .int m := rv1'.int_eq
  subst e1
  have e2 : r2 = [] := rnil
  subst e2
  obtain ⟨⟨c, ns, i, rr, sd, n, hH, hF, g1, g2, g3, g4, g5, g6, hβ⟩, hFb⟩ := bok b hib
  have hσ : L2.start N__law_draw [.ref b, .int m] = [some (.ref b), some (.int m), none, none, none] := rfl
  rw [hσ]
  have R : Rel CA (none, β.2) [bagL ns i rr sd n, some (.val (.int m)), none, none, none] [some (.ref b), some (.int m), none, none, none] H F0 := by
    refine ⟨sub, rfl, fun j d e => ?_, fun j t ds e => ?_, fun j1 j2 t ds u es a e1 e2 _ _ => ?_, fun j e => ?_, fun x e => ?_⟩
    · match j, e with
      | 1, e =>
        cases e
        exact ⟨.int m, rfl, rep_int⟩
      | 2, e => cases e
      | 3, e => cases e
      | 4, e => cases e
    · match j, e with
      | 0, e =>
        cases e
        refine ⟨b, [.ref c, .int i, .int rr, .int sd, .int n], rfl, ⟨_, hH, rfl⟩, reps_cons (rep_node ⟨_, hF, rfl⟩ (reps_ints ns)) (reps_cons rep_int (reps_cons rep_int (reps_cons rep_int (reps_one rep_int)))), hFb, (fun z => (by cases z)), True.intro⟩
      | 1, e => cases e
      | 2, e => cases e
      | 3, e => cases e
      | 4, e => cases e
    · have h0 : ∀ (j : Nat) (t : Tag) (ds : List D), [bagL ns i rr sd n, some (.val (.int m)), none, none, none][j]? = some (some (.own t ds)) → j = 0 := fun j t ds e => by
        match j, e with
        | 0, _ => rfl
        | 1, e => cases e
        | 2, e => cases e
        | 3, e => cases e
        | 4, e => cases e
      exact (h0 j1 t ds e1).trans (h0 j2 u es e2).symm
    · match j, e with
      | 0, e => cases e
      | 1, e => cases e
      | 2, e => cases e
      | 3, e => cases e
      | 4, e => cases e
    · cases e
  have ow : ∀ y, Owned (none, β.2) [bagL ns i rr sd n, some (.val (.int m)), none, none, none] [some (.ref b), some (.int m), none, none, none] y → ofBag β y := fun y z => by
    rcases z with z | ⟨j, t, ds, e1, e2⟩
    · cases z
    · match j, e1 with
      | 0, e1 => cases e2; exact hib
      | 1, e1 => cases e1
      | 2, e1 => cases e1
      | 3, e1 => cases e1
      | 4, e1 => cases e1
  refine ⟨(none, β.2), _, F0, _, R, c__law_draw ns m i rr sd n hm ⟨g1, g2, g3, g4, g5, g6⟩, fun s' z => z.elim, fun d s' hpost v σ' H' F' R' E' hd rv => ?_⟩
  obtain ⟨i', r', sd', n', res, rest, rfl, p1, p2, rfl, ⟨q1, q2, q3, q4, q5, q6⟩⟩ := hpost
  refine q (.int res) (hP res p1 p2) v H' F' (E'.xt.mono ow) R'.sub (fun x hx => ?_) rv
  have hxb : x = b := by
    unfold isB at hx hib
    rw [hib] at hx
    exact (Option.some.inj hx).symm
  subst hxb
  obtain ⟨a, vs, f1, ⟨o, f2, f3⟩, f4, f5, _⟩ := R'.own 0 _ _ rfl
  rw [hd.1] at f1
  cases f1
  obtain ⟨t', ht'⟩ := hd.2 x _ _ rfl hH
  have f3' : o = .lst vs := f3
  subst f3'
  rw [ht'] at f2
  cases f2
  unfold Reps at f4
  obtain ⟨w0, s1, e0, rw0, f4⟩ := f4
  cases e0
  unfold Reps at f4
  obtain ⟨w1, s2, rfl, rw1, f4⟩ := f4
  unfold Reps at f4
  obtain ⟨w2, s3, rfl, rw2, f4⟩ := f4
  unfold Reps at f4
  obtain ⟨w3, s4, rfl, rw3, f4⟩ := f4
  unfold Reps at f4
  obtain ⟨w4, s5, rfl, rw4, f4⟩ := f4
  unfold Reps at f4
  subst f4
  rw [rw1.int_eq, rw2.int_eq, rw3.int_eq, rw4.int_eq] at ht'
  obtain ⟨c2, us, ec, ⟨o2, hc2, ho2⟩, hus⟩ := rw0.node_eq
  cases ec
  have ho2' : o2 = .lst us := ho2
  subst ho2'
  rw [hus.ints_eq] at hc2
  exact ⟨⟨c, ns, i', r', sd', n', ht', hc2, q1, q2, q3, q4, q5, q6, hβ⟩, f5⟩
end Dk
end

section
set_option Elab.async false
set_option linter.all false
namespace Dk
open PySem PySem.Spec PyProof.Rows L2 Dl
structure Txt (K : PySem.W.Frag) (mg : Str → Option Value) (CA : Nat → Addr) : Prop where
  isinstance : mg "isinstance" = none
  int : mg "int" = none
  bool : mg "bool" = none
  str : mg "str" = none
  tuple : mg "tuple" = none
  list : mg "list" = none
  dict : mg "dict" = none
  len : mg "len" = none
  all : mg "all" = none
  any : mg "any" = none
  sorted : mg "sorted" = none
  range : mg "range" = none
  enumerate : mg "enumerate" = none
  set : mg "set" = none
  zip : mg "zip" = none
  min : mg "min" = none
  sum : mg "sum" = none
  abs : mg "abs" = none
  LAST : ∃ t, mg "LAST" = some (.int 11 t)
  MOST_LETTERS : ∃ t, mg "MOST_LETTERS" = some (.int 6 t)
  MOST_SIZE : ∃ t, mg "MOST_SIZE" = some (.int 12 t)
  MOST_PARCELS : ∃ t, mg "MOST_PARCELS" = some (.int 12 t)
  LETTERS : ∃ t, mg "LETTERS" = some (.str "abcdefghijklmnopqrstuvwxyz" t)
  cls0 : Cls K (CA 0)
  na_0_own_rows : NoAttr K (CA 0) "own_rows"
  na_0_own_cells : NoAttr K (CA 0) "own_cells"
  na_0_height : NoAttr K (CA 0) "height"
  na_0_width : NoAttr K (CA 0) "width"
  na_0_own_road : NoAttr K (CA 0) "own_road"
  na_0_own_borders : NoAttr K (CA 0) "own_borders"
  na_0_own_rims : NoAttr K (CA 0) "own_rims"
  cls1 : Cls K (CA 1)
  na_1_plat : NoAttr K (CA 1) "plat"
  na_1_own_steps : NoAttr K (CA 1) "own_steps"
  na_1_own_leads : NoAttr K (CA 1) "own_leads"
  na_1_own_fronts : NoAttr K (CA 1) "own_fronts"
end Dk
end

section
set_option Elab.async false
set_option linter.all false
set_option maxRecDepth 100000
set_option maxHeartbeats 4000000
namespace Dk
open PySem PySem.Spec PyProof.Rows L2 Dl
theorem sc_law : FnScope ["_law_script", "_law_bag_here", "_law_turn", "_law_name", "_law_all_z", "_law_step", "_law_rows", "_law_road", "_law_plat", "_law_names_here", "_law_given_here", "_law_front", "_law_ways", "_law_steps", "_law_walks_here", "_law_again", "_law_due", "_law_late", "_law_told", "_law_one", "_law_pair", "_law_two"] ["_law_script"] (defScope sLaw) := ⟨rfl, rfl, rfl, by decide +kernel, rfl, by decide +kernel, by decide +kernel⟩
theorem w_law {P : Program} {w : World} {K : PySem.W.Frag} {mg : Str → Option Value} {base : Heap} {CA : Nat → Addr} {f : Addr} {C__law_map : Con} {C__law_fronting : Con} {C__law_given : Con} {C__law_named : Con} {C__law_made : Con} {C_Ways___init__ : ConI} {C__law_walks : Con} {C_Ways_way : ConM} {C__law_same : Con} {C__law_best : Con} {C_Ways_comes : Con} {C__law_possible : Con} {C_Ways_bare : Con} {C__law_pick : Con} {C_Ways_with_steps : Con} (T : Txt K mg CA) (G__law_map : Cal P w K mg base "_law_map" 5 2 (spD CA 2 C__law_map)) (G__law_fronting : Cal P w K mg base "_law_fronting" 1 2 (spD CA 2 C__law_fronting)) (G__law_given : Cal P w K mg base "_law_given" 4 2 (spD CA 2 C__law_given)) (G__law_named : Cal P w K mg base "_law_named" 1 1 (spD CA 1 C__law_named)) (G__law_made : Cal P w K mg base "_law_made" 11 2 (spD CA 2 C__law_made)) (G_Ways___init__ : Mak P w K mg base CA "Ways" 1 5 3 C_Ways___init__) (G__law_walks : Cal P w K mg base "_law_walks" 1 4 (spD CA 4 C__law_walks)) (K_Ways_way : MetKW P w K mg base (CA 1) "way" "name" 3 2 (spM CA 2 C_Ways_way)) (G_Ways_way : Met P w K mg base (CA 1) "way" 3 2 (spM CA 2 C_Ways_way)) (G__law_same : Cal P w K mg base "_law_same" 6 2 (spD CA 2 C__law_same)) (G__law_best : Cal P w K mg base "_law_best" 1 1 (spD CA 1 C__law_best)) (G_Ways_comes : Met P w K mg base (CA 1) "comes" 3 2 (spD CA 2 C_Ways_comes)) (G__law_possible : Cal P w K mg base "_law_possible" 3 1 (spD CA 1 C__law_possible)) (G_Ways_bare : Met P w K mg base (CA 1) "bare" 2 1 (spD CA 1 C_Ways_bare)) (G__law_pick : Cal P w K mg base "_law_pick" 2 2 (spD CA 2 C__law_pick)) (G_Ways_with_steps : MetR P w K mg base (CA 1) "with_steps" 7 (spR CA C_Ways_with_steps)) (cdv : Value) (A : Around) (outer : List PySem.Env) (s : Shared) (H : Hp) (E : XK) (hr : Room 11 (A.deeper (envOfC "law" (defScope sLaw) s.heap.objs.size f cdv))) :
    DSs CA (cxOf CX0 P w K mg base ["_law_script", "_law_bag_here", "_law_turn", "_law_name", "_law_all_z", "_law_step", "_law_rows", "_law_road", "_law_plat", "_law_names_here", "_law_given_here", "_law_front", "_law_ways", "_law_steps", "_law_walks_here", "_law_again", "_law_due", "_law_late", "_law_told", "_law_one", "_law_pair", "_law_two"] "law" (defScope sLaw) f cdv A outer s H E).nox ((defBody sLaw).drop 1) (den_law C__law_map C__law_fronting C__law_given C__law_named C__law_made C_Ways___init__ C__law_walks C_Ways_way C__law_same C__law_best C_Ways_comes C__law_possible C_Ways_bare C__law_pick C_Ways_with_steps) :=
  (dss_cons (ds_for PassesOwn.never rfl (di_range T.range dv_int) (dg_name (i := 2) sc_law.nd)
    (dss_cons (ds_asg (dv_call G__law_map (hr.mono (by decide)) (da_bag (pv 1) (da_cons dv_int da_nil))) (dg_lst rfl (dgs_cons (dg_name (i := 6) sc_law.nd) (dgs_cons (dg_name (i := 7) sc_law.nd) dgs_nil))))
    (dss_cons (ds_asg (dv_tup (da_cons (dv_call G__law_made (hr.mono (by decide)) (da_cons (dv_of (pv 6)) (da_cons (dv_of (pv 7)) da_nil))) (da_cons (dv_call G__law_named (hr.mono (by decide)) (da_cons (dv_of (pv 6)) da_nil)) (da_cons (dv_call G__law_given (hr.mono (by decide)) (da_bag (pv 1) (da_cons (dv_of (pv 6)) da_nil))) (da_cons (dv_call G__law_fronting (hr.mono (by decide)) (da_cons (dv_of (pv 6)) (da_cons (dv_of (pv 7)) da_nil))) da_nil))))) (dg_tup rfl (dgs_cons (dg_name (i := 8) sc_law.nd) (dgs_cons (dg_name (i := 9) sc_law.nd) (dgs_cons (dg_name (i := 10) sc_law.nd) (dgs_cons (dg_name (i := 11) sc_law.nd) dgs_nil))))))
    (dss_cons (ds_par2T (i := 12) (j := 13) rfl sc_law.nd (dp_v (dv_make 1 G_Ways___init__ (hr.mono (by decide)) (da_cons (dv_of (pv 8)) (da_cons (dv_of (pv 10)) da_nil)))) (dp_v (dv_fz (df_sortSet T.sorted T.set rfl (hu65 hr) (dv_of (pv 10))))))
    (dss_cons (ds_for PassesOwn.never rfl (di_list (dv_of (pv 9))) (dg_name (i := 3) sc_law.nd)
    (dss_cons (ds_set (i := 14) sc_law.nd (dv_call G__law_walks (hr.mono (by decide)) (da_cons (dv_of (pv 3)) (da_cons (dv_of (pv 9)) (da_cons (dv_of (pv 13)) (da_cons (dv_of (pv 11)) da_nil))))))
    (dss_cons (ds_for PassesOwn.never rfl (di_range T.range dv_int) (dg_name (i := 15) sc_law.nd)
    (dss_cons (ds_setM (i := 18) 1 sc_law.nd G_Ways_way T.cls1 (hr.mono (by decide)) (dv_of (pv 12)) (da_cons (dv_of (pv 3)) da_nil))
    (dss_cons (ds_if (dt_bor (dt_not (dt_val (dv_call G__law_same (hr.mono (by decide)) (da_cons (dv_fz (df_lst (da_cons (dv_of (pv 18)) (da_cons (dv_meth 1 G_Ways_comes T.cls1 (hr.mono (by decide)) (dv_of (pv 12)) (da_cons (dv_of (pv 3)) da_nil)) (da_cons (dv_methMK 1 K_Ways_way T.cls1 (hr.mono (by decide)) (dv_of (pv 12)) (dv_of (pv 3))) da_nil))))) (da_cons (dv_fz (df_lst (da_cons (dv_call G__law_best (hr.mono (by decide)) (da_cons (dv_of (pv 14)) da_nil)) (da_cons (dv_cmp (op_neD hr.units) od_neNil (dv_of (pv 14)) (dv_fz (df_lst da_nil)) (nomark _)) (da_cons (dv_call G__law_best (hr.mono (by decide)) (da_cons (dv_of (pv 14)) da_nil)) da_nil))))) da_nil))))))
    (dss_one (ds_ret dv_bl))
    dss_nil)
    (dss_one (ds_if (dt_bor (dt_notN (dv_of (pv 18))))
    (dss_one (ds_app (pv 18) dv_str))
    dss_nil)))))
    (dss_cons (ds_set (i := 16) sc_law.nd (dv_methM 1 G_Ways_way T.cls1 (hr.mono (by decide)) (dv_of (pv 12)) (da_cons (dv_of (pv 3)) da_nil)))
    (dss_one (ds_if (dt_notN (dv_of (pv 16)))
    (dss_cons (ds_if ((dw_or (dt_cmp op_ne od_ne (dv_ix (dv_of (pv 16)) dv_int) (dv_of (pv 3)) (nomark _)) (dw_or (dt_cmp op_notIn_seq od_in (dv_ix (dv_of (pv 16)) (dv_neg dv_int)) (dv_of (pv 11)) rfl) (dw_or (dt_val (dv_callB (cr_any rfl) cd_any T.any (by decide +kernel) (da_cons (dv_fz (by exact (df_lc rfl sc_law.nd (di_list (dv_fz (df_slL (dv_of (pv 16)) do_none (do_some (dv_neg dv_int))))) (blkOk_by (own := [("_law_one", 19)]) (N := ["_law_script", "_law_bag_here", "_law_turn", "_law_name", "_law_all_z", "_law_step", "_law_rows", "_law_road", "_law_plat", "_law_names_here", "_law_given_here", "_law_front", "_law_ways", "_law_steps", "_law_walks_here", "_law_again", "_law_due", "_law_late", "_law_told", "_law_one", "_law_pair", "_law_two"]) (sc := defScope sLaw) (by decide +kernel)) rfl (by decide) (fun _ _ _ _ _ => (dg_name (i := 19) sc_law.nd)) (fun _ _ _ _ _ => dts_nil) (fun _ _ _ _ _ => (dv_cmp op_in_seq od_in (dv_of (pv 19)) (dv_of (pv 11)) rfl))))) da_nil))) (dw_or1 (dt_cmp op_ne od_ne (dv_lenSet T.len T.set rfl (dv_of (pv 16))) (dv_callB call_lenAll cd_len T.len (by decide +kernel) (da_cons (dv_of (pv 16)) da_nil)) (nomark _))))))).dt
    (dss_one (ds_ret dv_bl))
    dss_nil)
    (dss_one (ds_if (dt_not (dt_val (dv_callB (cr_all rfl) cd_all T.all (by decide +kernel) (da_cons (dv_fz (by exact (df_lc rfl sc_law.nd (di_list (dv_fz (by exact (df_lc rfl sc_law.nd (di_zip T.zip (dv_of (pv 16)) (dv_fz (df_slL (dv_of (pv 16)) (do_some dv_int) do_none))) (blkOk_by (own := [("_law_one", 19), ("_law_two", 21)]) (N := ["_law_script", "_law_bag_here", "_law_turn", "_law_name", "_law_all_z", "_law_step", "_law_rows", "_law_road", "_law_plat", "_law_names_here", "_law_given_here", "_law_front", "_law_ways", "_law_steps", "_law_walks_here", "_law_again", "_law_due", "_law_late", "_law_told", "_law_one", "_law_pair", "_law_two"]) (sc := defScope sLaw) (by decide +kernel)) rfl (by decide) (fun _ _ _ _ _ => (dg_tup rfl (dgs_cons (dg_name (i := 19) sc_law.nd) (dgs_cons (dg_name (i := 21) sc_law.nd) dgs_nil)))) (fun _ _ _ _ _ => dts_nil) (fun _ _ _ _ _ => (dv_tup (da_cons (dv_of (pv 19)) (da_cons (dv_of (pv 21)) da_nil)))))))) (blkOk_by (own := [("_law_pair", 20)]) (N := ["_law_script", "_law_bag_here", "_law_turn", "_law_name", "_law_all_z", "_law_step", "_law_rows", "_law_road", "_law_plat", "_law_names_here", "_law_given_here", "_law_front", "_law_ways", "_law_steps", "_law_walks_here", "_law_again", "_law_due", "_law_late", "_law_told", "_law_one", "_law_pair", "_law_two"]) (sc := defScope sLaw) (by decide +kernel)) rfl (by decide) (fun _ _ _ _ _ => (dg_name (i := 20) sc_law.nd)) (fun _ _ _ _ _ => dts_nil) (fun _ _ _ _ _ => (dv_cmp (op_inP (hu65 hr)) od_inP (dv_of (pv 20)) (dv_of (pv 13)) rfl))))) da_nil))))
    (dss_one (ds_ret dv_bl))
    dss_nil)))
    dss_nil))))))
    (dss_cons (ds_set (i := 4) sc_law.nd (dv_make 1 G_Ways___init__ (hr.mono (by decide)) (da_cons (dv_of (pv 8)) (da_cons (dv_call G__law_possible (hr.mono (by decide)) (da_cons (dv_of (pv 6)) da_nil)) da_nil))))
    (dss_cons (ds_if (dt_not (dt_val (dv_call G__law_same (hr.mono (by decide)) (da_cons (dv_fz (df_lst (da_cons (dv_meth0 1 G_Ways_bare T.cls1 (hr.mono (by decide)) (dv_of (pv 4))) (da_cons (dv_fz (by exact (df_lc rfl sc_law.nd (di_list (dv_of (pv 11))) (blkOk_by (own := [("_law_name", 3)]) (N := ["_law_script", "_law_bag_here", "_law_turn", "_law_name", "_law_all_z", "_law_step", "_law_rows", "_law_road", "_law_plat", "_law_names_here", "_law_given_here", "_law_front", "_law_ways", "_law_steps", "_law_walks_here", "_law_again", "_law_due", "_law_late", "_law_told", "_law_one", "_law_pair", "_law_two"]) (sc := defScope sLaw) (by decide +kernel)) rfl (by decide) (fun _ _ _ _ _ => (dg_name (i := 3) sc_law.nd)) (fun _ _ _ _ _ => dts_nil) (fun _ _ _ _ _ => (dv_methM 1 G_Ways_way T.cls1 (hr.mono (by decide)) (dv_of (pv 4)) (da_cons (dv_of (pv 3)) da_nil)))))) da_nil)))) (da_cons (dv_fz (df_lst (da_cons (dv_if (dt_cmp (op_eqD hr.units) od_eqNil (dv_of (pv 11)) (dv_fz (df_lst da_nil)) (nomark _)) (dv_of (pv 9)) (dv_fz (df_lst da_nil))) (da_cons (dv_fz (by exact (df_lc rfl sc_law.nd (di_list (dv_of (pv 11))) (blkOk_by (own := [("_law_name", 3)]) (N := ["_law_script", "_law_bag_here", "_law_turn", "_law_name", "_law_all_z", "_law_step", "_law_rows", "_law_road", "_law_plat", "_law_names_here", "_law_given_here", "_law_front", "_law_ways", "_law_steps", "_law_walks_here", "_law_again", "_law_due", "_law_late", "_law_told", "_law_one", "_law_pair", "_law_two"]) (sc := defScope sLaw) (by decide +kernel)) rfl (by decide) (fun _ _ _ _ _ => (dg_name (i := 3) sc_law.nd)) (fun _ _ _ _ _ => dts_nil) (fun _ _ _ _ _ => (dv_fz (df_lst (da_cons (dv_of (pv 3)) da_nil))))))) da_nil)))) da_nil)))))
    (dss_one (ds_ret dv_bl))
    dss_nil)
    (dss_cons (ds_set (i := 5) sc_law.nd (dv_call G__law_pick (hr.mono (by decide)) (da_bag (pv 1) (da_cons (dv_fz (df_op op_cat of_cat (dv_call G__law_possible (hr.mono (by decide)) (da_cons (dv_of (pv 6)) da_nil)) (dv_fz (df_lst (da_cons dv_non da_nil))))) da_nil))))
    (dss_one (ds_if (dt_notN (dv_of (pv 5)))
    (dss_cons (ds_set (i := 17) sc_law.nd (dv_methR 1 G_Ways_with_steps T.cls1 (hr.mono (by decide)) (dv_of (pv 12)) (da_cons (dv_of (pv 5)) da_nil)))
    (dss_cons (ds_if (dt_not (dt_val (dv_callB (cr_all rfl) cd_all T.all (by decide +kernel) (da_cons (dv_fz (by exact (df_lc rfl sc_law.nd (di_list (dv_of (pv 9))) (blkOk_by (own := [("_law_name", 3)]) (N := ["_law_script", "_law_bag_here", "_law_turn", "_law_name", "_law_all_z", "_law_step", "_law_rows", "_law_road", "_law_plat", "_law_names_here", "_law_given_here", "_law_front", "_law_ways", "_law_steps", "_law_walks_here", "_law_again", "_law_due", "_law_late", "_law_told", "_law_one", "_law_pair", "_law_two"]) (sc := defScope sLaw) (by decide +kernel)) rfl (by decide) (fun _ _ _ _ _ => (dg_name (i := 3) sc_law.nd)) (fun _ _ _ _ _ => (dts_one (dt_val (dv_meth 1 G_Ways_comes T.cls1 (hr.mono (by decide)) (dv_of (pv 12)) (da_cons (dv_of (pv 3)) da_nil))))) (fun _ _ _ _ _ => (dv_meth 1 G_Ways_comes T.cls1 (hr.mono (by decide)) (dv_of (pv 17)) (da_cons (dv_of (pv 3)) da_nil)))))) da_nil))))
    (dss_one (ds_ret dv_bl))
    dss_nil)
    (dss_one (ds_if (dt_val (dv_callB (cr_any rfl) cd_any T.any (by decide +kernel) (da_cons (dv_fz (by exact (df_lc rfl sc_law.nd (di_list (dv_of (pv 9))) (blkOk_by (own := [("_law_name", 3)]) (N := ["_law_script", "_law_bag_here", "_law_turn", "_law_name", "_law_all_z", "_law_step", "_law_rows", "_law_road", "_law_plat", "_law_names_here", "_law_given_here", "_law_front", "_law_ways", "_law_steps", "_law_walks_here", "_law_again", "_law_due", "_law_late", "_law_told", "_law_one", "_law_pair", "_law_two"]) (sc := defScope sLaw) (by decide +kernel)) rfl (by decide) (fun _ _ _ _ _ => (dg_name (i := 3) sc_law.nd)) (fun _ _ _ _ _ => (dts_one (dt_val (dv_meth 1 G_Ways_comes T.cls1 (hr.mono (by decide)) (dv_of (pv 12)) (da_cons (dv_of (pv 3)) da_nil))))) (fun _ _ _ _ _ => (dv_cmp op_gt od_gt (dv_callB call_lenAll cd_len T.len (by decide +kernel) (da_cons (dv_methM 1 G_Ways_way T.cls1 (hr.mono (by decide)) (dv_of (pv 17)) (da_cons (dv_of (pv 3)) da_nil)) da_nil)) (dv_callB call_lenAll cd_len T.len (by decide +kernel) (da_cons (dv_methM 1 G_Ways_way T.cls1 (hr.mono (by decide)) (dv_of (pv 12)) (da_cons (dv_of (pv 3)) da_nil)) da_nil)) (nomark _)))))) da_nil)))
    (dss_one (ds_ret dv_bl))
    dss_nil))))
    dss_nil))))))))))
    (dss_one (ds_ret dv_bl)))
end Dk
end

section
set_option Elab.async false
set_option linter.all false
set_option maxRecDepth 100000
set_option maxHeartbeats 4000000
/-! The law's bag and the law by their bodies. -/
namespace Dk
open PySem PySem.Spec PyProof.Rows L2 Dl
def spBag (K : PySem.W.Frag) : Sp := fun vs H Q _ => ∃ (a : Addr) (ns : List Int), vs = [.ref a] ∧ SqL K H a (ns.map V.int) ∧ ns.length ≤ 63 ∧
  ∀ (b c : Addr) (H' : Hp), H' b = some (.lst [.ref c, .int 0, .int 0, .int (12030 + 31 * (ns.length : Int)), .int 0]) → H' c = some (.lst (ns.map V.int)) → b ≠ c → Q (.ref b) H'
theorem cutV_all (vs : List V) (h : vs.length ≤ 63) : cutV vs none (some 63) = vs := by
  unfold cutV
  rw [HT.sIx_none, List.drop_zero, Nat.sub_zero, show (some (63 : Int)) = some ((63 : Nat) : Int) from rfl, HT.sIx_nat, Nat.min_eq_right h, List.take_length]
section
variable {P : Program} {w : World} {K : PySem.W.Frag} {mg : PySem.Str → Option Value} {base : Heap} {CA : Nat → Addr}
theorem sc_bag : FnScope ["_law_script", "_law_cells"] ["_law_script"] (defScope sLawBag) := ⟨rfl, rfl, rfl, by decide +kernel, rfl, by decide +kernel, by decide +kernel⟩
theorem fn_bag {f : Addr} {fd : FuncData} (T : Txt K mg CA) (F : FnP K "_law_bag" "_law_bag" sLawBag f fd) : FnOk P w K mg base CX0 1 f fd ["_law_script"] (spBag K) := by
  refine F.ok sc_bag (fun vs H Q E h => ?_) fun cdv A outer s H vs Q E hr h => ?_
  · obtain ⟨a, ns, rfl, _⟩ := h
    rfl
  · refine ⟨_, PSs.nox (pss_cons (ps_set (i := 1) sc_bag.nd rfl (.inl rfl) (pe_callTy call_list_of rfl T.list (by decide +kernel) (pa_cons (pe_slice sl_list (pv 0) po_none (po_some pe_int)) pa_nil)))
      (pss_one (DS.ps (CA := CA) (ds_retN1 (df_lst (da_cons (dv_of (pv 1)) (da_cons dv_int (da_cons dv_int (da_cons (dv_op op_add od_add dv_int (dv_op op_mul od_mul dv_int (dv_callB call_lenAll cd_len T.len (by decide +kernel) (da_cons (dv_of (pv 1)) da_nil)))) (da_cons dv_int da_nil)))))))))), ?_⟩
    obtain ⟨a, ns, rfl, hS, hl, hQ⟩ := h
    have hcut : cutV (ns.map V.int) none (some 63) = ns.map V.int := cutV_all _ (by simpa using hl)
    refine ⟨.ref a, rfl, 63, rfl, a, ns.map V.int, rfl, hS, fun p hp => ?_⟩
    rw [hcut]
    refine ⟨p, ns.map V.int, rfl, .inl (.inl (.inl upd_same)), fun c hc => ?_⟩
    have hσ : L2.start ["_law_script", "_law_cells"] [V.ref a] = [some (.ref a), none] := rfl
    rw [hσ]
    show liftS CA _ _ [some (.ref a), some (.ref c)] _
    have R : Rel CA (none, none) [none, some (.val (.lst (ns.map D.int)))] [some (.ref a), some (.ref c)] (upd (upd H p (.lst (ns.map V.int))) c (.lst (ns.map V.int))) (upd (fun _ => none) c (.lst (ns.map V.int))) := by
      refine ⟨fun b o e => ?_, rfl, fun i d e => ?_, fun i t ds e => ?_, fun i j t ds u es x e => ?_, fun i e => ?_, fun b e => ?_⟩
      · by_cases z : b = c
        · subst z
          rw [upd_same] at e ⊢
          exact .inl e
        · rw [upd_ne z] at e
          cases e
      · match i, e with
        | 0, e => cases e
        | 1, e =>
          cases e
          exact ⟨.ref c, rfl, rep_node ⟨_, upd_same, rfl⟩ (reps_ints ns)⟩
      · match i, e with
        | 0, e => cases e
        | 1, e => cases e
      · match i, e with
        | 0, e => cases e
        | 1, e => cases e
      · match i, e with
        | 0, e => cases e
        | 1, e => cases e
      · cases e
    have hm : CMul 31 (ns.length : Int) := .inl ⟨by decide, by decide⟩
    refine ⟨(none, none), _, _, { nx := fun _ => False, rt := fun _ => False, rf := fun t ds => t = .lst ∧ ds = [.lst (ns.map D.int), .int 0, .int 0, .int (12030 + 31 * (ns.length : Int)), .int 0] }, R, ?_, ⟨fun _ z => z.elim, fun _ z => z.elim, fun t ds z b us H' F' xt sub _ hat hrs hF _ _ _ => ?_, fun _ z => z.elim, fun _ z => z.elim⟩⟩
    · simp [hm]
      exact True.intro
    · obtain ⟨rfl, rfl⟩ := z
      obtain ⟨o, e1, e2⟩ := hat
      have e2' : o = .lst us := e2
      subst e2'
      unfold Reps at hrs
      obtain ⟨w0, s1, rfl, rw0, hrs⟩ := hrs
      unfold Reps at hrs
      obtain ⟨w1, s2, rfl, rw1, hrs⟩ := hrs
      unfold Reps at hrs
      obtain ⟨w2, s3, rfl, rw2, hrs⟩ := hrs
      unfold Reps at hrs
      obtain ⟨w3, s4, rfl, rw3, hrs⟩ := hrs
      unfold Reps at hrs
      obtain ⟨w4, s5, rfl, rw4, hrs⟩ := hrs
      unfold Reps at hrs
      subst hrs
      rw [rw1.int_eq, rw2.int_eq, rw3.int_eq, rw4.int_eq] at e1
      obtain ⟨c2, us, rfl, ⟨o2, hc2, ho2⟩, hus⟩ := rw0.node_eq
      have ho2' : o2 = .lst us := ho2
      subst ho2'
      rw [hus.ints_eq] at hc2
      refine hQ b c2 H' e1 (sub.nd hc2 (fun z => z)) fun z => ?_
      subst z
      rw [hF] at hc2
      cases hc2
def spLaw (K : PySem.W.Frag) : Sp := fun vs H Q _ => ∃ (a : Addr) (ns : List Int), vs = [.ref a] ∧ SqL K H a (ns.map V.int) ∧ ns.length ≤ 63 ∧ ∀ H', Q (.bl true) H'
theorem fn_law {f fB : Addr} {fd fdB : FuncData} (T : Txt K mg CA) (F : FnP K "law" "law" sLaw f fd) (GB : FnOk P w K mg base CX0 1 fB fdB ["_law_script"] (spBag K)) (mB : mg "_law_bag" = some (.ref fB)) (kB : PySem.W.keepIn K (.ref fB) = true) (bB : Binds K fdB ["_law_script"] [])
    (G__law_map : Cal P w K mg base "_law_map" 5 2 (spD CA 2 C__law_map)) (G__law_fronting : Cal P w K mg base "_law_fronting" 1 2 (spD CA 2 C__law_fronting)) (G__law_given : Cal P w K mg base "_law_given" 4 2 (spD CA 2 C__law_given)) (G__law_named : Cal P w K mg base "_law_named" 1 1 (spD CA 1 C__law_named)) (G__law_made : Cal P w K mg base "_law_made" 11 2 (spD CA 2 C__law_made)) (G_Ways___init__ : Mak P w K mg base CA "Ways" 1 5 3 C_Ways___init__) (G__law_walks : Cal P w K mg base "_law_walks" 1 4 (spD CA 4 C__law_walks)) (K_Ways_way : MetKW P w K mg base (CA 1) "way" "name" 3 2 (spM CA 2 C_Ways_way)) (G_Ways_way : Met P w K mg base (CA 1) "way" 3 2 (spM CA 2 C_Ways_way)) (G__law_same : Cal P w K mg base "_law_same" 6 2 (spD CA 2 C__law_same)) (G__law_best : Cal P w K mg base "_law_best" 1 1 (spD CA 1 C__law_best)) (G_Ways_comes : Met P w K mg base (CA 1) "comes" 3 2 (spD CA 2 C_Ways_comes)) (G__law_possible : Cal P w K mg base "_law_possible" 3 1 (spD CA 1 C__law_possible)) (G_Ways_bare : Met P w K mg base (CA 1) "bare" 2 1 (spD CA 1 C_Ways_bare)) (G__law_pick : Cal P w K mg base "_law_pick" 2 2 (spD CA 2 C__law_pick)) (G_Ways_with_steps : MetR P w K mg base (CA 1) "with_steps" 7 (spR CA C_Ways_with_steps)) : FnOk P w K mg base CX0 12 f fd ["_law_script"] (spLaw K) := by
  refine F.ok sc_law (fun vs H Q E h => ?_) fun cdv A outer s H vs Q E hr h => ?_
  · obtain ⟨a, ns, rfl, _⟩ := h
    rfl
  · refine ⟨_, PSs.nox (pss_cons (ps_set (i := 1) sc_law.nd rfl (.inl rfl) (pe_call GB (hr.mono (by decide)) rfl mB kB bB .nil pass0 (pa_cons (pv 0) pa_nil))) (w_law T G__law_map G__law_fronting G__law_given G__law_named G__law_made G_Ways___init__ G__law_walks K_Ways_way G_Ways_way G__law_same G__law_best G_Ways_comes G__law_possible G_Ways_bare G__law_pick G_Ways_with_steps cdv A outer s H E hr).ps), ?_⟩
    obtain ⟨a, ns, rfl, hS, hl, hQ⟩ := h
    refine ⟨.ref a, rfl, a, ns, rfl, hS, hl, fun b c H' hb hc ne => ?_⟩
    show liftS CA _ _ [some (.ref a), some (.ref b), none, none, none, none, none, none, none, none, none, none, none, none, none, none, none, none, none, none, none, none] _
    have R : Rel CA (some (b, c), none) [none, some .bag, none, none, none, none, none, none, none, none, none, none, none, none, none, none, none, none, none, none, none, none] [some (.ref a), some (.ref b), none, none, none, none, none, none, none, none, none, none, none, none, none, none, none, none, none, none, none, none] H' (upd (fun _ => none) c (.lst (ns.map V.int))) := by
      refine ⟨fun x o e => ?_, rfl, fun i d e => ?_, fun i t ds e => ?_, fun i j t ds u es x e => ?_, fun i e => ?_, fun x e => ?_⟩
      · by_cases z : x = c
        · subst z
          rw [upd_same] at e
          cases e
          exact .inl hc
        · rw [upd_ne z] at e
          cases e
      · have := List.mem_of_getElem? e
        simp at this
      · have := List.mem_of_getElem? e
        simp at this
      · have := List.mem_of_getElem? e
        simp at this
      · match i, e with
        | 0, e => cases e
        | 1, e => exact ⟨b, rfl, rfl⟩
        | j + 2, e =>
          have := List.mem_of_getElem? (l := List.replicate 20 (none : Option Slot)) (i := j) e
          simp at this
      · have hx : x = b := (Option.some.inj (show some b = some x from e)).symm
        subst hx
        refine ⟨⟨c, ns, 0, 0, 12030 + 31 * (ns.length : Int), 0, hb, upd_same, by omega, by omega, by omega, by omega, by omega, by omega, rfl⟩, upd_ne ne⟩
    exact ⟨(some (b, c), none), _, _, { nx := fun _ => False, rt := fun d => d = .bl true }, R, c_law _ _ rfl, ⟨fun _ z => z.elim, fun d z v H2 F2 _ _ _ rv => by subst z; rw [rv.bl_eq]; exact hQ H2, fun _ _ z => z.elim, fun _ z => z.elim, fun _ z => z.elim⟩⟩
end
end Dk
end

section
set_option Elab.async false
set_option linter.all false
set_option maxRecDepth 100000
set_option maxHeartbeats 4000000
namespace Dk
open PySem PySem.Spec PyProof.Rows L2 Dl
theorem sc_is_whole : FnScope ["value"] ["value"] (defScope sIsWhole) := ⟨rfl, rfl, rfl, by decide +kernel, rfl, by decide +kernel, by decide +kernel⟩
theorem w_is_whole {P : Program} {w : World} {K : PySem.W.Frag} {mg : Str → Option Value} {base : Heap} {CA : Nat → Addr} {f : Addr}  (T : Txt K mg CA)  (cdv : Value) (A : Around) (outer : List PySem.Env) (s : Shared) (H : Hp) (E : XK) (hr : Room 0 (A.deeper (envOfC "is_whole" (defScope sIsWhole) s.heap.objs.size f cdv))) :
    DSs CA (cxOf CX0 P w K mg base ["value"] "is_whole" (defScope sIsWhole) f cdv A outer s H E).nox (defBody sIsWhole) (den_is_whole ) :=
  (dss_one (ds_ret (dv_and (dv_isi .int T.isinstance (dv_of (pv 0)) (pe_ty T.int (by decide +kernel))) (dv_one (dv_not (dv_isi .bool T.isinstance (dv_of (pv 0)) (pe_ty T.bool (by decide +kernel))))))))
end Dk
end

section
set_option Elab.async false
set_option linter.all false
set_option maxRecDepth 100000
set_option maxHeartbeats 4000000
namespace Dk
open PySem PySem.Spec PyProof.Rows L2 Dl
theorem sc_is_number : FnScope ["value", "least", "most"] ["value", "least", "most"] (defScope sIsNumber) := ⟨rfl, rfl, rfl, by decide +kernel, rfl, by decide +kernel, by decide +kernel⟩
theorem w_is_number {P : Program} {w : World} {K : PySem.W.Frag} {mg : Str → Option Value} {base : Heap} {CA : Nat → Addr} {f : Addr} {C_is_whole : Con} (T : Txt K mg CA) (G_is_whole : Cal P w K mg base "is_whole" 1 1 (spD CA 1 C_is_whole)) (cdv : Value) (A : Around) (outer : List PySem.Env) (s : Shared) (H : Hp) (E : XK) (hr : Room 1 (A.deeper (envOfC "is_number" (defScope sIsNumber) s.heap.objs.size f cdv))) :
    DSs CA (cxOf CX0 P w K mg base ["value", "least", "most"] "is_number" (defScope sIsNumber) f cdv A outer s H E).nox (defBody sIsNumber) (den_is_number C_is_whole) :=
  (dss_one (ds_ret (dv_and (dv_call G_is_whole (hr.mono (by decide)) (da_cons (dv_of (pv 0)) da_nil)) (dv_one (dv_chain op_le op_le od_le od_le (dv_of (pv 1)) (dv_of (pv 0)) (dv_of (pv 2)))))))
end Dk
end

section
set_option Elab.async false
set_option linter.all false
set_option maxRecDepth 100000
set_option maxHeartbeats 4000000
namespace Dk
open PySem PySem.Spec PyProof.Rows L2 Dl
theorem sc_is_name : FnScope ["value", "letter"] ["value"] (defScope sIsName) := ⟨rfl, rfl, rfl, by decide +kernel, rfl, by decide +kernel, by decide +kernel⟩
theorem w_is_name {P : Program} {w : World} {K : PySem.W.Frag} {mg : Str → Option Value} {base : Heap} {CA : Nat → Addr} {f : Addr}  (T : Txt K mg CA)  (cdv : Value) (A : Around) (outer : List PySem.Env) (s : Shared) (H : Hp) (E : XK) (hr : Room 0 (A.deeper (envOfC "is_name" (defScope sIsName) s.heap.objs.size f cdv))) :
    DSs CA (cxOf CX0 P w K mg base ["value", "letter"] "is_name" (defScope sIsName) f cdv A outer s H E).nox (defBody sIsName) (den_is_name ) :=
  (dss_cons (ds_if ((dw_or (dt_not (dt_val (dv_isi .str T.isinstance (dv_of (pv 0)) (pe_ty T.str (by decide +kernel))))) (dw_or1 (dt_not (dt_chain op_le op_le od_le od_le dv_int (dv_callB call_lenAll cd_len T.len (by decide +kernel) (da_cons (dv_of (pv 0)) da_nil)) (dv_gint T.MOST_LETTERS)))))).dt
    (dss_one (ds_ret dv_bl))
    dss_nil)
    (dss_one (ds_ret (dv_callB (cr_all rfl) cd_all T.all (by decide +kernel) (da_cons (dv_fz (df_lc rfl sc_is_name.nd (di_str (dv_of (pv 0))) (blkOk_by (own := [("letter", 1)]) (N := ["value", "letter"]) (sc := defScope sIsName) (by decide +kernel)) rfl (by decide) (fun _ _ _ _ _ => (dg_name (i := 1) sc_is_name.nd)) (fun _ _ _ _ _ => dts_nil) (fun _ _ _ _ _ => (dv_cmp op_in_sign od_inS (dv_of (pv 1)) (dv_gstr T.LETTERS) rfl)))) da_nil)))))
end Dk
end

section
set_option Elab.async false
set_option linter.all false
set_option maxRecDepth 100000
set_option maxHeartbeats 4000000
namespace Dk
open PySem PySem.Spec PyProof.Rows L2 Dl
theorem sc_is_cell : FnScope ["value"] ["value"] (defScope sIsCell) := ⟨rfl, rfl, rfl, by decide +kernel, rfl, by decide +kernel, by decide +kernel⟩
theorem w_is_cell {P : Program} {w : World} {K : PySem.W.Frag} {mg : Str → Option Value} {base : Heap} {CA : Nat → Addr} {f : Addr} {C_is_number : Con} (T : Txt K mg CA) (G_is_number : Cal P w K mg base "is_number" 2 3 (spD CA 3 C_is_number)) (cdv : Value) (A : Around) (outer : List PySem.Env) (s : Shared) (H : Hp) (E : XK) (hr : Room 2 (A.deeper (envOfC "is_cell" (defScope sIsCell) s.heap.objs.size f cdv))) :
    DSs CA (cxOf CX0 P w K mg base ["value"] "is_cell" (defScope sIsCell) f cdv A outer s H E).nox (defBody sIsCell) (den_is_cell C_is_number) :=
  (dss_cons (ds_if ((dw_or (dt_not (dt_val (dv_isi .tuple T.isinstance (dv_of (pv 0)) (pe_ty T.tuple (by decide +kernel))))) (dw_or1 (dt_cmp op_ne od_ne (dv_callB call_lenAll cd_len T.len (by decide +kernel) (da_cons (dv_of (pv 0)) da_nil)) dv_int (nomark _))))).dt
    (dss_one (ds_ret dv_bl))
    dss_nil)
    (dss_one (ds_ret (dv_and (dv_call G_is_number (hr.mono (by decide)) (da_cons (dv_ix (dv_of (pv 0)) dv_int) (da_cons dv_int (da_cons (dv_gint T.LAST) da_nil)))) (dv_one (dv_call G_is_number (hr.mono (by decide)) (da_cons (dv_ix (dv_of (pv 0)) dv_int) (da_cons dv_int (da_cons (dv_gint T.LAST) da_nil)))))))))
end Dk
end

section
set_option Elab.async false
set_option linter.all false
set_option maxRecDepth 100000
set_option maxHeartbeats 4000000
namespace Dk
open PySem PySem.Spec PyProof.Rows L2 Dl
theorem sc_beside : FnScope ["cell", "row", "column", "places", "place"] ["cell"] (defScope sBeside) := ⟨rfl, rfl, rfl, by decide +kernel, rfl, by decide +kernel, by decide +kernel⟩
theorem w_beside {P : Program} {w : World} {K : PySem.W.Frag} {mg : Str → Option Value} {base : Heap} {CA : Nat → Addr} {f : Addr} {C_is_cell : Con} (T : Txt K mg CA) (G_is_cell : Cal P w K mg base "is_cell" 3 1 (spD CA 1 C_is_cell)) (cdv : Value) (A : Around) (outer : List PySem.Env) (s : Shared) (H : Hp) (E : XK) (hr : Room 3 (A.deeper (envOfC "beside" (defScope sBeside) s.heap.objs.size f cdv))) :
    DSs CA (cxOf CX0 P w K mg base ["cell", "row", "column", "places", "place"] "beside" (defScope sBeside) f cdv A outer s H E).nox (defBody sBeside) (den_beside C_is_cell) :=
  (dss_cons (ds_asg (dv_of (pv 0)) (dg_tup rfl (dgs_cons (dg_name (i := 1) sc_beside.nd) (dgs_cons (dg_name (i := 2) sc_beside.nd) dgs_nil))))
    (dss_cons (ds_set (i := 3) sc_beside.nd (dv_fz (df_lst (da_cons (dv_tup (da_cons (dv_op op_sub od_sub (dv_of (pv 1)) dv_int) (da_cons (dv_of (pv 2)) da_nil))) (da_cons (dv_tup (da_cons (dv_of (pv 1)) (da_cons (dv_op op_sub od_sub (dv_of (pv 2)) dv_int) da_nil))) (da_cons (dv_tup (da_cons (dv_of (pv 1)) (da_cons (dv_op op_add od_add (dv_of (pv 2)) dv_int) da_nil))) (da_cons (dv_tup (da_cons (dv_op op_add od_add (dv_of (pv 1)) dv_int) (da_cons (dv_of (pv 2)) da_nil))) da_nil)))))))
    (dss_one (ds_ret (dv_fz (df_lc rfl sc_beside.nd (di_list (dv_of (pv 3))) (blkOk_by (own := [("place", 4)]) (N := ["cell", "row", "column", "places", "place"]) (sc := defScope sBeside) (by decide +kernel)) rfl (by decide) (fun _ _ _ _ _ => (dg_name (i := 4) sc_beside.nd)) (fun _ _ _ _ _ => (dts_one (dt_val (dv_call G_is_cell (hr.mono (by decide)) (da_cons (dv_of (pv 4)) da_nil))))) (fun _ _ _ _ _ => (dv_of (pv 4)))))))))
end Dk
end

section
set_option Elab.async false
set_option linter.all false
set_option maxRecDepth 100000
set_option maxHeartbeats 4000000
namespace Dk
open PySem PySem.Spec PyProof.Rows L2 Dl
theorem sc_check_cells : FnScope ["cells", "seen", "at", "cell"] ["cells"] (defScope sCheckCells) := ⟨rfl, rfl, rfl, by decide +kernel, rfl, by decide +kernel, by decide +kernel⟩
theorem w_check_cells {P : Program} {w : World} {K : PySem.W.Frag} {mg : Str → Option Value} {base : Heap} {CA : Nat → Addr} {f : Addr} {C_is_cell : Con} (T : Txt K mg CA) (G_is_cell : Cal P w K mg base "is_cell" 3 1 (spD CA 1 C_is_cell)) (cdv : Value) (A : Around) (outer : List PySem.Env) (s : Shared) (H : Hp) (E : XK) (hr : Room 3 (A.deeper (envOfC "check_cells" (defScope sCheckCells) s.heap.objs.size f cdv))) :
    DSs CA (cxOf CX0 P w K mg base ["cells", "seen", "at", "cell"] "check_cells" (defScope sCheckCells) f cdv A outer s H E).nox (defBody sCheckCells) (den_check_cells C_is_cell) :=
  (dss_cons (ds_if (dt_not (dt_val (dv_isi2 .list .tuple T.isinstance (dv_of (pv 0)) (pe_ty T.list (by decide +kernel)) (pe_ty T.tuple (by decide +kernel)))))
    dss_never
    dss_nil)
    (dss_cons (ds_setO (i := 1) sc_check_cells.nd df_newT)
    (dss_one (ds_for PassesOwn.never rfl (di_enum T.enumerate (dv_of (pv 0))) (dg_tup rfl (dgs_cons (dg_name (i := 2) sc_check_cells.nd) (dgs_cons (dg_name (i := 3) sc_check_cells.nd) dgs_nil)))
    (dss_cons (ds_if (dt_bor ((dw_or (dt_not (dt_val (dv_call G_is_cell (hr.mono (by decide)) (da_cons (dv_of (pv 3)) da_nil)))) (dw_or1 (dt_din (hu_of hr) (dv_of (pv 3)) (dv_of (pv 1)))))).dt)
    dss_never
    dss_nil)
    (dss_one (ds_put (hu_of hr) (pv 1) (dv_of (pv 3)) dv_bl)))))))
end Dk
end

section
set_option Elab.async false
set_option linter.all false
set_option maxRecDepth 100000
set_option maxHeartbeats 4000000
namespace Dk
open PySem PySem.Spec PyProof.Rows L2 Dl
theorem sc_group_of : FnScope ["start", "known", "by_points", "seen", "left", "cell", "place"] ["start", "known", "by_points"] (defScope sGroupOf) := ⟨rfl, rfl, rfl, by decide +kernel, rfl, by decide +kernel, by decide +kernel⟩
theorem w_group_of {P : Program} {w : World} {K : PySem.W.Frag} {mg : Str → Option Value} {base : Heap} {CA : Nat → Addr} {f : Addr} {C_beside : Con} (T : Txt K mg CA) (G_beside : Cal P w K mg base "beside" 4 1 (spD CA 1 C_beside)) (cdv : Value) (A : Around) (outer : List PySem.Env) (s : Shared) (H : Hp) (E : XK) (hr : Room 4 (A.deeper (envOfC "group_of" (defScope sGroupOf) s.heap.objs.size f cdv))) :
    DSs CA (cxOf CX0 P w K mg base ["start", "known", "by_points", "seen", "left", "cell", "place"] "group_of" (defScope sGroupOf) f cdv A outer s H E).nox (defBody sGroupOf) (den_group_of C_beside) :=
  (dss_cons (ds_par2 (i := 3) (j := 4) rfl sc_group_of.nd (dp_o (df_dispT (hu_of hr) (dv_of (pv 0)) dv_bl)) (dp_o (df_lst (da_cons (dv_of (pv 0)) da_nil))))
    (dss_cons (ds_while PassesOwn.never (dt_bor (dt_cmp (op_neD hr.units) od_neNil (dv_of (pv 4)) (dv_fz (df_lst da_nil)) (nomark _)))
    (dss_cons (ds_set (i := 5) sc_group_of.nd (dv_pop (pv 4)))
    (dss_one (ds_for PassesOwn.never rfl (di_list (dv_if (dt_val (dv_of (pv 2))) dv_never (dv_call G_beside (hr.mono (by decide)) (da_cons (dv_of (pv 5)) da_nil)))) (dg_name (i := 6) sc_group_of.nd)
    (dss_one (ds_if (dt_bor ((dw_and (dt_din (hu_of hr) (dv_of (pv 6)) (dv_of (pv 1))) (dw_and1 (dt_dnotin (hu_of hr) (dv_of (pv 6)) (dv_of (pv 3)))))).dt)
    (dss_cons (ds_put (hu_of hr) (pv 3) (dv_of (pv 6)) dv_bl)
    (dss_one (ds_app (pv 4) (dv_of (pv 6)))))
    dss_nil))))))
    (dss_frz 3 (dss_one (ds_ret (dv_fz (df_callB cr_sortedW cf_sortedW T.sorted (by decide +kernel) (da_cons (dv_fz (df_callTy (call_listAll rfl) cf_list T.list (by decide +kernel) (da_cons (dv_of (pv 3)) da_nil))) da_nil))))))))
end Dk
end

section
set_option Elab.async false
set_option linter.all false
set_option maxRecDepth 100000
set_option maxHeartbeats 4000000
namespace Dk
open PySem PySem.Spec PyProof.Rows L2 Dl
theorem sc_groups : FnScope ["cells", "by_points", "known", "seen", "found", "cell", "group", "place"] ["cells", "by_points"] (defScope sGroups) := ⟨rfl, rfl, rfl, by decide +kernel, rfl, by decide +kernel, by decide +kernel⟩
theorem w_groups {P : Program} {w : World} {K : PySem.W.Frag} {mg : Str → Option Value} {base : Heap} {CA : Nat → Addr} {f : Addr} {C_group_of : Con} (T : Txt K mg CA) (G_group_of : Cal P w K mg base "group_of" 5 3 (spD CA 3 C_group_of)) (cdv : Value) (A : Around) (outer : List PySem.Env) (s : Shared) (H : Hp) (E : XK) (hr : Room 5 (A.deeper (envOfC "groups" (defScope sGroups) s.heap.objs.size f cdv))) :
    DSs CA (cxOf CX0 P w K mg base ["cells", "by_points", "known", "seen", "found", "cell", "group", "place"] "groups" (defScope sGroups) f cdv A outer s H E).nox (defBody sGroups) (den_groups C_group_of) :=
  (dss_cons (ds_par3 (i := 2) (j := 3) (l := 4) rfl sc_groups.nd (dp_v (dv_fz (df_dc .t (hu_of hr) rfl sc_groups.nd (di_list (dv_of (pv 0))) (blkOk_by (own := [("cell", 5)]) (N := ["cells", "by_points", "known", "seen", "found", "cell", "group", "place"]) (sc := defScope sGroups) (by decide +kernel)) rfl (by decide) (fun _ _ _ _ _ => (dg_name (i := 5) sc_groups.nd)) (fun _ _ _ _ _ => dts_nil) (fun _ _ _ _ _ => (dv_of (pv 5))) (fun _ _ _ _ _ => dv_bl)))) (dp_o df_newT) (dp_o (df_lst da_nil)))
    (dss_cons (ds_for PassesOwn.never rfl (di_list (dv_fz (df_callB cr_sortedW cf_sortedW T.sorted (by decide +kernel) (da_cons (dv_fz (df_callTy (call_listAll rfl) cf_list T.list (by decide +kernel) (da_cons (dv_of (pv 0)) da_nil))) da_nil)))) (dg_name (i := 5) sc_groups.nd)
    (dss_one (ds_if (dt_bor (dt_dnotin (hu_of hr) (dv_of (pv 5)) (dv_of (pv 3))))
    (dss_cons (ds_set (i := 6) sc_groups.nd (dv_call G_group_of (hr.mono (by decide)) (da_cons (dv_of (pv 5)) (da_cons (dv_of (pv 2)) (da_cons (dv_of (pv 1)) da_nil)))))
    (dss_cons (ds_app (pv 4) (dv_of (pv 6)))
    (dss_one (ds_for PassesOwn.never rfl (di_list (dv_of (pv 6))) (dg_name (i := 7) sc_groups.nd)
    (dss_one (ds_put (hu_of hr) (pv 3) (dv_of (pv 7)) dv_bl))))))
    dss_nil)))
    (dss_one (ds_retO (pv 4)))))
end Dk
end

section
set_option Elab.async false
set_option linter.all false
set_option maxRecDepth 100000
set_option maxHeartbeats 4000000
namespace Dk
open PySem PySem.Spec PyProof.Rows L2 Dl
theorem sc_hangs_together : FnScope ["cells"] ["cells"] (defScope sHangsTogether) := ⟨rfl, rfl, rfl, by decide +kernel, rfl, by decide +kernel, by decide +kernel⟩
theorem w_hangs_together {P : Program} {w : World} {K : PySem.W.Frag} {mg : Str → Option Value} {base : Heap} {CA : Nat → Addr} {f : Addr} {C_pieces : Con} (T : Txt K mg CA) (G_pieces : Cal P w K mg base "pieces" 7 1 (spD CA 1 C_pieces)) (cdv : Value) (A : Around) (outer : List PySem.Env) (s : Shared) (H : Hp) (E : XK) (hr : Room 7 (A.deeper (envOfC "hangs_together" (defScope sHangsTogether) s.heap.objs.size f cdv))) :
    DSs CA (cxOf CX0 P w K mg base ["cells"] "hangs_together" (defScope sHangsTogether) f cdv A outer s H E).nox (defBody sHangsTogether) (den_hangs_together C_pieces) :=
  (dss_one (ds_ret (dv_cmp op_eq od_eq (dv_callB call_lenAll cd_len T.len (by decide +kernel) (da_cons (dv_call G_pieces (hr.mono (by decide)) (da_cons (dv_of (pv 0)) da_nil)) da_nil)) dv_int (nomark _))))
end Dk
end

section
set_option Elab.async false
set_option linter.all false
set_option maxRecDepth 100000
set_option maxHeartbeats 4000000
namespace Dk
open PySem PySem.Spec PyProof.Rows L2 Dl
theorem sc_pieces : FnScope ["cells"] ["cells"] (defScope sPieces) := ⟨rfl, rfl, rfl, by decide +kernel, rfl, by decide +kernel, by decide +kernel⟩
theorem w_pieces {P : Program} {w : World} {K : PySem.W.Frag} {mg : Str → Option Value} {base : Heap} {CA : Nat → Addr} {f : Addr} {C_check_cells : Con} {C_groups : Con} (T : Txt K mg CA) (G_check_cells : Cal P w K mg base "check_cells" 4 1 (spD CA 1 C_check_cells)) (G_groups : Cal P w K mg base "groups" 6 2 (spD CA 2 C_groups)) (cdv : Value) (A : Around) (outer : List PySem.Env) (s : Shared) (H : Hp) (E : XK) (hr : Room 6 (A.deeper (envOfC "pieces" (defScope sPieces) s.heap.objs.size f cdv))) :
    DSs CA (cxOf CX0 P w K mg base ["cells"] "pieces" (defScope sPieces) f cdv A outer s H E).nox (defBody sPieces) (den_pieces C_check_cells C_groups) :=
  (dss_cons (ds_expr (dv_call G_check_cells (hr.mono (by decide)) (da_cons (dv_of (pv 0)) da_nil)))
    (dss_one (ds_ret (dv_call G_groups (hr.mono (by decide)) (da_cons (dv_of (pv 0)) (da_cons dv_bl da_nil))))))
end Dk
end

section
set_option Elab.async false
set_option linter.all false
set_option maxRecDepth 100000
set_option maxHeartbeats 4000000
namespace Dk
open PySem PySem.Spec PyProof.Rows L2 Dl
theorem sc_is_list : FnScope ["value"] ["value"] (defScope sIsList) := ⟨rfl, rfl, rfl, by decide +kernel, rfl, by decide +kernel, by decide +kernel⟩
theorem w_is_list {P : Program} {w : World} {K : PySem.W.Frag} {mg : Str → Option Value} {base : Heap} {CA : Nat → Addr} {f : Addr}  (T : Txt K mg CA)  (cdv : Value) (A : Around) (outer : List PySem.Env) (s : Shared) (H : Hp) (E : XK) (hr : Room 0 (A.deeper (envOfC "is_list" (defScope sIsList) s.heap.objs.size f cdv))) :
    DSs CA (cxOf CX0 P w K mg base ["value"] "is_list" (defScope sIsList) f cdv A outer s H E).nox (defBody sIsList) (den_is_list ) :=
  (dss_one (ds_ret (dv_isi2 .list .tuple T.isinstance (dv_of (pv 0)) (pe_ty T.list (by decide +kernel)) (pe_ty T.tuple (by decide +kernel)))))
end Dk
end

section
set_option Elab.async false
set_option linter.all false
set_option maxRecDepth 100000
set_option maxHeartbeats 4000000
namespace Dk
open PySem PySem.Spec PyProof.Rows L2 Dl
theorem sc_check_rows : FnScope ["rows", "at", "row", "name"] ["rows"] (defScope sCheckRows) := ⟨rfl, rfl, rfl, by decide +kernel, rfl, by decide +kernel, by decide +kernel⟩
theorem w_check_rows {P : Program} {w : World} {K : PySem.W.Frag} {mg : Str → Option Value} {base : Heap} {CA : Nat → Addr} {f : Addr} {C_is_list : Con} {C_is_name : Con} (T : Txt K mg CA) (G_is_list : Cal P w K mg base "is_list" 1 1 (spD CA 1 C_is_list)) (G_is_name : Cal P w K mg base "is_name" 1 1 (spD CA 1 C_is_name)) (cdv : Value) (A : Around) (outer : List PySem.Env) (s : Shared) (H : Hp) (E : XK) (hr : Room 1 (A.deeper (envOfC "check_rows" (defScope sCheckRows) s.heap.objs.size f cdv))) :
    DSs CA (cxOf CX0 P w K mg base ["rows", "at", "row", "name"] "check_rows" (defScope sCheckRows) f cdv A outer s H E).nox (defBody sCheckRows) (den_check_rows C_is_list C_is_name) :=
  (dss_cons (ds_if ((dw_or (dt_not (dt_val (dv_call G_is_list (hr.mono (by decide)) (da_cons (dv_of (pv 0)) da_nil)))) (dw_or1 (dt_not (dt_chain op_le op_le od_le od_le dv_int (dv_callB call_lenAll cd_len T.len (by decide +kernel) (da_cons (dv_of (pv 0)) da_nil)) (dv_gint T.MOST_SIZE)))))).dt
    dss_never
    dss_nil)
    (dss_one (ds_for PassesOwn.never rfl (di_enum T.enumerate (dv_of (pv 0))) (dg_tup rfl (dgs_cons (dg_name (i := 1) sc_check_rows.nd) (dgs_cons (dg_name (i := 2) sc_check_rows.nd) dgs_nil)))
    (dss_cons (ds_if ((dw_or (dt_not (dt_val (dv_call G_is_list (hr.mono (by decide)) (da_cons (dv_of (pv 2)) da_nil)))) (dw_or (dt_not (dt_chain op_le op_le od_le od_le dv_int (dv_callB call_lenAll cd_len T.len (by decide +kernel) (da_cons (dv_of (pv 2)) da_nil)) (dv_gint T.MOST_SIZE))) (dw_or1 (dt_cmp op_ne od_ne (dv_callB call_lenAll cd_len T.len (by decide +kernel) (da_cons (dv_of (pv 2)) da_nil)) (dv_callB call_lenAll cd_len T.len (by decide +kernel) (da_cons (dv_ix (dv_of (pv 0)) dv_int) da_nil)) (nomark _)))))).dt
    dss_never
    dss_nil)
    (dss_one (ds_if (dt_not (dt_val (dv_callB (cr_all rfl) cd_all T.all (by decide +kernel) (da_cons (dv_fz (df_lc rfl sc_check_rows.nd (di_list (dv_of (pv 2))) (blkOk_by (own := [("name", 3)]) (N := ["rows", "at", "row", "name"]) (sc := defScope sCheckRows) (by decide +kernel)) rfl (by decide) (fun _ _ _ _ _ => (dg_name (i := 3) sc_check_rows.nd)) (fun _ _ _ _ _ => dts_nil) (fun _ _ _ _ _ => (dv_call G_is_name (hr.mono (by decide)) (da_cons (dv_of (pv 3)) da_nil))))) da_nil))))
    dss_never
    dss_nil))))))
end Dk
end

section
set_option Elab.async false
set_option linter.all false
set_option maxRecDepth 100000
set_option maxHeartbeats 4000000
namespace Dk
open PySem PySem.Spec PyProof.Rows L2 Dl
theorem sc_parcels_of : FnScope ["rows", "names", "row", "name", "found", "down", "right"] ["rows"] (defScope sParcelsOf) := ⟨rfl, rfl, rfl, by decide +kernel, rfl, by decide +kernel, by decide +kernel⟩
theorem w_parcels_of {P : Program} {w : World} {K : PySem.W.Frag} {mg : Str → Option Value} {base : Heap} {CA : Nat → Addr} {f : Addr}  (T : Txt K mg CA)  (cdv : Value) (A : Around) (outer : List PySem.Env) (s : Shared) (H : Hp) (E : XK) (hr : Room 0 (A.deeper (envOfC "parcels_of" (defScope sParcelsOf) s.heap.objs.size f cdv))) :
    DSs CA (cxOf CX0 P w K mg base ["rows", "names", "row", "name", "found", "down", "right"] "parcels_of" (defScope sParcelsOf) f cdv A outer s H E).nox (defBody sParcelsOf) (den_parcels_of ) :=
  (dss_cons (ds_set (i := 1) sc_parcels_of.nd (dv_fz (df_sortSc (ia := 2) (ix := 3) T.sorted rfl sc_parcels_of.nd (dv_of (pv 0)) (blkOk_by (own := [("row", 2), ("name", 3)]) (N := ["rows", "names", "row", "name", "found", "down", "right"]) (sc := defScope sParcelsOf) (by decide +kernel)) rfl (by decide) (fun _ _ _ _ _ => pg_name (i := 2) sc_parcels_of.nd rfl (by first | exact .inl rfl | exact .inr rfl) (by first | exact .inl rfl | exact .inr rfl)) (fun _ _ _ _ _ => pg_name (i := 3) sc_parcels_of.nd rfl (by first | exact .inl rfl | exact .inr rfl) (by first | exact .inl rfl | exact .inr rfl)) (fun _ _ _ _ _ => pv 2) (fun _ _ _ _ _ => pv 3))))
    (dss_box (i := 4) (hu_of hr) rfl sc_parcels_of.nd (di_list (dv_of (pv 1))) (blkOk_by (own := [("name", 3)]) (N := ["rows", "names", "row", "name", "found", "down", "right"]) (sc := defScope sParcelsOf) (by decide +kernel)) rfl (by decide) (fun _ _ _ _ _ => (dg_name (i := 3) sc_parcels_of.nd)) (fun _ _ _ _ _ => (dv_of (pv 3))) (hr := (dus_cons (du_for PassesOwn.never rfl (di_enum T.enumerate (dv_of (pv 0))) (dg_tup rfl (dgs_cons (dg_name (i := 5) sc_parcels_of.nd) (dgs_cons (dg_name (i := 2) sc_parcels_of.nd) dgs_nil))) (by decide) (dus_one (du_for PassesOwn.never rfl (di_enum T.enumerate (dv_of (pv 2))) (dg_tup rfl (dgs_cons (dg_name (i := 6) sc_parcels_of.nd) (dgs_cons (dg_name (i := 3) sc_parcels_of.nd) dgs_nil))) (by decide) (dus_one (du_app (hu_of hr) (pv 4) (dv_of (pv 3)) (dv_tup (da_cons (dv_of (pv 5)) (da_cons (dv_of (pv 6)) da_nil))) (fun _ _ => rfl))))))
    (dus_one (du_ret (pv 4)))))))
end Dk
end

section
set_option Elab.async false
set_option linter.all false
set_option maxRecDepth 100000
set_option maxHeartbeats 4000000
namespace Dk
open PySem PySem.Spec PyProof.Rows L2 Dl
theorem sc_is_edge : FnScope ["cell", "height", "width"] ["cell", "height", "width"] (defScope sIsEdge) := ⟨rfl, rfl, rfl, by decide +kernel, rfl, by decide +kernel, by decide +kernel⟩
theorem w_is_edge {P : Program} {w : World} {K : PySem.W.Frag} {mg : Str → Option Value} {base : Heap} {CA : Nat → Addr} {f : Addr} {C_is_cell : Con} (T : Txt K mg CA) (G_is_cell : Cal P w K mg base "is_cell" 3 1 (spD CA 1 C_is_cell)) (cdv : Value) (A : Around) (outer : List PySem.Env) (s : Shared) (H : Hp) (E : XK) (hr : Room 3 (A.deeper (envOfC "is_edge" (defScope sIsEdge) s.heap.objs.size f cdv))) :
    DSs CA (cxOf CX0 P w K mg base ["cell", "height", "width"] "is_edge" (defScope sIsEdge) f cdv A outer s H E).nox (defBody sIsEdge) (den_is_edge C_is_cell) :=
  (dss_cons (ds_if ((dw_or (dt_not (dt_val (dv_call G_is_cell (hr.mono (by decide)) (da_cons (dv_of (pv 0)) da_nil)))) (dw_or (dt_cmp op_ge od_ge (dv_ix (dv_of (pv 0)) dv_int) (dv_of (pv 1)) (nomark _)) (dw_or1 (dt_cmp op_ge od_ge (dv_ix (dv_of (pv 0)) dv_int) (dv_of (pv 2)) (nomark _)))))).dt
    (dss_one (ds_ret dv_bl))
    dss_nil)
    (dss_one (ds_ret (dv_or (dv_cmp op_in_seq od_in (dv_ix (dv_of (pv 0)) dv_int) (dv_tup (da_cons dv_int (da_cons (dv_op op_sub od_sub (dv_of (pv 1)) dv_int) da_nil))) rfl) (dv_one (dv_cmp op_in_seq od_in (dv_ix (dv_of (pv 0)) dv_int) (dv_tup (da_cons dv_int (da_cons (dv_op op_sub od_sub (dv_of (pv 2)) dv_int) da_nil))) rfl))))))
end Dk
end

section
set_option Elab.async false
set_option linter.all false
set_option maxRecDepth 100000
set_option maxHeartbeats 4000000
namespace Dk
open PySem PySem.Spec PyProof.Rows L2 Dl
theorem sc_check_road : FnScope ["road", "height", "width", "seen", "at", "cell"] ["road", "height", "width"] (defScope sCheckRoad) := ⟨rfl, rfl, rfl, by decide +kernel, rfl, by decide +kernel, by decide +kernel⟩
theorem w_check_road {P : Program} {w : World} {K : PySem.W.Frag} {mg : Str → Option Value} {base : Heap} {CA : Nat → Addr} {f : Addr} {C_is_list : Con} {C_is_edge : Con} (T : Txt K mg CA) (G_is_list : Cal P w K mg base "is_list" 1 1 (spD CA 1 C_is_list)) (G_is_edge : Cal P w K mg base "is_edge" 4 3 (spD CA 3 C_is_edge)) (cdv : Value) (A : Around) (outer : List PySem.Env) (s : Shared) (H : Hp) (E : XK) (hr : Room 4 (A.deeper (envOfC "check_road" (defScope sCheckRoad) s.heap.objs.size f cdv))) :
    DSs CA (cxOf CX0 P w K mg base ["road", "height", "width", "seen", "at", "cell"] "check_road" (defScope sCheckRoad) f cdv A outer s H E).nox (defBody sCheckRoad) (den_check_road C_is_list C_is_edge) :=
  (dss_cons (ds_if (dt_not (dt_val (dv_call G_is_list (hr.mono (by decide)) (da_cons (dv_of (pv 0)) da_nil))))
    dss_never
    dss_nil)
    (dss_cons (ds_setO (i := 3) sc_check_road.nd df_newT)
    (dss_one (ds_for PassesOwn.never rfl (di_enum T.enumerate (dv_of (pv 0))) (dg_tup rfl (dgs_cons (dg_name (i := 4) sc_check_road.nd) (dgs_cons (dg_name (i := 5) sc_check_road.nd) dgs_nil)))
    (dss_cons (ds_if (dt_bor ((dw_or (dt_not (dt_val (dv_call G_is_edge (hr.mono (by decide)) (da_cons (dv_of (pv 5)) (da_cons (dv_of (pv 1)) (da_cons (dv_of (pv 2)) da_nil)))))) (dw_or1 (dt_din (hu_of hr) (dv_of (pv 5)) (dv_of (pv 3)))))).dt)
    dss_never
    dss_nil)
    (dss_one (ds_put (hu_of hr) (pv 3) (dv_of (pv 5)) dv_bl)))))))
end Dk
end

section
set_option Elab.async false
set_option linter.all false
set_option maxRecDepth 100000
set_option maxHeartbeats 4000000
namespace Dk
open PySem PySem.Spec PyProof.Rows L2 Dl
theorem sc_borders_of : FnScope ["rows", "borders", "rims", "down", "row", "right", "name", "places", "place", "other", "cell"] ["rows"] (defScope sBordersOf) := ⟨rfl, rfl, rfl, by decide +kernel, rfl, by decide +kernel, by decide +kernel⟩
theorem w_borders_of {P : Program} {w : World} {K : PySem.W.Frag} {mg : Str → Option Value} {base : Heap} {CA : Nat → Addr} {f : Addr} {C_beside : Con} (T : Txt K mg CA) (G_beside : Cal P w K mg base "beside" 4 1 (spD CA 1 C_beside)) (cdv : Value) (A : Around) (outer : List PySem.Env) (s : Shared) (H : Hp) (E : XK) (hr : Room 4 (A.deeper (envOfC "borders_of" (defScope sBordersOf) s.heap.objs.size f cdv))) :
    DSs CA (cxOf CX0 P w K mg base ["rows", "borders", "rims", "down", "row", "right", "name", "places", "place", "other", "cell"] "borders_of" (defScope sBordersOf) f cdv A outer s H E).nox (defBody sBordersOf) (den_borders_of C_beside) :=
  (dss_cons (ds_par2 (i := 1) (j := 2) rfl sc_borders_of.nd (dp_o df_newT) (dp_o df_newK))
    (dss_cons (ds_for PassesOwn.never rfl (di_enum T.enumerate (dv_of (pv 0))) (dg_tup rfl (dgs_cons (dg_name (i := 3) sc_borders_of.nd) (dgs_cons (dg_name (i := 4) sc_borders_of.nd) dgs_nil)))
    (dss_one (ds_for PassesOwn.never rfl (di_enum T.enumerate (dv_of (pv 4))) (dg_tup rfl (dgs_cons (dg_name (i := 5) sc_borders_of.nd) (dgs_cons (dg_name (i := 6) sc_borders_of.nd) dgs_nil)))
    (dss_cons (ds_setLc (i := 7) rfl sc_borders_of.nd (di_list (dv_call G_beside (hr.mono (by decide)) (da_cons (dv_tup (da_cons (dv_of (pv 3)) (da_cons (dv_of (pv 5)) da_nil))) da_nil))) (blkOk_by (own := [("cell", 10)]) (N := ["rows", "borders", "rims", "down", "row", "right", "name", "places", "place", "other", "cell"]) (sc := defScope sBordersOf) (by decide +kernel)) rfl (by decide) (fun _ _ _ _ _ => (dg_name (i := 10) sc_borders_of.nd)) (fun _ _ _ _ _ => (dts_one ((dw_and (dt_cmp op_lt od_lt (dv_ix (dv_of (pv 10)) dv_int) (dv_callB call_lenAll cd_len T.len (by decide +kernel) (da_cons (dv_of (pv 0)) da_nil)) (nomark _)) (dw_and1 (dt_cmp op_lt od_lt (dv_ix (dv_of (pv 10)) dv_int) (dv_callB call_lenAll cd_len T.len (by decide +kernel) (da_cons (dv_of (pv 4)) da_nil)) (nomark _))))).dt)) (fun _ _ _ _ _ => (dv_of (pv 10))))
    (dss_cons (ds_put (hu_of hr) (pv 2) (dv_of (pv 6)) (dv_bor (dv_op op_sub od_sub (dv_op op_add od_add (dv_dget2 (hu_of hr) (dv_of (pv 2)) (dv_of (pv 6)) dv_int) dv_int) (dv_callB call_lenAll cd_len T.len (by decide +kernel) (da_cons (dv_of (pv 7)) da_nil)))))
    (dss_one (ds_for PassesOwn.never rfl (di_list (dv_of (pv 7))) (dg_name (i := 8) sc_borders_of.nd)
    (dss_cons (ds_set (i := 9) sc_borders_of.nd (dv_ix (dv_ix (dv_of (pv 0)) (dv_ix (dv_of (pv 8)) dv_int)) (dv_ix (dv_of (pv 8)) dv_int)))
    (dss_one (ds_if (dt_cmp op_ne od_ne (dv_of (pv 9)) (dv_of (pv 6)) (nomark _))
    (dss_one (ds_put (hu_of hr) (pv 1) (dv_tup (da_cons (dv_of (pv 6)) (da_cons (dv_of (pv 9)) da_nil))) (dv_bor (dv_op op_add od_add (dv_dget2 (hu_of hr) (dv_of (pv 1)) (dv_tup (da_cons (dv_of (pv 6)) (da_cons (dv_of (pv 9)) da_nil))) dv_int) dv_int))))
    dss_nil))))))))))
    (dss_frz 1 (dss_frz 2 (dss_one (ds_ret (dv_tup (da_cons (dv_of (pv 1)) (da_cons (dv_of (pv 2)) da_nil)))))))))
end Dk
end

section
set_option Elab.async false
set_option linter.all false
set_option maxRecDepth 100000
set_option maxHeartbeats 4000000
namespace Dk
open PySem PySem.Spec PyProof.Rows L2 Dl
theorem sc_is_step : FnScope ["plat", "value"] ["plat", "value"] (defScope sIsStep) := ⟨rfl, rfl, rfl, by decide +kernel, rfl, by decide +kernel, by decide +kernel⟩
theorem w_is_step {P : Program} {w : World} {K : PySem.W.Frag} {mg : Str → Option Value} {base : Heap} {CA : Nat → Addr} {f : Addr} {C_Plat___contains__ : Con} {C_Plat_border : Con} (T : Txt K mg CA) (G_Plat___contains__ : Met P w K mg base (CA 0) "__contains__" 1 2 (spD CA 2 C_Plat___contains__)) (G_Plat_border : Met P w K mg base (CA 0) "border" 2 3 (spD CA 3 C_Plat_border)) (cdv : Value) (A : Around) (outer : List PySem.Env) (s : Shared) (H : Hp) (E : XK) (hr : Room 2 (A.deeper (envOfC "is_step" (defScope sIsStep) s.heap.objs.size f cdv))) :
    DSs CA (cxOf CX0 P w K mg base ["plat", "value"] "is_step" (defScope sIsStep) f cdv A outer s H E).nox (defBody sIsStep) (den_is_step C_Plat___contains__ C_Plat_border) :=
  (dss_cons (ds_if ((dw_or (dt_not (dt_val (dv_isi .tuple T.isinstance (dv_of (pv 1)) (pe_ty T.tuple (by decide +kernel))))) (dw_or (dt_cmp op_ne od_ne (dv_callB call_lenAll cd_len T.len (by decide +kernel) (da_cons (dv_of (pv 1)) da_nil)) dv_int (nomark _)) (dw_or (dt_cmp (op_nothas G_Plat___contains__ (hr.mono (by decide))) od_has (dv_ix (dv_of (pv 1)) dv_int) (dv_of (pv 0)) rfl) (dw_or1 (dt_cmp (op_nothas G_Plat___contains__ (hr.mono (by decide))) od_has (dv_ix (dv_of (pv 1)) dv_int) (dv_of (pv 0)) rfl)))))).dt
    (dss_one (ds_ret dv_bl))
    dss_nil)
    (dss_one (ds_ret (dv_cmp op_gt od_gt (dv_meth 0 G_Plat_border T.cls0 (hr.mono (by decide)) (dv_of (pv 0)) (da_cons (dv_ix (dv_of (pv 1)) dv_int) (da_cons (dv_ix (dv_of (pv 1)) dv_int) da_nil))) dv_int (nomark _)))))
end Dk
end

section
set_option Elab.async false
set_option linter.all false
set_option maxRecDepth 100000
set_option maxHeartbeats 4000000
namespace Dk
open PySem PySem.Spec PyProof.Rows L2 Dl
theorem sc_check_steps : FnScope ["plat", "steps", "at", "step"] ["plat", "steps"] (defScope sCheckSteps) := ⟨rfl, rfl, rfl, by decide +kernel, rfl, by decide +kernel, by decide +kernel⟩
theorem w_check_steps {P : Program} {w : World} {K : PySem.W.Frag} {mg : Str → Option Value} {base : Heap} {CA : Nat → Addr} {f : Addr} {C_is_list : Con} {C_is_step : Con} (T : Txt K mg CA) (G_is_list : Cal P w K mg base "is_list" 1 1 (spD CA 1 C_is_list)) (G_is_step : Cal P w K mg base "is_step" 3 2 (spD CA 2 C_is_step)) (cdv : Value) (A : Around) (outer : List PySem.Env) (s : Shared) (H : Hp) (E : XK) (hr : Room 3 (A.deeper (envOfC "check_steps" (defScope sCheckSteps) s.heap.objs.size f cdv))) :
    DSs CA (cxOf CX0 P w K mg base ["plat", "steps", "at", "step"] "check_steps" (defScope sCheckSteps) f cdv A outer s H E).nox (defBody sCheckSteps) (den_check_steps C_is_list C_is_step) :=
  (dss_cons (ds_if (dt_not (dt_val (dv_call G_is_list (hr.mono (by decide)) (da_cons (dv_of (pv 1)) da_nil))))
    dss_never
    dss_nil)
    (dss_one (ds_for PassesOwn.never rfl (di_enum T.enumerate (dv_of (pv 1))) (dg_tup rfl (dgs_cons (dg_name (i := 2) sc_check_steps.nd) (dgs_cons (dg_name (i := 3) sc_check_steps.nd) dgs_nil)))
    (dss_one (ds_if (dt_not (dt_val (dv_call G_is_step (hr.mono (by decide)) (da_cons (dv_of (pv 0)) (da_cons (dv_of (pv 3)) da_nil)))))
    dss_never
    dss_nil)))))
end Dk
end

section
set_option Elab.async false
set_option linter.all false
set_option maxRecDepth 100000
set_option maxHeartbeats 4000000
namespace Dk
open PySem PySem.Spec PyProof.Rows L2 Dl
theorem sc_onward : FnScope ["names", "steps", "found", "name", "start", "over"] ["names", "steps"] (defScope sOnward) := ⟨rfl, rfl, rfl, by decide +kernel, rfl, by decide +kernel, by decide +kernel⟩
theorem w_onward {P : Program} {w : World} {K : PySem.W.Frag} {mg : Str → Option Value} {base : Heap} {CA : Nat → Addr} {f : Addr}  (T : Txt K mg CA)  (cdv : Value) (A : Around) (outer : List PySem.Env) (s : Shared) (H : Hp) (E : XK) (hr : Room 0 (A.deeper (envOfC "onward" (defScope sOnward) s.heap.objs.size f cdv))) :
    DSs CA (cxOf CX0 P w K mg base ["names", "steps", "found", "name", "start", "over"] "onward" (defScope sOnward) f cdv A outer s H E).nox (defBody sOnward) (den_onward ) :=
  (dss_box (i := 2) (hu_of hr) rfl sc_onward.nd (di_list (dv_of (pv 0))) (blkOk_by (own := [("name", 3)]) (N := ["names", "steps", "found", "name", "start", "over"]) (sc := defScope sOnward) (by decide +kernel)) rfl (by decide) (fun _ _ _ _ _ => (dg_name (i := 3) sc_onward.nd)) (fun _ _ _ _ _ => (dv_of (pv 3))) (hr := (dus_cons (du_for PassesOwn.never rfl (di_list (dv_of (pv 1))) (dg_tup rfl (dgs_cons (dg_name (i := 4) sc_onward.nd) (dgs_cons (dg_name (i := 5) sc_onward.nd) dgs_nil))) (by decide) (dus_one (du_app (hu_of hr) (pv 2) (dv_of (pv 4)) (dv_of (pv 5)) (fun _ _ => rfl))))
    (dus_one (du_ret (pv 2))))))
end Dk
end

section
set_option Elab.async false
set_option linter.all false
set_option maxRecDepth 100000
set_option maxHeartbeats 4000000
namespace Dk
open PySem PySem.Spec PyProof.Rows L2 Dl
theorem sc__law_draw : FnScope ["_law_bag_here", "_law_many", "_law_cell", "_law_digit", "_law_seed"] ["_law_bag_here", "_law_many"] (defScope sLawDraw) := ⟨rfl, rfl, rfl, by decide +kernel, rfl, by decide +kernel, by decide +kernel⟩
theorem w__law_draw {P : Program} {w : World} {K : PySem.W.Frag} {mg : Str → Option Value} {base : Heap} {CA : Nat → Addr} {f : Addr}  (T : Txt K mg CA)  (cdv : Value) (A : Around) (outer : List PySem.Env) (s : Shared) (H : Hp) (E : XK) (hr : Room 0 (A.deeper (envOfC "_law_draw" (defScope sLawDraw) s.heap.objs.size f cdv))) :
    DRs CA (cxOf CX0 P w K mg base ["_law_bag_here", "_law_many", "_law_cell", "_law_digit", "_law_seed"] "_law_draw" (defScope sLawDraw) f cdv A outer s H E).nox (defBody sLawDraw) (den__law_draw ) :=
  (drs_cons (dr_lset (pv 0) (dvp_of dv_int) (dvp_of (dv_op op_add od_add (dv_ix (dv_of (pv 0)) dv_int) dv_int)))
    (drs_cons (dr_if (dtp_of ((dw_and (dt_cmp op_eq od_eq (dv_ix (dv_of (pv 0)) dv_int) dv_int (nomark _)) (dw_and1 (dt_cmp op_lt od_lt (dv_ix (dv_of (pv 0)) dv_int) (dv_callB call_lenAll cd_len T.len (by decide +kernel) (da_cons (dv_ix (dv_of (pv 0)) dv_int) da_nil)) (nomark _))))).dt)
    (drs_cons (dr_set (i := 2) (by decide) sc__law_draw.nd (dvp_of (dv_callB call_abs cd_abs T.abs (by decide +kernel) (da_cons (dv_ix (dv_ix (dv_of (pv 0)) dv_int) (dv_ix (dv_of (pv 0)) dv_int)) da_nil))))
    (drs_cons (dr_lset (pv 0) (dvp_of dv_int) (dvp_of (dv_op op_add od_add (dv_ix (dv_of (pv 0)) dv_int) dv_int)))
    (drs_one (dr_if (dtp_of (dt_cmp op_ge od_ge (dv_of (pv 2)) (dv_op op_pow od_pow dv_int dv_int) (nomark _)))
    (drs_one (dr_lset (pv 0) (dvp_of dv_int) (dvp_of (dv_of (pv 2)))))
    (drs_one (dr_lset (pv 0) (dvp_of dv_int) (dvp_of (dv_op op_mod od_mod (dv_callTy call_int1 cd_int T.int (by decide +kernel) (da_cons (dv_op op_add od_add (dv_op op_add od_add (dv_op op_mul od_mul (dv_ix (dv_of (pv 0)) dv_int) dv_int) (dv_op op_mul od_mul (dv_op op_mod od_mod (dv_callTy call_int1 cd_int T.int (by decide +kernel) (da_cons (dv_of (pv 2)) da_nil)) dv_int) dv_int)) dv_int) da_nil)) dv_int))))))))
    drs_nil)
    (drs_cons (dr_if (dtp_of (dt_cmp op_gt od_gt (dv_ix (dv_of (pv 0)) dv_int) dv_int (nomark _)))
    (drs_cons (dr_set (i := 3) (by decide) sc__law_draw.nd (dvp_of (dv_op op_mod od_mod (dv_callTy call_int1 cd_int T.int (by decide +kernel) (da_cons (dv_ix (dv_of (pv 0)) dv_int) da_nil)) (dv_of (pv 1)))))
    (drs_cons (dr_lset (pv 0) (dvp_of dv_int) (dvp_of (dv_op op_fdiv od_fdiv (dv_ix (dv_of (pv 0)) dv_int) (dv_of (pv 1)))))
    (drs_one (dr_ret (dvp_of (dv_of (pv 3)))))))
    drs_nil)
    (drs_cons (dr_set (i := 4) (by decide) sc__law_draw.nd (dvp_of (dv_ix (dv_of (pv 0)) dv_int)))
    (drs_cons (dr_lset (pv 0) (dvp_of dv_int) (dvp_of (dv_op op_mod od_mod (dv_callTy call_int1 cd_int T.int (by decide +kernel) (da_cons (dv_op op_add od_add (dv_op op_add od_add (dv_op op_add od_add (dv_op op_pow od_pow (dv_of (pv 4)) dv_int) (dv_op op_mul od_mul (dv_of (pv 4)) dv_int)) (dv_op op_mul od_mul (dv_ix (dv_of (pv 0)) dv_int) dv_int)) dv_int) da_nil)) dv_int)))
    (drs_one (dr_ret (dvp_of (dv_op op_mod od_mod (dv_callTy call_int1 cd_int T.int (by decide +kernel) (da_cons (dv_op op_add od_add (dv_op op_fdiv od_fdiv (dv_ix (dv_of (pv 0)) dv_int) dv_int) (dv_op op_mul od_mul (dv_op op_mod od_mod (dv_callTy call_int1 cd_int T.int (by decide +kernel) (da_cons (dv_ix (dv_of (pv 0)) dv_int) da_nil)) dv_int) dv_int)) da_nil)) (dv_of (pv 1)))))))))))
end Dk
end

section
set_option Elab.async false
set_option linter.all false
set_option maxRecDepth 100000
set_option maxHeartbeats 4000000
namespace Dk
open PySem PySem.Spec PyProof.Rows L2 Dl
theorem sc__law_pick : FnScope ["_law_bag_here", "_law_some"] ["_law_bag_here", "_law_some"] (defScope sLawPick) := ⟨rfl, rfl, rfl, by decide +kernel, rfl, by decide +kernel, by decide +kernel⟩
theorem w__law_pick {P : Program} {w : World} {K : PySem.W.Frag} {mg : Str → Option Value} {base : Heap} {CA : Nat → Addr} {f : Addr} {C__law_draw : Con} (T : Txt K mg CA) (G__law_draw : Cal P w K mg base "_law_draw" 1 2 (spD CA 2 C__law_draw)) (cdv : Value) (A : Around) (outer : List PySem.Env) (s : Shared) (H : Hp) (E : XK) (hr : Room 1 (A.deeper (envOfC "_law_pick" (defScope sLawPick) s.heap.objs.size f cdv))) :
    DSs CA (cxOf CX0 P w K mg base ["_law_bag_here", "_law_some"] "_law_pick" (defScope sLawPick) f cdv A outer s H E).nox (defBody sLawPick) (den__law_pick C__law_draw) :=
  (dss_one (ds_ret (dv_ix (dv_of (pv 1)) (dv_call G__law_draw (hr.mono (by decide)) (da_bag (pv 0) (da_cons (dv_callB call_lenAll cd_len T.len (by decide +kernel) (da_cons (dv_of (pv 1)) da_nil)) da_nil))))))
end Dk
end

section
set_option Elab.async false
set_option linter.all false
set_option maxRecDepth 100000
set_option maxHeartbeats 4000000
namespace Dk
open PySem PySem.Spec PyProof.Rows L2 Dl
theorem sc__law_mixed : FnScope ["_law_bag_here", "_law_some", "_law_found", "_law_item"] ["_law_bag_here", "_law_some"] (defScope sLawMixed) := ⟨rfl, rfl, rfl, by decide +kernel, rfl, by decide +kernel, by decide +kernel⟩
theorem w__law_mixed {P : Program} {w : World} {K : PySem.W.Frag} {mg : Str → Option Value} {base : Heap} {CA : Nat → Addr} {f : Addr} {C__law_draw : Con} (T : Txt K mg CA) (G__law_draw : Cal P w K mg base "_law_draw" 1 2 (spD CA 2 C__law_draw)) (cdv : Value) (A : Around) (outer : List PySem.Env) (s : Shared) (H : Hp) (E : XK) (hr : Room 1 (A.deeper (envOfC "_law_mixed" (defScope sLawMixed) s.heap.objs.size f cdv))) :
    DSs CA (cxOf CX0 P w K mg base ["_law_bag_here", "_law_some", "_law_found", "_law_item"] "_law_mixed" (defScope sLawMixed) f cdv A outer s H E).nox (defBody sLawMixed) (den__law_mixed C__law_draw) :=
  (dss_cons (ds_setO (i := 2) sc__law_mixed.nd (df_lst da_nil))
    (dss_cons (ds_for PassesOwn.never rfl (di_list (dv_of (pv 1))) (dg_name (i := 3) sc__law_mixed.nd)
    (dss_one (ds_ins (pv 2) (dv_bor (dv_call G__law_draw (hr.mono (by decide)) (da_bag (pv 0) (da_cons (dv_op op_add od_add (dv_callB call_lenAll cd_len T.len (by decide +kernel) (da_cons (dv_of (pv 2)) da_nil)) dv_int) da_nil)))) (dv_of (pv 3)))))
    (dss_one (ds_retO (pv 2)))))
end Dk
end

section
set_option Elab.async false
set_option linter.all false
set_option maxRecDepth 100000
set_option maxHeartbeats 4000000
namespace Dk
open PySem PySem.Spec PyProof.Rows L2 Dl
theorem sc__law_word : FnScope ["_law_bag_here", "_law_most", "_law_letters", "_law_k"] ["_law_bag_here", "_law_most"] (defScope sLawWord) := ⟨rfl, rfl, rfl, by decide +kernel, rfl, by decide +kernel, by decide +kernel⟩
theorem w__law_word {P : Program} {w : World} {K : PySem.W.Frag} {mg : Str → Option Value} {base : Heap} {CA : Nat → Addr} {f : Addr} {C__law_draw : Con} {C__law_pick : Con} (T : Txt K mg CA) (G__law_draw : Cal P w K mg base "_law_draw" 1 2 (spD CA 2 C__law_draw)) (G__law_pick : Cal P w K mg base "_law_pick" 2 2 (spD CA 2 C__law_pick)) (cdv : Value) (A : Around) (outer : List PySem.Env) (s : Shared) (H : Hp) (E : XK) (hr : Room 2 (A.deeper (envOfC "_law_word" (defScope sLawWord) s.heap.objs.size f cdv))) :
    DSs CA (cxOf CX0 P w K mg base ["_law_bag_here", "_law_most", "_law_letters", "_law_k"] "_law_word" (defScope sLawWord) f cdv A outer s H E).nox (defBody sLawWord) (den__law_word C__law_draw C__law_pick) :=
  (dss_cons (ds_set (i := 2) sc__law_word.nd dv_str)
    (dss_one (ds_ret (dv_join (dv_fz (df_lc rfl sc__law_word.nd (di_range T.range (dv_op op_add od_add dv_int (dv_call G__law_draw (hr.mono (by decide)) (da_bag (pv 0) (da_cons (dv_of (pv 1)) da_nil))))) (blkOk_by (own := [("_law_k", 3)]) (N := ["_law_bag_here", "_law_most", "_law_letters", "_law_k"]) (sc := defScope sLawWord) (by decide +kernel)) rfl (by decide) (fun _ _ _ _ _ => (dg_name (i := 3) sc__law_word.nd)) (fun _ _ _ _ _ => dts_nil) (fun _ _ _ _ _ => (dv_call G__law_pick (hr.mono (by decide)) (da_bag (pv 0) (da_cons (dv_of (pv 2)) da_nil))))))))))
end Dk
end

section
set_option Elab.async false
set_option linter.all false
set_option maxRecDepth 100000
set_option maxHeartbeats 4000000
namespace Dk
open PySem PySem.Spec PyProof.Rows L2 Dl
theorem sc__law_names : FnScope ["_law_bag_here", "_law_many", "_law_found", "_law_k", "_law_word_here", "_law_old", "_law_at", "_law_one"] ["_law_bag_here", "_law_many"] (defScope sLawNames) := ⟨rfl, rfl, rfl, by decide +kernel, rfl, by decide +kernel, by decide +kernel⟩
theorem w__law_names {P : Program} {w : World} {K : PySem.W.Frag} {mg : Str → Option Value} {base : Heap} {CA : Nat → Addr} {f : Addr} {C__law_word : Con} {C__law_draw : Con} {C__law_pick : Con} (T : Txt K mg CA) (G__law_word : Cal P w K mg base "_law_word" 3 2 (spD CA 2 C__law_word)) (G__law_draw : Cal P w K mg base "_law_draw" 1 2 (spD CA 2 C__law_draw)) (G__law_pick : Cal P w K mg base "_law_pick" 2 2 (spD CA 2 C__law_pick)) (cdv : Value) (A : Around) (outer : List PySem.Env) (s : Shared) (H : Hp) (E : XK) (hr : Room 3 (A.deeper (envOfC "_law_names" (defScope sLawNames) s.heap.objs.size f cdv))) :
    DSs CA (cxOf CX0 P w K mg base ["_law_bag_here", "_law_many", "_law_found", "_law_k", "_law_word_here", "_law_old", "_law_at", "_law_one"] "_law_names" (defScope sLawNames) f cdv A outer s H E).nox (defBody sLawNames) (den__law_names C__law_word C__law_draw C__law_pick) :=
  (dss_cons (ds_setO (i := 2) sc__law_names.nd (df_lst da_nil))
    (dss_cons (ds_for PassesOwn.never rfl (di_range T.range (dv_of (pv 1))) (dg_name (i := 3) sc__law_names.nd)
    (dss_cons (ds_set (i := 4) sc__law_names.nd (dv_call G__law_word (hr.mono (by decide)) (da_bag (pv 0) (da_cons dv_int da_nil))))
    (dss_cons (ds_if (dt_bor ((dw_and (dt_cmp (op_neD hr.units) od_neNil (dv_of (pv 2)) (dv_fz (df_lst da_nil)) (nomark _)) (dw_and1 (dt_cmp op_eq od_eq (dv_call G__law_draw (hr.mono (by decide)) (da_bag (pv 0) (da_cons dv_int da_nil))) dv_int (nomark _))))).dt)
    (dss_cons (ds_set (i := 5) sc__law_names.nd (dv_bor (dv_call G__law_pick (hr.mono (by decide)) (da_bag (pv 0) (da_cons (dv_of (pv 2)) da_nil)))))
    (dss_cons (ds_set (i := 6) sc__law_names.nd (dv_call G__law_draw (hr.mono (by decide)) (da_bag (pv 0) (da_cons (dv_callB call_lenAll cd_len T.len (by decide +kernel) (da_cons (dv_of (pv 5)) da_nil)) da_nil))))
    (dss_one (ds_set (i := 4) sc__law_names.nd (dv_slS (dv_op op_add_str od_catS (dv_op op_add_str od_catS (dv_slS (dv_of (pv 5)) do_none (do_some (dv_of (pv 6)))) (dv_slS (dv_of (pv 4)) do_none (do_some dv_int))) (dv_slS (dv_of (pv 5)) (do_some (dv_op op_add od_add (dv_of (pv 6)) (dv_call G__law_draw (hr.mono (by decide)) (da_bag (pv 0) (da_cons dv_int da_nil))))) do_none)) do_none (do_some dv_int))))))
    dss_nil)
    (dss_one (ds_app (pv 2) (dv_bor (dv_ix (dv_fz (df_lc rfl sc__law_names.nd (di_list (dv_fz (df_op op_cat of_cat (dv_fz (df_lst (da_cons (dv_of (pv 4)) da_nil))) (dv_fz (df_callTy (cr_listS rfl) cf_listS T.list (by decide +kernel) (da_cons dv_str da_nil)))))) (blkOk_by (own := [("_law_one", 7)]) (N := ["_law_bag_here", "_law_many", "_law_found", "_law_k", "_law_word_here", "_law_old", "_law_at", "_law_one"]) (sc := defScope sLawNames) (by decide +kernel)) rfl (by decide) (fun _ _ _ _ _ => (dg_name (i := 7) sc__law_names.nd)) (fun _ _ _ _ _ => (dts_one (dt_cmp op_notIn_seq od_in (dv_of (pv 7)) (dv_of (pv 2)) rfl))) (fun _ _ _ _ _ => (dv_of (pv 7))))) dv_int)))))))
    (dss_one (ds_retO (pv 2)))))
end Dk
end

section
set_option Elab.async false
set_option linter.all false
set_option maxRecDepth 100000
set_option maxHeartbeats 4000000
namespace Dk
open PySem PySem.Spec PyProof.Rows L2 Dl
theorem sc__law_same : FnScope ["_law_found", "_law_due", "_law_one", "_law_two"] ["_law_found", "_law_due"] (defScope sLawSame) := ⟨rfl, rfl, rfl, by decide +kernel, rfl, by decide +kernel, by decide +kernel⟩
theorem w__law_same {P : Program} {w : World} {K : PySem.W.Frag} {mg : Str → Option Value} {base : Heap} {CA : Nat → Addr} {f : Addr} {C__law_same : Con} {L : Nat} (T : Txt K mg CA) (G__law_same : Cal P w K mg base "_law_same" L 2 (spD CA 2 C__law_same)) (cdv : Value) (A : Around) (outer : List PySem.Env) (s : Shared) (H : Hp) (E : XK) (hr : Room L (A.deeper (envOfC "_law_same" (defScope sLawSame) s.heap.objs.size f cdv))) :
    DSs CA (cxOf CX0 P w K mg base ["_law_found", "_law_due", "_law_one", "_law_two"] "_law_same" (defScope sLawSame) f cdv A outer s H E).nox (defBody sLawSame) (den__law_same C__law_same) :=
  (dss_cons (ds_if (dt_val (dv_isi2 .list .tuple T.isinstance (dv_of (pv 1)) (pe_ty T.list (by decide +kernel)) (pe_ty T.tuple (by decide +kernel))))
    (dss_cons (ds_if ((dw_or (dt_cmp op_ne od_ne (dv_isi .list T.isinstance (dv_of (pv 0)) (pe_ty T.list (by decide +kernel))) (dv_isi .list T.isinstance (dv_of (pv 1)) (pe_ty T.list (by decide +kernel))) (nomark _)) (dw_or1 (dt_cmp op_ne od_ne (dv_isi .tuple T.isinstance (dv_of (pv 0)) (pe_ty T.tuple (by decide +kernel))) (dv_isi .tuple T.isinstance (dv_of (pv 1)) (pe_ty T.tuple (by decide +kernel))) (nomark _))))).dt
    (dss_one (ds_ret dv_bl))
    dss_nil)
    (dss_one (ds_ret (dv_and (dv_cmp op_eq od_eq (dv_callB call_lenAll cd_len T.len (by decide +kernel) (da_cons (dv_of (pv 0)) da_nil)) (dv_callB call_lenAll cd_len T.len (by decide +kernel) (da_cons (dv_of (pv 1)) da_nil)) (nomark _)) (dv_one (dv_callB (cr_all rfl) cd_all T.all (by decide +kernel) (da_cons (dv_fz (df_lc rfl sc__law_same.nd (di_zip T.zip (dv_of (pv 0)) (dv_of (pv 1))) (blkOk_by (own := [("_law_one", 2), ("_law_two", 3)]) (N := ["_law_found", "_law_due", "_law_one", "_law_two"]) (sc := defScope sLawSame) (by decide +kernel)) rfl (by decide) (fun _ _ _ _ _ => (dg_tup rfl (dgs_cons (dg_name (i := 2) sc__law_same.nd) (dgs_cons (dg_name (i := 3) sc__law_same.nd) dgs_nil)))) (fun _ _ _ _ _ => dts_nil) (fun _ _ _ _ _ => (dv_call G__law_same hr (da_cons (dv_of (pv 2)) (da_cons (dv_of (pv 3)) da_nil)))))) da_nil)))))))
    dss_nil)
    (dss_cons (ds_if ((dw_or (dt_isN (dv_of (pv 1))) (dw_or1 (dt_isN (dv_of (pv 0)))))).dt
    (dss_one (ds_ret (dv_and (dv_isN (dv_of (pv 1))) (dv_one (dv_isN (dv_of (pv 0)))))))
    dss_nil)
    (dss_cons (ds_if ((dw_or (dt_val (dv_isi .dict T.isinstance (dv_of (pv 1)) (pe_ty T.dict (by decide +kernel)))) (dw_or1 (dt_val (dv_isi .dict T.isinstance (dv_of (pv 0)) (pe_ty T.dict (by decide +kernel))))))).dt
    (dss_one (ds_ret (dv_and (dv_isi .dict T.isinstance (dv_of (pv 1)) (pe_ty T.dict (by decide +kernel))) (dv_and (dv_isi .dict T.isinstance (dv_of (pv 0)) (pe_ty T.dict (by decide +kernel))) (dv_one (dv_cmp op_eq od_eq (dv_of (pv 0)) (dv_of (pv 1)) (nomark _)))))))
    dss_nil)
    (dss_cons (ds_if ((dw_or (dt_val (dv_isi .bool T.isinstance (dv_of (pv 1)) (pe_ty T.bool (by decide +kernel)))) (dw_or1 (dt_val (dv_isi .bool T.isinstance (dv_of (pv 0)) (pe_ty T.bool (by decide +kernel))))))).dt
    (dss_one (ds_ret (dv_and (dv_isi .bool T.isinstance (dv_of (pv 1)) (pe_ty T.bool (by decide +kernel))) (dv_and (dv_isi .bool T.isinstance (dv_of (pv 0)) (pe_ty T.bool (by decide +kernel))) (dv_one (dv_cmp op_eq od_eq (dv_of (pv 0)) (dv_of (pv 1)) (nomark _)))))))
    dss_nil)
    (dss_cons (ds_if (dt_val (dv_isi .int T.isinstance (dv_of (pv 1)) (pe_ty T.int (by decide +kernel))))
    (dss_one (ds_ret (dv_and (dv_isi .int T.isinstance (dv_of (pv 0)) (pe_ty T.int (by decide +kernel))) (dv_one (dv_cmp op_eq od_eq (dv_of (pv 0)) (dv_of (pv 1)) (nomark _))))))
    dss_nil)
    (dss_one (ds_ret (dv_and (dv_isi .str T.isinstance (dv_of (pv 1)) (pe_ty T.str (by decide +kernel))) (dv_and (dv_isi .str T.isinstance (dv_of (pv 0)) (pe_ty T.str (by decide +kernel))) (dv_one (dv_cmp op_eq od_eq (dv_of (pv 0)) (dv_of (pv 1)) (nomark _))))))))))))
end Dk
end

section
set_option Elab.async false
set_option linter.all false
set_option maxRecDepth 100000
set_option maxHeartbeats 4000000
namespace Dk
open PySem PySem.Spec PyProof.Rows L2 Dl
theorem sc__law_four : FnScope [] [] (defScope sLawFour) := ⟨rfl, rfl, rfl, by decide +kernel, rfl, by decide +kernel, by decide +kernel⟩
theorem w__law_four {P : Program} {w : World} {K : PySem.W.Frag} {mg : Str → Option Value} {base : Heap} {CA : Nat → Addr} {f : Addr}  (T : Txt K mg CA)  (cdv : Value) (A : Around) (outer : List PySem.Env) (s : Shared) (H : Hp) (E : XK) (hr : Room 0 (A.deeper (envOfC "_law_four" (defScope sLawFour) s.heap.objs.size f cdv))) :
    DSs CA (cxOf CX0 P w K mg base [] "_law_four" (defScope sLawFour) f cdv A outer s H E).nox (defBody sLawFour) (den__law_four ) :=
  (dss_one (ds_ret (dv_fz (df_lst (da_cons (dv_tup (da_cons (dv_neg dv_int) (da_cons dv_int da_nil))) (da_cons (dv_tup (da_cons dv_int (da_cons (dv_neg dv_int) da_nil))) (da_cons (dv_tup (da_cons dv_int (da_cons dv_int da_nil))) (da_cons (dv_tup (da_cons dv_int (da_cons dv_int da_nil))) da_nil))))))))
end Dk
end

section
set_option Elab.async false
set_option linter.all false
set_option maxRecDepth 100000
set_option maxHeartbeats 4000000
namespace Dk
open PySem PySem.Spec PyProof.Rows L2 Dl
theorem sc__law_all_cells : FnScope ["_law_height", "_law_width", "_law_found", "_law_row", "_law_column"] ["_law_height", "_law_width"] (defScope sLawAllCells) := ⟨rfl, rfl, rfl, by decide +kernel, rfl, by decide +kernel, by decide +kernel⟩
theorem w__law_all_cells {P : Program} {w : World} {K : PySem.W.Frag} {mg : Str → Option Value} {base : Heap} {CA : Nat → Addr} {f : Addr}  (T : Txt K mg CA)  (cdv : Value) (A : Around) (outer : List PySem.Env) (s : Shared) (H : Hp) (E : XK) (hr : Room 0 (A.deeper (envOfC "_law_all_cells" (defScope sLawAllCells) s.heap.objs.size f cdv))) :
    DSs CA (cxOf CX0 P w K mg base ["_law_height", "_law_width", "_law_found", "_law_row", "_law_column"] "_law_all_cells" (defScope sLawAllCells) f cdv A outer s H E).nox (defBody sLawAllCells) (den__law_all_cells ) :=
  (dss_cons (ds_set (i := 2) sc__law_all_cells.nd (dv_fz (df_lst da_nil)))
    (dss_cons (ds_for PassesOwn.never rfl (di_range T.range (dv_of (pv 0))) (dg_name (i := 3) sc__law_all_cells.nd)
    (dss_one (ds_set (i := 2) sc__law_all_cells.nd (dv_fz (df_op op_cat of_cat (dv_of (pv 2)) (dv_fz (df_lc rfl sc__law_all_cells.nd (di_range T.range (dv_of (pv 1))) (blkOk_by (own := [("_law_column", 4)]) (N := ["_law_height", "_law_width", "_law_found", "_law_row", "_law_column"]) (sc := defScope sLawAllCells) (by decide +kernel)) rfl (by decide) (fun _ _ _ _ _ => (dg_name (i := 4) sc__law_all_cells.nd)) (fun _ _ _ _ _ => dts_nil) (fun _ _ _ _ _ => (dv_tup (da_cons (dv_of (pv 3)) (da_cons (dv_of (pv 4)) da_nil)))))))))))
    (dss_one (ds_ret (dv_of (pv 2))))))
end Dk
end

section
set_option Elab.async false
set_option linter.all false
set_option maxRecDepth 100000
set_option maxHeartbeats 4000000
namespace Dk
open PySem PySem.Spec PyProof.Rows L2 Dl
theorem sc__law_sizes : FnScope ["_law_bag_here"] ["_law_bag_here"] (defScope sLawSizes) := ⟨rfl, rfl, rfl, by decide +kernel, rfl, by decide +kernel, by decide +kernel⟩
theorem w__law_sizes {P : Program} {w : World} {K : PySem.W.Frag} {mg : Str → Option Value} {base : Heap} {CA : Nat → Addr} {f : Addr} {C__law_draw : Con} {C__law_pick : Con} (T : Txt K mg CA) (G__law_draw : Cal P w K mg base "_law_draw" 1 2 (spD CA 2 C__law_draw)) (G__law_pick : Cal P w K mg base "_law_pick" 2 2 (spD CA 2 C__law_pick)) (cdv : Value) (A : Around) (outer : List PySem.Env) (s : Shared) (H : Hp) (E : XK) (hr : Room 2 (A.deeper (envOfC "_law_sizes" (defScope sLawSizes) s.heap.objs.size f cdv))) :
    DSs CA (cxOf CX0 P w K mg base ["_law_bag_here"] "_law_sizes" (defScope sLawSizes) f cdv A outer s H E).nox (defBody sLawSizes) (den__law_sizes C__law_draw C__law_pick) :=
  (dss_cons (ds_if (dt_cmp op_eq od_eq (dv_call G__law_draw (hr.mono (by decide)) (da_bag (pv 0) (da_cons dv_int da_nil))) dv_int (nomark _))
    (dss_one (ds_ret (dv_call G__law_pick (hr.mono (by decide)) (da_bag (pv 0) (da_cons (dv_fz (df_lst (da_cons (dv_tup (da_cons dv_int (da_cons dv_int da_nil))) (da_cons (dv_tup (da_cons dv_int (da_cons dv_int da_nil))) (da_cons (dv_tup (da_cons dv_int (da_cons dv_int da_nil))) (da_cons (dv_tup (da_cons dv_int (da_cons dv_int da_nil))) da_nil)))))) da_nil)))))
    dss_nil)
    (dss_one (ds_ret (dv_tup (da_cons (dv_op op_add od_add dv_int (dv_call G__law_draw (hr.mono (by decide)) (da_bag (pv 0) (da_cons dv_int da_nil)))) (da_cons (dv_op op_add od_add dv_int (dv_call G__law_draw (hr.mono (by decide)) (da_bag (pv 0) (da_cons dv_int da_nil)))) da_nil))))))
end Dk
end

section
set_option Elab.async false
set_option linter.all false
set_option maxRecDepth 100000
set_option maxHeartbeats 4000000
namespace Dk
open PySem PySem.Spec PyProof.Rows L2 Dl
theorem sc__law_sides : FnScope ["_law_height", "_law_width", "_law_cell", "_law_near", "_law_a", "_law_b", "_law_one"] ["_law_height", "_law_width", "_law_cell"] (defScope sLawSides) := ⟨rfl, rfl, rfl, by decide +kernel, rfl, by decide +kernel, by decide +kernel⟩
theorem w__law_sides {P : Program} {w : World} {K : PySem.W.Frag} {mg : Str → Option Value} {base : Heap} {CA : Nat → Addr} {f : Addr} {C__law_four : Con} (T : Txt K mg CA) (G__law_four : Cal P w K mg base "_law_four" 1 0 (spD CA 0 C__law_four)) (cdv : Value) (A : Around) (outer : List PySem.Env) (s : Shared) (H : Hp) (E : XK) (hr : Room 1 (A.deeper (envOfC "_law_sides" (defScope sLawSides) s.heap.objs.size f cdv))) :
    DSs CA (cxOf CX0 P w K mg base ["_law_height", "_law_width", "_law_cell", "_law_near", "_law_a", "_law_b", "_law_one"] "_law_sides" (defScope sLawSides) f cdv A outer s H E).nox (defBody sLawSides) (den__law_sides C__law_four) :=
  (dss_cons (ds_setLc (i := 3) rfl sc__law_sides.nd (di_list (dv_call0 G__law_four (hr.mono (by decide)))) (blkOk_by (own := [("_law_a", 4), ("_law_b", 5)]) (N := ["_law_height", "_law_width", "_law_cell", "_law_near", "_law_a", "_law_b", "_law_one"]) (sc := defScope sLawSides) (by decide +kernel)) rfl (by decide) (fun _ _ _ _ _ => (dg_tup rfl (dgs_cons (dg_name (i := 4) sc__law_sides.nd) (dgs_cons (dg_name (i := 5) sc__law_sides.nd) dgs_nil)))) (fun _ _ _ _ _ => dts_nil) (fun _ _ _ _ _ => (dv_tup (da_cons (dv_op op_add od_add (dv_ix (dv_of (pv 2)) dv_int) (dv_of (pv 4))) (da_cons (dv_op op_add od_add (dv_ix (dv_of (pv 2)) dv_int) (dv_of (pv 5))) da_nil)))))
    (dss_one (ds_ret (dv_fz (df_lc rfl sc__law_sides.nd (di_list (dv_of (pv 3))) (blkOk_by (own := [("_law_one", 6)]) (N := ["_law_height", "_law_width", "_law_cell", "_law_near", "_law_a", "_law_b", "_law_one"]) (sc := defScope sLawSides) (by decide +kernel)) rfl (by decide) (fun _ _ _ _ _ => (dg_name (i := 6) sc__law_sides.nd)) (fun _ _ _ _ _ => (dts_one ((dw_and (dt_chain op_le op_lt od_le od_lt dv_int (dv_ix (dv_of (pv 6)) dv_int) (dv_of (pv 0))) (dw_and1 (dt_chain op_le op_lt od_le od_lt dv_int (dv_ix (dv_of (pv 6)) dv_int) (dv_of (pv 1)))))).dt)) (fun _ _ _ _ _ => (dv_of (pv 6))))))))
end Dk
end

section
set_option Elab.async false
set_option linter.all false
set_option maxRecDepth 100000
set_option maxHeartbeats 4000000
namespace Dk
open PySem PySem.Spec PyProof.Rows L2 Dl
theorem sc__law_grown : FnScope ["_law_bag_here", "_law_height", "_law_width", "_law_names_here", "_law_cells", "_law_found", "_law_left", "_law_name", "_law_turn", "_law_cell", "_law_near", "_law_one"] ["_law_bag_here", "_law_height", "_law_width", "_law_names_here"] (defScope sLawGrown) := ⟨rfl, rfl, rfl, by decide +kernel, rfl, by decide +kernel, by decide +kernel⟩
theorem w__law_grown {P : Program} {w : World} {K : PySem.W.Frag} {mg : Str → Option Value} {base : Heap} {CA : Nat → Addr} {f : Addr} {C__law_all_cells : Con} {C__law_draw : Con} {C__law_sides : Con} {C__law_pick : Con} (T : Txt K mg CA) (G__law_all_cells : Cal P w K mg base "_law_all_cells" 1 2 (spD CA 2 C__law_all_cells)) (G__law_draw : Cal P w K mg base "_law_draw" 1 2 (spD CA 2 C__law_draw)) (G__law_sides : Cal P w K mg base "_law_sides" 2 3 (spD CA 3 C__law_sides)) (G__law_pick : Cal P w K mg base "_law_pick" 2 2 (spD CA 2 C__law_pick)) (cdv : Value) (A : Around) (outer : List PySem.Env) (s : Shared) (H : Hp) (E : XK) (hr : Room 2 (A.deeper (envOfC "_law_grown" (defScope sLawGrown) s.heap.objs.size f cdv))) :
    DSs CA (cxOf CX0 P w K mg base ["_law_bag_here", "_law_height", "_law_width", "_law_names_here", "_law_cells", "_law_found", "_law_left", "_law_name", "_law_turn", "_law_cell", "_law_near", "_law_one"] "_law_grown" (defScope sLawGrown) f cdv A outer s H E).nox (defBody sLawGrown) (den__law_grown C__law_all_cells C__law_draw C__law_sides C__law_pick) :=
  (dss_cons (ds_par2T (i := 4) (j := 5) rfl sc__law_grown.nd (dp_v (dv_call G__law_all_cells (hr.mono (by decide)) (da_cons (dv_of (pv 1)) (da_cons (dv_of (pv 2)) da_nil)))) (dp_o df_newT))
    (dss_cons (ds_setO (i := 6) sc__law_grown.nd (df_callTy (call_listAll rfl) cf_list T.list (by decide +kernel) (da_cons (dv_of (pv 4)) da_nil)))
    (dss_cons (ds_for PassesOwn.never rfl (di_list (dv_of (pv 3))) (dg_name (i := 7) sc__law_grown.nd)
    (dss_one (ds_if (dt_bor (dt_cmp (op_neD hr.units) od_neNil (dv_of (pv 6)) (dv_fz (df_lst da_nil)) (nomark _)))
    (dss_one (ds_put (hu_of hr) (pv 5) (dv_popAt (pv 6) (dv_bor (dv_call G__law_draw (hr.mono (by decide)) (da_bag (pv 0) (da_cons (dv_callB call_lenAll cd_len T.len (by decide +kernel) (da_cons (dv_of (pv 6)) da_nil)) da_nil))))) (dv_of (pv 7))))
    dss_nil)))
    (dss_frz 6 (dss_cons (ds_for PassesOwn.never rfl (di_range T.range (dv_callB call_lenAll cd_len T.len (by decide +kernel) (da_cons (dv_of (pv 4)) da_nil))) (dg_name (i := 8) sc__law_grown.nd)
    (dss_cons (ds_for PassesOwn.never rfl (di_list (dv_of (pv 6))) (dg_name (i := 9) sc__law_grown.nd)
    (dss_cons (ds_setLc (i := 10) rfl sc__law_grown.nd (di_list (dv_call G__law_sides (hr.mono (by decide)) (da_cons (dv_of (pv 1)) (da_cons (dv_of (pv 2)) (da_cons (dv_of (pv 9)) da_nil))))) (blkOk_by (own := [("_law_one", 11)]) (N := ["_law_bag_here", "_law_height", "_law_width", "_law_names_here", "_law_cells", "_law_found", "_law_left", "_law_name", "_law_turn", "_law_cell", "_law_near", "_law_one"]) (sc := defScope sLawGrown) (by decide +kernel)) rfl (by decide) (fun _ _ _ _ _ => (dg_name (i := 11) sc__law_grown.nd)) (fun _ _ _ _ _ => (dts_one (dt_bor (dt_din (hu_of hr) (dv_of (pv 11)) (dv_of (pv 5)))))) (fun _ _ _ _ _ => (dv_bor (dv_dget (hu_of hr) (dv_of (pv 5)) (dv_of (pv 11))))))
    (dss_one (ds_if (dt_cmp (op_neD hr.units) od_neNil (dv_of (pv 10)) (dv_fz (df_lst da_nil)) (nomark _))
    (dss_one (ds_put (hu_of hr) (pv 5) (dv_of (pv 9)) (dv_call G__law_pick (hr.mono (by decide)) (da_bag (pv 0) (da_cons (dv_of (pv 10)) da_nil)))))
    dss_nil))))
    (dss_cons (ds_setLc (i := 6) rfl sc__law_grown.nd (di_list (dv_of (pv 4))) (blkOk_by (own := [("_law_cell", 9)]) (N := ["_law_bag_here", "_law_height", "_law_width", "_law_names_here", "_law_cells", "_law_found", "_law_left", "_law_name", "_law_turn", "_law_cell", "_law_near", "_law_one"]) (sc := defScope sLawGrown) (by decide +kernel)) rfl (by decide) (fun _ _ _ _ _ => (dg_name (i := 9) sc__law_grown.nd)) (fun _ _ _ _ _ => (dts_one (dt_bor (dt_dnotin (hu_of hr) (dv_of (pv 9)) (dv_of (pv 5)))))) (fun _ _ _ _ _ => (dv_of (pv 9))))
    (dss_one (ds_if (dt_cmp (op_eqD hr.units) od_eqNil (dv_of (pv 6)) (dv_fz (df_lst da_nil)) (nomark _))
    (dss_one ds_break)
    dss_nil)))))
    (dss_one (ds_retO (pv 5))))))))
end Dk
end

section
set_option Elab.async false
set_option linter.all false
set_option maxRecDepth 100000
set_option maxHeartbeats 4000000
namespace Dk
open PySem PySem.Spec PyProof.Rows L2 Dl
theorem sc__law_edge : FnScope ["_law_height", "_law_width", "_law_cell"] ["_law_height", "_law_width", "_law_cell"] (defScope sLawEdge) := ⟨rfl, rfl, rfl, by decide +kernel, rfl, by decide +kernel, by decide +kernel⟩
theorem w__law_edge {P : Program} {w : World} {K : PySem.W.Frag} {mg : Str → Option Value} {base : Heap} {CA : Nat → Addr} {f : Addr}  (T : Txt K mg CA)  (cdv : Value) (A : Around) (outer : List PySem.Env) (s : Shared) (H : Hp) (E : XK) (hr : Room 0 (A.deeper (envOfC "_law_edge" (defScope sLawEdge) s.heap.objs.size f cdv))) :
    DSs CA (cxOf CX0 P w K mg base ["_law_height", "_law_width", "_law_cell"] "_law_edge" (defScope sLawEdge) f cdv A outer s H E).nox (defBody sLawEdge) (den__law_edge ) :=
  (dss_one (ds_ret (dv_or (dv_cmp op_in_seq od_in (dv_ix (dv_of (pv 2)) dv_int) (dv_tup (da_cons dv_int (da_cons (dv_op op_sub od_sub (dv_of (pv 0)) dv_int) da_nil))) rfl) (dv_one (dv_cmp op_in_seq od_in (dv_ix (dv_of (pv 2)) dv_int) (dv_tup (da_cons dv_int (da_cons (dv_op op_sub od_sub (dv_of (pv 1)) dv_int) da_nil))) rfl)))))
end Dk
end

section
set_option Elab.async false
set_option linter.all false
set_option maxRecDepth 100000
set_option maxHeartbeats 4000000
namespace Dk
open PySem PySem.Spec PyProof.Rows L2 Dl
theorem sc__law_map : FnScope ["_law_bag_here", "_law_most", "_law_height", "_law_width", "_law_found", "_law_rows", "_law_row", "_law_column", "_law_edge_here", "_law_cell"] ["_law_bag_here", "_law_most"] (defScope sLawMap) := ⟨rfl, rfl, rfl, by decide +kernel, rfl, by decide +kernel, by decide +kernel⟩
theorem w__law_map {P : Program} {w : World} {K : PySem.W.Frag} {mg : Str → Option Value} {base : Heap} {CA : Nat → Addr} {f : Addr} {C__law_sizes : Con} {C__law_grown : Con} {C__law_names : Con} {C__law_draw : Con} {C__law_all_cells : Con} {C__law_edge : Con} (T : Txt K mg CA) (G__law_sizes : Cal P w K mg base "_law_sizes" 3 1 (spD CA 1 C__law_sizes)) (G__law_grown : Cal P w K mg base "_law_grown" 3 4 (spD CA 4 C__law_grown)) (G__law_names : Cal P w K mg base "_law_names" 4 2 (spD CA 2 C__law_names)) (G__law_draw : Cal P w K mg base "_law_draw" 1 2 (spD CA 2 C__law_draw)) (G__law_all_cells : Cal P w K mg base "_law_all_cells" 1 2 (spD CA 2 C__law_all_cells)) (G__law_edge : Cal P w K mg base "_law_edge" 1 3 (spD CA 3 C__law_edge)) (cdv : Value) (A : Around) (outer : List PySem.Env) (s : Shared) (H : Hp) (E : XK) (hr : Room 4 (A.deeper (envOfC "_law_map" (defScope sLawMap) s.heap.objs.size f cdv))) :
    DSs CA (cxOf CX0 P w K mg base ["_law_bag_here", "_law_most", "_law_height", "_law_width", "_law_found", "_law_rows", "_law_row", "_law_column", "_law_edge_here", "_law_cell"] "_law_map" (defScope sLawMap) f cdv A outer s H E).nox (defBody sLawMap) (den__law_map C__law_sizes C__law_grown C__law_names C__law_draw C__law_all_cells C__law_edge) :=
  (dss_cons (ds_asg (dv_call G__law_sizes (hr.mono (by decide)) (da_bag (pv 0) da_nil)) (dg_tup rfl (dgs_cons (dg_name (i := 2) sc__law_map.nd) (dgs_cons (dg_name (i := 3) sc__law_map.nd) dgs_nil))))
    (dss_cons (ds_set (i := 4) sc__law_map.nd (dv_call G__law_grown (hr.mono (by decide)) (da_bag (pv 0) (da_cons (dv_of (pv 2)) (da_cons (dv_of (pv 3)) (da_cons (dv_call G__law_names (hr.mono (by decide)) (da_bag (pv 0) (da_cons (dv_op op_add od_add dv_int (dv_call G__law_draw (hr.mono (by decide)) (da_bag (pv 0) (da_cons (dv_of (pv 1)) da_nil)))) da_nil))) da_nil))))))
    (dss_cons (ds_setLc (i := 5) rfl sc__law_map.nd (di_range T.range (dv_of (pv 2))) (blkOk_by (own := [("_law_row", 6)]) (N := ["_law_bag_here", "_law_most", "_law_height", "_law_width", "_law_found", "_law_rows", "_law_row", "_law_column", "_law_edge_here", "_law_cell"]) (sc := defScope sLawMap) (by decide +kernel)) rfl (by decide) (fun _ _ _ _ _ => (dg_name (i := 6) sc__law_map.nd)) (fun _ _ _ _ _ => dts_nil) (fun _ _ _ _ _ => (dv_fz (by exact (df_lc rfl sc__law_map.nd (di_range T.range (dv_of (pv 3))) (blkOk_by (own := [("_law_column", 7)]) (N := ["_law_bag_here", "_law_most", "_law_height", "_law_width", "_law_found", "_law_rows", "_law_row", "_law_column", "_law_edge_here", "_law_cell"]) (sc := { kind := .function, names := [(".0", .local), ("_law_row", .cell), ("range", .globalImplicit), ("_law_found", .cell), ("_law_width", .cell)], isGenerator := false, isCoroutine := false }) (by decide +kernel)) rfl (by decide) (fun _ _ _ _ _ => (dg_name (i := 7) sc__law_map.nd)) (fun _ _ _ _ _ => dts_nil) (fun _ _ _ _ _ => (dv_dget (hu_of hr) (dv_of (pv 4)) (dv_tup (da_cons (dv_of (pv 6)) (da_cons (dv_of (pv 7)) da_nil))))))))))
    (dss_cons (ds_setLc (i := 8) rfl sc__law_map.nd (di_list (dv_call G__law_all_cells (hr.mono (by decide)) (da_cons (dv_of (pv 2)) (da_cons (dv_of (pv 3)) da_nil)))) (blkOk_by (own := [("_law_cell", 9)]) (N := ["_law_bag_here", "_law_most", "_law_height", "_law_width", "_law_found", "_law_rows", "_law_row", "_law_column", "_law_edge_here", "_law_cell"]) (sc := defScope sLawMap) (by decide +kernel)) rfl (by decide) (fun _ _ _ _ _ => (dg_name (i := 9) sc__law_map.nd)) (fun _ _ _ _ _ => (dts_one (dt_val (dv_call G__law_edge (hr.mono (by decide)) (da_cons (dv_of (pv 2)) (da_cons (dv_of (pv 3)) (da_cons (dv_of (pv 9)) da_nil))))))) (fun _ _ _ _ _ => (dv_of (pv 9))))
    (dss_one (ds_ret (dv_fz (df_lst (da_cons (dv_of (pv 5)) (da_cons (dv_fz (df_lc rfl sc__law_map.nd (di_list (dv_of (pv 8))) (blkOk_by (own := [("_law_cell", 9)]) (N := ["_law_bag_here", "_law_most", "_law_height", "_law_width", "_law_found", "_law_rows", "_law_row", "_law_column", "_law_edge_here", "_law_cell"]) (sc := defScope sLawMap) (by decide +kernel)) rfl (by decide) (fun _ _ _ _ _ => (dg_name (i := 9) sc__law_map.nd)) (fun _ _ _ _ _ => (dts_one (dt_cmp op_eq od_eq (dv_call G__law_draw (hr.mono (by decide)) (da_bag (pv 0) (da_cons dv_int da_nil))) dv_int (nomark _)))) (fun _ _ _ _ _ => (dv_of (pv 9))))) da_nil))))))))))
end Dk
end

section
set_option Elab.async false
set_option linter.all false
set_option maxRecDepth 100000
set_option maxHeartbeats 4000000
namespace Dk
open PySem PySem.Spec PyProof.Rows L2 Dl
theorem sc__law_made : FnScope ["_law_rows", "_law_road", "_law_row"] ["_law_rows", "_law_road"] (defScope sLawMade) := ⟨rfl, rfl, rfl, by decide +kernel, rfl, by decide +kernel, by decide +kernel⟩
theorem w__law_made {P : Program} {w : World} {K : PySem.W.Frag} {mg : Str → Option Value} {base : Heap} {CA : Nat → Addr} {f : Addr} {C_Plat___init__ : ConI} (T : Txt K mg CA) (G_Plat___init__ : MakK P w K mg base CA "Plat" 0 9 3 1 ["road"] C_Plat___init__) (cdv : Value) (A : Around) (outer : List PySem.Env) (s : Shared) (H : Hp) (E : XK) (hr : Room 10 (A.deeper (envOfC "_law_made" (defScope sLawMade) s.heap.objs.size f cdv))) :
    DSs CA (cxOf CX0 P w K mg base ["_law_rows", "_law_road", "_law_row"] "_law_made" (defScope sLawMade) f cdv A outer s H E).nox (defBody sLawMade) (den__law_made C_Plat___init__) :=
  (dss_one (ds_ret (dv_makeK (ks := ["road"]) 0 G_Plat___init__ (hr.mono (by decide)) (da_cons (dv_fz (df_lc rfl sc__law_made.nd (di_list (dv_of (pv 0))) (blkOk_by (own := [("_law_row", 2)]) (N := ["_law_rows", "_law_road", "_law_row"]) (sc := defScope sLawMade) (by decide +kernel)) rfl (by decide) (fun _ _ _ _ _ => (dg_name (i := 2) sc__law_made.nd)) (fun _ _ _ _ _ => dts_nil) (fun _ _ _ _ _ => (dv_fz (df_callTy (call_listAll rfl) cf_list T.list (by decide +kernel) (da_cons (dv_of (pv 2)) da_nil)))))) da_nil) (dk_cons (dv_fz (df_callTy (call_listAll rfl) cf_list T.list (by decide +kernel) (da_cons (dv_of (pv 1)) da_nil))) dk_nil))))
end Dk
end

section
set_option Elab.async false
set_option linter.all false
set_option maxRecDepth 100000
set_option maxHeartbeats 4000000
namespace Dk
open PySem PySem.Spec PyProof.Rows L2 Dl
theorem sc__law_named : FnScope ["_law_rows", "_law_row"] ["_law_rows"] (defScope sLawNamed) := ⟨rfl, rfl, rfl, by decide +kernel, rfl, by decide +kernel, by decide +kernel⟩
theorem w__law_named {P : Program} {w : World} {K : PySem.W.Frag} {mg : Str → Option Value} {base : Heap} {CA : Nat → Addr} {f : Addr}  (T : Txt K mg CA)  (cdv : Value) (A : Around) (outer : List PySem.Env) (s : Shared) (H : Hp) (E : XK) (hr : Room 0 (A.deeper (envOfC "_law_named" (defScope sLawNamed) s.heap.objs.size f cdv))) :
    DSs CA (cxOf CX0 P w K mg base ["_law_rows", "_law_row"] "_law_named" (defScope sLawNamed) f cdv A outer s H E).nox (defBody sLawNamed) (den__law_named ) :=
  (dss_one (ds_ret (dv_fz (df_sortSet T.sorted T.set rfl (hu65 hr) (dv_fz (df_callB (cr_sumL rfl) cf_sumL T.sum (by decide +kernel) (da_cons (dv_fz (df_lc rfl sc__law_named.nd (di_list (dv_of (pv 0))) (blkOk_by (own := [("_law_row", 1)]) (N := ["_law_rows", "_law_row"]) (sc := defScope sLawNamed) (by decide +kernel)) rfl (by decide) (fun _ _ _ _ _ => (dg_name (i := 1) sc__law_named.nd)) (fun _ _ _ _ _ => dts_nil) (fun _ _ _ _ _ => (dv_fz (df_callTy (call_listAll rfl) cf_list T.list (by decide +kernel) (da_cons (dv_of (pv 1)) da_nil)))))) (da_cons (dv_fz (df_lst da_nil)) da_nil))))))))
end Dk
end

section
set_option Elab.async false
set_option linter.all false
set_option maxRecDepth 100000
set_option maxHeartbeats 4000000
namespace Dk
open PySem PySem.Spec PyProof.Rows L2 Dl
theorem sc__law_fronting : FnScope ["_law_rows", "_law_road", "_law_cell"] ["_law_rows", "_law_road"] (defScope sLawFronting) := ⟨rfl, rfl, rfl, by decide +kernel, rfl, by decide +kernel, by decide +kernel⟩
theorem w__law_fronting {P : Program} {w : World} {K : PySem.W.Frag} {mg : Str → Option Value} {base : Heap} {CA : Nat → Addr} {f : Addr}  (T : Txt K mg CA)  (cdv : Value) (A : Around) (outer : List PySem.Env) (s : Shared) (H : Hp) (E : XK) (hr : Room 0 (A.deeper (envOfC "_law_fronting" (defScope sLawFronting) s.heap.objs.size f cdv))) :
    DSs CA (cxOf CX0 P w K mg base ["_law_rows", "_law_road", "_law_cell"] "_law_fronting" (defScope sLawFronting) f cdv A outer s H E).nox (defBody sLawFronting) (den__law_fronting ) :=
  (dss_one (ds_ret (dv_fz (df_sortSet T.sorted T.set rfl (hu65 hr) (dv_fz (df_lc rfl sc__law_fronting.nd (di_list (dv_of (pv 1))) (blkOk_by (own := [("_law_cell", 2)]) (N := ["_law_rows", "_law_road", "_law_cell"]) (sc := defScope sLawFronting) (by decide +kernel)) rfl (by decide) (fun _ _ _ _ _ => (dg_name (i := 2) sc__law_fronting.nd)) (fun _ _ _ _ _ => dts_nil) (fun _ _ _ _ _ => (dv_ix (dv_ix (dv_of (pv 0)) (dv_ix (dv_of (pv 2)) dv_int)) (dv_ix (dv_of (pv 2)) dv_int)))))))))
end Dk
end

section
set_option Elab.async false
set_option linter.all false
set_option maxRecDepth 100000
set_option maxHeartbeats 4000000
namespace Dk
open PySem PySem.Spec PyProof.Rows L2 Dl
theorem sc__law_possible : FnScope ["_law_rows", "_law_found", "_law_cell", "_law_near", "_law_one", "_law_two"] ["_law_rows"] (defScope sLawPossible) := ⟨rfl, rfl, rfl, by decide +kernel, rfl, by decide +kernel, by decide +kernel⟩
theorem w__law_possible {P : Program} {w : World} {K : PySem.W.Frag} {mg : Str → Option Value} {base : Heap} {CA : Nat → Addr} {f : Addr} {C__law_all_cells : Con} {C__law_sides : Con} (T : Txt K mg CA) (G__law_all_cells : Cal P w K mg base "_law_all_cells" 1 2 (spD CA 2 C__law_all_cells)) (G__law_sides : Cal P w K mg base "_law_sides" 2 3 (spD CA 3 C__law_sides)) (cdv : Value) (A : Around) (outer : List PySem.Env) (s : Shared) (H : Hp) (E : XK) (hr : Room 2 (A.deeper (envOfC "_law_possible" (defScope sLawPossible) s.heap.objs.size f cdv))) :
    DSs CA (cxOf CX0 P w K mg base ["_law_rows", "_law_found", "_law_cell", "_law_near", "_law_one", "_law_two"] "_law_possible" (defScope sLawPossible) f cdv A outer s H E).nox (defBody sLawPossible) (den__law_possible C__law_all_cells C__law_sides) :=
  (dss_cons (ds_setO (i := 1) sc__law_possible.nd df_newT)
    (dss_cons (ds_for PassesOwn.never rfl (di_list (dv_call G__law_all_cells (hr.mono (by decide)) (da_cons (dv_callB call_lenAll cd_len T.len (by decide +kernel) (da_cons (dv_of (pv 0)) da_nil)) (da_cons (dv_callB call_lenAll cd_len T.len (by decide +kernel) (da_cons (dv_ix (dv_of (pv 0)) dv_int) da_nil)) da_nil)))) (dg_name (i := 2) sc__law_possible.nd)
    (dss_one (ds_for PassesOwn.never rfl (di_list (dv_call G__law_sides (hr.mono (by decide)) (da_cons (dv_callB call_lenAll cd_len T.len (by decide +kernel) (da_cons (dv_of (pv 0)) da_nil)) (da_cons (dv_callB call_lenAll cd_len T.len (by decide +kernel) (da_cons (dv_ix (dv_of (pv 0)) dv_int) da_nil)) (da_cons (dv_of (pv 2)) da_nil))))) (dg_name (i := 3) sc__law_possible.nd)
    (dss_cons (ds_par2 (i := 4) (j := 5) rfl sc__law_possible.nd (dp_v (dv_ix (dv_ix (dv_of (pv 0)) (dv_ix (dv_of (pv 2)) dv_int)) (dv_ix (dv_of (pv 2)) dv_int))) (dp_v (dv_ix (dv_ix (dv_of (pv 0)) (dv_ix (dv_of (pv 3)) dv_int)) (dv_ix (dv_of (pv 3)) dv_int))))
    (dss_one (ds_if (dt_cmp op_ne od_ne (dv_of (pv 4)) (dv_of (pv 5)) (nomark _))
    (dss_one (ds_put (hu_of hr) (pv 1) (dv_tup (da_cons (dv_of (pv 4)) (da_cons (dv_of (pv 5)) da_nil))) dv_bl))
    dss_nil))))))
    (dss_frz 1 (dss_one (ds_ret (dv_fz (df_callB cr_sortedW cf_sortedW T.sorted (by decide +kernel) (da_cons (dv_fz (df_callTy (call_listAll rfl) cf_list T.list (by decide +kernel) (da_cons (dv_of (pv 1)) da_nil))) da_nil))))))))
end Dk
end

section
set_option Elab.async false
set_option linter.all false
set_option maxRecDepth 100000
set_option maxHeartbeats 4000000
namespace Dk
open PySem PySem.Spec PyProof.Rows L2 Dl
theorem sc__law_given : FnScope ["_law_bag_here", "_law_rows", "_law_few", "_law_some", "_law_step"] ["_law_bag_here", "_law_rows"] (defScope sLawGiven) := ⟨rfl, rfl, rfl, by decide +kernel, rfl, by decide +kernel, by decide +kernel⟩
theorem w__law_given {P : Program} {w : World} {K : PySem.W.Frag} {mg : Str → Option Value} {base : Heap} {CA : Nat → Addr} {f : Addr} {C__law_pick : Con} {C__law_possible : Con} {C__law_draw : Con} {C__law_mixed : Con} (T : Txt K mg CA) (G__law_pick : Cal P w K mg base "_law_pick" 2 2 (spD CA 2 C__law_pick)) (G__law_possible : Cal P w K mg base "_law_possible" 3 1 (spD CA 1 C__law_possible)) (G__law_draw : Cal P w K mg base "_law_draw" 1 2 (spD CA 2 C__law_draw)) (G__law_mixed : Cal P w K mg base "_law_mixed" 2 2 (spD CA 2 C__law_mixed)) (cdv : Value) (A : Around) (outer : List PySem.Env) (s : Shared) (H : Hp) (E : XK) (hr : Room 3 (A.deeper (envOfC "_law_given" (defScope sLawGiven) s.heap.objs.size f cdv))) :
    DSs CA (cxOf CX0 P w K mg base ["_law_bag_here", "_law_rows", "_law_few", "_law_some", "_law_step"] "_law_given" (defScope sLawGiven) f cdv A outer s H E).nox (defBody sLawGiven) (den__law_given C__law_pick C__law_possible C__law_draw C__law_mixed) :=
  (dss_cons (ds_set (i := 2) sc__law_given.nd (dv_call G__law_pick (hr.mono (by decide)) (da_bag (pv 0) (da_cons (dv_fz (df_lst (da_cons dv_int (da_cons dv_int (da_cons dv_int (da_cons dv_int da_nil)))))) da_nil))))
    (dss_cons (ds_setLc (i := 3) rfl sc__law_given.nd (di_list (dv_call G__law_possible (hr.mono (by decide)) (da_cons (dv_of (pv 1)) da_nil))) (blkOk_by (own := [("_law_step", 4)]) (N := ["_law_bag_here", "_law_rows", "_law_few", "_law_some", "_law_step"]) (sc := defScope sLawGiven) (by decide +kernel)) rfl (by decide) (fun _ _ _ _ _ => (dg_name (i := 4) sc__law_given.nd)) (fun _ _ _ _ _ => (dts_one (dt_cmp op_eq od_eq (dv_call G__law_draw (hr.mono (by decide)) (da_bag (pv 0) (da_cons (dv_of (pv 2)) da_nil))) dv_int (nomark _)))) (fun _ _ _ _ _ => (dv_of (pv 4))))
    (dss_one (ds_ret (dv_call G__law_mixed (hr.mono (by decide)) (da_bag (pv 0) (da_cons (dv_fz (df_op op_cat of_cat (dv_of (pv 3)) (dv_fz (df_slL (dv_of (pv 3)) do_none (do_some (dv_call G__law_draw (hr.mono (by decide)) (da_bag (pv 0) (da_cons dv_int da_nil)))))))) da_nil)))))))
end Dk
end

section
set_option Elab.async false
set_option linter.all false
set_option maxRecDepth 100000
set_option maxHeartbeats 4000000
namespace Dk
open PySem PySem.Spec PyProof.Rows L2 Dl
theorem sc__law_walks : FnScope ["_law_name", "_law_names_here", "_law_steps", "_law_front", "_law_found", "_law_rows", "_law_turn", "_law_late", "_law_row", "_law_start", "_law_over"] ["_law_name", "_law_names_here", "_law_steps", "_law_front"] (defScope sLawWalks) := ⟨rfl, rfl, rfl, by decide +kernel, rfl, by decide +kernel, by decide +kernel⟩
theorem w__law_walks {P : Program} {w : World} {K : PySem.W.Frag} {mg : Str → Option Value} {base : Heap} {CA : Nat → Addr} {f : Addr}  (T : Txt K mg CA)  (cdv : Value) (A : Around) (outer : List PySem.Env) (s : Shared) (H : Hp) (E : XK) (hr : Room 0 (A.deeper (envOfC "_law_walks" (defScope sLawWalks) s.heap.objs.size f cdv))) :
    DSs CA (cxOf CX0 P w K mg base ["_law_name", "_law_names_here", "_law_steps", "_law_front", "_law_found", "_law_rows", "_law_turn", "_law_late", "_law_row", "_law_start", "_law_over"] "_law_walks" (defScope sLawWalks) f cdv A outer s H E).nox (defBody sLawWalks) (den__law_walks ) :=
  (dss_cons (ds_par2 (i := 4) (j := 5) rfl sc__law_walks.nd (dp_o (df_lst da_nil)) (dp_v (dv_fz (df_lst (da_cons (dv_fz (df_lst (da_cons (dv_of (pv 0)) da_nil))) da_nil)))))
    (dss_cons (ds_for PassesOwn.never rfl (di_range T.range (dv_callB call_lenAll cd_len T.len (by decide +kernel) (da_cons (dv_of (pv 1)) da_nil))) (dg_name (i := 6) sc__law_walks.nd)
    (dss_cons (ds_set (i := 7) sc__law_walks.nd (dv_fz (df_lst da_nil)))
    (dss_cons (ds_for PassesOwn.never rfl (di_list (dv_of (pv 5))) (dg_name (i := 8) sc__law_walks.nd)
    (dss_one (ds_if (dt_cmp op_in_seq od_in (dv_ix (dv_of (pv 8)) (dv_neg dv_int)) (dv_of (pv 3)) rfl)
    (dss_one (ds_app (pv 4) (dv_of (pv 8))))
    (dss_one (ds_set (i := 7) sc__law_walks.nd (dv_fz (df_op op_cat of_cat (dv_of (pv 7)) (dv_fz (df_lc rfl sc__law_walks.nd (di_list (dv_of (pv 2))) (blkOk_by (own := [("_law_start", 9), ("_law_over", 10)]) (N := ["_law_name", "_law_names_here", "_law_steps", "_law_front", "_law_found", "_law_rows", "_law_turn", "_law_late", "_law_row", "_law_start", "_law_over"]) (sc := defScope sLawWalks) (by decide +kernel)) rfl (by decide) (fun _ _ _ _ _ => (dg_tup rfl (dgs_cons (dg_name (i := 9) sc__law_walks.nd) (dgs_cons (dg_name (i := 10) sc__law_walks.nd) dgs_nil)))) (fun _ _ _ _ _ => (dts_one ((dw_and (dt_cmp op_eq od_eq (dv_of (pv 9)) (dv_ix (dv_of (pv 8)) (dv_neg dv_int)) (nomark _)) (dw_and1 (dt_cmp op_notIn_seq od_in (dv_of (pv 10)) (dv_of (pv 8)) rfl)))).dt)) (fun _ _ _ _ _ => (dv_fz (df_op op_cat of_cat (dv_of (pv 8)) (dv_fz (df_lst (da_cons (dv_of (pv 10)) da_nil)))))))))))))))
    (dss_one (ds_set (i := 5) sc__law_walks.nd (dv_of (pv 7)))))))
    (dss_one (ds_retO (pv 4)))))
end Dk
end

section
set_option Elab.async false
set_option linter.all false
set_option maxRecDepth 100000
set_option maxHeartbeats 4000000
namespace Dk
open PySem PySem.Spec PyProof.Rows L2 Dl
theorem sc__law_best : FnScope ["_law_walks_here", "_law_row"] ["_law_walks_here"] (defScope sLawBest) := ⟨rfl, rfl, rfl, by decide +kernel, rfl, by decide +kernel, by decide +kernel⟩
theorem w__law_best {P : Program} {w : World} {K : PySem.W.Frag} {mg : Str → Option Value} {base : Heap} {CA : Nat → Addr} {f : Addr}  (T : Txt K mg CA)  (cdv : Value) (A : Around) (outer : List PySem.Env) (s : Shared) (H : Hp) (E : XK) (hr : Room 0 (A.deeper (envOfC "_law_best" (defScope sLawBest) s.heap.objs.size f cdv))) :
    DSs CA (cxOf CX0 P w K mg base ["_law_walks_here", "_law_row"] "_law_best" (defScope sLawBest) f cdv A outer s H E).nox (defBody sLawBest) (den__law_best ) :=
  (dss_one (ds_ret (dv_if (dt_cmp (op_neD hr.units) od_neNil (dv_of (pv 0)) (dv_fz (df_lst da_nil)) (nomark _)) (dv_ix (dv_callB (cr_minW rfl (hu65 hr)) cd_minW T.min (by decide +kernel) (da_cons (dv_fz (df_lc rfl sc__law_best.nd (di_list (dv_of (pv 0))) (blkOk_by (own := [("_law_row", 1)]) (N := ["_law_walks_here", "_law_row"]) (sc := defScope sLawBest) (by decide +kernel)) rfl (by decide) (fun _ _ _ _ _ => (dg_name (i := 1) sc__law_best.nd)) (fun _ _ _ _ _ => dts_nil) (fun _ _ _ _ _ => (dv_tup (da_cons (dv_callB call_lenAll cd_len T.len (by decide +kernel) (da_cons (dv_of (pv 1)) da_nil)) (da_cons (dv_of (pv 1)) da_nil)))))) da_nil)) dv_int) dv_non)))
end Dk
end

section
set_option Elab.async false
set_option linter.all false
set_option maxRecDepth 100000
set_option maxHeartbeats 4000000
namespace Dk
open PySem PySem.Spec PyProof.Rows L2 Dl
theorem sc_Plat___init__ : FnScope ["self", "rows", "road", "row", "name"] ["self", "rows", "road"] (defScope sPlatInit) := ⟨rfl, rfl, rfl, by decide +kernel, rfl, by decide +kernel, by decide +kernel⟩
theorem w_Plat___init__ {P : Program} {w : World} {K : PySem.W.Frag} {mg : Str → Option Value} {base : Heap} {CA : Nat → Addr} {f : Addr} {C_check_rows : Con} {C_parcels_of : Con} {C_hangs_together : Con} {C_check_road : Con} {C_borders_of : Con} (T : Txt K mg CA) (G_check_rows : Cal P w K mg base "check_rows" 2 1 (spD CA 1 C_check_rows)) (G_parcels_of : Cal P w K mg base "parcels_of" 1 1 (spD CA 1 C_parcels_of)) (G_hangs_together : Cal P w K mg base "hangs_together" 8 1 (spD CA 1 C_hangs_together)) (G_check_road : Cal P w K mg base "check_road" 5 3 (spD CA 3 C_check_road)) (G_borders_of : Cal P w K mg base "borders_of" 5 1 (spD CA 1 C_borders_of)) (cdv : Value) (A : Around) (outer : List PySem.Env) (s : Shared) (H : Hp) (E : XK) (hr : Room 8 (A.deeper (envOfC "Plat.__init__" (defScope sPlatInit) s.heap.objs.size f cdv))) :
    DSs CA (cxOf CX0 P w K mg base ["self", "rows", "road", "row", "name"] "Plat.__init__" (defScope sPlatInit) f cdv A outer s H E).nox (defBody sPlatInit) (den_Plat___init__ C_check_rows C_parcels_of C_hangs_together C_check_road C_borders_of) :=
  (dss_cons (ds_expr (dv_call G_check_rows (hr.mono (by decide)) (da_cons (dv_of (pv 1)) da_nil)))
    (dss_cons (ds_fld 0 T.cls0 T.na_0_own_rows (pv 0) (dv_fz (df_lc rfl sc_Plat___init__.nd (di_list (dv_of (pv 1))) (blkOk_by (own := [("row", 3)]) (N := ["self", "rows", "road", "row", "name"]) (sc := defScope sPlatInit) (by decide +kernel)) rfl (by decide) (fun _ _ _ _ _ => (dg_name (i := 3) sc_Plat___init__.nd)) (fun _ _ _ _ _ => dts_nil) (fun _ _ _ _ _ => (dv_fz (df_callTy (call_listAll rfl) cf_list T.list (by decide +kernel) (da_cons (dv_of (pv 3)) da_nil)))))))
    (dss_cons (ds_fld 0 T.cls0 T.na_0_own_cells (pv 0) (dv_call G_parcels_of (hr.mono (by decide)) (da_cons (dv_attrO 0 T.cls0 T.na_0_own_rows (pv 0)) da_nil)))
    (dss_cons (ds_if (dt_cmp op_gt od_gt (dv_callB call_lenAll cd_len T.len (by decide +kernel) (da_cons (dv_attrO 0 T.cls0 T.na_0_own_cells (pv 0)) da_nil)) (dv_gint T.MOST_PARCELS) (nomark _))
    dss_never
    dss_nil)
    (dss_cons (ds_forK (i := 0) 0 PassesOwn.never rfl T.cls0 T.na_0_own_cells (pv 0) (dg_name (i := 4) sc_Plat___init__.nd)
    (dss_one (ds_if (dt_not (dt_val (dv_call G_hangs_together (hr.mono (by decide)) (da_cons (dv_dget (hu_of hr) (dv_attrO 0 T.cls0 T.na_0_own_cells (pv 0)) (dv_of (pv 4))) da_nil))))
    dss_never
    dss_nil)))
    (dss_cons (ds_fld 0 T.cls0 T.na_0_height (pv 0) (dv_callB call_lenAll cd_len T.len (by decide +kernel) (da_cons (dv_attrO 0 T.cls0 T.na_0_own_rows (pv 0)) da_nil)))
    (dss_cons (ds_fld 0 T.cls0 T.na_0_width (pv 0) (dv_callB call_lenAll cd_len T.len (by decide +kernel) (da_cons (dv_ix (dv_attrO 0 T.cls0 T.na_0_own_rows (pv 0)) dv_int) da_nil)))
    (dss_cons (ds_expr (dv_call G_check_road (hr.mono (by decide)) (da_cons (dv_of (pv 2)) (da_cons (dv_attrO 0 T.cls0 T.na_0_height (pv 0)) (da_cons (dv_attrO 0 T.cls0 T.na_0_width (pv 0)) da_nil)))))
    (dss_cons (ds_fld 0 T.cls0 T.na_0_own_road (pv 0) (dv_fz (df_callB cr_sortedW cf_sortedW T.sorted (by decide +kernel) (da_cons (dv_fz (df_callTy (call_listAll rfl) cf_list T.list (by decide +kernel) (da_cons (dv_of (pv 2)) da_nil))) da_nil))))
    (dss_one (ds_fld2 0 rfl T.cls0 T.na_0_own_borders T.na_0_own_rims (pv 0) (pv 0) (dv_call G_borders_of (hr.mono (by decide)) (da_cons (dv_attrO 0 T.cls0 T.na_0_own_rows (pv 0)) da_nil)))))))))))))
end Dk
end

section
set_option Elab.async false
set_option linter.all false
set_option maxRecDepth 100000
set_option maxHeartbeats 4000000
namespace Dk
open PySem PySem.Spec PyProof.Rows L2 Dl
theorem sc_Plat_names : FnScope ["self"] ["self"] (defScope sPlatNames) := ⟨rfl, rfl, rfl, by decide +kernel, rfl, by decide +kernel, by decide +kernel⟩
theorem w_Plat_names {P : Program} {w : World} {K : PySem.W.Frag} {mg : Str → Option Value} {base : Heap} {CA : Nat → Addr} {f : Addr}  (T : Txt K mg CA)  (cdv : Value) (A : Around) (outer : List PySem.Env) (s : Shared) (H : Hp) (E : XK) (hr : Room 0 (A.deeper (envOfC "Plat.names" (defScope sPlatNames) s.heap.objs.size f cdv))) :
    DSs CA (cxOf CX0 P w K mg base ["self"] "Plat.names" (defScope sPlatNames) f cdv A outer s H E).nox (defBody sPlatNames) (den_Plat_names ) :=
  (dss_one (ds_ret (dv_fz (df_callTy (call_listAll rfl) cf_list T.list (by decide +kernel) (da_cons (dv_attr 0 T.cls0 T.na_0_own_cells (dv_of (pv 0))) da_nil)))))
end Dk
end

section
set_option Elab.async false
set_option linter.all false
set_option maxRecDepth 100000
set_option maxHeartbeats 4000000
namespace Dk
open PySem PySem.Spec PyProof.Rows L2 Dl
theorem sc_Plat_fronts : FnScope ["self", "name", "row", "column"] ["self", "name"] (defScope sPlatFronts) := ⟨rfl, rfl, rfl, by decide +kernel, rfl, by decide +kernel, by decide +kernel⟩
theorem w_Plat_fronts {P : Program} {w : World} {K : PySem.W.Frag} {mg : Str → Option Value} {base : Heap} {CA : Nat → Addr} {f : Addr} {C_Plat_need_parcel : Con} (T : Txt K mg CA) (G_Plat_need_parcel : Met P w K mg base (CA 0) "need_parcel" 1 2 (spD CA 2 C_Plat_need_parcel)) (cdv : Value) (A : Around) (outer : List PySem.Env) (s : Shared) (H : Hp) (E : XK) (hr : Room 1 (A.deeper (envOfC "Plat.fronts" (defScope sPlatFronts) s.heap.objs.size f cdv))) :
    DSs CA (cxOf CX0 P w K mg base ["self", "name", "row", "column"] "Plat.fronts" (defScope sPlatFronts) f cdv A outer s H E).nox (defBody sPlatFronts) (den_Plat_fronts C_Plat_need_parcel) :=
  (dss_cons (ds_expr (dv_meth 0 G_Plat_need_parcel T.cls0 (hr.mono (by decide)) (dv_of (pv 0)) (da_cons (dv_of (pv 1)) da_nil)))
    (dss_one (ds_ret (dv_callB (cr_any rfl) cd_any T.any (by decide +kernel) (da_cons (dv_fz (df_lc rfl sc_Plat_fronts.nd (di_list (dv_attr 0 T.cls0 T.na_0_own_road (dv_of (pv 0)))) (blkOk_by (own := [("row", 2), ("column", 3)]) (N := ["self", "name", "row", "column"]) (sc := defScope sPlatFronts) (by decide +kernel)) rfl (by decide) (fun _ _ _ _ _ => (dg_tup rfl (dgs_cons (dg_name (i := 2) sc_Plat_fronts.nd) (dgs_cons (dg_name (i := 3) sc_Plat_fronts.nd) dgs_nil)))) (fun _ _ _ _ _ => dts_nil) (fun _ _ _ _ _ => (dv_cmp op_eq od_eq (dv_ix (dv_ix (dv_attr 0 T.cls0 T.na_0_own_rows (dv_of (pv 0))) (dv_of (pv 2))) (dv_of (pv 3))) (dv_of (pv 1)) (nomark _))))) da_nil)))))
end Dk
end

section
set_option Elab.async false
set_option linter.all false
set_option maxRecDepth 100000
set_option maxHeartbeats 4000000
namespace Dk
open PySem PySem.Spec PyProof.Rows L2 Dl
theorem sc_Plat_border : FnScope ["self", "first", "second"] ["self", "first", "second"] (defScope sPlatBorder) := ⟨rfl, rfl, rfl, by decide +kernel, rfl, by decide +kernel, by decide +kernel⟩
theorem w_Plat_border {P : Program} {w : World} {K : PySem.W.Frag} {mg : Str → Option Value} {base : Heap} {CA : Nat → Addr} {f : Addr} {C_Plat_need_parcel : Con} (T : Txt K mg CA) (G_Plat_need_parcel : Met P w K mg base (CA 0) "need_parcel" 1 2 (spD CA 2 C_Plat_need_parcel)) (cdv : Value) (A : Around) (outer : List PySem.Env) (s : Shared) (H : Hp) (E : XK) (hr : Room 1 (A.deeper (envOfC "Plat.border" (defScope sPlatBorder) s.heap.objs.size f cdv))) :
    DSs CA (cxOf CX0 P w K mg base ["self", "first", "second"] "Plat.border" (defScope sPlatBorder) f cdv A outer s H E).nox (defBody sPlatBorder) (den_Plat_border C_Plat_need_parcel) :=
  (dss_cons (ds_expr (dv_meth 0 G_Plat_need_parcel T.cls0 (hr.mono (by decide)) (dv_of (pv 0)) (da_cons (dv_of (pv 1)) da_nil)))
    (dss_cons (ds_expr (dv_meth 0 G_Plat_need_parcel T.cls0 (hr.mono (by decide)) (dv_of (pv 0)) (da_cons (dv_of (pv 2)) da_nil)))
    (dss_one (ds_ret (dv_dget2 (hu_of hr) (dv_attr 0 T.cls0 T.na_0_own_borders (dv_of (pv 0))) (dv_tup (da_cons (dv_of (pv 1)) (da_cons (dv_of (pv 2)) da_nil))) dv_int)))))
end Dk
end

section
set_option Elab.async false
set_option linter.all false
set_option maxRecDepth 100000
set_option maxHeartbeats 4000000
namespace Dk
open PySem PySem.Spec PyProof.Rows L2 Dl
theorem sc_Plat_need_parcel : FnScope ["self", "name"] ["self", "name"] (defScope sPlatNeedParcel) := ⟨rfl, rfl, rfl, by decide +kernel, rfl, by decide +kernel, by decide +kernel⟩
theorem w_Plat_need_parcel {P : Program} {w : World} {K : PySem.W.Frag} {mg : Str → Option Value} {base : Heap} {CA : Nat → Addr} {f : Addr}  (T : Txt K mg CA)  (cdv : Value) (A : Around) (outer : List PySem.Env) (s : Shared) (H : Hp) (E : XK) (hr : Room 0 (A.deeper (envOfC "Plat.need_parcel" (defScope sPlatNeedParcel) s.heap.objs.size f cdv))) :
    DSs CA (cxOf CX0 P w K mg base ["self", "name"] "Plat.need_parcel" (defScope sPlatNeedParcel) f cdv A outer s H E).nox (defBody sPlatNeedParcel) (den_Plat_need_parcel ) :=
  (dss_one (ds_if ((dw_or (dt_not (dt_val (dv_isi .str T.isinstance (dv_of (pv 1)) (pe_ty T.str (by decide +kernel))))) (dw_or1 (dt_dnotin (hu_of hr) (dv_of (pv 1)) (dv_attr 0 T.cls0 T.na_0_own_cells (dv_of (pv 0))))))).dt
    dss_never
    dss_nil))
end Dk
end

section
set_option Elab.async false
set_option linter.all false
set_option maxRecDepth 100000
set_option maxHeartbeats 4000000
namespace Dk
open PySem PySem.Spec PyProof.Rows L2 Dl
theorem sc_Plat___contains__ : FnScope ["self", "name"] ["self", "name"] (defScope sPlatContains) := ⟨rfl, rfl, rfl, by decide +kernel, rfl, by decide +kernel, by decide +kernel⟩
theorem w_Plat___contains__ {P : Program} {w : World} {K : PySem.W.Frag} {mg : Str → Option Value} {base : Heap} {CA : Nat → Addr} {f : Addr}  (T : Txt K mg CA)  (cdv : Value) (A : Around) (outer : List PySem.Env) (s : Shared) (H : Hp) (E : XK) (hr : Room 0 (A.deeper (envOfC "Plat.__contains__" (defScope sPlatContains) s.heap.objs.size f cdv))) :
    DSs CA (cxOf CX0 P w K mg base ["self", "name"] "Plat.__contains__" (defScope sPlatContains) f cdv A outer s H E).nox (defBody sPlatContains) (den_Plat___contains__ ) :=
  (dss_one (ds_ret (dv_and (dv_isi .str T.isinstance (dv_of (pv 1)) (pe_ty T.str (by decide +kernel))) (dv_one (dv_din (hu_of hr) (dv_of (pv 1)) (dv_attr 0 T.cls0 T.na_0_own_cells (dv_of (pv 0))))))))
end Dk
end

section
set_option Elab.async false
set_option linter.all false
set_option maxRecDepth 100000
set_option maxHeartbeats 4000000
namespace Dk
open PySem PySem.Spec PyProof.Rows L2 Dl
theorem sc_Ways___init__ : FnScope ["self", "plat", "steps", "name"] ["self", "plat", "steps"] (defScope sWaysInit) := ⟨rfl, rfl, rfl, by decide +kernel, rfl, by decide +kernel, by decide +kernel⟩
theorem w_Ways___init__ {P : Program} {w : World} {K : PySem.W.Frag} {mg : Str → Option Value} {base : Heap} {CA : Nat → Addr} {f : Addr} {C_check_steps : Con} {C_onward : Con} {C_Plat_names : Con} {C_Plat_fronts : Con} (T : Txt K mg CA) (G_check_steps : Cal P w K mg base "check_steps" 4 2 (spD CA 2 C_check_steps)) (G_onward : Cal P w K mg base "onward" 1 2 (spD CA 2 C_onward)) (G_Plat_names : Met P w K mg base (CA 0) "names" 1 1 (spD CA 1 C_Plat_names)) (G_Plat_fronts : Met P w K mg base (CA 0) "fronts" 2 2 (spD CA 2 C_Plat_fronts)) (cdv : Value) (A : Around) (outer : List PySem.Env) (s : Shared) (H : Hp) (E : XK) (hr : Room 4 (A.deeper (envOfC "Ways.__init__" (defScope sWaysInit) s.heap.objs.size f cdv))) :
    DSs CA (cxOf CX0 P w K mg base ["self", "plat", "steps", "name"] "Ways.__init__" (defScope sWaysInit) f cdv A outer s H E).nox (defBody sWaysInit) (den_Ways___init__ C_check_steps C_onward C_Plat_names C_Plat_fronts) :=
  (dss_cons (ds_expr (dv_call G_check_steps (hr.mono (by decide)) (da_cons (dv_of (pv 1)) (da_cons (dv_of (pv 2)) da_nil))))
    (dss_cons (ds_fld 1 T.cls1 T.na_1_plat (pv 0) (dv_of (pv 1)))
    (dss_cons (ds_fld 1 T.cls1 T.na_1_own_steps (pv 0) (dv_fz (df_sortSet T.sorted T.set rfl (hu65 hr) (dv_of (pv 2)))))
    (dss_cons (ds_fld 1 T.cls1 T.na_1_own_leads (pv 0) (dv_call G_onward (hr.mono (by decide)) (da_cons (dv_meth0 0 G_Plat_names T.cls0 (hr.mono (by decide)) (dv_of (pv 1))) (da_cons (dv_attrO 1 T.cls1 T.na_1_own_steps (pv 0)) da_nil))))
    (dss_one (ds_fld 1 T.cls1 T.na_1_own_fronts (pv 0) (dv_fz (df_dc .k (hu_of hr) rfl sc_Ways___init__.nd (di_list (dv_meth0 0 G_Plat_names T.cls0 (hr.mono (by decide)) (dv_of (pv 1)))) (blkOk_by (own := [("name", 3)]) (N := ["self", "plat", "steps", "name"]) (sc := defScope sWaysInit) (by decide +kernel)) rfl (by decide) (fun _ _ _ _ _ => (dg_name (i := 3) sc_Ways___init__.nd)) (fun _ _ _ _ _ => dts_nil) (fun _ _ _ _ _ => (dv_of (pv 3))) (fun _ _ _ _ _ => (dv_meth 0 G_Plat_fronts T.cls0 (hr.mono (by decide)) (dv_of (pv 1)) (da_cons (dv_of (pv 3)) da_nil)))))))))))
end Dk
end

section
set_option Elab.async false
set_option linter.all false
set_option maxRecDepth 100000
set_option maxHeartbeats 4000000
namespace Dk
open PySem PySem.Spec PyProof.Rows L2 Dl
theorem sc_Ways_with_steps : FnScope ["self", "steps"] ["self", "steps"] (defScope sWaysWithSteps) := ⟨rfl, rfl, rfl, by decide +kernel, rfl, by decide +kernel, by decide +kernel⟩
theorem w_Ways_with_steps {P : Program} {w : World} {K : PySem.W.Frag} {mg : Str → Option Value} {base : Heap} {CA : Nat → Addr} {f : Addr} {C_check_steps : Con} {C_Ways___init__ : ConI} (T : Txt K mg CA) (G_check_steps : Cal P w K mg base "check_steps" 4 2 (spD CA 2 C_check_steps)) (G_Ways___init__ : Mak P w K mg base CA "Ways" 1 5 3 C_Ways___init__) (cdv : Value) (A : Around) (outer : List PySem.Env) (s : Shared) (H : Hp) (E : XK) (hr : Room 6 (A.deeper (envOfC "Ways.with_steps" (defScope sWaysWithSteps) s.heap.objs.size f cdv))) :
    DSs CA (cxOf CX0 P w K mg base ["self", "steps"] "Ways.with_steps" (defScope sWaysWithSteps) f cdv A outer s H E).nox (defBody sWaysWithSteps) (den_Ways_with_steps C_check_steps C_Ways___init__) :=
  (dss_cons (ds_expr (dv_call G_check_steps (hr.mono (by decide)) (da_cons (dv_attr 1 T.cls1 T.na_1_plat (dv_of (pv 0))) (da_cons (dv_of (pv 1)) da_nil))))
    (dss_one (ds_ret (dv_make 1 G_Ways___init__ (hr.mono (by decide)) (da_cons (dv_attr 1 T.cls1 T.na_1_plat (dv_of (pv 0))) (da_cons (dv_fz (df_lst (da_star (dv_attr 1 T.cls1 T.na_1_own_steps (dv_of (pv 0))) (da_star (dv_of (pv 1)) da_nil)))) da_nil))))))
end Dk
end

section
set_option Elab.async false
set_option linter.all false
set_option maxRecDepth 100000
set_option maxHeartbeats 4000000
namespace Dk
open PySem PySem.Spec PyProof.Rows L2 Dl
theorem sc_Ways_comes : FnScope ["self", "name"] ["self", "name"] (defScope sWaysComes) := ⟨rfl, rfl, rfl, by decide +kernel, rfl, by decide +kernel, by decide +kernel⟩
theorem w_Ways_comes {P : Program} {w : World} {K : PySem.W.Frag} {mg : Str → Option Value} {base : Heap} {CA : Nat → Addr} {f : Addr} {C_Ways_need_parcel : Con} {C_Ways_distances : Con} (T : Txt K mg CA) (G_Ways_need_parcel : Met P w K mg base (CA 1) "need_parcel" 2 2 (spD CA 2 C_Ways_need_parcel)) (G_Ways_distances : Met P w K mg base (CA 1) "distances" 1 2 (spD CA 2 C_Ways_distances)) (cdv : Value) (A : Around) (outer : List PySem.Env) (s : Shared) (H : Hp) (E : XK) (hr : Room 2 (A.deeper (envOfC "Ways.comes" (defScope sWaysComes) s.heap.objs.size f cdv))) :
    DSs CA (cxOf CX0 P w K mg base ["self", "name"] "Ways.comes" (defScope sWaysComes) f cdv A outer s H E).nox (defBody sWaysComes) (den_Ways_comes C_Ways_need_parcel C_Ways_distances) :=
  (dss_cons (ds_expr (dv_meth 1 G_Ways_need_parcel T.cls1 (hr.mono (by decide)) (dv_of (pv 0)) (da_cons (dv_of (pv 1)) da_nil)))
    (dss_one (ds_ret (dv_din (hu_of hr) (dv_of (pv 1)) (dv_meth 1 G_Ways_distances T.cls1 (hr.mono (by decide)) (dv_of (pv 0)) (da_cons dv_str da_nil))))))
end Dk
end

section
set_option Elab.async false
set_option linter.all false
set_option maxRecDepth 100000
set_option maxHeartbeats 4000000
namespace Dk
open PySem PySem.Spec PyProof.Rows L2 Dl
theorem sc_Ways_way : FnScope ["self", "name", "far", "found", "nearer", "over"] ["self", "name"] (defScope sWaysWay) := ⟨rfl, rfl, rfl, by decide +kernel, rfl, by decide +kernel, by decide +kernel⟩
theorem w_Ways_way {P : Program} {w : World} {K : PySem.W.Frag} {mg : Str → Option Value} {base : Heap} {CA : Nat → Addr} {f : Addr} {C_Ways_need_parcel : Con} {C_Ways_distances : Con} (T : Txt K mg CA) (G_Ways_need_parcel : Met P w K mg base (CA 1) "need_parcel" 2 2 (spD CA 2 C_Ways_need_parcel)) (G_Ways_distances : Met P w K mg base (CA 1) "distances" 1 2 (spD CA 2 C_Ways_distances)) (cdv : Value) (A : Around) (outer : List PySem.Env) (s : Shared) (H : Hp) (E : XK) (hr : Room 2 (A.deeper (envOfC "Ways.way" (defScope sWaysWay) s.heap.objs.size f cdv))) :
    DSs CA (cxOf CX0 P w K mg base ["self", "name", "far", "found", "nearer", "over"] "Ways.way" (defScope sWaysWay) f cdv A outer s H E).nox (defBody sWaysWay) (den_Ways_way C_Ways_need_parcel C_Ways_distances) :=
  (dss_cons (ds_expr (dv_meth 1 G_Ways_need_parcel T.cls1 (hr.mono (by decide)) (dv_of (pv 0)) (da_cons (dv_of (pv 1)) da_nil)))
    (dss_cons (ds_set (i := 2) sc_Ways_way.nd (dv_meth 1 G_Ways_distances T.cls1 (hr.mono (by decide)) (dv_of (pv 0)) (da_cons dv_str da_nil)))
    (dss_cons (ds_if (dt_dnotin (hu_of hr) (dv_of (pv 1)) (dv_of (pv 2)))
    (dss_one (ds_ret dv_non))
    dss_nil)
    (dss_cons (ds_setO (i := 3) sc_Ways_way.nd (df_lst (da_cons (dv_of (pv 1)) da_nil)))
    (dss_cons (ds_while PassesOwn.never (dt_bor (dt_cmp op_gt od_gt (dv_dget (hu_of hr) (dv_of (pv 2)) (dv_ix (dv_of (pv 3)) (dv_neg dv_int))) dv_int (nomark _)))
    (dss_cons (ds_set (i := 4) sc_Ways_way.nd (dv_bor (dv_op op_sub od_sub (dv_dget (hu_of hr) (dv_of (pv 2)) (dv_ix (dv_of (pv 3)) (dv_neg dv_int))) dv_int)))
    (dss_one (ds_app (pv 3) (dv_bor (dv_ix (dv_fz (df_lc rfl sc_Ways_way.nd (di_list (dv_dget (hu_of hr) (dv_attr 1 T.cls1 T.na_1_own_leads (dv_of (pv 0))) (dv_ix (dv_of (pv 3)) (dv_neg dv_int)))) (blkOk_by (own := [("over", 5)]) (N := ["self", "name", "far", "found", "nearer", "over"]) (sc := defScope sWaysWay) (by decide +kernel)) rfl (by decide) (fun _ _ _ _ _ => (dg_name (i := 5) sc_Ways_way.nd)) (fun _ _ _ _ _ => (dts_one (dt_cmp op_eq od_eq (dv_dget2 (hu_of hr) (dv_of (pv 2)) (dv_of (pv 5)) (dv_neg dv_int)) (dv_of (pv 4)) (nomark _)))) (fun _ _ _ _ _ => (dv_of (pv 5))))) dv_int))))))
    (dss_one (ds_retF (pv 3))))))))
end Dk
end

section
set_option Elab.async false
set_option linter.all false
set_option maxRecDepth 100000
set_option maxHeartbeats 4000000
namespace Dk
open PySem PySem.Spec PyProof.Rows L2 Dl
theorem sc_Ways_bare : FnScope ["self", "far", "name"] ["self"] (defScope sWaysBare) := ⟨rfl, rfl, rfl, by decide +kernel, rfl, by decide +kernel, by decide +kernel⟩
theorem w_Ways_bare {P : Program} {w : World} {K : PySem.W.Frag} {mg : Str → Option Value} {base : Heap} {CA : Nat → Addr} {f : Addr} {C_Ways_distances : Con} (T : Txt K mg CA) (G_Ways_distances : Met P w K mg base (CA 1) "distances" 1 2 (spD CA 2 C_Ways_distances)) (cdv : Value) (A : Around) (outer : List PySem.Env) (s : Shared) (H : Hp) (E : XK) (hr : Room 1 (A.deeper (envOfC "Ways.bare" (defScope sWaysBare) s.heap.objs.size f cdv))) :
    DSs CA (cxOf CX0 P w K mg base ["self", "far", "name"] "Ways.bare" (defScope sWaysBare) f cdv A outer s H E).nox (defBody sWaysBare) (den_Ways_bare C_Ways_distances) :=
  (dss_cons (ds_set (i := 1) sc_Ways_bare.nd (dv_meth 1 G_Ways_distances T.cls1 (hr.mono (by decide)) (dv_of (pv 0)) (da_cons dv_str da_nil)))
    (dss_one (ds_retLcK (i := 0) 1 rfl sc_Ways_bare.nd T.cls1 T.na_1_own_leads (pv 0) (blkOk_by (own := [("name", 2)]) (N := ["self", "far", "name"]) (sc := defScope sWaysBare) (by decide +kernel)) rfl (by decide) (fun _ _ _ _ _ => (dg_name (i := 2) sc_Ways_bare.nd)) (fun _ _ _ _ _ => (dts_one (dt_dnotin (hu_of hr) (dv_of (pv 2)) (dv_of (pv 1))))) (fun _ _ _ _ _ => (dv_of (pv 2))))))
end Dk
end

section
set_option Elab.async false
set_option linter.all false
set_option maxRecDepth 100000
set_option maxHeartbeats 4000000
namespace Dk
open PySem PySem.Spec PyProof.Rows L2 Dl
theorem sc_Ways_distances : FnScope ["self", "without", "found", "name", "steps", "more", "late", "over"] ["self", "without"] (defScope sWaysDistances) := ⟨rfl, rfl, rfl, by decide +kernel, rfl, by decide +kernel, by decide +kernel⟩
theorem w_Ways_distances {P : Program} {w : World} {K : PySem.W.Frag} {mg : Str → Option Value} {base : Heap} {CA : Nat → Addr} {f : Addr}  (T : Txt K mg CA)  (cdv : Value) (A : Around) (outer : List PySem.Env) (s : Shared) (H : Hp) (E : XK) (hr : Room 0 (A.deeper (envOfC "Ways.distances" (defScope sWaysDistances) s.heap.objs.size f cdv))) :
    DSs CA (cxOf CX0 P w K mg base ["self", "without", "found", "name", "steps", "more", "late", "over"] "Ways.distances" (defScope sWaysDistances) f cdv A outer s H E).nox (defBody sWaysDistances) (den_Ways_distances ) :=
  (dss_cons (ds_setDcKC (i := 0) (j := 2) .k (hu_of hr) 1 rfl sc_Ways_distances.nd T.cls1 T.na_1_own_leads (pv 0) (blkOk_by (own := [("name", 3)]) (N := ["self", "without", "found", "name", "steps", "more", "late", "over"]) (sc := defScope sWaysDistances) (by decide +kernel)) rfl (by decide) (fun _ _ _ _ _ => (dg_name (i := 3) sc_Ways_distances.nd)) (fun _ _ _ _ _ => (dts_one ((dw_and (dt_val (dv_dget (hu_of hr) (dv_attr 1 T.cls1 T.na_1_own_fronts (dv_of (pv 0))) (dv_of (pv 3)))) (dw_and1 (dt_cmp op_ne od_ne (dv_of (pv 3)) (dv_of (pv 1)) (nomark _))))).dt)) (fun _ _ _ _ _ => (dv_of (pv 3))) (fun _ _ _ _ _ => dv_int))
    (dss_cons (ds_asg (dv_tup (da_cons dv_int (da_cons dv_bl da_nil))) (dg_tup rfl (dgs_cons (dg_name (i := 4) sc_Ways_distances.nd) (dgs_cons (dg_name (i := 5) sc_Ways_distances.nd) dgs_nil))))
    (dss_cons (ds_while PassesOwn.never (dt_val (dv_of (pv 5)))
    (dss_cons (ds_setLcK (i := 0) (j := 6) 1 rfl sc_Ways_distances.nd T.cls1 T.na_1_own_leads (pv 0) (blkOk_by (own := [("name", 3)]) (N := ["self", "without", "found", "name", "steps", "more", "late", "over"]) (sc := defScope sWaysDistances) (by decide +kernel)) rfl (by decide) (fun _ _ _ _ _ => (dg_name (i := 3) sc_Ways_distances.nd)) (fun _ _ _ _ _ => (dts_one (dt_bor ((dw_and (dt_dnotin (hu_of hr) (dv_of (pv 3)) (dv_of (pv 2))) (dw_and (dt_cmp op_ne od_ne (dv_of (pv 3)) (dv_of (pv 1)) (nomark _)) (dw_and1 (dt_val (dv_callB (cr_any rfl) cd_any T.any (by decide +kernel) (da_cons (dv_fz (by exact (df_lc rfl sc_Ways_distances.nd (di_list (dv_dget (hu_of hr) (dv_attr 1 T.cls1 T.na_1_own_leads (dv_of (pv 0))) (dv_of (pv 3)))) (blkOk_by (own := [("over", 7)]) (N := ["self", "without", "found", "name", "steps", "more", "late", "over"]) (sc := { kind := .function, names := [(".0", .local), ("name", .local), ("any", .globalImplicit), ("found", .cell), ("self", .cell), ("without", .cell)], isGenerator := false, isCoroutine := false }) (by decide +kernel)) rfl (by decide) (fun _ _ _ _ _ => (dg_name (i := 7) sc_Ways_distances.nd)) (fun _ _ _ _ _ => dts_nil) (fun _ _ _ _ _ => (dv_din (hu_of hr) (dv_of (pv 7)) (dv_of (pv 2))))))) da_nil))))))).dt))) (fun _ _ _ _ _ => (dv_of (pv 3))))
    (dss_cons (ds_par2 (i := 4) (j := 5) rfl sc_Ways_distances.nd (dp_v (dv_op op_add od_add (dv_of (pv 4)) dv_int)) (dp_v (dv_cmp (op_neD hr.units) od_neNil (dv_of (pv 6)) (dv_fz (df_lst da_nil)) (nomark _))))
    (dss_one (ds_for PassesOwn.never rfl (di_list (dv_of (pv 6))) (dg_name (i := 3) sc_Ways_distances.nd)
    (dss_one (ds_put (hu_of hr) (pv 2) (dv_of (pv 3)) (dv_of (pv 4)))))))))
    (dss_one (ds_retO (pv 2))))))
end Dk
end

section
set_option Elab.async false
set_option linter.all false
set_option maxRecDepth 100000
set_option maxHeartbeats 4000000
namespace Dk
open PySem PySem.Spec PyProof.Rows L2 Dl
theorem sc_Ways_need_parcel : FnScope ["self", "name"] ["self", "name"] (defScope sWaysNeedParcel) := ⟨rfl, rfl, rfl, by decide +kernel, rfl, by decide +kernel, by decide +kernel⟩
theorem w_Ways_need_parcel {P : Program} {w : World} {K : PySem.W.Frag} {mg : Str → Option Value} {base : Heap} {CA : Nat → Addr} {f : Addr} {C_Plat___contains__ : Con} (T : Txt K mg CA) (G_Plat___contains__ : Met P w K mg base (CA 0) "__contains__" 1 2 (spD CA 2 C_Plat___contains__)) (cdv : Value) (A : Around) (outer : List PySem.Env) (s : Shared) (H : Hp) (E : XK) (hr : Room 1 (A.deeper (envOfC "Ways.need_parcel" (defScope sWaysNeedParcel) s.heap.objs.size f cdv))) :
    DSs CA (cxOf CX0 P w K mg base ["self", "name"] "Ways.need_parcel" (defScope sWaysNeedParcel) f cdv A outer s H E).nox (defBody sWaysNeedParcel) (den_Ways_need_parcel C_Plat___contains__) :=
  (dss_one (ds_if (dt_cmp (op_nothas G_Plat___contains__ (hr.mono (by decide))) od_has (dv_of (pv 1)) (dv_attr 1 T.cls1 T.na_1_plat (dv_of (pv 0))) rfl)
    dss_never
    dss_nil))
end Dk
end

section
set_option Elab.async false
set_option linter.all false
set_option maxRecDepth 100000
set_option maxHeartbeats 4000000
/-! Every def keeps its contract. -/
namespace Dk
open PySem PySem.Spec PyProof.Rows L2 Dl
def caOf (K : PySem.W.Frag) : Nat → Addr
  | 0 => He.ga K "Plat"
  | _ => He.ga K "Ways"
theorem txt {K : PySem.W.Frag} {h : Heap} {mg : PySem.Str → Option Value} (X : K.In h) (G : h.Ns mainGlobals mg) (c : He.SaysD fa fn K) : Txt K mg (caOf K) where
  isinstance := He.free_ok X G (c.fact 41 (f := .free "isinstance") rfl)
  int := He.free_ok X G (c.fact 42 (f := .free "int") rfl)
  bool := He.free_ok X G (c.fact 43 (f := .free "bool") rfl)
  str := He.free_ok X G (c.fact 44 (f := .free "str") rfl)
  tuple := He.free_ok X G (c.fact 45 (f := .free "tuple") rfl)
  list := He.free_ok X G (c.fact 46 (f := .free "list") rfl)
  dict := He.free_ok X G (c.fact 47 (f := .free "dict") rfl)
  len := He.free_ok X G (c.fact 48 (f := .free "len") rfl)
  all := He.free_ok X G (c.fact 49 (f := .free "all") rfl)
  any := He.free_ok X G (c.fact 50 (f := .free "any") rfl)
  sorted := He.free_ok X G (c.fact 51 (f := .free "sorted") rfl)
  range := He.free_ok X G (c.fact 52 (f := .free "range") rfl)
  enumerate := He.free_ok X G (c.fact 53 (f := .free "enumerate") rfl)
  set := He.free_ok X G (c.fact 54 (f := .free "set") rfl)
  zip := He.free_ok X G (c.fact 55 (f := .free "zip") rfl)
  min := He.free_ok X G (c.fact 56 (f := .free "min") rfl)
  sum := He.free_ok X G (c.fact 57 (f := .free "sum") rfl)
  abs := He.free_ok X G (c.fact 58 (f := .free "abs") rfl)
  LAST := He.int_ok X G (c.fact 59 (f := .int "LAST" 11) rfl)
  MOST_LETTERS := He.int_ok X G (c.fact 60 (f := .int "MOST_LETTERS" 6) rfl)
  MOST_SIZE := He.int_ok X G (c.fact 61 (f := .int "MOST_SIZE" 12) rfl)
  MOST_PARCELS := He.int_ok X G (c.fact 62 (f := .int "MOST_PARCELS" 12) rfl)
  LETTERS := He.str_ok X G (c.fact 63 (f := .str "LETTERS" "abcdefghijklmnopqrstuvwxyz") rfl)
  cls0 := He.cls_ok (c.fact 65 (f := .cls "Plat") rfl)
  na_0_own_rows := He.noat_ok (c.fact 67 (f := .noat "Plat" "own_rows") rfl)
  na_0_own_cells := He.noat_ok (c.fact 68 (f := .noat "Plat" "own_cells") rfl)
  na_0_height := He.noat_ok (c.fact 69 (f := .noat "Plat" "height") rfl)
  na_0_width := He.noat_ok (c.fact 70 (f := .noat "Plat" "width") rfl)
  na_0_own_road := He.noat_ok (c.fact 71 (f := .noat "Plat" "own_road") rfl)
  na_0_own_borders := He.noat_ok (c.fact 72 (f := .noat "Plat" "own_borders") rfl)
  na_0_own_rims := He.noat_ok (c.fact 73 (f := .noat "Plat" "own_rims") rfl)
  cls1 := He.cls_ok (c.fact 81 (f := .cls "Ways") rfl)
  na_1_plat := He.noat_ok (c.fact 83 (f := .noat "Ways" "plat") rfl)
  na_1_own_steps := He.noat_ok (c.fact 84 (f := .noat "Ways" "own_steps") rfl)
  na_1_own_leads := He.noat_ok (c.fact 85 (f := .noat "Ways" "own_leads") rfl)
  na_1_own_fronts := He.noat_ok (c.fact 86 (f := .noat "Ways" "own_fronts") rfl)
theorem never_ok {P : Program} {w : World} {K : PySem.W.Frag} {mg : PySem.Str → Option Value} {base : Heap} {CA : Nat → Addr} {k : Nat} {f : Addr} {fd : FuncData} {ps : List PySem.Str} {n : Nat} : FnOk P w K mg base CX0 k f fd ps (spD CA n fun _ _ => False) :=
  ⟨fun vs H Q E h => (by obtain ⟨_, _, _, _, _, _, _, _, z, _⟩ := h; exact z.elim), fun A outer s H args us vs Q E _ _ _ _ h => (by obtain ⟨_, _, _, _, _, _, _, _, z, _⟩ := h; exact z.elim)⟩
theorem same_leaf : Keeps N__law_same 2 (C_sameN 0) (den__law_same fun _ _ => False) := by
  rintro as P - ⟨d, rfl, hd, hp⟩
  cases d with
  | node t ds => cases t <;> cases hd
  | _ => simp [den__law_same]; try exact hp
theorem kg_rel {vs : List V} {us : List Value} {zs : List V} {ws : List Value} (h : Vals vs us) (k : Vals zs ws) : Vals (kg vs zs) (kg us ws) := by
  cases h with
  | nil => exact .nil
  | cons r rr => cases rr with
    | nil => cases k with
      | nil => exact .nil
      | cons q qq => cases qq with
        | nil => exact .cons r (.cons q .nil)
        | cons _ _ => exact .nil
    | cons _ _ => exact .nil
theorem fn_starD {P : Program} {w : World} {K : PySem.W.Frag} {mg : PySem.Str → Option Value} {base : Heap} {CA : Nat → Addr} {k : Nat} {C : Con} {N : List PySem.Str} {x qual p1 pv : PySem.Str} {st : Stmt} {f : Addr} {fd : FuncData} {den : SDen} (F : FunD K x qual (defArgs st) (defBody st) (defScope st) [] [] f fd) (S : FnScope N ([p1] ++ [pv]) (defScope st)) (hN : 2 ≤ N.length)
    (h0 : ∀ (kV doc pm : Value) (an : Option Addr) (cdv ct : Value) (a : Value), bindArgs (PySem.W.fnOf x qual (defArgs st) (defBody st) (defScope st) .none kV doc pm an cdv ct) ⟨[a], []⟩ = (newTuple [] >>= fun t => pure [(p1, a), (pv, t)]))
    (h1 : ∀ (kV doc pm : Value) (an : Option Addr) (cdv ct : Value) (a r : Value) (rs : List Value), bindArgs (PySem.W.fnOf x qual (defArgs st) (defBody st) (defScope st) .none kV doc pm an cdv ct) ⟨a :: r :: rs, []⟩ = (newTuple (r :: rs) >>= fun t => pure [(p1, a), (pv, t)]))
    (hb : ∀ (cdv : Value) (A : Around) (outer : List PySem.Env) (s : Shared) (H : Hp) (E : XK), Room k (A.deeper (envOfC qual (defScope st) s.heap.objs.size f cdv)) → DSs CA (cxOf CX0 P w K mg base N qual (defScope st) f cdv A outer s H E).nox (defBody st) den)
    (hC : Keeps N 2 C den) : FnR P w K mg base CX0 (k + 1) f (spR CA C) := by
  obtain ⟨oc, od, dV, kV, doc, pm, an, cdv, ct, osl, rfl, lk, hcd, hD, hK⟩ := F.ex
  rcases hD with ⟨_, rfl⟩ | ⟨e, _⟩
  · refine StX.fn_star (ps := [p1]) (pv := pv) (sp := spD CA 2 C) lk hcd S StX.cxUp_none (StX.bind_star1 (B := fun us => bindArgs (PySem.W.fnOf x qual (defArgs st) (defBody st) (defScope st) .none kV doc pm an cdv ct) ⟨us, []⟩) (h0 kV doc pm an cdv ct) (h1 kV doc pm an cdv ct)) fun A outer s H vs Q E hr h => ⟨_, (hb cdv A outer s H E hr).ps.nox, ?_⟩
    obtain ⟨β, F0, as, Pp, sub, bok, r, hl, hc, q⟩ := h
    refine ⟨β, envOf N as, F0, _, rel_start (by rw [hl]; exact hN) sub bok r, hC as Pp hl hc, ⟨fun s' hp σ' H' F' R' E' => ?_, fun d hp v H' F' x sub' bok' rv => ?_, fun t ds z => z.elim, fun s' z => z.elim, fun s' z => z.elim⟩⟩
    · exact q .non hp .non H' F' (E'.xt.mono fun b z => start_owned z) R'.sub R'.bok rep_non
    · exact q d hp v H' F' (x.mono fun b z => start_owned z) sub' bok' rv
  · exact absurd rfl e
theorem facts {P : Program} {w : World} {K : PySem.W.Frag} {h : Heap} {mg : PySem.Str → Option Value} {fL : Addr} (X : K.In h) (G : h.Ns mainGlobals mg) (hfa : mg ("law" : PySem.Str) = some (.ref fL)) (c : He.SaysD fa fn K) :
    ∃ fd : FuncData, (∀ (s : Shared) (v : Value), BindsTo s fd ⟨[v], []⟩ [("_law_script", v)]) ∧ ∀ base : Heap, K.In base → base.Ns mainGlobals mg → FnOk P w K mg base CX0 12 fL fd ["_law_script"] (spLaw K) := by
  have T : Txt K mg (caOf K) := txt X G c
  obtain ⟨fd_0, F_0⟩ := c.def_ 0 (d := dIsWhole) rfl
  obtain ⟨fd_1, F_1⟩ := c.def_ 1 (d := dIsNumber) rfl
  obtain ⟨fd_2, F_2⟩ := c.def_ 2 (d := dIsName) rfl
  obtain ⟨fd_3, F_3⟩ := c.def_ 3 (d := dIsCell) rfl
  obtain ⟨fd_4, F_4⟩ := c.def_ 4 (d := dBeside) rfl
  obtain ⟨fd_5, F_5⟩ := c.def_ 5 (d := dCheckCells) rfl
  obtain ⟨fd_6, F_6⟩ := c.def_ 6 (d := dGroupOf) rfl
  obtain ⟨fd_7, F_7⟩ := c.def_ 7 (d := dGroups) rfl
  obtain ⟨fd_8, F_8⟩ := c.def_ 8 (d := dHangsTogether) rfl
  obtain ⟨fd_9, F_9⟩ := c.def_ 9 (d := dPieces) rfl
  obtain ⟨fd_10, F_10⟩ := c.def_ 10 (d := dIsList) rfl
  obtain ⟨fd_11, F_11⟩ := c.def_ 11 (d := dCheckRows) rfl
  obtain ⟨fd_12, F_12⟩ := c.def_ 12 (d := dParcelsOf) rfl
  obtain ⟨fd_13, F_13⟩ := c.def_ 13 (d := dIsEdge) rfl
  obtain ⟨fd_14, F_14⟩ := c.def_ 14 (d := dCheckRoad) rfl
  obtain ⟨fd_15, F_15⟩ := c.def_ 15 (d := dBordersOf) rfl
  obtain ⟨fd_16, F_16⟩ := c.def_ 16 (d := dIsStep) rfl
  obtain ⟨fd_17, F_17⟩ := c.def_ 17 (d := dCheckSteps) rfl
  obtain ⟨fd_18, F_18⟩ := c.def_ 18 (d := dOnward) rfl
  obtain ⟨fd_19, F_19⟩ := c.def_ 19 (d := dLawBag) rfl
  obtain ⟨fd_20, F_20⟩ := c.def_ 20 (d := dLawDraw) rfl
  obtain ⟨fd_21, F_21⟩ := c.def_ 21 (d := dLawPick) rfl
  obtain ⟨fd_22, F_22⟩ := c.def_ 22 (d := dLawMixed) rfl
  obtain ⟨fd_23, F_23⟩ := c.def_ 23 (d := dLawWord) rfl
  obtain ⟨fd_24, F_24⟩ := c.def_ 24 (d := dLawNames) rfl
  obtain ⟨fd_25, F_25⟩ := c.def_ 25 (d := dLawSame) rfl
  obtain ⟨fd_26, F_26⟩ := c.def_ 26 (d := dLawFour) rfl
  obtain ⟨fd_27, F_27⟩ := c.def_ 27 (d := dLawAllCells) rfl
  obtain ⟨fd_28, F_28⟩ := c.def_ 28 (d := dLawSizes) rfl
  obtain ⟨fd_29, F_29⟩ := c.def_ 29 (d := dLawSides) rfl
  obtain ⟨fd_30, F_30⟩ := c.def_ 30 (d := dLawGrown) rfl
  obtain ⟨fd_31, F_31⟩ := c.def_ 31 (d := dLawEdge) rfl
  obtain ⟨fd_32, F_32⟩ := c.def_ 32 (d := dLawMap) rfl
  obtain ⟨fd_33, F_33⟩ := c.def_ 33 (d := dLawMade) rfl
  obtain ⟨fd_34, F_34⟩ := c.def_ 34 (d := dLawNamed) rfl
  obtain ⟨fd_35, F_35⟩ := c.def_ 35 (d := dLawFronting) rfl
  obtain ⟨fd_36, F_36⟩ := c.def_ 36 (d := dLawPossible) rfl
  obtain ⟨fd_37, F_37⟩ := c.def_ 37 (d := dLawGiven) rfl
  obtain ⟨fd_38, F_38⟩ := c.def_ 38 (d := dLawWalks) rfl
  obtain ⟨fd_39, F_39⟩ := c.def_ 39 (d := dLawBest) rfl
  obtain ⟨fd_40, F_40⟩ := c.def_ 40 (d := dLaw) rfl
  obtain ⟨fd_41, F_41⟩ := c.def_ 41 (d := dPlatInit) rfl
  obtain ⟨fd_42, F_42⟩ := c.def_ 42 (d := dPlatNames) rfl
  obtain ⟨fd_43, F_43⟩ := c.def_ 43 (d := dPlatFronts) rfl
  obtain ⟨fd_44, F_44⟩ := c.def_ 44 (d := dPlatBorder) rfl
  obtain ⟨fd_45, F_45⟩ := c.def_ 45 (d := dPlatNeedParcel) rfl
  obtain ⟨fd_46, F_46⟩ := c.def_ 46 (d := dPlatContains) rfl
  obtain ⟨fd_47, F_47⟩ := c.def_ 47 (d := dWaysInit) rfl
  obtain ⟨fd_48, F_48⟩ := c.def_ 48 (d := dWaysWithSteps) rfl
  obtain ⟨fd_49, F_49⟩ := c.def_ 49 (d := dWaysComes) rfl
  obtain ⟨fd_50, F_50⟩ := c.def_ 50 (d := dWaysWay) rfl
  obtain ⟨fd_51, F_51⟩ := c.def_ 51 (d := dWaysBare) rfl
  obtain ⟨fd_52, F_52⟩ := c.def_ 52 (d := dWaysDistances) rfl
  obtain ⟨fd_53, F_53⟩ := c.def_ 53 (d := dWaysNeedParcel) rfl
  have eL := hfa.symm.trans (He.glo_ok X G (c.fact 40 (f := .glo "law") rfl))
  cases eL
  have bL := FunD.bindsA (ps := ["_law_script"]) F_40 fun _ _ _ _ _ _ us hl => match us, hl with | [_], _ => rfl
  refine ⟨fd_40, fun s v => bL s [v] rfl, fun base _ _ => ?_⟩
  have G_is_whole : Cal P w K mg base "is_whole" 1 1 (spD (caOf K) 1 C_is_whole) := ⟨_, fd_0, ["value"], fn_D (n := 1) F_0 sc_is_whole rfl (by decide) (fun cdv A outer s H E hr => w_is_whole T  cdv A outer s H E hr) c_is_whole, He.glo_ok X G (c.fact 0 (f := .glo "is_whole") rfl), F_0.kp, FunD.bindsN F_0 fun _ _ _ _ _ _ us hl => match us, hl with | [_], _ => rfl, rfl⟩
  have G_is_name : Cal P w K mg base "is_name" 1 1 (spD (caOf K) 1 C_is_name) := ⟨_, fd_2, ["value"], fn_D (n := 1) F_2 sc_is_name rfl (by decide) (fun cdv A outer s H E hr => w_is_name T  cdv A outer s H E hr) c_is_name, He.glo_ok X G (c.fact 2 (f := .glo "is_name") rfl), F_2.kp, FunD.bindsN F_2 fun _ _ _ _ _ _ us hl => match us, hl with | [_], _ => rfl, rfl⟩
  have G_is_list : Cal P w K mg base "is_list" 1 1 (spD (caOf K) 1 C_is_list) := ⟨_, fd_10, ["value"], fn_D (n := 1) F_10 sc_is_list rfl (by decide) (fun cdv A outer s H E hr => w_is_list T  cdv A outer s H E hr) c_is_list, He.glo_ok X G (c.fact 10 (f := .glo "is_list") rfl), F_10.kp, FunD.bindsN F_10 fun _ _ _ _ _ _ us hl => match us, hl with | [_], _ => rfl, rfl⟩
  have G_parcels_of : Cal P w K mg base "parcels_of" 1 1 (spD (caOf K) 1 C_parcels_of) := ⟨_, fd_12, ["rows"], fn_D (n := 1) F_12 sc_parcels_of rfl (by decide) (fun cdv A outer s H E hr => w_parcels_of T  cdv A outer s H E hr) c_parcels_of, He.glo_ok X G (c.fact 12 (f := .glo "parcels_of") rfl), F_12.kp, FunD.bindsN F_12 fun _ _ _ _ _ _ us hl => match us, hl with | [_], _ => rfl, rfl⟩
  have G_onward : Cal P w K mg base "onward" 1 2 (spD (caOf K) 2 C_onward) := ⟨_, fd_18, ["names", "steps"], fn_D (n := 2) F_18 sc_onward rfl (by decide) (fun cdv A outer s H E hr => w_onward T  cdv A outer s H E hr) c_onward, He.glo_ok X G (c.fact 18 (f := .glo "onward") rfl), F_18.kp, FunD.bindsN F_18 fun _ _ _ _ _ _ us hl => match us, hl with | [_, _], _ => rfl, rfl⟩
  have G__law_draw : Cal P w K mg base "_law_draw" 1 2 (spD (caOf K) 2 C__law_draw) := ⟨_, fd_20, ["_law_bag_here", "_law_many"], fn_draw F_20 sc__law_draw rfl (fun cdv A outer s H E hr => w__law_draw T  cdv A outer s H E hr), He.glo_ok X G (c.fact 20 (f := .glo "_law_draw") rfl), F_20.kp, FunD.bindsN F_20 fun _ _ _ _ _ _ us hl => match us, hl with | [_, _], _ => rfl, rfl⟩
  have G__law_four : Cal P w K mg base "_law_four" 1 0 (spD (caOf K) 0 C__law_four) := ⟨_, fd_26, [], fn_D (n := 0) F_26 sc__law_four rfl (by decide) (fun cdv A outer s H E hr => w__law_four T  cdv A outer s H E hr) c__law_four, He.glo_ok X G (c.fact 26 (f := .glo "_law_four") rfl), F_26.kp, FunD.bindsN F_26 fun _ _ _ _ _ _ us hl => match us, hl with | [], _ => rfl, rfl⟩
  have G__law_all_cells : Cal P w K mg base "_law_all_cells" 1 2 (spD (caOf K) 2 C__law_all_cells) := ⟨_, fd_27, ["_law_height", "_law_width"], fn_D (n := 2) F_27 sc__law_all_cells rfl (by decide) (fun cdv A outer s H E hr => w__law_all_cells T  cdv A outer s H E hr) c__law_all_cells, He.glo_ok X G (c.fact 27 (f := .glo "_law_all_cells") rfl), F_27.kp, FunD.bindsN F_27 fun _ _ _ _ _ _ us hl => match us, hl with | [_, _], _ => rfl, rfl⟩
  have G__law_edge : Cal P w K mg base "_law_edge" 1 3 (spD (caOf K) 3 C__law_edge) := ⟨_, fd_31, ["_law_height", "_law_width", "_law_cell"], fn_D (n := 3) F_31 sc__law_edge rfl (by decide) (fun cdv A outer s H E hr => w__law_edge T  cdv A outer s H E hr) c__law_edge, He.glo_ok X G (c.fact 31 (f := .glo "_law_edge") rfl), F_31.kp, FunD.bindsN F_31 fun _ _ _ _ _ _ us hl => match us, hl with | [_, _, _], _ => rfl, rfl⟩
  have G__law_named : Cal P w K mg base "_law_named" 1 1 (spD (caOf K) 1 C__law_named) := ⟨_, fd_34, ["_law_rows"], fn_D (n := 1) F_34 sc__law_named rfl (by decide) (fun cdv A outer s H E hr => w__law_named T  cdv A outer s H E hr) c__law_named, He.glo_ok X G (c.fact 34 (f := .glo "_law_named") rfl), F_34.kp, FunD.bindsN F_34 fun _ _ _ _ _ _ us hl => match us, hl with | [_], _ => rfl, rfl⟩
  have G__law_fronting : Cal P w K mg base "_law_fronting" 1 2 (spD (caOf K) 2 C__law_fronting) := ⟨_, fd_35, ["_law_rows", "_law_road"], fn_D (n := 2) F_35 sc__law_fronting rfl (by decide) (fun cdv A outer s H E hr => w__law_fronting T  cdv A outer s H E hr) c__law_fronting, He.glo_ok X G (c.fact 35 (f := .glo "_law_fronting") rfl), F_35.kp, FunD.bindsN F_35 fun _ _ _ _ _ _ us hl => match us, hl with | [_, _], _ => rfl, rfl⟩
  have G__law_walks : Cal P w K mg base "_law_walks" 1 4 (spD (caOf K) 4 C__law_walks) := ⟨_, fd_38, ["_law_name", "_law_names_here", "_law_steps", "_law_front"], fn_D (n := 4) F_38 sc__law_walks rfl (by decide) (fun cdv A outer s H E hr => w__law_walks T  cdv A outer s H E hr) c__law_walks, He.glo_ok X G (c.fact 38 (f := .glo "_law_walks") rfl), F_38.kp, FunD.bindsN F_38 fun _ _ _ _ _ _ us hl => match us, hl with | [_, _, _, _], _ => rfl, rfl⟩
  have G__law_best : Cal P w K mg base "_law_best" 1 1 (spD (caOf K) 1 C__law_best) := ⟨_, fd_39, ["_law_walks_here"], fn_D (n := 1) F_39 sc__law_best rfl (by decide) (fun cdv A outer s H E hr => w__law_best T  cdv A outer s H E hr) c__law_best, He.glo_ok X G (c.fact 39 (f := .glo "_law_best") rfl), F_39.kp, FunD.bindsN F_39 fun _ _ _ _ _ _ us hl => match us, hl with | [_], _ => rfl, rfl⟩
  have G_Plat_names : Met P w K mg base (caOf K 0) "names" 1 1 (spD (caOf K) 1 C_Plat_names) := ⟨_, fd_42, ["self"], fn_D (n := 1) F_42 sc_Plat_names rfl (by decide) (fun cdv A outer s H E hr => w_Plat_names T  cdv A outer s H E hr) c_Plat_names, He.meth_ok (c.fact 75 (f := .meth "Plat" "names") rfl), FunD.bindsN F_42 fun _ _ _ _ _ _ us hl => match us, hl with | [_], _ => rfl, rfl⟩
  have G_Plat_need_parcel : Met P w K mg base (caOf K 0) "need_parcel" 1 2 (spD (caOf K) 2 C_Plat_need_parcel) := ⟨_, fd_45, ["self", "name"], fn_D (n := 2) F_45 sc_Plat_need_parcel rfl (by decide) (fun cdv A outer s H E hr => w_Plat_need_parcel T  cdv A outer s H E hr) c_Plat_need_parcel, He.meth_ok (c.fact 78 (f := .meth "Plat" "need_parcel") rfl), FunD.bindsN F_45 fun _ _ _ _ _ _ us hl => match us, hl with | [_, _], _ => rfl, rfl⟩
  have G_Plat___contains__ : Met P w K mg base (caOf K 0) "__contains__" 1 2 (spD (caOf K) 2 C_Plat___contains__) := ⟨_, fd_46, ["self", "name"], fn_D (n := 2) F_46 sc_Plat___contains__ rfl (by decide) (fun cdv A outer s H E hr => w_Plat___contains__ T  cdv A outer s H E hr) c_Plat___contains__, He.meth_ok (c.fact 79 (f := .meth "Plat" "__contains__") rfl), FunD.bindsN F_46 fun _ _ _ _ _ _ us hl => match us, hl with | [_, _], _ => rfl, rfl⟩
  have G_Ways_distances : Met P w K mg base (caOf K 1) "distances" 1 2 (spD (caOf K) 2 C_Ways_distances) := ⟨_, fd_52, ["self", "without"], fn_D (n := 2) F_52 sc_Ways_distances rfl (by decide) (fun cdv A outer s H E hr => w_Ways_distances T  cdv A outer s H E hr) c_Ways_distances, He.meth_ok (c.fact 92 (f := .meth "Ways" "distances") rfl), FunD.bindsN F_52 fun _ _ _ _ _ _ us hl => match us, hl with | [_, _], _ => rfl, rfl⟩
  have G_is_number : Cal P w K mg base "is_number" 2 3 (spD (caOf K) 3 C_is_number) := ⟨_, fd_1, ["value", "least", "most"], fn_D (n := 3) F_1 sc_is_number rfl (by decide) (fun cdv A outer s H E hr => w_is_number T G_is_whole cdv A outer s H E hr) c_is_number, He.glo_ok X G (c.fact 1 (f := .glo "is_number") rfl), F_1.kp, FunD.bindsN F_1 fun _ _ _ _ _ _ us hl => match us, hl with | [_, _, _], _ => rfl, rfl⟩
  have G_check_rows : Cal P w K mg base "check_rows" 2 1 (spD (caOf K) 1 C_check_rows) := ⟨_, fd_11, ["rows"], fn_D (n := 1) F_11 sc_check_rows rfl (by decide) (fun cdv A outer s H E hr => w_check_rows T G_is_list G_is_name cdv A outer s H E hr) c_check_rows, He.glo_ok X G (c.fact 11 (f := .glo "check_rows") rfl), F_11.kp, FunD.bindsN F_11 fun _ _ _ _ _ _ us hl => match us, hl with | [_], _ => rfl, rfl⟩
  have G__law_pick : Cal P w K mg base "_law_pick" 2 2 (spD (caOf K) 2 C__law_pick) := ⟨_, fd_21, ["_law_bag_here", "_law_some"], fn_D (n := 2) F_21 sc__law_pick rfl (by decide) (fun cdv A outer s H E hr => w__law_pick T G__law_draw cdv A outer s H E hr) c__law_pick, He.glo_ok X G (c.fact 21 (f := .glo "_law_pick") rfl), F_21.kp, FunD.bindsN F_21 fun _ _ _ _ _ _ us hl => match us, hl with | [_, _], _ => rfl, rfl⟩
  have G__law_mixed : Cal P w K mg base "_law_mixed" 2 2 (spD (caOf K) 2 C__law_mixed) := ⟨_, fd_22, ["_law_bag_here", "_law_some"], fn_D (n := 2) F_22 sc__law_mixed rfl (by decide) (fun cdv A outer s H E hr => w__law_mixed T G__law_draw cdv A outer s H E hr) c__law_mixed, He.glo_ok X G (c.fact 22 (f := .glo "_law_mixed") rfl), F_22.kp, FunD.bindsN F_22 fun _ _ _ _ _ _ us hl => match us, hl with | [_, _], _ => rfl, rfl⟩
  have G__law_sides : Cal P w K mg base "_law_sides" 2 3 (spD (caOf K) 3 C__law_sides) := ⟨_, fd_29, ["_law_height", "_law_width", "_law_cell"], fn_D (n := 3) F_29 sc__law_sides rfl (by decide) (fun cdv A outer s H E hr => w__law_sides T G__law_four cdv A outer s H E hr) c__law_sides, He.glo_ok X G (c.fact 29 (f := .glo "_law_sides") rfl), F_29.kp, FunD.bindsN F_29 fun _ _ _ _ _ _ us hl => match us, hl with | [_, _, _], _ => rfl, rfl⟩
  have G_Plat_fronts : Met P w K mg base (caOf K 0) "fronts" 2 2 (spD (caOf K) 2 C_Plat_fronts) := ⟨_, fd_43, ["self", "name"], fn_D (n := 2) F_43 sc_Plat_fronts rfl (by decide) (fun cdv A outer s H E hr => w_Plat_fronts T G_Plat_need_parcel cdv A outer s H E hr) c_Plat_fronts, He.meth_ok (c.fact 76 (f := .meth "Plat" "fronts") rfl), FunD.bindsN F_43 fun _ _ _ _ _ _ us hl => match us, hl with | [_, _], _ => rfl, rfl⟩
  have G_Plat_border : Met P w K mg base (caOf K 0) "border" 2 3 (spD (caOf K) 3 C_Plat_border) := ⟨_, fd_44, ["self", "first", "second"], fn_D (n := 3) F_44 sc_Plat_border rfl (by decide) (fun cdv A outer s H E hr => w_Plat_border T G_Plat_need_parcel cdv A outer s H E hr) c_Plat_border, He.meth_ok (c.fact 77 (f := .meth "Plat" "border") rfl), FunD.bindsN F_44 fun _ _ _ _ _ _ us hl => match us, hl with | [_, _, _], _ => rfl, rfl⟩
  have G_Ways_bare : Met P w K mg base (caOf K 1) "bare" 2 1 (spD (caOf K) 1 C_Ways_bare) := ⟨_, fd_51, ["self"], fn_D (n := 1) F_51 sc_Ways_bare rfl (by decide) (fun cdv A outer s H E hr => w_Ways_bare T G_Ways_distances cdv A outer s H E hr) c_Ways_bare, He.meth_ok (c.fact 91 (f := .meth "Ways" "bare") rfl), FunD.bindsN F_51 fun _ _ _ _ _ _ us hl => match us, hl with | [_], _ => rfl, rfl⟩
  have G_Ways_need_parcel : Met P w K mg base (caOf K 1) "need_parcel" 2 2 (spD (caOf K) 2 C_Ways_need_parcel) := ⟨_, fd_53, ["self", "name"], fn_D (n := 2) F_53 sc_Ways_need_parcel rfl (by decide) (fun cdv A outer s H E hr => w_Ways_need_parcel T G_Plat___contains__ cdv A outer s H E hr) c_Ways_need_parcel, He.meth_ok (c.fact 93 (f := .meth "Ways" "need_parcel") rfl), FunD.bindsN F_53 fun _ _ _ _ _ _ us hl => match us, hl with | [_, _], _ => rfl, rfl⟩
  have G_is_cell : Cal P w K mg base "is_cell" 3 1 (spD (caOf K) 1 C_is_cell) := ⟨_, fd_3, ["value"], fn_D (n := 1) F_3 sc_is_cell rfl (by decide) (fun cdv A outer s H E hr => w_is_cell T G_is_number cdv A outer s H E hr) c_is_cell, He.glo_ok X G (c.fact 3 (f := .glo "is_cell") rfl), F_3.kp, FunD.bindsN F_3 fun _ _ _ _ _ _ us hl => match us, hl with | [_], _ => rfl, rfl⟩
  have G_is_step : Cal P w K mg base "is_step" 3 2 (spD (caOf K) 2 C_is_step) := ⟨_, fd_16, ["plat", "value"], fn_D (n := 2) F_16 sc_is_step rfl (by decide) (fun cdv A outer s H E hr => w_is_step T G_Plat___contains__ G_Plat_border cdv A outer s H E hr) c_is_step, He.glo_ok X G (c.fact 16 (f := .glo "is_step") rfl), F_16.kp, FunD.bindsN F_16 fun _ _ _ _ _ _ us hl => match us, hl with | [_, _], _ => rfl, rfl⟩
  have G__law_word : Cal P w K mg base "_law_word" 3 2 (spD (caOf K) 2 C__law_word) := ⟨_, fd_23, ["_law_bag_here", "_law_most"], fn_D (n := 2) F_23 sc__law_word rfl (by decide) (fun cdv A outer s H E hr => w__law_word T G__law_draw G__law_pick cdv A outer s H E hr) c__law_word, He.glo_ok X G (c.fact 23 (f := .glo "_law_word") rfl), F_23.kp, FunD.bindsN F_23 fun _ _ _ _ _ _ us hl => match us, hl with | [_, _], _ => rfl, rfl⟩
  have G__law_sizes : Cal P w K mg base "_law_sizes" 3 1 (spD (caOf K) 1 C__law_sizes) := ⟨_, fd_28, ["_law_bag_here"], fn_D (n := 1) F_28 sc__law_sizes rfl (by decide) (fun cdv A outer s H E hr => w__law_sizes T G__law_draw G__law_pick cdv A outer s H E hr) c__law_sizes, He.glo_ok X G (c.fact 28 (f := .glo "_law_sizes") rfl), F_28.kp, FunD.bindsN F_28 fun _ _ _ _ _ _ us hl => match us, hl with | [_], _ => rfl, rfl⟩
  have G__law_grown : Cal P w K mg base "_law_grown" 3 4 (spD (caOf K) 4 C__law_grown) := ⟨_, fd_30, ["_law_bag_here", "_law_height", "_law_width", "_law_names_here"], fn_D (n := 4) F_30 sc__law_grown rfl (by decide) (fun cdv A outer s H E hr => w__law_grown T G__law_all_cells G__law_draw G__law_sides G__law_pick cdv A outer s H E hr) c__law_grown, He.glo_ok X G (c.fact 30 (f := .glo "_law_grown") rfl), F_30.kp, FunD.bindsN F_30 fun _ _ _ _ _ _ us hl => match us, hl with | [_, _, _, _], _ => rfl, rfl⟩
  have G__law_possible : Cal P w K mg base "_law_possible" 3 1 (spD (caOf K) 1 C__law_possible) := ⟨_, fd_36, ["_law_rows"], fn_D (n := 1) F_36 sc__law_possible rfl (by decide) (fun cdv A outer s H E hr => w__law_possible T G__law_all_cells G__law_sides cdv A outer s H E hr) c__law_possible, He.glo_ok X G (c.fact 36 (f := .glo "_law_possible") rfl), F_36.kp, FunD.bindsN F_36 fun _ _ _ _ _ _ us hl => match us, hl with | [_], _ => rfl, rfl⟩
  have G_Ways_comes : Met P w K mg base (caOf K 1) "comes" 3 2 (spD (caOf K) 2 C_Ways_comes) := ⟨_, fd_49, ["self", "name"], fn_D (n := 2) F_49 sc_Ways_comes rfl (by decide) (fun cdv A outer s H E hr => w_Ways_comes T G_Ways_need_parcel G_Ways_distances cdv A outer s H E hr) c_Ways_comes, He.meth_ok (c.fact 89 (f := .meth "Ways" "comes") rfl), FunD.bindsN F_49 fun _ _ _ _ _ _ us hl => match us, hl with | [_, _], _ => rfl, rfl⟩
  have fo_Ways_way := fn_M (P := P) (w := w) (mg := mg) (base := base) (n := 2) F_50 sc_Ways_way rfl (by decide) (fun cdv A outer s H E hr => w_Ways_way T G_Ways_need_parcel G_Ways_distances cdv A outer s H E hr) c_Ways_way
  have G_Ways_way : Met P w K mg base (caOf K 1) "way" 3 2 (spM (caOf K) 2 C_Ways_way) := ⟨_, fd_50, ["self", "name"], fo_Ways_way, He.meth_ok (c.fact 90 (f := .meth "Ways" "way") rfl), FunD.bindsN F_50 fun _ _ _ _ _ _ us hl => match us, hl with | [_, _], _ => rfl, rfl⟩
  have kw : KBinds K fd_50 ["self", "name"] ["name"] kg kg := by
    refine ⟨fun s us ws _ l => ?_, kg_rel⟩
    obtain ⟨oc, od, dV, kV, doc, pm, an, cdv, ct, osl, rfl, lk, hcd, hD, hK⟩ := F_50.ex
    rcases hD with ⟨_, rfl⟩ | ⟨e, _⟩
    · match us, ws, l with
      | [_], [_], _ => exact .of_eq rfl
    · exact absurd rfl e
  have K_Ways_way : MetKW P w K mg base (caOf K 1) "way" "name" 3 2 (spM (caOf K) 2 C_Ways_way) := ⟨_, fd_50, ["self", "name"], fo_Ways_way, He.meth_ok (c.fact 90 (f := .meth "Ways" "way") rfl), kw, rfl⟩
  have G_beside : Cal P w K mg base "beside" 4 1 (spD (caOf K) 1 C_beside) := ⟨_, fd_4, ["cell"], fn_D (n := 1) F_4 sc_beside rfl (by decide) (fun cdv A outer s H E hr => w_beside T G_is_cell cdv A outer s H E hr) c_beside, He.glo_ok X G (c.fact 4 (f := .glo "beside") rfl), F_4.kp, FunD.bindsN F_4 fun _ _ _ _ _ _ us hl => match us, hl with | [_], _ => rfl, rfl⟩
  have G_check_cells : Cal P w K mg base "check_cells" 4 1 (spD (caOf K) 1 C_check_cells) := ⟨_, fd_5, ["cells"], fn_D (n := 1) F_5 sc_check_cells rfl (by decide) (fun cdv A outer s H E hr => w_check_cells T G_is_cell cdv A outer s H E hr) c_check_cells, He.glo_ok X G (c.fact 5 (f := .glo "check_cells") rfl), F_5.kp, FunD.bindsN F_5 fun _ _ _ _ _ _ us hl => match us, hl with | [_], _ => rfl, rfl⟩
  have G_is_edge : Cal P w K mg base "is_edge" 4 3 (spD (caOf K) 3 C_is_edge) := ⟨_, fd_13, ["cell", "height", "width"], fn_D (n := 3) F_13 sc_is_edge rfl (by decide) (fun cdv A outer s H E hr => w_is_edge T G_is_cell cdv A outer s H E hr) c_is_edge, He.glo_ok X G (c.fact 13 (f := .glo "is_edge") rfl), F_13.kp, FunD.bindsN F_13 fun _ _ _ _ _ _ us hl => match us, hl with | [_, _, _], _ => rfl, rfl⟩
  have G_check_steps : Cal P w K mg base "check_steps" 4 2 (spD (caOf K) 2 C_check_steps) := ⟨_, fd_17, ["plat", "steps"], fn_D (n := 2) F_17 sc_check_steps rfl (by decide) (fun cdv A outer s H E hr => w_check_steps T G_is_list G_is_step cdv A outer s H E hr) c_check_steps, He.glo_ok X G (c.fact 17 (f := .glo "check_steps") rfl), F_17.kp, FunD.bindsN F_17 fun _ _ _ _ _ _ us hl => match us, hl with | [_, _], _ => rfl, rfl⟩
  have G__law_names : Cal P w K mg base "_law_names" 4 2 (spD (caOf K) 2 C__law_names) := ⟨_, fd_24, ["_law_bag_here", "_law_many"], fn_D (n := 2) F_24 sc__law_names rfl (by decide) (fun cdv A outer s H E hr => w__law_names T G__law_word G__law_draw G__law_pick cdv A outer s H E hr) c__law_names, He.glo_ok X G (c.fact 24 (f := .glo "_law_names") rfl), F_24.kp, FunD.bindsN F_24 fun _ _ _ _ _ _ us hl => match us, hl with | [_, _], _ => rfl, rfl⟩
  have G__law_given : Cal P w K mg base "_law_given" 4 2 (spD (caOf K) 2 C__law_given) := ⟨_, fd_37, ["_law_bag_here", "_law_rows"], fn_D (n := 2) F_37 sc__law_given rfl (by decide) (fun cdv A outer s H E hr => w__law_given T G__law_pick G__law_possible G__law_draw G__law_mixed cdv A outer s H E hr) c__law_given, He.glo_ok X G (c.fact 37 (f := .glo "_law_given") rfl), F_37.kp, FunD.bindsN F_37 fun _ _ _ _ _ _ us hl => match us, hl with | [_, _], _ => rfl, rfl⟩
  have G_group_of : Cal P w K mg base "group_of" 5 3 (spD (caOf K) 3 C_group_of) := ⟨_, fd_6, ["start", "known", "by_points"], fn_D (n := 3) F_6 sc_group_of rfl (by decide) (fun cdv A outer s H E hr => w_group_of T G_beside cdv A outer s H E hr) c_group_of, He.glo_ok X G (c.fact 6 (f := .glo "group_of") rfl), F_6.kp, FunD.bindsN F_6 fun _ _ _ _ _ _ us hl => match us, hl with | [_, _, _], _ => rfl, rfl⟩
  have G_check_road : Cal P w K mg base "check_road" 5 3 (spD (caOf K) 3 C_check_road) := ⟨_, fd_14, ["road", "height", "width"], fn_D (n := 3) F_14 sc_check_road rfl (by decide) (fun cdv A outer s H E hr => w_check_road T G_is_list G_is_edge cdv A outer s H E hr) c_check_road, He.glo_ok X G (c.fact 14 (f := .glo "check_road") rfl), F_14.kp, FunD.bindsN F_14 fun _ _ _ _ _ _ us hl => match us, hl with | [_, _, _], _ => rfl, rfl⟩
  have G_borders_of : Cal P w K mg base "borders_of" 5 1 (spD (caOf K) 1 C_borders_of) := ⟨_, fd_15, ["rows"], fn_D (n := 1) F_15 sc_borders_of rfl (by decide) (fun cdv A outer s H E hr => w_borders_of T G_beside cdv A outer s H E hr) c_borders_of, He.glo_ok X G (c.fact 15 (f := .glo "borders_of") rfl), F_15.kp, FunD.bindsN F_15 fun _ _ _ _ _ _ us hl => match us, hl with | [_], _ => rfl, rfl⟩
  have G__law_map : Cal P w K mg base "_law_map" 5 2 (spD (caOf K) 2 C__law_map) := ⟨_, fd_32, ["_law_bag_here", "_law_most"], fn_D (n := 2) F_32 sc__law_map rfl (by decide) (fun cdv A outer s H E hr => w__law_map T G__law_sizes G__law_grown G__law_names G__law_draw G__law_all_cells G__law_edge cdv A outer s H E hr) c__law_map, He.glo_ok X G (c.fact 32 (f := .glo "_law_map") rfl), F_32.kp, FunD.bindsN F_32 fun _ _ _ _ _ _ us hl => match us, hl with | [_, _], _ => rfl, rfl⟩
  have G_Ways___init__ : Mak P w K mg base (caOf K) "Ways" 1 5 3 C_Ways___init__ := ⟨_, fd_47, ["self", "plat", "steps"], fn_I (c := 1) (n := 3) F_47 sc_Ways___init__ rfl (by decide) (fun cdv A outer s H E hr => w_Ways___init__ T G_check_steps G_onward G_Plat_names G_Plat_fronts cdv A outer s H E hr) c_Ways___init__, He.mkr_ok (c.fact 82 (f := .mkr "Ways") rfl), He.glo_ok X G (c.fact 80 (f := .glo "Ways") rfl), FunD.bindsN F_47 fun _ _ _ _ _ _ us hl => match us, hl with | [_, _, _], _ => rfl, rfl⟩
  have G_groups : Cal P w K mg base "groups" 6 2 (spD (caOf K) 2 C_groups) := ⟨_, fd_7, ["cells", "by_points"], fn_D (n := 2) F_7 sc_groups rfl (by decide) (fun cdv A outer s H E hr => w_groups T G_group_of cdv A outer s H E hr) c_groups, He.glo_ok X G (c.fact 7 (f := .glo "groups") rfl), F_7.kp, FunD.bindsN F_7 fun _ _ _ _ _ _ us hl => match us, hl with | [_, _], _ => rfl, rfl⟩
  have mS := He.glo_ok X G (c.fact 25 (f := .glo "_law_same") rfl)
  have bS : Binds K fd_25 ["_law_found", "_law_due"] [] := FunD.bindsN F_25 fun _ _ _ _ _ _ us hl => match us, hl with | [_, _], _ => rfl
  have S0 : Cal P w K mg base "_law_same" 1 2 (spD (caOf K) 2 fun _ _ => False) := ⟨_, fd_25, ["_law_found", "_law_due"], never_ok, mS, F_25.kp, bS, rfl⟩
  have S1 : Cal P w K mg base "_law_same" 2 2 (spD (caOf K) 2 (C_sameN 0)) := ⟨_, fd_25, ["_law_found", "_law_due"], fn_D (n := 2) F_25 sc__law_same rfl (by decide) (fun cdv A outer s H E hr => w__law_same T S0 cdv A outer s H E hr) same_leaf, mS, F_25.kp, bS, rfl⟩
  have S2 : Cal P w K mg base "_law_same" 3 2 (spD (caOf K) 2 (C_sameN 1)) := ⟨_, fd_25, ["_law_found", "_law_due"], fn_D (n := 2) F_25 sc__law_same rfl (by decide) (fun cdv A outer s H E hr => w__law_same T S1 cdv A outer s H E hr) (c_same1 0), mS, F_25.kp, bS, rfl⟩
  have S3 : Cal P w K mg base "_law_same" 4 2 (spD (caOf K) 2 (C_sameN 2)) := ⟨_, fd_25, ["_law_found", "_law_due"], fn_D (n := 2) F_25 sc__law_same rfl (by decide) (fun cdv A outer s H E hr => w__law_same T S2 cdv A outer s H E hr) (c_same1 1), mS, F_25.kp, bS, rfl⟩
  have S4 : Cal P w K mg base "_law_same" 5 2 (spD (caOf K) 2 (C_sameN 3)) := ⟨_, fd_25, ["_law_found", "_law_due"], fn_D (n := 2) F_25 sc__law_same rfl (by decide) (fun cdv A outer s H E hr => w__law_same T S3 cdv A outer s H E hr) (c_same1 2), mS, F_25.kp, bS, rfl⟩
  have S5 : Cal P w K mg base "_law_same" 6 2 (spD (caOf K) 2 (C_sameN 4)) := ⟨_, fd_25, ["_law_found", "_law_due"], fn_D (n := 2) F_25 sc__law_same rfl (by decide) (fun cdv A outer s H E hr => w__law_same T S4 cdv A outer s H E hr) (c_same1 3), mS, F_25.kp, bS, rfl⟩
  have G__law_same : Cal P w K mg base "_law_same" 6 2 (spD (caOf K) 2 C__law_same) := S5
  have G_pieces : Cal P w K mg base "pieces" 7 1 (spD (caOf K) 1 C_pieces) := ⟨_, fd_9, ["cells"], fn_D (n := 1) F_9 sc_pieces rfl (by decide) (fun cdv A outer s H E hr => w_pieces T G_check_cells G_groups cdv A outer s H E hr) c_pieces, He.glo_ok X G (c.fact 9 (f := .glo "pieces") rfl), F_9.kp, FunD.bindsN F_9 fun _ _ _ _ _ _ us hl => match us, hl with | [_], _ => rfl, rfl⟩
  have G_Ways_with_steps : MetR P w K mg base (caOf K 1) "with_steps" 7 (spR (caOf K) C_Ways_with_steps) := ⟨_, fn_starD F_48 sc_Ways_with_steps (by decide) (fun _ _ _ _ _ _ _ => rfl) (fun _ _ _ _ _ _ _ _ _ => rfl) (fun cdv A outer s H E hr => w_Ways_with_steps T G_check_steps G_Ways___init__ cdv A outer s H E hr) c_Ways_with_steps, He.meth_ok (c.fact 88 (f := .meth "Ways" "with_steps") rfl)⟩
  have G_hangs_together : Cal P w K mg base "hangs_together" 8 1 (spD (caOf K) 1 C_hangs_together) := ⟨_, fd_8, ["cells"], fn_D (n := 1) F_8 sc_hangs_together rfl (by decide) (fun cdv A outer s H E hr => w_hangs_together T G_pieces cdv A outer s H E hr) c_hangs_together, He.glo_ok X G (c.fact 8 (f := .glo "hangs_together") rfl), F_8.kp, FunD.bindsN F_8 fun _ _ _ _ _ _ us hl => match us, hl with | [_], _ => rfl, rfl⟩
  have kb : KBn K fd_41 ["self", "rows", "road"] 2 ["road"] (fun us ws => us ++ ws) (fun vs zs => vs ++ zs) := by
    refine ⟨fun s us ws _ l1 l2 => ?_, fun r1 r2 => r1.append r2⟩
    obtain ⟨oc, od, dV, kV, doc, pm, an, cdv, ct, osl, rfl, lk, hcd, hD, hK⟩ := F_41.ex
    rcases hD with ⟨_, rfl⟩ | ⟨e, _⟩
    · match us, ws, l1, l2 with
      | [_, _], [_], _, _ => exact .of_eq rfl
    · exact absurd rfl e
  have G_Plat___init__ : MakK P w K mg base (caOf K) "Plat" 0 9 3 1 ["road"] C_Plat___init__ := ⟨_, fd_41, ["self", "rows", "road"], _, fn_I (c := 0) (n := 3) F_41 sc_Plat___init__ rfl (by decide) (fun cdv A outer s H E hr => w_Plat___init__ T G_check_rows G_parcels_of G_hangs_together G_check_road G_borders_of cdv A outer s H E hr) c_Plat___init__, He.mkr_ok (c.fact 66 (f := .mkr "Plat") rfl), He.glo_ok X G (c.fact 64 (f := .glo "Plat") rfl), kb, rfl⟩
  have G__law_made : Cal P w K mg base "_law_made" 11 2 (spD (caOf K) 2 C__law_made) := ⟨_, fd_33, ["_law_rows", "_law_road"], fn_D (n := 2) F_33 sc__law_made rfl (by decide) (fun cdv A outer s H E hr => w__law_made T G_Plat___init__ cdv A outer s H E hr) c__law_made, He.glo_ok X G (c.fact 33 (f := .glo "_law_made") rfl), F_33.kp, FunD.bindsN F_33 fun _ _ _ _ _ _ us hl => match us, hl with | [_, _], _ => rfl, rfl⟩
  exact fn_law T F_40 (fn_bag T F_19) (He.glo_ok X G (c.fact 19 (f := .glo "_law_bag") rfl)) F_19.kp (FunD.bindsN F_19 fun _ _ _ _ _ _ us hl => match us, hl with | [_], _ => rfl) G__law_map G__law_fronting G__law_given G__law_named G__law_made G_Ways___init__ G__law_walks K_Ways_way G_Ways_way G__law_same G__law_best G_Ways_comes G__law_possible G_Ways_bare G__law_pick G_Ways_with_steps
end Dk
end

set_option Elab.async false
set_option linter.all false
set_option maxRecDepth 100000
set_option maxHeartbeats 0
open PySem PySem.W PySem.Calls PyProof.Rows
theorem PySem.Challenge.cw_deedranks_k14_whole_ways_walked_holds : PySem.Challenge.rw_deedranks_k14_whole_ways_walked.Holds := by
  w_on; o_law
  refine HandSHeadRun.head_any (r := OpenLaw.row PySem.Challenge.rw_deedranks_k14_whole_ways_walked) (q := view (OpenLaw.row PySem.Challenge.rw_deedranks_k14_whole_ways_walked).prog [64]) (H := Dk.hk) (ob := Dk.ob) (M := 6000) (loose := Dk.loose) (d := HandSHeadRun.topDef (OpenLaw.row PySem.Challenge.rw_deedranks_k14_whole_ways_walked).prog 64) (kwd := []) Dk.ob_eq
    (by kernel_rfl) (fun s => by kernel_rfl) Dk.run (by kernel_rfl) (by kernel_rfl) (by kernel_rfl) (by rfl) (by first | assumption | decide +kernel) (by decide +kernel) ⟨rfl, rfl, rfl, rfl, rfl, by decide +kernel⟩ ?hw ?hc
  case hw => w_witness2
  case hc =>
    refine L2.walk_ofE (l := PySem.Challenge.rw_deedranks_k14_whole_ways_walked) (n := 63) (k := 12) (x := "_law_script") (CX := L2.CX0) rfl (by decide) (by kernel_rfl) ⟨rfl, by decide, by decide⟩ ?F (fun _ _ _ _ z => z)
    intro w mg fa h Y G hmg0
    obtain ⟨K, KX, c⟩ := Y
    have hmg : mg ("law" : PySem.Str) = some (.ref fa) := by
      have e : (HandSHeadRun.topDef (OpenLaw.row PySem.Challenge.rw_deedranks_k14_whole_ways_walked).prog 64).name = ("law" : PySem.Str) := by kernel_rfl
      rw [← e]
      exact hmg0
    obtain ⟨fd, hb, hF⟩ := Dk.facts (P := (PySem.Challenge.rw_deedranks_k14_whole_ways_walked).prog) (w := w) KX G hmg c
    exact ⟨K, fd, Dk.spLaw K, KX, hb, fun H a ns hl _ hS => ⟨a, ns, rfl, hS, hl, fun _ => rfl⟩, hF⟩
