import PyProof.Rows.All
import Wide.All
import OpenK.AllK
import Wide.FinOn
import HandS.HeadHook4
import HandS.Head2
import HandS.Base
import HandS.Call
import HandS.List
import HandS.Comp
import HandS.Exc
import HandS.Words
import HandS.Lambda
import KE.KeyNested
import KE.KDictDisplayH
import HandS.Defaults
import HandS.ExcOwn
import HandS.CallSlots
import HandS.Iter
import HandS.IsInst
import HandS.Wide
import HandS.Style
import HandS.NoneIn
import HandS.TupAny
import KE.GoesEnumKw
import KE.GoesMore
import HandS.Zip
import HandS.SortKw
import HandS.Text
import HandS.WordsExc
import HandS.EndTab
import HandS.HeadWalk
import HandS.ExcInit
import HandS.ExcField
import HandS.ExcIs
import HandS.Deep
import KE.KSortKeySt
import HandS.Nested
import KE.SortData
import KE.DataMinMax
import HandS.Small
import HandS.More
import HandS.WordsDict
import HandS.RevRange
import KE.KMinKey
import PyProof.InstNe
import HandS.OwnEq
import HandS.DictComp
import HandS.Rev
import HandS.Remove
import HandS.Flow
import PyProof.DictUpdate
import HandS.FStr
import PyProof.WalkInts
import KE.IntTextLaws
import PySem.Challenge.RW_farmesh_k48_distances_told
set_option Elab.async false
set_option linter.all false
set_option maxRecDepth 100000
set_option maxHeartbeats 3900000
namespace Hk
open PySem PySem.Spec PyProof.Rows L2 He
/-! ### what the top's names lead to: defs with code and defaults, classes with dict, methods -/
def outs : Option Obj → List Addr
  | some ⟨_, _, .func fd, _⟩ => refV fd.code ++ (refV fd.defaults ++ refV fd.kwdefaults)
  | some ⟨_, _, .cls cd, _⟩ => cd.ns :: cd.mro.flatMap refV
  | _ => []
def vals : Option Obj → List Addr
  | some ⟨_, _, .dict es _, _⟩ => es.toList.flatMap fun e => refV e.val
  | _ => []
def one (g : Addr → Option Obj) : List Addr := vals (g mainGlobals)
def two (g : Addr → Option Obj) : List Addr := (one g).flatMap fun a => outs (g a)
def three (g : Addr → Option Obj) : List Addr := (two g).flatMap fun a => vals (g a)
def four (g : Addr → Option Obj) : List Addr := (three g).flatMap fun a => outs (g a)
def names (g : Addr → Option Obj) : List Addr := mainGlobals :: (one g ++ (two g ++ (three g ++ four g)))
abbrev frag (g : Addr → Option Obj) : PySem.W.Frag := frT g (names g)
def look (fa : List Fa) (fn : List DefD) (tf : List Defn) (ex : PySem.W.Frag → Bool) (g : Addr → Option Obj) : AlX :=
  ((obsD fa fn (frag g), []), ex (frag g) && tabsB g tf (frag g))
theorem said {fa : List Fa} {fn : List DefD} {tf : List Defn} {ex : PySem.W.Frag → Bool} {w : World} {h : Heap} (e : look fa fn tf ex h.get? = valX fn [] w) : SaysX fa fn [] tf ex w h (frag h.get?) := by
  have e1 : (obsD fa fn (frag h.get?), ([] : List (Option (List (Option (Str × Int)))))) = (valD fn, []) := (Prod.mk.inj e).1
  obtain ⟨h1, h2⟩ := ba (Prod.mk.inj e).2
  have each : ∀ p ∈ tf, PySem.W.codeHdIn (frag h.get?) (cT (frag h.get?) p).1 (cT (frag h.get?) p).2 = true ∧ ∃ o, h.get? (cT (frag h.get?) p).2 = some o ∧ emptyTab o = true := by
    intro p hp
    have both := ba (List.all_eq_true.mp h2 p hp)
    obtain ⟨h3, h4⟩ := both
    revert h4
    cases q : h.get? (cT (frag h.get?) p).2 with
    | none => exact fun h4 => by cases h4
    | some o => exact fun h4 => ⟨h3, o, rfl, h4⟩
  refine ⟨e1, h1, fun p hp => (each p hp).1, fun p hp => ?_, fun p hp => ?_⟩
  · obtain ⟨_, o, q, z⟩ := each p hp
    exact frT_none q z
  · obtain ⟨_, o, q, z⟩ := each p hp
    rw [q, emptyTab_eq z]
def hook (fa : List Fa) (fn : List DefD) (tf : List Defn) (ex : PySem.W.Frag → Bool) : PySem.W.Hook where
  α := AlX
  obs := fun s => look fa fn tf ex s.heap.get?
  val := fun w => valX fn [] w
  says := fun w h => ∃ K : PySem.W.Frag, K.In h ∧ SaysX fa fn [] tf ex w h K
  of := fun _ _ e => ⟨_, frT_in, said e⟩
  keeps := fun _ _ _ ⟨K, i, c⟩ k => ⟨K, PySem.W.Frag.In.keeps i k, ⟨c.t, c.more, c.hd, c.out, fun p hp => k _ _ (c.empty p hp)⟩⟩
theorem look_eq {fa : List Fa} {fn : List DefD} {tf : List Defn} {ex : PySem.W.Frag → Bool} (s : PySem.W.SharedT) : look fa fn tf ex (HandSHeadRun.getT s) = (hook fa fn tf ex).obs s.abs := by
  have e : HandSHeadRun.getT s = s.abs.heap.get? := funext (HandSHeadRun.getT_eq s)
  show look fa fn tf ex (HandSHeadRun.getT s) = look fa fn tf ex s.abs.heap.get?
  rw [e]
end Hk

namespace Fm
open L2 PySem PySem.Spec PyProof.Rows
/-- C is a class over ValueError, perhaps over own ones between them -/
def overVE (C : Addr) (o : Obj) : Bool := match o with
  | ⟨.type m, _, .cls cd, ⟨[_, _, _, _, some (.builtin n), _]⟩⟩ => m == "type" && (n == "ValueError.__new__" && (cd.hasDict && (!cd.hasDel && (match cd.mro with
    | .ref D :: bm => D == C && PySem.HandSPX.refsVE bm
    | _ => false))))
  | _ => false
def oexB (K : PySem.W.Frag) (C : Addr) : Bool := (K.lookup C).any (overVE C) && (decide (PySem.W.findIn K (.ref C) "__setattr__" = some (some (.builtin "object.__setattr__"))) && (decide (PySem.W.subIn K (.ref C) (.type "BaseException") = some true) &&
  (decide (PySem.W.typeIn K (.ref C) = some (.type "type")) && PySem.W.keepIn K (.ref C))))
/-- .. that its own __init__ at fI fills: the field f -/
def excB (K : PySem.W.Frag) (C fI : Addr) (f : Str) : Bool := oexB K C && (decide (PySem.W.findIn K (.ref C) f = some none) && (decide (PySem.W.findIn K (.ref C) "__init__" = some (some (.ref fI))) && decide (PySem.W.typeIn K (.ref fI) = some (.type "function"))))
/-- C is caught by CM, or else by CK; its field f may be read -/
def catB (K : PySem.W.Frag) (CM CK C : Addr) (f : Str) : Bool := (match PySem.W.exmOne K (.ref C) (.ref CM) with
  | some true => true
  | some false => decide (PySem.W.exmOne K (.ref C) (.ref CK) = some true)
  | none => false) && (xfB K C && decide (PySem.W.findIn K (.ref C) f = some none))
/-- the body of a class -/
def bodyOfCls : Stmt → List Stmt
  | .ClassDef _ _ _ b _ _ _ _ _ _ _ => b
  | _ => []
/-- C is caught by CM; its field f may be read -/
def cat1B (K : PySem.W.Frag) (CM C : Addr) (f : Str) : Bool := decide (PySem.W.exmOne K (.ref C) (.ref CM) = some true) && (xfB K C && decide (PySem.W.findIn K (.ref C) f = some none))
abbrev keTail : List Value := [.type "KeyError", .type "LookupError", .type "Exception", .type "BaseException", .type "object"]
/-- own classes, then those of KeyError -/
def refsKE : List Value → Bool
  | .ref _ :: m => refsKE m
  | m => m == keTail
/-- C is a class over KeyError -/
def overKE (C : Addr) (o : Obj) : Bool := match o with
  | ⟨.type m, _, .cls cd, ⟨[_, _, _, _, some (.builtin n), _]⟩⟩ => m == "type" && (n == "LookupError.__new__" && (cd.hasDict && (!cd.hasDel && (match cd.mro with
    | .ref D :: bm => D == C && refsKE bm
    | _ => false))))
  | _ => false
def oexKB (K : PySem.W.Frag) (C : Addr) : Bool := (K.lookup C).any (overKE C) && (decide (PySem.W.findIn K (.ref C) "__setattr__" = some (some (.builtin "object.__setattr__"))) && (decide (PySem.W.subIn K (.ref C) (.type "BaseException") = some true) &&
  (decide (PySem.W.typeIn K (.ref C) = some (.type "type")) && PySem.W.keepIn K (.ref C))))
def exKB (K : PySem.W.Frag) (C fI : Addr) (f : Str) : Bool := oexKB K C && (decide (PySem.W.findIn K (.ref C) f = some none) && (decide (PySem.W.findIn K (.ref C) "__init__" = some (some (.ref fI))) && decide (PySem.W.typeIn K (.ref fI) = some (.type "function"))))
inductive Pt where
  | fld (f : Str)
  | neg (k : Int)
deriving DecidableEq
abbrev Cp := Addr × Pt × Pt
/-- the clause that takes the class, the ways asked one behind the other -/
def pickW (K : PySem.W.Frag) (cls : Value) : List Cp → Option (Pt × Pt)
  | [] => none
  | q :: r => match PySem.W.exmOne K cls (.ref q.1) with
    | some true => some q.2
    | some false => pickW K cls r
    | none => none
def ptF (K : PySem.W.Frag) (C : Addr) : Pt → Bool
  | .fld f => xfB K C && decide (PySem.W.findIn K (.ref C) f = some none)
  | .neg _ => true
def tryPB (K : PySem.W.Frag) (l : List Cp) (C : Addr) (w : Pt × Pt) : Bool := decide (pickW K (.ref C) l = some w) && (ptF K C w.1 && ptF K C w.2)
def insB (K : PySem.W.Frag) (C : Addr) : Bool := (decide (PySem.W.findIn K (.ref C) "__class__" = some (some (.builtin "object.__class__"))) && decide (PySem.W.specialIn K (.builtin "object.__class__") "__get__" = some (some (.builtin "getset_descriptor.__get__")))) &&
  ((decide (PySem.W.takesIn K (.builtin "object.__class__") = some true) && decide (PySem.W.mroIn K C (.type "object") = some true)) &&
  (decide (PySem.W.kitOne K (.ref C) (.ref C) = some true) && ["NoneType", "bool", "int", "str", "tuple", "list", "dict"].all fun t => decide (PySem.W.kitOne K (.type t) (.ref C) = some false)))
def lostB (K : PySem.W.Frag) (CM CK : Addr) (C : Addr) (f : Str) (b : Bool) : Bool := decide (PySem.W.exmOne K (.ref C) (.ref CM) = some b) && (b || (decide (PySem.W.exmOne K (.ref C) (.ref CK) = some true) && (xfB K C && decide (PySem.W.findIn K (.ref C) f = some none))))
end Fm
namespace Lw
open L2 PySem PySem.Spec PyProof.Rows Fm
def top (i : Nat) : Stmt := PySem.Challenge.pw_farmesh_k48_distances_told.main.body.getD i (.Pass ⟨0, 0, 0, 0⟩)
abbrev t_Pattern_need : Stmt := (bodyOfCls (top 27)).getD 10 (.Pass ⟨0, 0, 0, 0⟩)
abbrev t_Pattern_need_shift : Stmt := (bodyOfCls (top 27)).getD 11 (.Pass ⟨0, 0, 0, 0⟩)
abbrev t_Pattern_need_knot : Stmt := (bodyOfCls (top 27)).getD 12 (.Pass ⟨0, 0, 0, 0⟩)
abbrev t_added : Stmt := top 23
abbrev t_Pattern_near : Stmt := (bodyOfCls (top 27)).getD 14 (.Pass ⟨0, 0, 0, 0⟩)
abbrev t_rings : Stmt := top 30
abbrev t_distance : Stmt := top 31
abbrev t__law_begin : Stmt := top 33
abbrev t__law_pick : Stmt := top 34
abbrev t__law_one : Stmt := top 38
abbrev t__law_numbers : Stmt := top 39
abbrev t__law_turned : Stmt := top 35
abbrev t__law_lesser : Stmt := top 36
abbrev t__law_put : Stmt := top 37
abbrev t__law_loose : Stmt := top 40
abbrev t__law_names : Stmt := top 41
abbrev t_is_name : Stmt := top 21
abbrev t_need_name : Stmt := top 25
abbrev t_need_dye : Stmt := top 26
abbrev t_turned : Stmt := top 22
abbrev t_Pattern_ends : Stmt := (bodyOfCls (top 27)).getD 2 (.Pass ⟨0, 0, 0, 0⟩)
abbrev t_lesser : Stmt := top 24
abbrev t_Pattern_fitting : Stmt := (bodyOfCls (top 27)).getD 1 (.Pass ⟨0, 0, 0, 0⟩)
abbrev t_Pattern_names : Stmt := (bodyOfCls (top 27)).getD 8 (.Pass ⟨0, 0, 0, 0⟩)
abbrev t_Pattern___init__ : Stmt := (bodyOfCls (top 27)).getD 0 (.Pass ⟨0, 0, 0, 0⟩)
abbrev t__law_made : Stmt := top 42
abbrev t__law_near : Stmt := top 43
abbrev t__law_added : Stmt := top 44
abbrev t__law_rings : Stmt := top 45
abbrev t__law_same : Stmt := top 46
abbrev t__law_ring_of : Stmt := top 47
abbrev t_law : Stmt := top 48
def dd_Pattern_need : He.DefD := ⟨("Pattern", some "need"), "need", "Pattern.need", defArgs t_Pattern_need, defBody t_Pattern_need, defScope t_Pattern_need, [], []⟩
def dd_Pattern_need_shift : He.DefD := ⟨("Pattern", some "need_shift"), "need_shift", "Pattern.need_shift", defArgs t_Pattern_need_shift, defBody t_Pattern_need_shift, defScope t_Pattern_need_shift, [], []⟩
def dd_Pattern_need_knot : He.DefD := ⟨("Pattern", some "need_knot"), "need_knot", "Pattern.need_knot", defArgs t_Pattern_need_knot, defBody t_Pattern_need_knot, defScope t_Pattern_need_knot, [], []⟩
def dd_added : He.DefD := ⟨("added", none), "added", "added", defArgs t_added, defBody t_added, defScope t_added, [], []⟩
def dd_Pattern_near : He.DefD := ⟨("Pattern", some "near"), "near", "Pattern.near", defArgs t_Pattern_near, defBody t_Pattern_near, defScope t_Pattern_near, [], []⟩
def dd_rings : He.DefD := ⟨("rings", none), "rings", "rings", defArgs t_rings, defBody t_rings, defScope t_rings, [], []⟩
def dd_distance : He.DefD := ⟨("distance", none), "distance", "distance", defArgs t_distance, defBody t_distance, defScope t_distance, [], [("most", .int 4)]⟩
def dd__law_begin : He.DefD := ⟨("_law_begin", none), "_law_begin", "_law_begin", defArgs t__law_begin, defBody t__law_begin, defScope t__law_begin, [], []⟩
def dd__law_pick : He.DefD := ⟨("_law_pick", none), "_law_pick", "_law_pick", defArgs t__law_pick, defBody t__law_pick, defScope t__law_pick, [], []⟩
def dd__law_one : He.DefD := ⟨("_law_one", none), "_law_one", "_law_one", defArgs t__law_one, defBody t__law_one, defScope t__law_one, [], []⟩
def dd__law_numbers : He.DefD := ⟨("_law_numbers", none), "_law_numbers", "_law_numbers", defArgs t__law_numbers, defBody t__law_numbers, defScope t__law_numbers, [], []⟩
def dd__law_turned : He.DefD := ⟨("_law_turned", none), "_law_turned", "_law_turned", defArgs t__law_turned, defBody t__law_turned, defScope t__law_turned, [], []⟩
def dd__law_lesser : He.DefD := ⟨("_law_lesser", none), "_law_lesser", "_law_lesser", defArgs t__law_lesser, defBody t__law_lesser, defScope t__law_lesser, [], []⟩
def dd__law_put : He.DefD := ⟨("_law_put", none), "_law_put", "_law_put", defArgs t__law_put, defBody t__law_put, defScope t__law_put, [], []⟩
def dd__law_loose : He.DefD := ⟨("_law_loose", none), "_law_loose", "_law_loose", defArgs t__law_loose, defBody t__law_loose, defScope t__law_loose, [], []⟩
def dd__law_names : He.DefD := ⟨("_law_names", none), "_law_names", "_law_names", defArgs t__law_names, defBody t__law_names, defScope t__law_names, [], []⟩
def dd_is_name : He.DefD := ⟨("is_name", none), "is_name", "is_name", defArgs t_is_name, defBody t_is_name, defScope t_is_name, [], []⟩
def dd_need_name : He.DefD := ⟨("need_name", none), "need_name", "need_name", defArgs t_need_name, defBody t_need_name, defScope t_need_name, [], []⟩
def dd_need_dye : He.DefD := ⟨("need_dye", none), "need_dye", "need_dye", defArgs t_need_dye, defBody t_need_dye, defScope t_need_dye, [], []⟩
def dd_turned : He.DefD := ⟨("turned", none), "turned", "turned", defArgs t_turned, defBody t_turned, defScope t_turned, [], []⟩
def dd_Pattern_ends : He.DefD := ⟨("Pattern", some "ends"), "ends", "Pattern.ends", defArgs t_Pattern_ends, defBody t_Pattern_ends, defScope t_Pattern_ends, [], []⟩
def dd_lesser : He.DefD := ⟨("lesser", none), "lesser", "lesser", defArgs t_lesser, defBody t_lesser, defScope t_lesser, [], []⟩
def dd_Pattern_fitting : He.DefD := ⟨("Pattern", some "fitting"), "fitting", "Pattern.fitting", defArgs t_Pattern_fitting, defBody t_Pattern_fitting, defScope t_Pattern_fitting, [], []⟩
def dd_Pattern_names : He.DefD := ⟨("Pattern", some "names"), "names", "Pattern.names", defArgs t_Pattern_names, defBody t_Pattern_names, defScope t_Pattern_names, [], []⟩
def dd_Pattern___init__ : He.DefD := ⟨("Pattern", some "__init__"), "__init__", "Pattern.__init__", defArgs t_Pattern___init__, defBody t_Pattern___init__, defScope t_Pattern___init__, [], []⟩
def dd__law_made : He.DefD := ⟨("_law_made", none), "_law_made", "_law_made", defArgs t__law_made, defBody t__law_made, defScope t__law_made, [], []⟩
def dd__law_near : He.DefD := ⟨("_law_near", none), "_law_near", "_law_near", defArgs t__law_near, defBody t__law_near, defScope t__law_near, [], []⟩
def dd__law_added : He.DefD := ⟨("_law_added", none), "_law_added", "_law_added", defArgs t__law_added, defBody t__law_added, defScope t__law_added, [], []⟩
def dd__law_rings : He.DefD := ⟨("_law_rings", none), "_law_rings", "_law_rings", defArgs t__law_rings, defBody t__law_rings, defScope t__law_rings, [], []⟩
def dd__law_same : He.DefD := ⟨("_law_same", none), "_law_same", "_law_same", defArgs t__law_same, defBody t__law_same, defScope t__law_same, [], []⟩
def dd__law_ring_of : He.DefD := ⟨("_law_ring_of", none), "_law_ring_of", "_law_ring_of", defArgs t__law_ring_of, defBody t__law_ring_of, defScope t__law_ring_of, [], []⟩
def dd_law : He.DefD := ⟨("law", none), "law", "law", defArgs t_law, defBody t_law, defScope t_law, [], []⟩
def fn : List He.DefD := [dd_Pattern_need, dd_Pattern_need_shift, dd_Pattern_need_knot, dd_added, dd_Pattern_near, dd_rings, dd_distance, dd__law_begin, dd__law_pick, dd__law_one, dd__law_numbers, dd__law_turned, dd__law_lesser, dd__law_put, dd__law_loose, dd__law_names, dd_is_name, dd_need_name, dd_need_dye, dd_turned, dd_Pattern_ends, dd_lesser, dd_Pattern_fitting, dd_Pattern_names, dd_Pattern___init__, dd__law_made, dd__law_near, dd__law_added, dd__law_rings, dd__law_same, dd__law_ring_of, dd_law]
def clx (K : PySem.W.Frag) : String → Addr := fun c => He.ga K (Str.ofString c)
def tabx (K : PySem.W.Frag) : List (Addr × Str) := []
abbrev tf : List He.Defn := []
def fa : List He.Fa := [.glo "added", .glo "rings", .glo "distance", .glo "_law_begin", .glo "_law_pick", .glo "_law_one", .glo "_law_numbers", .glo "_law_turned", .glo "_law_lesser", .glo "_law_put", .glo "_law_loose", .glo "_law_names", .glo "is_name", .glo "need_name", .glo "need_dye", .glo "turned", .glo "lesser", .glo "_law_made", .glo "_law_near", .glo "_law_added", .glo "_law_rings", .glo "_law_same", .glo "_law_ring_of", .glo "law", .free "all", .free "any", .free "bool", .free "dict", .free "enumerate", .free "int", .free "isinstance", .free "len", .free "list", .free "min", .free "range", .free "sorted", .free "str", .free "tuple", .free "zip", .glo "Pattern", .int "FARTHEST" 1000000, .str "LETTERS" "abcdefghijklmnopqrstuvwxyz", .int "LONGEST" 8, .int "MOST_DYE" 9, .int "MOST_KNOTS" 12, .int "MOST_TIES" 24, .int "MOST_WAYS" 3, .cls "Pattern", .noat "Pattern" "at", .noat "Pattern" "bonds", .noat "Pattern" "dyes", .noat "Pattern" "ways", .meth "Pattern" "need", .meth "Pattern" "need_shift", .meth "Pattern" "need_knot", .meth "Pattern" "near", .meth "Pattern" "ends", .meth "Pattern" "fitting", .meth "Pattern" "names", .mkr "Pattern"]
def ex (K : PySem.W.Frag) : Bool := true
def loose : List Str := (["_wall", "MeshError", "Missing", "BadWays", "BadName", "BadDye", "BadShift", "Far", "BadTie", "Twice", "Full", "NoKnot", "MOST_WAYS", "MOST_KNOTS", "MOST_TIES", "MOST_DYE", "FARTHEST", "LONGEST", "LETTERS", "is_name", "turned", "added", "lesser", "need_name", "need_dye", "Pattern", "MOST_FAR", "rings", "distance", "_law_begin"] : List Str) ++ (["_law_pick", "_law_turned", "_law_lesser", "_law_put", "_law_one", "_law_numbers", "_law_loose", "_law_names", "_law_made", "_law_near", "_law_added", "_law_rings", "_law_same", "_law_ring_of"] : List Str)
abbrev R : PySem.W.OpenRow := PySem.W.OpenLaw.row PySem.Challenge.rw_farmesh_k48_distances_told
abbrev hk : PySem.W.Hook := Hk.hook fa fn tf ex
def ob (s : PySem.W.SharedT) : He.AlX := Hk.look fa fn tf ex (HandSHeadRun.getT s)
theorem ob_eq (s : PySem.W.SharedT) : ob s = hk.obs s.abs := Hk.look_eq s
theorem run (w : World) : HandSHeadRun.RunEq R (PySem.W.view R.prog [48]) hk ob 12000 loose w := by
  intro os
  kernel_rfl
end Lw
open PyProof.Rows PySem PySem.W PySem.Calls in
theorem Lw.pre (hc : WalkO (view (OpenLaw.row PySem.Challenge.rw_farmesh_k48_distances_told).prog [48]) Lw.loose (XL (view (OpenLaw.row PySem.Challenge.rw_farmesh_k48_distances_told).prog [48]) []) Lw.hk.says (OpenLaw.row PySem.Challenge.rw_farmesh_k48_distances_told).toRowW (HandSHeadRun.topDef (OpenLaw.row PySem.Challenge.rw_farmesh_k48_distances_told).prog 48) [] fun f vs => PySem.call f vs) : PySem.Challenge.rw_farmesh_k48_distances_told.Holds := by
  w_on; o_law
  refine HandSHeadRun.head_any (r := OpenLaw.row PySem.Challenge.rw_farmesh_k48_distances_told) (q := view (OpenLaw.row PySem.Challenge.rw_farmesh_k48_distances_told).prog [48]) (H := Lw.hk) (ob := Lw.ob) (M := 12000) (loose := Lw.loose) (d := HandSHeadRun.topDef (OpenLaw.row PySem.Challenge.rw_farmesh_k48_distances_told).prog 48) (kwd := []) Lw.ob_eq
    (by kernel_rfl) (fun s => by kernel_rfl) Lw.run (by kernel_rfl) (by kernel_rfl) (by kernel_rfl) (by rfl) (by first | assumption | decide +kernel) (by decide +kernel) ⟨rfl, rfl, rfl, rfl, rfl, by decide +kernel⟩ ?hw hc
  case hw => w_witness2
namespace Lw
open L2 PySem PySem.Spec PyProof.Rows Fm
end Lw
set_option maxHeartbeats 3900000
/-! # The layer of data: values as trees, a frozen heap inside the heap, slots that own an object -/
namespace Fm
open L2 PySem PySem.Spec PyProof.Rows

/-- data: what a value is, without addresses; the flag of a mutable kind: it is lent -/
inductive D where
  | non | bl (b : Bool) | int (i : Int) | str (s : Str)
  | tup (l : List D) | lst (b : Bool) (l : List D) | dk (b : Bool) (l : List (Key × D))
  | ins (b : Bool) (c : String) (l : List (Str × D)) | ty (n : String) | adr (a : Addr) | scr (l : List D)

/-- what a layer's run is about: the written part, where classes stand, the lambdas' tables -/
structure Ctx where
  K : PySem.W.Frag
  cl : String → Addr
  tabs : List (Addr × Str)
  w : World

abbrev Pd := Addr → Prop

/-- lent or not: an object that is tracked is lent just where T says so; a written one never -/
def Ld (T : Pd) (a : Addr) (b : Bool) : Prop := T a ↔ b = true

/-- a tuple of the written part; a tuple -/
def KT (K : PySem.W.Frag) (a : Addr) (xs : List V) : Prop :=
  ∃ (ob : Obj) (us : Array Value) (m : Nat), K.lookup a = some ob ∧ ob.cls = .type "tuple" ∧ ob.data = .seq us m ∧ us.size ≤ sizeLine ∧ Vals xs us.toList
def TupAt (K : PySem.W.Frag) (G : Hp) (a : Addr) (xs : List V) : Prop := G a = some (.tup xs) ∨ KT K a xs
theorem TupAt.sq {K : PySem.W.Frag} {G H : Hp} {a : Addr} {xs : List V} (h : TupAt K G a xs) (s : Same G H) : SqT K H a xs := by
  rcases h with h | h
  · exact .inl (.inl (s _ _ h))
  · exact .inr h
theorem TupAt.mono {K : PySem.W.Frag} {G H : Hp} {a : Addr} {xs : List V} (s : Same G H) (h : TupAt K G a xs) : TupAt K H a xs := by
  rcases h with h | h
  · exact .inl (s _ _ h)
  · exact .inr h

/-- the script's list: locked, or written -/
def ScrAt (K : PySem.W.Frag) (G : Hp) (a : Addr) (xs : List V) : Prop := (∃ o, G a = some (.frz o (.lst xs))) ∨
  ∃ (ob : Obj) (us : Array Value) (m : Nat), K.lookup a = some ob ∧ ob.cls = .type "list" ∧ ob.dict = none ∧ ob.data = .seq us m ∧ us.size ≤ sizeLine ∧ Vals xs us.toList
/-- of a dict with nested keys nothing is told, once it is frozen -/
def mkL : List D → Bool
  | .non :: _ => true
  | _ => false
theorem ScrAt.sq {K : PySem.W.Frag} {G H : Hp} {a : Addr} {xs : List V} (h : ScrAt K G a xs) (s : Same G H) : SqL K H a xs := by
  rcases h with ⟨o, h⟩ | h
  · exact .inl (.inr ⟨o, s _ _ h⟩)
  · exact .inr h
theorem ScrAt.mono {K : PySem.W.Frag} {G H : Hp} {a : Addr} {xs : List V} (s : Same G H) (h : ScrAt K G a xs) : ScrAt K H a xs := by
  rcases h with ⟨o, h⟩ | h
  · exact .inl ⟨o, s _ _ h⟩
  · exact .inr h

/-- a dict, perhaps locked -/
def DkAt (G : Hp) (a : Addr) (vs : List (Key × V)) (b : Bool) : Prop := G a = some (.dK vs) ∨ (b = false ∧ ∃ o, G a = some (.frz o (.dK vs)))
theorem DkAt.mono {G G' : Hp} (e : Same G G') {a : Addr} {vs : List (Key × V)} {b : Bool} (h : DkAt G a vs b) : DkAt G' a vs b := by
  rcases h with h | ⟨hb, o, h⟩
  · exact .inl (e _ _ h)
  · exact .inr ⟨hb, o, e _ _ h⟩
theorem DkAt.own {G : Hp} {a : Addr} {vs : List (Key × V)} (h : DkAt G a vs true) : G a = Option.some (.dK vs) := h.elim id fun z => by cases z.1
theorem DkAt.rd {G : Hp} {a : Addr} {vs : List (Key × V)} {b : Bool} (h : DkAt G a vs b) : Rd G a (.dK vs) := by
  rcases h with h | ⟨_, o, h⟩
  · exact .inl h
  · exact .inr ⟨o, h⟩
theorem DkAt.some {G : Hp} {a : Addr} {vs : List (Key × V)} {b : Bool} (h : DkAt G a vs b) : ∃ o, G a = some o ∧ (∀ ps, o ≠ .tbl ps) := by
  rcases h with h | ⟨_, o, h⟩
  · exact ⟨_, h, fun ps z => by cases z⟩
  · exact ⟨_, h, fun ps z => by cases z⟩
mutual
def Rep (κ : Ctx) (T : Pd) (G : Hp) : D → V → Prop
  | .non, v => v = .non
  | .bl b, v => v = .bl b
  | .int i, v => v = .int i
  | .str s, v => v = .str s
  | .tup l, v => ∃ a vs, v = .ref a ∧ TupAt κ.K G a vs ∧ RepL κ T G l vs
  | .lst b l, v => ∃ a vs, v = .ref a ∧ (G a = some (.lst vs) ∧ Ld T a b) ∧ RepL κ T G l vs
  | .scr l, v => ∃ a vs, v = .ref a ∧ (ScrAt κ.K G a vs ∨ mkL l = true) ∧ RepL κ T G l vs
  | .dk b l, v => ∃ a vs, v = .ref a ∧ (DkAt G a vs b ∧ Ld T a b) ∧ RepK κ T G l vs
  | .ins b c l, v => ∃ a dx vs, v = .ref a ∧ (G a = some (.ins (κ.cl c) dx vs) ∧ Ld T a b) ∧ RepF κ T G l vs
  | .ty n, v => v = .ty n
  | .adr a, v => v = .ref a
def RepL (κ : Ctx) (T : Pd) (G : Hp) : List D → List V → Prop
  | [], vs => vs = []
  | d :: l, vs => ∃ v ws, vs = v :: ws ∧ Rep κ T G d v ∧ RepL κ T G l ws
def RepK (κ : Ctx) (T : Pd) (G : Hp) : List (Key × D) → List (Key × V) → Prop
  | [], vs => vs = []
  | (k, d) :: l, vs => ∃ v ws, vs = (k, v) :: ws ∧ Rep κ T G d v ∧ RepK κ T G l ws
def RepF (κ : Ctx) (T : Pd) (G : Hp) : List (Str × D) → List (Str × V) → Prop
  | [], vs => vs = []
  | (k, d) :: l, vs => ∃ v ws, vs = (k, v) :: ws ∧ Rep κ T G d v ∧ RepF κ T G l ws
end

theorem Rd.mono {G G' : Hp} (e : Same G G') {a : Addr} {u : HO} (h : Rd G a u) : Rd G' a u := by
  rcases h with h | ⟨o, h⟩
  · exact .inl (e _ _ h)
  · exact .inr ⟨o, e _ _ h⟩
theorem SqT.mono {K : PySem.W.Frag} {G G' : Hp} (e : Same G G') {a : Addr} {xs : List V} (h : SqT K G a xs) : SqT K G' a xs := by
  rcases h with h | h
  · exact .inl (Rd.mono e h)
  · exact .inr h

theorem sqL_mono {K : PySem.W.Frag} {G H : Hp} (s : Same G H) {a : Addr} {vs : List V} (h : SqL K G a vs) : SqL K H a vs := by
  rcases h with h | h
  · exact .inl (Rd.mono s h)
  · exact .inr h

/-- what is told of the objects that G tracks holds in G' and T' -/
structure Mono (T : Pd) (G : Hp) (T' : Pd) (G' : Hp) : Prop where
  same : Same G G'
  ld : ∀ a o b, G a = some o → Ld T a b → Ld T' a b
theorem Mono.of {T : Pd} {G G' : Hp} (e : Same G G') : Mono T G T G' := ⟨e, fun _ _ _ _ h => h⟩
section
variable {κ : Ctx} {T T' : Pd} {G G' : Hp}
mutual
theorem Rep.mono (e : Mono T G T' G') : ∀ (d : D) {v : V}, Rep κ T G d v → Rep κ T' G' d v
  | .non, _, h => h
  | .bl _, _, h => h
  | .int _, _, h => h
  | .str _, _, h => h
  | .tup l, v, h => by
    obtain ⟨a, vs, h1, h2, h3⟩ := h
    exact ⟨a, vs, h1, TupAt.mono e.same h2, RepL.mono e l h3⟩
  | .lst b l, v, h => by
    obtain ⟨a, vs, h1, ⟨h2, h4⟩, h3⟩ := h
    exact ⟨a, vs, h1, ⟨e.same _ _ h2, e.ld _ _ _ h2 h4⟩, RepL.mono e l h3⟩
  | .scr l, v, h => by
    obtain ⟨a, vs, h1, h2, h3⟩ := h
    exact ⟨a, vs, h1, h2.imp (fun z => ScrAt.mono e.same z) id, RepL.mono e l h3⟩
  | .dk b l, v, h => by
    obtain ⟨a, vs, h1, ⟨h2, h4⟩, h3⟩ := h
    obtain ⟨_, h5, _⟩ := h2.some
    exact ⟨a, vs, h1, ⟨h2.mono e.same, e.ld _ _ _ h5 h4⟩, RepK.mono e l h3⟩
  | .ins b c l, v, h => by
    obtain ⟨a, dx, vs, h1, ⟨h2, h4⟩, h3⟩ := h
    exact ⟨a, dx, vs, h1, ⟨e.same _ _ h2, e.ld _ _ _ h2 h4⟩, RepF.mono e l h3⟩
  | .ty _, _, h => h
  | .adr _, _, h => h
theorem RepL.mono (e : Mono T G T' G') : ∀ (l : List D) {vs : List V}, RepL κ T G l vs → RepL κ T' G' l vs
  | [], _, h => h
  | d :: l, vs, h => by
    obtain ⟨v, ws, h1, h2, h3⟩ := h
    exact ⟨v, ws, h1, Rep.mono e d h2, RepL.mono e l h3⟩
theorem RepK.mono (e : Mono T G T' G') : ∀ (l : List (Key × D)) {vs : List (Key × V)}, RepK κ T G l vs → RepK κ T' G' l vs
  | [], _, h => h
  | (k, d) :: l, vs, h => by
    obtain ⟨v, ws, h1, h2, h3⟩ := h
    exact ⟨v, ws, h1, Rep.mono e d h2, RepK.mono e l h3⟩
theorem RepF.mono (e : Mono T G T' G') : ∀ (l : List (Str × D)) {vs : List (Str × V)}, RepF κ T G l vs → RepF κ T' G' l vs
  | [], _, h => h
  | (k, d) :: l, vs, h => by
    obtain ⟨v, ws, h1, h2, h3⟩ := h
    exact ⟨v, ws, h1, Rep.mono e d h2, RepF.mono e l h3⟩
end
theorem RepL.length : ∀ {l : List D} {vs : List V}, RepL κ T G l vs → vs.length = l.length
  | [], vs, h => by rw [show vs = [] from h] <;> rfl
  | d :: l, vs, h => by
    obtain ⟨v, ws, h1, h2, h3⟩ := h
    rw [h1, List.length_cons, List.length_cons, h3.length]
theorem RepL.append : ∀ {l m : List D} {vs ws : List V}, RepL κ T G l vs → RepL κ T G m ws → RepL κ T G (l ++ m) (vs ++ ws)
  | [], m, vs, ws, h, k => by rw [show vs = [] from h]; exact k
  | d :: l, m, vs, ws, h, k => by
    obtain ⟨v, us, h1, h2, h3⟩ := h
    rw [h1]
    exact ⟨v, us ++ ws, rfl, h2, h3.append k⟩
theorem RepL.get : ∀ {l : List D} {vs : List V} {i : Nat} {d : D}, RepL κ T G l vs → l[i]? = some d → ∃ v, vs[i]? = some v ∧ Rep κ T G d v
  | [], _, _, _, _, e => by simp at e
  | d :: l, vs, 0, e, h, q => by
    obtain ⟨v, us, h1, h2, h3⟩ := h
    rw [h1]
    simp at q
    subst q
    exact ⟨v, rfl, h2⟩
  | d :: l, vs, i + 1, e, h, q => by
    obtain ⟨v, us, h1, h2, h3⟩ := h
    rw [h1]
    exact RepL.get (i := i) h3 (by simpa using q)
theorem RepL.set : ∀ {l : List D} {vs : List V} (i : Nat) {d : D} {v : V}, RepL κ T G l vs → Rep κ T G d v → RepL κ T G (l.set i d) (vs.set i v)
  | [], vs, i, d, v, h, k => by rw [show vs = [] from h]; exact rfl
  | e :: l, vs, 0, d, v, h, k => by
    obtain ⟨w, us, h1, h2, h3⟩ := h
    rw [h1]
    exact ⟨v, us, rfl, k, h3⟩
  | e :: l, vs, i + 1, d, v, h, k => by
    obtain ⟨w, us, h1, h2, h3⟩ := h
    rw [h1]
    exact ⟨w, _, rfl, h2, h3.set i k⟩
theorem RepL.take : ∀ {l : List D} {vs : List V} (n : Nat), RepL κ T G l vs → RepL κ T G (l.take n) (vs.take n)
  | l, vs, 0, h => by rw [List.take_zero, List.take_zero]; exact rfl
  | [], vs, n + 1, h => by rw [show vs = [] from h]; exact rfl
  | e :: l, vs, n + 1, h => by
    obtain ⟨w, us, h1, h2, h3⟩ := h
    rw [h1]
    exact ⟨w, _, rfl, h2, h3.take n⟩
theorem RepL.drop : ∀ {l : List D} {vs : List V} (n : Nat), RepL κ T G l vs → RepL κ T G (l.drop n) (vs.drop n)
  | l, vs, 0, h => h
  | [], vs, n + 1, h => by rw [show vs = [] from h]; exact rfl
  | e :: l, vs, n + 1, h => by
    obtain ⟨w, us, h1, h2, h3⟩ := h
    rw [h1]
    exact h3.drop n
theorem RepL.one {d : D} {v : V} (h : Rep κ T G d v) : RepL κ T G [d] [v] := ⟨v, [], rfl, h, rfl⟩
end

/-! ### a dict whose keys are nested tuples -/
mutual
def nk : D → NestedKey
  | .int i => .num i
  | .str s => .text s
  | .tup l => .tup (nkS l)
  | _ => .none
def nkS : List D → List NestedKey
  | [] => []
  | d :: l => nk d :: nkS l
end
mutual
/-- a key: texts, numbers and tuples of such, nested n deep at most -/
def keyN : Nat → D → Bool
  | _, .int _ => true
  | _, .str _ => true
  | n + 1, .tup l => keyNL n l
  | _, _ => false
def keyNL : Nat → List D → Bool
  | _, [] => true
  | n, d :: l => keyN n d && keyNL n l
end
def isTup : D → Bool
  | .tup _ => true
  | _ => false
/-- the object at p is a dict with these keys, and their tuples -/
def NdO (w : World) (p : Addr) (ks : List (NestedKey × Addr)) (h : Heap) : Prop :=
  (p == sysModules) = false ∧ ks.length ≤ sizeLine ∧ ∃ xs : List (NestedKey × Addr × Value), xs.map (fun x => (x.1, x.2.1)) = ks ∧
    ∃ o es ep, h.get? p = some o ∧ o.ExactDict ∧ o.data = .dict es ep ∧ es.toList = xs.map (fun x => (⟨x.1.hash w, .ref x.2.1, x.2.2⟩ : DictEntry)) ∧ (xs.map (·.1)).Nodup
def NdAt (w : World) (H : Hp) (p : Addr) (l : List D) (vs : List V) : Prop :=
  ∃ ks : List (NestedKey × Addr), H p = some (.ext (NdO w p ks)) ∧ (∃ h, NdO w p ks h) ∧ vs = ks.map (fun x => V.ref x.2) ∧ l.map nk = ks.map (·.1) ∧ (l.all fun d => isTup d && keyN 8 d) = true
theorem NdAt.at {w : World} {H H' : Hp} {p : Addr} {l : List D} {vs : List V} (h : NdAt w H p l vs) (k : H' p = H p) : NdAt w H' p l vs := by
  obtain ⟨ks, h1, h2⟩ := h
  exact ⟨ks, k.trans h1, h2⟩
theorem NdAt.nofields {w : World} {H : Hp} {p : Addr} {l : List D} {vs : List V} {φ : Heap → Prop} (h : NdAt w H p l vs) (f : ∀ h, φ h → ∃ (oc : Obj) (us : Array Value), h.get? p = some oc ∧ oc.data = .fields us) : H p ≠ some (.ext φ) := fun z => by
  obtain ⟨ks, h1, ⟨h0, hw⟩, _⟩ := h
  rw [h1] at z
  have e : NdO w p ks = φ := HO.ext.inj (Option.some.inj z)
  rw [e] at hw
  obtain ⟨oc, us, q1, q2⟩ := f h0 hw
  rw [← e] at hw
  obtain ⟨_, _, xs, _, o, es, ep, w1, _, w2, _⟩ := hw
  rw [q1] at w1
  cases w1
  rw [q2] at w2
  cases w2
theorem NdAt.ncode {w : World} {H : Hp} {p : Addr} {l : List D} {vs : List V} {q : Str} (h : NdAt w H p l vs) : H p ≠ some (LamX.CodeO p q) :=
  h.nofields fun h0 ⟨oc, us, _, e1, e2, _⟩ => ⟨oc, us, e1, e2⟩
/-! ### slots -/
/-- a slot: nothing known, frozen data, or an object of its own -/
inductive SD where
  | un | va (d : D) | ow (d : D)
/-- an object that changes: its own content is tracked in H, what it holds is frozen -/
def OwnAt (κ : Ctx) (T : Pd) (G H : Hp) (p : Addr) : D → Prop
  | .lst _ l => ∃ vs, H p = some (.lst vs) ∧ RepL κ T G l vs
  | .dk _ l => ∃ vs, H p = some (.dK vs) ∧ RepK κ T G l vs
  | .ins _ c l => ∃ dx vs, H p = some (.ins (κ.cl c) dx vs) ∧ RepF κ T G l vs
  | .scr l => ∃ vs, NdAt κ.w H p l vs ∧ RepL κ T G l vs
  | _ => False
theorem OwnAt.mono {κ : Ctx} {T : Pd} {G G' H H' : Hp} {p : Addr} {d : D} (h : OwnAt κ T G H p d) (e : Same G G') (k : H' p = H p) : OwnAt κ T G' H' p d := by
  cases d <;> first
    | exact h.elim
    | (obtain ⟨vs, h1, h2⟩ := h; first | exact ⟨vs, k.trans h1, RepL.mono (.of e) _ h2⟩ | exact ⟨vs, k.trans h1, RepK.mono (.of e) _ h2⟩ | exact ⟨vs, h1.at k, RepL.mono (.of e) _ h2⟩)
    | (obtain ⟨dx, vs, h1, h2⟩ := h; exact ⟨dx, vs, k.trans h1, RepF.mono (.of e) _ h2⟩)
theorem OwnAt.obj {κ : Ctx} {T : Pd} {G H : Hp} {p : Addr} {d : D} (h : OwnAt κ T G H p d) : ∃ o : HO, H p = some o ∧ (∀ ps, o ≠ .tbl ps) ∧ Mut (some o) := by
  cases d with
  | lst b l =>
    obtain ⟨vs, h1, h2⟩ := h
    exact ⟨.lst vs, h1, (fun ps z => by cases z), True.intro⟩
  | dk b l =>
    obtain ⟨vs, h1, h2⟩ := h
    exact ⟨.dK vs, h1, (fun ps z => by cases z), True.intro⟩
  | ins b c l =>
    obtain ⟨dx, vs, h1, h2⟩ := h
    exact ⟨.ins (κ.cl c) dx vs, h1, (fun ps z => by cases z), True.intro⟩
  | scr l =>
    obtain ⟨vs, ⟨ks, h1, _⟩, h2⟩ := h
    exact ⟨_, h1, (fun ps z => by cases z), True.intro⟩
  | _ => exact h.elim

/-- where a run stands: the heap and the frozen heap at the def's entry, what is lent there -/
structure Bas where
  H : Hp
  G : Hp
  T : Pd
  an : List (Nat × Addr)

/-- a heap without its tables of code objects -/
def noT (H : Hp) : Hp := fun a => match H a with
  | some (.tbl _) => none
  | o => o
theorem noT_some {H : Hp} {a : Addr} {o : HO} (h : noT H a = some o) : H a = some o ∧ ∀ ps, o ≠ .tbl ps := by
  unfold noT at h
  cases e : H a with
  | none =>
    rw [e] at h
    cases h
  | some u =>
    rw [e] at h
    cases u <;> first
      | (cases h; done)
      | (cases h; exact ⟨rfl, fun ps z => by cases z⟩)
theorem noT_of {H : Hp} {a : Addr} {o : HO} (h : H a = some o) (n : ∀ ps, o ≠ .tbl ps) : noT H a = some o := by
  unfold noT
  rw [h]
  cases o <;> first
    | rfl
    | exact absurd rfl (n _)
theorem noT_tbl {H : Hp} {a : Addr} {ps : Array Value} : noT H a ≠ some (.tbl ps) := fun h => (noT_some h).2 ps rfl
structure Frame (κ : Ctx) (B : Bas) (H G : Hp) : Prop where
  keep : ∀ a o, B.H a = some o → (∀ ps, o ≠ .tbl ps) → H a = some o
  nt : ∀ a ps, B.H a ≠ some (.tbl ps)
  frz : ∀ a, B.H a ≠ none → G a = B.G a
  sub : Same B.G G
  gh : Same G H
  notb : ∀ a ps, G a ≠ some (.tbl ps)
  tabs : LamX.Tabs κ.tabs H
  lent : ∀ a, B.T a → B.H a ≠ none

structure Ok (κ : Ctx) (B : Bas) (ρ : List SD) (σ : L2.St) (H G : Hp) : Prop where
  fr : Frame κ B H G
  len : σ.length = ρ.length
  val : ∀ (i : Nat) d, ρ[i]? = some (SD.va d) → ∃ v, σ[i]? = some (some v) ∧ Rep κ B.T G d v
  own : ∀ (i : Nat) d, ρ[i]? = some (SD.ow d) → ∃ p, σ[i]? = some (some (V.ref p)) ∧ G p = none ∧ B.H p = none ∧ OwnAt κ B.T G H p d
  sep : ∀ (i j : Nat) p d e, i ≠ j → ρ[i]? = some (SD.ow d) → ρ[j]? = some (SD.ow e) → σ[i]? = some (some (V.ref p)) → σ[j]? = some (some (V.ref p)) → False
  anch : ∀ i p, (i, p) ∈ B.an → σ[i]? = some (some (V.ref p))

/-- what stood at the entry stands -/
theorem Frame.obj {κ : Ctx} {B : Bas} {H G : Hp} (k : Frame κ B H G) {a : Addr} (h : B.H a ≠ none) : ∃ o, B.H a = some o ∧ (∀ ps, o ≠ .tbl ps) ∧ H a = some o := by
  cases e : B.H a with
  | none => exact absurd e h
  | some o =>
    have n : ∀ ps, o ≠ .tbl ps := fun ps z => k.nt a ps (by rw [e, z])
    exact ⟨o, rfl, n, k.keep a o e n⟩
theorem Frame.there {κ : Ctx} {B : Bas} {H G : Hp} (k : Frame κ B H G) (a : Addr) (h : B.H a ≠ none) : H a ≠ none := by
  obtain ⟨o, _, _, e⟩ := k.obj h
  rw [e]
  exact fun z => nomatch z
/-- a result: frozen data, or a new object that none but the taker has -/
def RepR (κ : Ctx) (B : Bas) (ρ : List SD) (σ : L2.St) (H G : Hp) : SD → V → Prop
  | .va d, v => Rep κ B.T G d v
  | .ow d, v => ∃ p, v = .ref p ∧ G p = none ∧ B.H p = none ∧ OwnAt κ B.T G H p d ∧ ∀ (j : Nat) e, ρ[j]? = some (SD.ow e) → σ[j]? ≠ some (some (V.ref p))
  | .un, _ => False

/-- an exception: the name of its class, its fields -/
structure Exn where
  c : String
  fs : List (Str × D)
def RepX (κ : Ctx) (T : Pd) (H G : Hp) (x : Exn) (cls : Value) (d : Option Addr) : Prop :=
  cls = .ref (κ.cl x.c) ∧ ∃ dx vs, d = some dx ∧ H dx = some (.xd vs) ∧ RepF κ T G x.fs vs

/-- what a piece of the program gives -/
inductive Rs (α : Type) where
  | ok (a : α) (ρ : List SD) | ex (x : Exn) (ρ : List SD) | no
abbrev M (α : Type) := List SD → Rs α
def M.bind {α β : Type} (m : M α) (k : α → M β) : M β := fun ρ => match m ρ with
  | .ok a ρ' => k a ρ'
  | .ex x ρ' => .ex x ρ'
  | .no => .no
def M.ret {α : Type} (a : α) : M α := fun ρ => .ok a ρ
def M.no {α : Type} : M α := fun _ => .no
def M.opt {α : Type} : Option α → M α
  | some a => .ret a
  | none => .no

/-- what is wanted behind it: K of the result, the slots' state, heap and frozen heap; W of an exception -/
def Pst {α : Type} (κ : Ctx) (W : WX) (B : Bas) (σ : L2.St) (G : Hp) (r : Rs α) (k : α → List SD → Hp → Hp → Prop) : Prop := match r with
  | .ok a ρ' => ∀ H' G', Ok κ B ρ' σ H' G' → Same G G' → k a ρ' H' G'
  | .ex x ρ' => ∀ cls d H' G', Ok κ B ρ' σ H' G' → Same G G' → RepX κ B.T H' G' x cls d → W cls d σ H'
  | .no => False
theorem Pst.bind {α β : Type} {κ : Ctx} {W : WX} {B : Bas} {σ : L2.St} {G : Hp} {m : M α} {f : α → M β} {ρ : List SD} {k : β → List SD → Hp → Hp → Prop} (h : Pst κ W B σ G (m.bind f ρ) k) :
    Pst κ W B σ G (m ρ) fun a ρ' H' G' => Pst κ W B σ G' (f a ρ') k := by
  unfold M.bind at h
  cases e : m ρ with
  | ok a ρ' =>
    rw [e] at h
    intro H' G' ok s
    show Pst κ W B σ G' (f a ρ') k
    have h2 : Pst κ W B σ G (f a ρ') k := h
    cases e2 : f a ρ' with
    | ok b ρ2 =>
      rw [e2] at h2
      exact fun H2 G2 ok2 s2 => h2 H2 G2 ok2 (s.trans s2)
    | ex x ρ2 =>
      rw [e2] at h2
      exact fun cls d H2 G2 ok2 s2 r => h2 cls d H2 G2 ok2 (s.trans s2) r
    | no =>
      rw [e2] at h2
      exact h2
  | ex x ρ' =>
    rw [e] at h
    exact h
  | no =>
    rw [e] at h
    exact h
theorem Pst.mono {α : Type} {κ : Ctx} {W : WX} {B : Bas} {σ : L2.St} {G : Hp} {r : Rs α} {k k' : α → List SD → Hp → Hp → Prop} (h : Pst κ W B σ G r k) (f : ∀ a ρ' H' G', Ok κ B ρ' σ H' G' → Same G G' → k a ρ' H' G' → k' a ρ' H' G') : Pst κ W B σ G r k' := by
  cases r with
  | ok a ρ' => exact fun H' G' ok s => f _ _ _ _ ok s (h H' G' ok s)
  | ex x ρ' => exact h
  | no => exact h
end Fm

set_option maxHeartbeats 3900000
namespace Fm
open L2 PySem PySem.Spec PyProof.Rows

/-! ### nothing lent within -/
mutual
def D.nb : D → Bool
  | .tup l => nbL l
  | .lst b l => !b && nbL l
  | .scr l => nbL l
  | .dk b l => !b && nbK l
  | .ins b _ l => !b && nbF l
  | _ => true
def nbL : List D → Bool
  | [] => true
  | d :: l => D.nb d && nbL l
def nbK : List (Key × D) → Bool
  | [] => true
  | (_, d) :: l => D.nb d && nbK l
def nbF : List (Str × D) → Bool
  | [] => true
  | (_, d) :: l => D.nb d && nbF l
end
/-- the content of an object of one's own -/
def D.nbO : D → Bool
  | .lst _ l => nbL l
  | .dk _ l => nbK l
  | .ins _ _ l => nbF l
  | .scr l => nbL l
  | _ => false
/-- frozen; lent -/
def D.fz : D → D
  | .lst _ l => .lst false l
  | .dk _ l => .dk false l
  | .ins _ c l => .ins false c l
  | .scr l => .scr (.non :: l)
  | d => d
def D.ln : D → D
  | .lst _ l => .lst true l
  | .dk _ l => .dk true l
  | .ins _ c l => .ins true c l
  | .scr l => .scr (.non :: l)
  | d => d

/-- a heap without one object -/
def er (G : Hp) (p : Addr) : Hp := fun a => if a = p then none else G a
theorem er_ne {G : Hp} {p a : Addr} (h : a ≠ p) : er G p a = G a := if_neg h
theorem er_same {G : Hp} {p : Addr} : er G p p = none := if_pos rfl
theorem DkAt.er {G : Hp} {p a : Addr} {vs : List (Key × V)} {b : Bool} (h : DkAt G a vs b) (na : a ≠ p) : DkAt (Fm.er G p) a vs b := by
  rcases h with h | ⟨hb, o, h⟩
  · exact .inl ((er_ne na).trans h)
  · exact .inr ⟨hb, o, (er_ne na).trans h⟩
section
variable {κ : Ctx} {T T' : Pd} {G : Hp} {p : Addr} {o : HO}
theorem tupAt_er {K : PySem.W.Frag} {a : Addr} {xs : List V} (ho : G p = some o) (mu : Mut (some o)) (h : TupAt K G a xs) : TupAt K (er G p) a xs := by
  rcases h with h | h
  · refine .inl ?_
    rw [er_ne]
    · exact h
    · intro z
      rw [z, ho] at h
      cases h
      exact mu
  · exact .inr h
mutual
theorem Rep.er (ho : G p = some o) (mu : Mut (some o)) (ht : T' p) (hT : ∀ a, a ≠ p → (T' a ↔ T a)) : ∀ (d : D) {v : V}, d.nb = true → Rep κ T' G d v → Rep κ T (er G p) d v
  | .non, _, _, h => h
  | .bl _, _, _, h => h
  | .int _, _, _, h => h
  | .str _, _, _, h => h
  | .tup l, v, n, h => by
    obtain ⟨a, vs, h1, h2, h3⟩ := h
    exact ⟨a, vs, h1, tupAt_er ho mu h2, RepL.er ho mu ht hT l n h3⟩
  | .lst b l, v, n, h => by
    have n' : (!b && nbL l) = true := n
    rw [Bool.and_eq_true, Bool.not_eq_true'] at n'
    obtain ⟨rfl, n2⟩ := n'
    obtain ⟨a, vs, h1, ⟨h2, h4⟩, h3⟩ := h
    have na : a ≠ p := fun z => by
      rw [z] at h4
      exact Bool.noConfusion (h4.mp ht)
    exact ⟨a, vs, h1, ⟨(er_ne na).trans h2, (hT a na).symm.trans h4⟩, RepL.er ho mu ht hT l n2 h3⟩
  | .scr l, v, n, h => by
    obtain ⟨a, vs, h1, h2, h3⟩ := h
    refine ⟨a, vs, h1, ?_, RepL.er ho mu ht hT l n h3⟩
    rcases h2 with (⟨ob, h2⟩ | h2) | h2
    · have na : a ≠ p := fun z => by
        rw [z, ho] at h2
        cases h2
        exact mu
      exact .inl (.inl ⟨ob, (er_ne na).trans h2⟩)
    · exact .inl (.inr h2)
    · exact .inr h2
  | .dk b l, v, n, h => by
    have n' : (!b && nbK l) = true := n
    rw [Bool.and_eq_true, Bool.not_eq_true'] at n'
    obtain ⟨rfl, n2⟩ := n'
    obtain ⟨a, vs, h1, ⟨h2, h4⟩, h3⟩ := h
    have na : a ≠ p := fun z => by
      rw [z] at h4
      exact Bool.noConfusion (h4.mp ht)
    exact ⟨a, vs, h1, ⟨h2.er na, (hT a na).symm.trans h4⟩, RepK.er ho mu ht hT l n2 h3⟩
  | .ins b c l, v, n, h => by
    have n' : (!b && nbF l) = true := n
    rw [Bool.and_eq_true, Bool.not_eq_true'] at n'
    obtain ⟨rfl, n2⟩ := n'
    obtain ⟨a, dx, vs, h1, ⟨h2, h4⟩, h3⟩ := h
    have na : a ≠ p := fun z => by
      rw [z] at h4
      exact Bool.noConfusion (h4.mp ht)
    exact ⟨a, dx, vs, h1, ⟨(er_ne na).trans h2, (hT a na).symm.trans h4⟩, RepF.er ho mu ht hT l n2 h3⟩
  | .ty _, _, _, h => h
  | .adr _, _, _, h => h
theorem RepL.er (ho : G p = some o) (mu : Mut (some o)) (ht : T' p) (hT : ∀ a, a ≠ p → (T' a ↔ T a)) : ∀ (l : List D) {vs : List V}, nbL l = true → RepL κ T' G l vs → RepL κ T (er G p) l vs
  | [], _, _, h => h
  | d :: l, vs, n, h => by
    have n' : (D.nb d && nbL l) = true := n
    rw [Bool.and_eq_true] at n'
    obtain ⟨v, ws, h1, h2, h3⟩ := h
    exact ⟨v, ws, h1, Rep.er ho mu ht hT d n'.1 h2, RepL.er ho mu ht hT l n'.2 h3⟩
theorem RepK.er (ho : G p = some o) (mu : Mut (some o)) (ht : T' p) (hT : ∀ a, a ≠ p → (T' a ↔ T a)) : ∀ (l : List (Key × D)) {vs : List (Key × V)}, nbK l = true → RepK κ T' G l vs → RepK κ T (er G p) l vs
  | [], _, _, h => h
  | (k, d) :: l, vs, n, h => by
    have n' : (D.nb d && nbK l) = true := n
    rw [Bool.and_eq_true] at n'
    obtain ⟨v, ws, h1, h2, h3⟩ := h
    exact ⟨v, ws, h1, Rep.er ho mu ht hT d n'.1 h2, RepK.er ho mu ht hT l n'.2 h3⟩
theorem RepF.er (ho : G p = some o) (mu : Mut (some o)) (ht : T' p) (hT : ∀ a, a ≠ p → (T' a ↔ T a)) : ∀ (l : List (Str × D)) {vs : List (Str × V)}, nbF l = true → RepF κ T' G l vs → RepF κ T (er G p) l vs
  | [], _, _, h => h
  | (k, d) :: l, vs, n, h => by
    have n' : (D.nb d && nbF l) = true := n
    rw [Bool.and_eq_true] at n'
    obtain ⟨v, ws, h1, h2, h3⟩ := h
    exact ⟨v, ws, h1, Rep.er ho mu ht hT d n'.1 h2, RepF.er ho mu ht hT l n'.2 h3⟩
end
end

/-! ### steps of the state -/
section
variable {κ : Ctx} {B : Bas} {ρ : List SD} {σ : L2.St} {H G : Hp}
theorem Same.upd {G : Hp} {p : Addr} {o : HO} (h : G p = none) : Same G (upd G p o) := fun a u e => by
  rw [upd_ne (ne_of_none e h)]
  exact e
theorem Ok.gnone (k : Ok κ B ρ σ H G) {p : Addr} (h : H p = none) : G p = none := k.fr.gh.free h
theorem Ok.bnone (k : Ok κ B ρ σ H G) {p : Addr} (h : H p = none) : B.H p = none := by
  cases e : B.H p with
  | none => rfl
  | some o => exact absurd h (k.fr.there p (by rw [e]; simp))
theorem Ok.nolend (k : Ok κ B ρ σ H G) {p : Addr} (h : B.H p = none) : ¬ B.T p := fun z => k.fr.lent p z h
/-- the heap grows by an object that is not frozen -/
theorem Frame.grow (k : Frame κ B H G) {p : Addr} {o : HO} (h : H p = none) : Frame κ B (upd H p o) G where
  keep := fun a u e n => by
    have e2 := k.keep a u e n
    rw [upd_ne (ne_of_none e2 h)]
    exact e2
  nt := k.nt
  frz := k.frz
  sub := k.sub
  gh := fun a u e => by
    have e2 := k.gh a u e
    rw [upd_ne (ne_of_none e2 h)]
    exact e2
  notb := k.notb
  tabs := k.tabs.ext fun a u e => by
    rw [upd_ne (ne_of_none e h)]
    exact e
  lent := k.lent
theorem Frame.freeze (k : Frame κ B H G) {p : Addr} {o : HO} (h : H p = some o) (hb : B.H p = none) (hg : G p = none) (no : ∀ ps, o ≠ .tbl ps) : Frame κ B H (upd G p o) where
  keep := k.keep
  nt := k.nt
  frz := fun a e => by
    have na : a ≠ p := fun z => e (by rw [z]; exact hb)
    rw [upd_ne na]
    exact k.frz a e
  sub := k.sub.trans (Same.upd hg)
  gh := fun a u e => by
    by_cases na : a = p
    · rw [na, upd_same] at e
      rw [na, h]
      exact e
    · rw [upd_ne na] at e
      exact k.gh a u e
  notb := fun a ps e => by
    by_cases na : a = p
    · rw [na, upd_same] at e
      exact no ps (Option.some.inj e)
    · rw [upd_ne na] at e
      exact k.notb a ps e
  tabs := k.tabs
  lent := k.lent
theorem Ok.alloc (k : Ok κ B ρ σ H G) {p : Addr} {o : HO} (h : H p = none) (no : ∀ ps, o ≠ .tbl ps) : Ok κ B ρ σ (upd H p o) (upd G p o) := by
  have hg := k.gnone h
  refine ⟨(k.fr.grow h).freeze upd_same (k.bnone h) hg no, k.len, fun i d e => ?_, fun i d e => ?_, k.sep, k.anch⟩
  · obtain ⟨v, h1, h2⟩ := k.val i d e
    exact ⟨v, h1, Rep.mono (.of (Same.upd hg)) d h2⟩
  · obtain ⟨q, h1, h2, h3, h4⟩ := k.own i d e
    obtain ⟨u, h5, _⟩ := h4.obj
    have nq : q ≠ p := ne_of_none h5 h
    exact ⟨q, h1, by rw [upd_ne nq]; exact h2, h3, h4.mono (Same.upd hg) (upd_ne nq)⟩
theorem Ok.allocOwn (k : Ok κ B ρ σ H G) {p : Addr} {o : HO} (h : H p = none) : Ok κ B ρ σ (upd H p o) G := by
  refine ⟨k.fr.grow h, k.len, k.val, fun i d e => ?_, k.sep, k.anch⟩
  obtain ⟨q, h1, h2, h3, h4⟩ := k.own i d e
  obtain ⟨u, h5, _⟩ := h4.obj
  exact ⟨q, h1, h2, h3, h4.mono (Same.refl _) (upd_ne (ne_of_none h5 h))⟩
/-- a new object is no slot's -/
theorem Ok.apart (k : Ok κ B ρ σ H G) {p : Addr} (h : H p = none) (j : Nat) (e : D) (hj : ρ[j]? = some (SD.ow e)) : σ[j]? ≠ some (some (V.ref p)) := fun z => by
  obtain ⟨q, h1, _, _, h4⟩ := k.own j e hj
  rw [z] at h1
  cases h1
  obtain ⟨u, h5, _⟩ := h4.obj
  rw [h] at h5
  cases h5
theorem OwnAt.rep {κ : Ctx} {B : Bas} {G H : Hp} {p : Addr} {d : D} {o : HO} (h : OwnAt κ B.T G H p d) (hp : H p = some o) (hg : G p = none) (nt : ¬ B.T p) : Rep κ B.T (upd G p o) d.fz (.ref p) := by
  have l : Ld B.T p false := ⟨fun z => (nt z).elim, fun z => Bool.noConfusion z⟩
  cases d with
  | lst b l' =>
    obtain ⟨vs, h1, h2⟩ := h
    rw [hp] at h1
    cases h1
    exact ⟨p, vs, rfl, ⟨upd_same, l⟩, RepL.mono (.of (Same.upd hg)) l' h2⟩
  | dk b l' =>
    obtain ⟨vs, h1, h2⟩ := h
    rw [hp] at h1
    cases h1
    exact ⟨p, vs, rfl, ⟨.inl upd_same, l⟩, RepK.mono (.of (Same.upd hg)) l' h2⟩
  | ins b c l' =>
    obtain ⟨dx, vs, h1, h2⟩ := h
    rw [hp] at h1
    cases h1
    exact ⟨p, dx, vs, rfl, ⟨upd_same, l⟩, RepF.mono (.of (Same.upd hg)) l' h2⟩
  | scr l' =>
    obtain ⟨vs, h1, h2⟩ := h
    exact ⟨p, .non :: vs, rfl, .inr rfl, ⟨.non, vs, rfl, rfl, RepL.mono (.of (Same.upd hg)) l' h2⟩⟩
  | _ => exact h.elim
/-- a new object of the taker's is frozen -/
theorem Ok.frzR (k : Ok κ B ρ σ H G) {d : D} {v : V} (r : RepR κ B ρ σ H G (.ow d) v) : ∃ G', Same G G' ∧ Ok κ B ρ σ H G' ∧ Rep κ B.T G' d.fz v := by
  obtain ⟨p, rfl, hg, hb, ho, na⟩ := r
  obtain ⟨o, h1, h2, _⟩ := ho.obj
  refine ⟨upd G p o, Same.upd hg, ⟨k.fr.freeze h1 hb hg h2, k.len, fun i d e => ?_, fun i e q => ?_, k.sep, k.anch⟩, ho.rep h1 hg (k.nolend hb)⟩
  · obtain ⟨v, e1, e2⟩ := k.val i d e
    exact ⟨v, e1, Rep.mono (.of (Same.upd hg)) d e2⟩
  · obtain ⟨q', e1, e2, e3, e4⟩ := k.own i e q
    have nq : q' ≠ p := fun z => na i e q (by rw [e1, z])
    exact ⟨q', e1, by rw [upd_ne nq]; exact e2, e3, e4.mono (Same.upd hg) rfl⟩
/-- a slot is written -/
theorem Ok.set (k : Ok κ B ρ σ H G) {r : SD} {v : V} (i : Nat) (hr : RepR κ B ρ σ H G r v) (na : ∀ p, (i, p) ∉ B.an) : Ok κ B (ρ.set i r) (σ.set i (some v)) H G := by
  have lt : ∀ {j : Nat} {x : SD}, ρ[j]? = some x → j < σ.length := fun {j x} e => by
    exact k.len ▸ (List.getElem?_eq_some_iff.mp e).1
  have here : ∀ {j : Nat} {x : SD}, (ρ.set i r)[j]? = some x → (j = i ∧ x = r ∧ (σ.set i (some v))[j]? = some (some v)) ∨ (j ≠ i ∧ ρ[j]? = some x ∧ (σ.set i (some v))[j]? = σ[j]?) := fun {j x} e => by
    by_cases hj : j = i
    · subst hj
      have hl : j < ρ.length := by
        have z := (List.getElem?_eq_some_iff.mp e).1
        rw [List.length_set] at z
        exact z
      rw [List.getElem?_set_self hl] at e
      exact .inl ⟨rfl, (Option.some.inj e).symm, List.getElem?_set_self (by rw [k.len]; exact hl)⟩
    · rw [List.getElem?_set_ne (Ne.symm hj)] at e
      exact .inr ⟨hj, e, List.getElem?_set_ne (Ne.symm hj)⟩
  refine ⟨k.fr, by rw [List.length_set, List.length_set, k.len], fun j d e => ?_, fun j d e => ?_, fun j l p d e hjl h1 h2 h3 h4 => ?_, fun j p hp => ?_⟩
  · rcases here e with ⟨_, e1, e2⟩ | ⟨_, e1, e2⟩
    · rw [← e1] at hr
      exact ⟨v, e2, hr⟩
    · rw [e2]
      exact k.val j d e1
  · rcases here e with ⟨_, e1, e2⟩ | ⟨_, e1, e2⟩
    · rw [← e1] at hr
      obtain ⟨p, rfl, q1, q2, q3, _⟩ := hr
      exact ⟨p, e2, q1, q2, q3⟩
    · rw [e2]
      exact k.own j d e1
  · rcases here h1 with ⟨a1, a2, a3⟩ | ⟨a1, a2, a3⟩ <;> rcases here h2 with ⟨b1, b2, b3⟩ | ⟨b1, b2, b3⟩
    · exact hjl (a1.trans b1.symm)
    · rw [← a2] at hr
      obtain ⟨q, rfl, _, _, _, na⟩ := hr
      rw [a3] at h3
      cases h3
      rw [b3] at h4
      exact na l e b2 h4
    · rw [← b2] at hr
      obtain ⟨q, rfl, _, _, _, na⟩ := hr
      rw [b3] at h4
      cases h4
      rw [a3] at h3
      exact na j d a2 h3
    · rw [a3] at h3
      rw [b3] at h4
      exact k.sep j l p d e hjl a2 b2 h3 h4
  · have hj : j ≠ i := fun z => na p (by rw [← z]; exact hp)
    rw [List.getElem?_set_ne (Ne.symm hj)]
    exact k.anch j p hp
/-- an object of a slot's own is changed -/
theorem Ok.write (k : Ok κ B ρ σ H G) {i : Nat} {d d' : D} {p : Addr} {o : HO} (e : ρ[i]? = some (SD.ow d)) (hs : σ[i]? = some (some (V.ref p))) (no : ∀ ps, o ≠ .tbl ps) (h : OwnAt κ B.T G (upd H p o) p d') : Ok κ B (ρ.set i (.ow d')) σ (upd H p o) G := by
  obtain ⟨q, h1, h2, h3, h4⟩ := k.own i d e
  rw [hs] at h1
  cases h1
  obtain ⟨u, h5, h6, _⟩ := h4.obj
  have hl := (List.getElem?_eq_some_iff.mp e).1
  have nb : ∀ a, B.H a ≠ none → a ≠ p := fun a z y => z (by rw [y]; exact h3)
  have fr : Frame κ B (upd H p o) G := {
    keep := fun a w z n => by rw [upd_ne (nb a (by rw [z]; simp))]; exact k.fr.keep a w z n
    nt := k.fr.nt
    frz := k.fr.frz
    sub := k.fr.sub
    gh := fun a w z => by
      have na : a ≠ p := fun y => by
        rw [y, h2] at z
        cases z
      rw [upd_ne na]
      exact k.fr.gh a w z
    notb := k.fr.notb
    tabs := fun t ht => by
      obtain ⟨ps, t1, t2, t3⟩ := k.fr.tabs t ht
      have n1 : t.1 ≠ p := fun y => by
        rw [y, h5] at t1
        exact h6 ps (Option.some.inj t1)
      refine ⟨ps, by rw [upd_ne n1]; exact t1, t2, fun pos cv hc => ?_⟩
      obtain ⟨c, c1, c2⟩ := t3 pos cv hc
      refine ⟨c, c1, ?_⟩
      have n2 : c ≠ p := fun y => by
        rw [y] at c2
        cases d with
        | lst b l =>
          obtain ⟨vs, z, _⟩ := h4
          rw [z] at c2
          unfold LamX.CodeO at c2
          cases c2
        | dk b l =>
          obtain ⟨vs, z, _⟩ := h4
          rw [z] at c2
          unfold LamX.CodeO at c2
          cases c2
        | ins b c' l =>
          obtain ⟨dx, vs, z, _⟩ := h4
          rw [z] at c2
          unfold LamX.CodeO at c2
          cases c2
        | scr l =>
          obtain ⟨vs, z, _⟩ := h4
          exact z.ncode c2
        | _ => exact h4.elim
      rw [upd_ne n2]
      exact c2
    lent := k.fr.lent }
  refine ⟨fr, by rw [List.length_set]; exact k.len, fun j c z => ?_, fun j c z => ?_, fun j l q c c' hjl z1 z2 z3 z4 => ?_, k.anch⟩
  · by_cases hj : j = i
    · subst hj
      rw [List.getElem?_set_self hl] at z
      cases z
    · rw [List.getElem?_set_ne (Ne.symm hj)] at z
      exact k.val j c z
  · by_cases hj : j = i
    · subst hj
      rw [List.getElem?_set_self hl] at z
      cases z
      exact ⟨p, hs, h2, h3, h⟩
    · rw [List.getElem?_set_ne (Ne.symm hj)] at z
      obtain ⟨q, q1, q2, q3, q4⟩ := k.own j c z
      have nq : q ≠ p := fun y => k.sep j i p c d hj z e (by rw [q1, y]) hs
      exact ⟨q, q1, q2, q3, q4.mono (Same.refl _) (upd_ne nq)⟩
  · have old : ∀ {m : Nat} {x : D}, (ρ.set i (.ow d'))[m]? = some (SD.ow x) → ∃ y, ρ[m]? = some (SD.ow y) := fun {m x} z => by
      by_cases hm : m = i
      · rw [hm]
        exact ⟨d, e⟩
      · rw [List.getElem?_set_ne (Ne.symm hm)] at z
        exact ⟨x, z⟩
    obtain ⟨y1, w1⟩ := old z1
    obtain ⟨y2, w2⟩ := old z2
    exact k.sep j l q y1 y2 hjl w1 w2 z3 z4
/-- a slot's own object is frozen -/
theorem Ok.frzS (k : Ok κ B ρ σ H G) {i : Nat} {d : D} (e : ρ[i]? = some (SD.ow d)) : ∃ p G', σ[i]? = some (some (V.ref p)) ∧ Same G G' ∧ Ok κ B (ρ.set i (.va d.fz)) σ H G' ∧ Rep κ B.T G' d.fz (.ref p) := by
  obtain ⟨p, h1, h2, h3, h4⟩ := k.own i d e
  obtain ⟨o, h5, h6, _⟩ := h4.obj
  have hl := (List.getElem?_eq_some_iff.mp e).1
  have rp := h4.rep h5 h2 (k.nolend h3)
  refine ⟨p, upd G p o, h1, Same.upd h2, ⟨k.fr.freeze h5 h3 h2 h6, by rw [List.length_set]; exact k.len, fun j c z => ?_, fun j c z => ?_, fun j l q c c' hjl z1 z2 z3 z4 => ?_, k.anch⟩, rp⟩
  · by_cases hj : j = i
    · subst hj
      rw [List.getElem?_set_self hl] at z
      cases z
      exact ⟨_, h1, rp⟩
    · rw [List.getElem?_set_ne (Ne.symm hj)] at z
      obtain ⟨v, e1, e2⟩ := k.val j c z
      exact ⟨v, e1, Rep.mono (.of (Same.upd h2)) c e2⟩
  · by_cases hj : j = i
    · subst hj
      rw [List.getElem?_set_self hl] at z
      cases z
    · rw [List.getElem?_set_ne (Ne.symm hj)] at z
      obtain ⟨q, q1, q2, q3, q4⟩ := k.own j c z
      have nq : q ≠ p := fun y => k.sep j i p c d hj z e (by rw [q1, y]) h1
      exact ⟨q, q1, by rw [upd_ne nq]; exact q2, q3, q4.mono (Same.upd h2) rfl⟩
  · have old : ∀ {m : Nat} {x : D}, (ρ.set i (.va d.fz))[m]? = some (SD.ow x) → ρ[m]? = some (SD.ow x) := fun {m x} z => by
      by_cases hm : m = i
      · subst hm
        rw [List.getElem?_set_self hl] at z
        cases z
      · rw [List.getElem?_set_ne (Ne.symm hm)] at z
        exact z
    exact k.sep j l q c c' hjl (old z1) (old z2) z3 z4
end
end Fm

set_option maxHeartbeats 3900000
namespace Fm
open L2 PySem PySem.Spec PyProof.Rows

/-! ### readings -/
def tE (κ : Ctx) (W : WX) (m : M SD) : TE := fun σ H Q => ∃ B ρ G, Ok κ B ρ σ H G ∧ Pst κ W B σ G (m ρ) fun r ρ' H' G' => ∀ v, RepR κ B ρ' σ H' G' r v → Q v H'
def tT (κ : Ctx) (W : WX) (m : M Bool) : TT := fun σ H Q => ∃ B ρ G, Ok κ B ρ σ H G ∧ Pst κ W B σ G (m ρ) fun b ρ' H' G' => Q b H'
/-- an argument: data, or a slot's own object by reference -/
inductive Ar where
  | va (d : D) | sl (i : Nat)
def RepA (κ : Ctx) (T : Pd) (σ : L2.St) (G : Hp) : Ar → V → Prop
  | .va d, v => Rep κ T G d v
  | .sl i, v => σ[i]? = some (some v)
def RepAs (κ : Ctx) (T : Pd) (σ : L2.St) (G : Hp) : List Ar → List V → Prop
  | [], vs => vs = []
  | a :: l, vs => ∃ v ws, vs = v :: ws ∧ RepA κ T σ G a v ∧ RepAs κ T σ G l ws
theorem RepAs.mono {κ : Ctx} {T : Pd} {σ : L2.St} {G G' : Hp} (e : Same G G') : ∀ {l : List Ar} {vs : List V}, RepAs κ T σ G l vs → RepAs κ T σ G' l vs
  | [], _, h => h
  | .va d :: l, vs, h => by
    obtain ⟨v, ws, h1, h2, h3⟩ := h
    exact ⟨v, ws, h1, Rep.mono (.of e) d h2, RepAs.mono e h3⟩
  | .sl i :: l, vs, h => by
    obtain ⟨v, ws, h1, h2, h3⟩ := h
    exact ⟨v, ws, h1, h2, RepAs.mono e h3⟩
def tAr (κ : Ctx) (W : WX) (m : M (List Ar)) : TA := fun σ H Q => ∃ B ρ G, Ok κ B ρ σ H G ∧ Pst κ W B σ G (m ρ) fun as ρ' H' G' => ∀ vs, RepAs κ B.T σ G' as vs → Q vs H'
/-- frozen data alone -/
def tA (κ : Ctx) (W : WX) (m : M (List D)) : TA := fun σ H Q => ∃ B ρ G, Ok κ B ρ σ H G ∧ Pst κ W B σ G (m ρ) fun ds ρ' H' G' => ∀ vs, RepL κ B.T G' ds vs → Q vs H'

theorem PE.imp {X : Cx} {e : Expr} {t t' : TE} (h : PE X e t) (f : ∀ σ H Q, t' σ H Q → t σ H Q) : PE X e t' := ⟨fun pins s σ H Q I q => h.run pins s σ H Q I (f σ H Q q)⟩
theorem PT.imp {X : Cx} {e : Expr} {t t' : TT} (h : PT X e t) (f : ∀ σ H Q, t' σ H Q → t σ H Q) : PT X e t' := ⟨fun pins s σ H Q I q => h.run pins s σ H Q I (f σ H Q q)⟩
theorem PW.imp {X : Cx} {e : Expr} {t t' : TT} (h : PW X e t) (f : ∀ σ H Q, t' σ H Q → t σ H Q) : PW X e t' := ⟨fun wh pins s σ H Q I q => h.run wh pins s σ H Q I (f σ H Q q)⟩
theorem PA.imp {X : Cx} {e : List Expr} {t t' : TA} (h : PA X e t) (f : ∀ σ H Q, t' σ H Q → t σ H Q) : PA X e t' := ⟨fun pos pins s σ H Q I q => h.run pos pins s σ H Q I (f σ H Q q)⟩
theorem PS.imp {X : Cx} {e : Stmt} {t t' : TS} (h : PS X e t) (f : ∀ D σ H, t' D σ H → t D σ H) : PS X e t' := ⟨fun pins s σ H D I q => h.run pins s σ H D I (f D σ H q)⟩
theorem PSs.imp {X : Cx} {e : List Stmt} {t t' : TS} (h : PSs X e t) (f : ∀ D σ H, t' D σ H → t D σ H) : PSs X e t' := ⟨fun pins s σ H D I q => h.run pins s σ H D I (f D σ H q)⟩

/-! ### frozen results -/
def fzM : SD → M D
  | .va d => M.ret d
  | .ow d => M.ret d.fz
  | .un => M.no
/-- a result as frozen data -/
def fE (m : M SD) : M D := m.bind fzM
section
variable {κ : Ctx} {W : WX} {B : Bas} {σ : L2.St} {H G : Hp} {ρ : List SD}
theorem Pst.ret {α : Type} {a : α} {k : α → List SD → Hp → Hp → Prop} (h : Pst κ W B σ G (M.ret a ρ) k) (o : Ok κ B ρ σ H G) : k a ρ H G := h H G o (Same.refl G)
/-- an expression whose value is taken as frozen data -/
theorem tE_fz {m : M SD} {Q : VK} {k : D → List SD → Hp → Hp → Prop} (o : Ok κ B ρ σ H G) (h : Pst κ W B σ G (fE m ρ) k)
    (f : ∀ d ρ' H' G', Ok κ B ρ' σ H' G' → Same G G' → k d ρ' H' G' → ∀ v, Rep κ B.T G' d v → Q v H') : tE κ W m σ H Q := by
  refine ⟨B, ρ, G, o, Pst.mono (Pst.bind h) fun r ρ' H' G' o' s h' v rv => ?_⟩
  cases r with
  | va d => exact f d ρ' H' G' o' s (Pst.ret h' o') v rv
  | ow d =>
    obtain ⟨G2, s2, o2, r2⟩ := o'.frzR rv
    exact f _ ρ' H' G2 o2 (s.trans s2) (h' H' G2 o2 s2) v r2
  | un => exact rv.elim
end

/-! ### constants, names -/
def mC (d : D) : M SD := M.ret (.va d)
section
variable {X : Cx} {κ : Ctx} {W : WX}
theorem e_c {e : Expr} {v : V} {d : D} (h : PE X e (tC v)) (r : ∀ T G, Rep κ T G d v) : PE X e (tE κ W (mC d)) := PE.imp h fun σ H Q ⟨B, ρ, G, o, q⟩ => Pst.ret q o v (r _ _)
theorem e_int {i : Int} {j : Nat} {pos : Pos} : PE X (.Constant (.int i) j pos) (tE κ W (mC (.int i))) := e_c pe_int fun _ _ => rfl
theorem e_bl {b : Bool} {j : Nat} {pos : Pos} : PE X (.Constant (.bool b) j pos) (tE κ W (mC (.bl b))) := e_c pe_bl fun _ _ => rfl
theorem e_non {j : Nat} {pos : Pos} : PE X (.Constant .none j pos) (tE κ W (mC .non)) := e_c pe_non fun _ _ => rfl
theorem e_str {x : Str} {j : Nat} {pos : Pos} : PE X (.Constant (.str x) j pos) (tE κ W (mC (.str x))) := e_c pe_str fun _ _ => rfl
/-- a name: what it owns is frozen -/
def mVar (i : Nat) : M SD := fun ρ => match ρ[i]? with
  | some (.va d) => .ok (.va d) ρ
  | some (.ow d) => .ok (.va d.fz) (ρ.set i (.va d.fz))
  | _ => .no
/-- a name, the last time: what it owns goes on to the taker -/
def mMov (i : Nat) : M SD := fun ρ => match ρ[i]? with
  | some (.va d) => .ok (.va d) ρ
  | some (.ow d) => .ok (.ow d) (ρ.set i .un)
  | _ => .no
theorem var_ok {i : Nat} {σ : L2.St} {H : Hp} {Q : VK} (h : tE κ W (mVar i) σ H Q) : tVar i σ H Q := by
  obtain ⟨B, ρ, G, o, q⟩ := h
  unfold mVar at q
  cases e : ρ[i]? with
  | none =>
    rw [e] at q
    exact q.elim
  | some x =>
    rw [e] at q
    cases x with
    | un => exact q.elim
    | va d =>
      obtain ⟨v, h1, h2⟩ := o.val i d e
      exact ⟨v, h1, q H G o (Same.refl G) v h2⟩
    | ow d =>
      obtain ⟨p, G', h1, s, o', r⟩ := o.frzS e
      exact ⟨_, h1, q H G' o' s _ r⟩
theorem Ok.drop {B : Bas} {ρ : List SD} {σ : L2.St} {H G : Hp} (o : Ok κ B ρ σ H G) (i : Nat) : Ok κ B (ρ.set i .un) σ H G := by
  have back : ∀ {j : Nat} {x : SD}, (ρ.set i .un)[j]? = some x → x ≠ .un → j ≠ i ∧ ρ[j]? = some x := fun {j x} z n => by
    by_cases hj : j = i
    · subst hj
      have hl : j < ρ.length := by
        have y := (List.getElem?_eq_some_iff.mp z).1
        rw [List.length_set] at y
        exact y
      rw [List.getElem?_set_self hl] at z
      exact absurd (Option.some.inj z).symm n
    · rw [List.getElem?_set_ne (Ne.symm hj)] at z
      exact ⟨hj, z⟩
  exact ⟨o.fr, by rw [List.length_set]; exact o.len, fun j d z => o.val j d (back z (by simp)).2, fun j d z => o.own j d (back z (by simp)).2, fun j l p d e hjl z1 z2 => o.sep j l p d e hjl (back z1 (by simp)).2 (back z2 (by simp)).2, o.anch⟩
theorem mov_ok {i : Nat} {σ : L2.St} {H : Hp} {Q : VK} (h : tE κ W (mMov i) σ H Q) : tVar i σ H Q := by
  obtain ⟨B, ρ, G, o, q⟩ := h
  unfold mMov at q
  cases e : ρ[i]? with
  | none =>
    rw [e] at q
    exact q.elim
  | some x =>
    rw [e] at q
    cases x with
    | un => exact q.elim
    | va d =>
      obtain ⟨v, h1, h2⟩ := o.val i d e
      exact ⟨v, h1, q H G o (Same.refl G) v h2⟩
    | ow d =>
      obtain ⟨p, h1, h2, h3, h4⟩ := o.own i d e
      refine ⟨_, h1, q H G (o.drop i) (Same.refl G) _ ⟨p, rfl, h2, h3, h4, fun j e' z1 z2 => ?_⟩⟩
      have hj : j ≠ i := fun y => by
        subst y
        rw [List.getElem?_set_self ((List.getElem?_eq_some_iff.mp e).1)] at z1
        cases z1
      rw [List.getElem?_set_ne (Ne.symm hj)] at z1
      exact o.sep j i p e' d hj z1 e z2 h1
theorem e_var {i : Nat} {x : Str} {pos : Pos} (h : PE X (.Name x pos) (tVar i)) : PE X (.Name x pos) (tE κ W (mVar i)) := PE.imp h fun _ _ _ => var_ok
theorem e_mov {i : Nat} {x : Str} {pos : Pos} (h : PE X (.Name x pos) (tVar i)) : PE X (.Name x pos) (tE κ W (mMov i)) := PE.imp h fun _ _ _ => mov_ok
end

/-! ### operators -/
/-- an operation of two values is g of their data -/
def OpD (κ : Ctx) (r : R2) (g : D → D → Option SD) : Prop := ∀ (B : Bas) (ρ : List SD) (σ : L2.St) (H G : Hp) (d e : D) (x y : V) (z : SD) (Q : VK), Ok κ B ρ σ H G → Rep κ B.T G d x → Rep κ B.T G e y → g d e = some z →
  (∀ v H' G', Ok κ B ρ σ H' G' → Same G G' → RepR κ B ρ σ H' G' z v → Q v H') → r x y H Q
def UnD (κ : Ctx) (r : V → Hp → VK → Prop) (g : D → Option SD) : Prop := ∀ (B : Bas) (ρ : List SD) (σ : L2.St) (H G : Hp) (d : D) (x : V) (z : SD) (Q : VK), Ok κ B ρ σ H G → Rep κ B.T G d x → g d = some z →
  (∀ v H' G', Ok κ B ρ σ H' G' → Same G G' → RepR κ B ρ σ H' G' z v → Q v H') → r x H Q
def CallD (κ : Ctx) (r : List V → Hp → VK → Prop) (g : List D → Option SD) : Prop := ∀ (B : Bas) (ρ : List SD) (σ : L2.St) (H G : Hp) (ds : List D) (xs : List V) (z : SD) (Q : VK), Ok κ B ρ σ H G → RepL κ B.T G ds xs → g ds = some z →
  (∀ v H' G', Ok κ B ρ σ H' G' → Same G G' → RepR κ B ρ σ H' G' z v → Q v H') → r xs H Q
def mOp (g : D → D → Option SD) (ma mb : M SD) : M SD := (fE ma).bind fun d => (fE mb).bind fun e => M.opt (g d e)
def mUn (g : D → Option SD) (ma : M SD) : M SD := (fE ma).bind fun d => M.opt (g d)
section
variable {κ : Ctx} {W : WX} {σ : L2.St} {H : Hp} {Q : VK}
theorem Pst.opt {α : Type} {B : Bas} {G : Hp} {ρ : List SD} {a : Option α} {k : α → List SD → Hp → Hp → Prop} (h : Pst κ W B σ G (M.opt a ρ) k) : ∃ z, a = some z ∧ ∀ H' G', Ok κ B ρ σ H' G' → Same G G' → k z ρ H' G' := by
  cases a with
  | none => exact h.elim
  | some z => exact ⟨z, rfl, h⟩
theorem op_ok {r : R2} {g : D → D → Option SD} {ma mb : M SD} (hr : OpD κ r g) (h : tE κ W (mOp g ma mb) σ H Q) : tOp r (tE κ W ma) (tE κ W mb) σ H Q := by
  obtain ⟨B, ρ, G, o, q⟩ := h
  refine tE_fz o (Pst.bind q) fun d ρ1 H1 G1 o1 s1 q1 v1 r1 => ?_
  refine tE_fz o1 (Pst.bind q1) fun e ρ2 H2 G2 o2 s2 q2 v2 r2 => ?_
  obtain ⟨z, hz, q3⟩ := Pst.opt q2
  exact hr B ρ2 σ H2 G2 d e v1 v2 z Q o2 (Rep.mono (.of s2) d r1) r2 hz fun v H' G' o' s' rv => q3 H' G' o' s' v rv
theorem un_ok {r : V → Hp → VK → Prop} {g : D → Option SD} {ma : M SD} (hr : UnD κ r g) (h : tE κ W (mUn g ma) σ H Q) : tUn r (tE κ W ma) σ H Q := by
  obtain ⟨B, ρ, G, o, q⟩ := h
  refine tE_fz o (Pst.bind q) fun d ρ1 H1 G1 o1 s1 q1 v1 r1 => ?_
  obtain ⟨z, hz, q3⟩ := Pst.opt q1
  exact hr B ρ1 σ H1 G1 d v1 z Q o1 r1 hz fun v H' G' o' s' rv => q3 H' G' o' s' v rv
end
section
variable {X : Cx} {κ : Ctx} {W : WX} {a b : Expr} {ma mb : M SD} {pos : Pos}
theorem e_op {op : Operator} {r : R2} {g : D → D → Option SD} (ho : OpR X (binaryOp op) r) (hr : OpD κ r g) (ha : PE X a (tE κ W ma)) (hb : PE X b (tE κ W mb)) : PE X (.BinOp a op b pos) (tE κ W (mOp g ma mb)) :=
  PE.imp (pe_op ho ha hb) fun _ _ _ => op_ok hr
theorem e_un {op : UnaryOp} {r : V → Hp → VK → Prop} {g : D → Option SD} (ho : UnR X (unaryOp op) r) (hr : UnD κ r g) (ha : PE X a (tE κ W ma)) : PE X (.UnaryOp op a pos) (tE κ W (mUn g ma)) :=
  PE.imp (pe_un ho ha) fun _ _ _ => un_ok hr
theorem e_cmp {op : CmpOp} {r : R2} {g : D → D → Option SD} (ho : OpR X (compareOp op) r) (hr : OpD κ r g) (ha : PE X a (tE κ W ma)) (hb : PE X b (tE κ W mb)) (hm : behindInMarks op b = false) : PE X (.Compare a [op] [b] pos) (tE κ W (mOp g ma mb)) :=
  PE.imp (pe_cmpR ho ha hb hm) fun _ _ _ => op_ok hr
end

/-! ### tests -/
/-- a value that must be True or False -/
def boolM : D → M Bool
  | .bl b => M.ret b
  | _ => M.no
def mTst (m : M SD) : M Bool := (fE m).bind boolM
section
variable {X : Cx} {κ : Ctx} {W : WX} {a b : Expr} {pos : Pos} {σ : L2.St} {H : Hp}
theorem tst_ok {m : M SD} {Q : Bool → Hp → Prop} (h : tT κ W (mTst m) σ H Q) : tTest (tE κ W m) σ H Q := by
  obtain ⟨B, ρ, G, o, q⟩ := h
  refine tE_fz o (Pst.bind q) fun d ρ1 H1 G1 o1 s1 q1 v1 r1 => ?_
  cases d with
  | bl b => exact ⟨b, r1, Pst.ret q1 o1⟩
  | _ => exact q1.elim
theorem t_val {m : M SD} (h : PE X a (tE κ W m)) (he : ∀ whole, isTrue a X.env whole = (do let v ← whole; standAt a.pos; holding [v] (truthy v)) := by intro _; rfl) : PT X a (tT κ W (mTst m)) :=
  PT.imp (pt_val h he) fun _ _ _ q => tst_ok q
theorem t_cmp {op : CmpOp} {r : R2} {g : D → D → Option SD} {ma mb : M SD} (ho : OpR X (compareOp op) r) (hr : OpD κ r g) (ha : PE X a (tE κ W ma)) (hb : PE X b (tE κ W mb)) (hm : behindInMarks op b = false) : PT X (.Compare a [op] [b] pos) (tT κ W (mTst (mOp g ma mb))) := by
  refine PT.imp (pt_cmpR ho ha hb hm) fun σ H Q q => op_ok hr ?_
  exact tst_ok q
def mNot (m : M Bool) : M Bool := m.bind fun b => M.ret (!b)
def mAnd (m n : M Bool) : M Bool := m.bind fun b => if b then n else M.ret false
def mOr (m n : M Bool) : M Bool := m.bind fun b => if b then M.ret true else n
theorem t_not {m : M Bool} (h : PT X a (tT κ W m)) : PT X (.UnaryOp .Not a pos) (tT κ W (mNot m)) := by
  refine PT.imp (pt_not h) fun σ H Q ⟨B, ρ, G, o, q⟩ => ⟨B, ρ, G, o, Pst.mono (Pst.bind q) fun b ρ' H' G' o' s q' => ?_⟩
  exact Pst.ret q' o'
theorem w_one {m : M Bool} {op : BoolOp} (h : PT X a (tT κ W m)) : PW X (.BoolOp op [a] pos) (tT κ W m) := by
  cases op with
  | And => exact pw_and1 h
  | Or => exact pw_or1 h
theorem w_and {m n : M Bool} {rest : List Expr} (h : PT X a (tT κ W m)) (h2 : PW X (.BoolOp .And (b :: rest) pos) (tT κ W n)) : PW X (.BoolOp .And (a :: b :: rest) pos) (tT κ W (mAnd m n)) := by
  refine PW.imp (pw_and h h2) fun σ H Q ⟨B, ρ, G, o, q⟩ => ⟨B, ρ, G, o, Pst.mono (Pst.bind q) fun c ρ' H' G' o' s q' => ?_⟩
  cases c with
  | true => exact iteT ⟨B, ρ', G', o', q'⟩
  | false => exact iteF (Pst.ret q' o')
theorem w_or {m n : M Bool} {rest : List Expr} (h : PT X a (tT κ W m)) (h2 : PW X (.BoolOp .Or (b :: rest) pos) (tT κ W n)) : PW X (.BoolOp .Or (a :: b :: rest) pos) (tT κ W (mOr m n)) := by
  refine PW.imp (pw_or h h2) fun σ H Q ⟨B, ρ, G, o, q⟩ => ⟨B, ρ, G, o, Pst.mono (Pst.bind q) fun c ρ' H' G' o' s q' => ?_⟩
  cases c with
  | true => exact iteT (Pst.ret q' o')
  | false => exact iteF ⟨B, ρ', G', o', q'⟩
/-- and, or, not as values (all but the last True or False) -/
def mAndV (m n : M SD) : M SD := (mTst m).bind fun b => if b then n else M.ret (.va (.bl false))
def mOrV (m n : M SD) : M SD := (mTst m).bind fun b => if b then M.ret (.va (.bl true)) else n
def mNotV (m : M SD) : M SD := (mTst m).bind fun b => M.ret (.va (.bl (!b)))
theorem tstV {m : M SD} {B : Bas} {ρ : List SD} {G : Hp} {Q : VK} {k : Bool → List SD → Hp → Hp → Prop} (o : Ok κ B ρ σ H G) (h : Pst κ W B σ G (mTst m ρ) k)
    (f : ∀ b ρ' H' G', Ok κ B ρ' σ H' G' → k b ρ' H' G' → Q (.bl b) H') : tE κ W m σ H Q := by
  refine tE_fz o (Pst.bind h) fun d ρ1 H1 G1 o1 s1 q1 v1 r1 => ?_
  cases d with
  | bl b =>
    cases (show v1 = V.bl b from r1)
    exact f b ρ1 H1 G1 o1 (Pst.ret q1 o1)
  | _ => exact q1.elim
theorem e_and {m n : M SD} {rest : List Expr} (h : PE X a (tE κ W m)) (h2 : PE X (.BoolOp .And (b :: rest) pos) (tE κ W n)) : PE X (.BoolOp .And (a :: b :: rest) pos) (tE κ W (mAndV m n)) := by
  refine PE.imp (pe_and h h2) fun σ H Q ⟨B, ρ, G, o, q⟩ => ?_
  refine tstV o (Pst.bind q) fun c ρ' H' G' o' q' => ⟨c, rfl, ?_⟩
  cases c with
  | true => exact iteT ⟨B, ρ', G', o', q'⟩
  | false => exact iteF (Pst.ret q' o' _ rfl)
theorem e_not {m : M SD} (h : PE X a (tE κ W m)) : PE X (.UnaryOp .Not a pos) (tE κ W (mNotV m)) := by
  refine PE.imp (pe_not h) fun σ H Q ⟨B, ρ, G, o, q⟩ => ?_
  exact tstV o (Pst.bind q) fun c ρ' H' G' o' q' => ⟨c, rfl, Pst.ret q' o' _ rfl⟩
def mIfE (c : M Bool) (m n : M SD) : M SD := c.bind fun b => if b then m else n
theorem e_ife {c : Expr} {t : M Bool} {m n : M SD} (hc : PT X c (tT κ W t)) (ha : PE X a (tE κ W m)) (hb : PE X b (tE κ W n)) : PE X (.IfExp c a b pos) (tE κ W (mIfE t m n)) := by
  refine PE.imp (pe_ifExp hc ha hb) fun σ H Q ⟨B, ρ, G, o, q⟩ => ⟨B, ρ, G, o, Pst.mono (Pst.bind q) fun c ρ' H' G' o' s q' => ?_⟩
  cases c with
  | true => exact iteT ⟨B, ρ', G', o', q'⟩
  | false => exact iteF ⟨B, ρ', G', o', q'⟩
end

/-! ### argument lists, displays -/
def mNil : M (List D) := M.ret []
def mCons (m : M SD) (n : M (List D)) : M (List D) := (fE m).bind fun d => n.bind fun ds => M.ret (d :: ds)
def aNil : M (List Ar) := M.ret []
def aVa (m : M SD) (n : M (List Ar)) : M (List Ar) := (fE m).bind fun d => n.bind fun ds => M.ret (.va d :: ds)
def isSet : Option SD → Bool
  | some (.va _) => true
  | some (.ow _) => true
  | _ => false
def aSl (i : Nat) (n : M (List Ar)) : M (List Ar) := fun ρ => if isSet ρ[i]? then (n.bind fun ds => M.ret (.sl i :: ds)) ρ else .no
section
variable {X : Cx} {κ : Ctx} {W : WX} {e : Expr} {es : List Expr} {pos : Pos}
theorem a_nil : PA X [] (tA κ W mNil) := PA.imp pa_nil fun σ H Q ⟨B, ρ, G, o, q⟩ => Pst.ret q o [] rfl
theorem a_cons {m : M SD} {n : M (List D)} (h : PE X e (tE κ W m)) (h2 : PA X es (tA κ W n)) (hs : starEach (e :: es) X.env = (false, eval e X.env) :: starEach es X.env := by rfl) : PA X (e :: es) (tA κ W (mCons m n)) := by
  refine PA.imp (pa_cons h h2 hs) fun σ H Q ⟨B, ρ, G, o, q⟩ => ?_
  refine tE_fz o (Pst.bind q) fun d ρ1 H1 G1 o1 s1 q1 v1 r1 => ?_
  refine ⟨B, ρ1, G1, o1, Pst.mono (Pst.bind q1) fun ds ρ2 H2 G2 o2 s2 q2 vs rs => ?_⟩
  exact Pst.ret q2 o2 _ ⟨v1, vs, rfl, Rep.mono (.of s2) d r1, rs⟩
theorem ar_nil : PA X [] (tAr κ W aNil) := PA.imp pa_nil fun σ H Q ⟨B, ρ, G, o, q⟩ => Pst.ret q o [] rfl
theorem ar_va {m : M SD} {n : M (List Ar)} (h : PE X e (tE κ W m)) (h2 : PA X es (tAr κ W n)) (hs : starEach (e :: es) X.env = (false, eval e X.env) :: starEach es X.env := by rfl) : PA X (e :: es) (tAr κ W (aVa m n)) := by
  refine PA.imp (pa_cons h h2 hs) fun σ H Q ⟨B, ρ, G, o, q⟩ => ?_
  refine tE_fz o (Pst.bind q) fun d ρ1 H1 G1 o1 s1 q1 v1 r1 => ?_
  refine ⟨B, ρ1, G1, o1, Pst.mono (Pst.bind q1) fun ds ρ2 H2 G2 o2 s2 q2 vs rs => ?_⟩
  exact Pst.ret q2 o2 _ ⟨v1, vs, rfl, Rep.mono (.of s2) d r1, rs⟩
theorem Ok.there {B : Bas} {ρ : List SD} {σ : L2.St} {H G : Hp} (o : Ok κ B ρ σ H G) {i : Nat} {x : SD} (e : ρ[i]? = some x) (n : x ≠ .un) : ∃ v, σ[i]? = some (some v) := by
  cases x with
  | un => exact (n rfl).elim
  | va d =>
    obtain ⟨v, h, _⟩ := o.val i d e
    exact ⟨v, h⟩
  | ow d =>
    obtain ⟨p, h, _⟩ := o.own i d e
    exact ⟨_, h⟩
theorem ar_sl {i : Nat} {x : Str} {p : Pos} {n : M (List Ar)} (h : PE X (.Name x p) (tVar i)) (h2 : PA X es (tAr κ W n)) (hs : starEach (.Name x p :: es) X.env = (false, eval (.Name x p) X.env) :: starEach es X.env := by rfl) : PA X (.Name x p :: es) (tAr κ W (aSl i n)) := by
  refine PA.imp (pa_cons h h2 hs) fun σ H Q ⟨B, ρ, G, o, q⟩ => ?_
  unfold aSl at q
  cases hi : isSet ρ[i]? with
  | false =>
    rw [hi, if_neg Bool.false_ne_true] at q
    exact q.elim
  | true =>
    rw [hi, if_pos rfl] at q
    obtain ⟨v, hv⟩ : ∃ v, σ[i]? = some (some v) := by
      cases e : ρ[i]? with
      | none =>
        rw [e] at hi
        cases hi
      | some x =>
        refine o.there e fun z => ?_
        rw [e, z] at hi
        cases hi
    refine ⟨v, hv, B, ρ, G, o, Pst.mono (Pst.bind q) fun ds ρ2 H2 G2 o2 s2 q2 vs rs => ?_⟩
    exact Pst.ret q2 o2 _ ⟨v, vs, rfl, hv, rs⟩
end
end Fm

set_option maxHeartbeats 3900000
namespace Fm
open L2 PySem PySem.Spec PyProof.Rows

/-! ### statements -/
inductive Fl where
  | nx | rt (r : SD) | bk | ct
abbrev S := M Fl
def PstS (κ : Ctx) (W : WX) (B : Bas) (G : Hp) (r : Rs Fl) (D : Ends) : Prop := match r with
  | .ok .nx ρ' => ∀ σ' H' G', Ok κ B ρ' σ' H' G' → Same G G' → D.nx σ' H'
  | .ok (.rt r) ρ' => ∀ v σ' H' G', Ok κ B ρ' σ' H' G' → Same G G' → RepR κ B ρ' σ' H' G' r v → D.rt v H'
  | .ok .bk ρ' => ∀ σ' H' G', Ok κ B ρ' σ' H' G' → Same G G' → D.bk σ' H'
  | .ok .ct ρ' => ∀ σ' H' G', Ok κ B ρ' σ' H' G' → Same G G' → D.ct σ' H'
  | .ex x ρ' => ∀ cls d σ' H' G', Ok κ B ρ' σ' H' G' → Same G G' → RepX κ B.T H' G' x cls d → W cls d σ' H'
  | .no => False
/-- the slots whose object stood at the def's entry -/
def InA (B : Bas) (A : List Nat) : Prop := ∀ q ∈ B.an, q.1 ∈ A
/-- A: the slots whose object stands at the def's entry already (they are not stored to) -/
def tS (κ : Ctx) (A : List Nat) (W : WX) (s : S) : TS := fun D σ H => ∃ B ρ G, InA B A ∧ Ok κ B ρ σ H G ∧ PstS κ W B G (s ρ) D
def sSeq (s t : S) : S := fun ρ => match s ρ with
  | .ok .nx ρ' => t ρ'
  | r => r
def sNx : S := M.ret .nx
def sRet (m : M SD) : S := m.bind fun r => M.ret (.rt r)
def sRetN : S := M.ret (.rt (.va .non))
def sSet (i : Nat) (m : M SD) : S := m.bind fun r => fun ρ => .ok .nx (ρ.set i r)
def sDrop (m : M SD) : S := m.bind fun _ => M.ret .nx
def sIf (c : M Bool) (s t : S) : S := c.bind fun b => if b then s else t
theorem PstS.mono {κ : Ctx} {W : WX} {B : Bas} {G G1 : Hp} {r : Rs Fl} {D D' : Ends} (h : PstS κ W B G r D) (s : Same G G1) (hn : ∀ σ H, D.nx σ H → D'.nx σ H) (hr : D.rt = D'.rt) (hb : D.bk = D'.bk) (hc : D.ct = D'.ct) : PstS κ W B G1 r D' := by
  cases r with
  | ok f ρ' =>
    cases f with
    | nx => exact fun σ' H' G' o e => hn _ _ (h σ' H' G' o (s.trans e))
    | rt r => exact fun v σ' H' G' o e q => hr ▸ h v σ' H' G' o (s.trans e) q
    | bk => exact fun σ' H' G' o e => hb ▸ h σ' H' G' o (s.trans e)
    | ct => exact fun σ' H' G' o e => hc ▸ h σ' H' G' o (s.trans e)
  | ex x ρ' => exact fun cls d σ' H' G' o e q => h cls d σ' H' G' o (s.trans e) q
  | no => exact h
/-- an expression's part of a statement -/
theorem PstS.bind {α : Type} {κ : Ctx} {W : WX} {B : Bas} {σ : L2.St} {G : Hp} {m : M α} {f : α → S} {ρ : List SD} {D : Ends} (h : PstS κ W B G (m.bind f ρ) D) :
    Pst κ W B σ G (m ρ) fun a ρ' H' G' => PstS κ W B G' (f a ρ') D := by
  unfold M.bind at h
  cases e : m ρ with
  | ok a ρ' =>
    rw [e] at h
    exact fun H' G' o s => PstS.mono h s (fun _ _ q => q) rfl rfl rfl
  | ex x ρ' =>
    rw [e] at h
    exact fun cls d H' G' o s r => h cls d σ H' G' o s r
  | no =>
    rw [e] at h
    exact h
section
variable {X : Cx} {κ : Ctx} {A : List Nat} {W : WX} {pos : Pos}
theorem s_nil : PSs X [] (tS κ A W sNx) := PSs.imp pss_nil fun D σ H ⟨B, ρ, G, _, o, q⟩ => q σ H G o (Same.refl G)
theorem s_cons {st : Stmt} {rest : List Stmt} {s t : S} (h : PS X st (tS κ A W s)) (h2 : PSs X rest (tS κ A W t)) : PSs X (st :: rest) (tS κ A W (sSeq s t)) := by
  refine PSs.imp (pss_cons h h2) fun D σ H ⟨B, ρ, G, a, o, q⟩ => ⟨B, ρ, G, a, o, ?_⟩
  have q' : PstS κ W B G (match s ρ with | .ok .nx ρ' => t ρ' | r => r) D := q
  cases e : s ρ with
  | ok f ρ' =>
    rw [e] at q'
    cases f with
    | nx => exact fun σ' H' G' o' s' => ⟨B, ρ', G', a, o', PstS.mono q' s' (fun _ _ z => z) rfl rfl rfl⟩
    | rt r => exact q'
    | bk => exact q'
    | ct => exact q'
  | ex x ρ' =>
    rw [e] at q'
    exact q'
  | no =>
    rw [e] at q'
    exact q'
theorem s_one {st : Stmt} {s : S} (h : PS X st (tS κ A W s)) : PSs X [st] (tS κ A W s) := pss_one h
theorem s_ret {e : Expr} {m : M SD} (h : PE X e (tE κ W m)) : PS X (.Return (some e) pos) (tS κ A W (sRet m)) :=
  PS.imp (ps_ret h) fun D σ H ⟨B, ρ, G, a, o, q⟩ => ⟨B, ρ, G, o, Pst.mono (PstS.bind q) fun r ρ' H' G' o' s q' v rv => q' v σ H' G' o' (Same.refl G') rv⟩
theorem s_expr {e : Expr} {m : M SD} (h : PE X e (tE κ W m)) (hs : swapsWith e none pos.line X.env = pure false := by rfl) : PS X (.Expr e pos) (tS κ A W (sDrop m)) :=
  PS.imp (ps_expr h hs) fun D σ H ⟨B, ρ, G, a, o, q⟩ => ⟨B, ρ, G, o, Pst.mono (PstS.bind q) fun r ρ' H' G' o' s q' v rv => q' σ H' G' o' (Same.refl G')⟩
theorem s_if {c : Expr} {b1 b2 : List Stmt} {t : M Bool} {s1 s2 : S} (hc : PT X c (tT κ W t)) (h1 : PSs X b1 (tS κ A W s1)) (h2 : PSs X b2 (tS κ A W s2)) : PS X (.If c b1 b2 pos) (tS κ A W (sIf t s1 s2)) := by
  refine PS.imp (ps_if hc h1 h2) fun D σ H ⟨B, ρ, G, a, o, q⟩ => ⟨B, ρ, G, o, Pst.mono (PstS.bind q) fun b ρ' H' G' o' s q' => ?_⟩
  cases b with
  | true => exact iteT ⟨B, ρ', G', a, o', q'⟩
  | false => exact iteF ⟨B, ρ', G', a, o', q'⟩
theorem not_anch {B : Bas} {A : List Nat} {i : Nat} (h : InA B A) (n : (A.contains i) = false) : ∀ p, (i, p) ∉ B.an := fun p hp => by
  have z2 : A.contains i = true := List.contains_iff_mem.mpr (h _ hp)
  rw [n] at z2
  cases z2
/-- a target: where a value goes (data alone) -/
def tG (κ : Ctx) (A : List Nat) (vs : List Nat) (tg : D → List SD → Option (List SD)) : TG := fun v σ H Q => ∃ B ρ G d ρ', InA B A ∧ Ok κ B ρ σ H G ∧ Rep κ B.T G d v ∧ tg d ρ = some ρ' ∧
  ∀ σ' H' G', Ok κ B ρ' σ' H' G' → Same G G' → wipe σ' vs = wipe σ vs → Q σ' H'
/-- name = e, what is new goes along -/
theorem s_set {i : Nat} {x : Str} {e : Expr} {m : M SD} {p' : Pos} (hN : X.N.Nodup) (hi : X.N[i]? = some x) (hx : Loc X.env.scope x) (h : PE X e (tE κ W m)) (n : A.contains i = false := by rfl) (hs : swapsWith e (some (.Name x p')) pos.line X.env = pure false := by rfl)
    (hf : X.fn x = true ∨ X.env.scope.names.lookup x = some .local := by first | exact .inl rfl | exact .inr rfl | assumption) : PS X (.Assign [.Name x p'] e pos) (tS κ A W (sSet i m)) := by
  refine PS.imp (ps_set hN hi hx h hs hf) fun D σ H ⟨B, ρ, G, a, o, q⟩ => ⟨B, ρ, G, o, Pst.mono (PstS.bind q) fun r ρ' H' G' o' s q' v rv => ?_⟩
  exact q' _ H' G' (o'.set i rv (not_anch a n)) (Same.refl G')
end

/-! ### targets -/
def gN (i : Nat) : D → List SD → Option (List SD) := fun d ρ => some (ρ.set i (.va d))
def gNi : List D → List SD → Option (List SD)
  | [], ρ => some ρ
  | _ :: _, _ => none
def gCo (g : D → List SD → Option (List SD)) (r : List D → List SD → Option (List SD)) : List D → List SD → Option (List SD)
  | d :: l, ρ => (g d ρ).bind fun ρ' => r l ρ'
  | [], _ => none
/-- a tuple of n -/
def gTu (n : Nat) (r : List D → List SD → Option (List SD)) : D → List SD → Option (List SD)
  | .tup l, ρ => if l.length = n then r l ρ else none
  | _, _ => none
def tGs (κ : Ctx) (A : List Nat) (vs : List Nat) (tg : List D → List SD → Option (List SD)) : TGs := fun ws σ H Q => ∃ B ρ G ds ρ', InA B A ∧ Ok κ B ρ σ H G ∧ RepL κ B.T G ds ws ∧ tg ds ρ = some ρ' ∧
  ∀ σ' H' G', Ok κ B ρ' σ' H' G' → Same G G' → wipe σ' vs = wipe σ vs → Q σ' H'
theorem PG.imp {X : Cx} {e : Expr} {t t' : TG} (h : PG X e t) (f : ∀ v σ H Q, t' v σ H Q → t v σ H Q) : PG X e t' := ⟨fun pins s σ H v u Q I r q => h.run pins s σ H v u Q I r (f _ _ _ _ q)⟩
theorem PGs.imp {X : Cx} {e : List Expr} {t t' : TGs} (h : PGs X e t) (f : ∀ v σ H Q, t' v σ H Q → t v σ H Q) : PGs X e t' := ⟨fun pins s σ H v u Q I r q => h.run pins s σ H v u Q I r (f _ _ _ _ q)⟩
theorem wipe_set {σ : L2.St} {i : Nat} {w : Option V} : ∀ {vs : List Nat}, i ∈ vs → wipe (σ.set i w) vs = wipe σ vs
  | v :: vs, h => by
    unfold wipe
    by_cases hv : i ∈ vs
    · rw [wipe_set hv]
    · have e : v = i := by
        have in_or := List.mem_cons.mp h; rcases in_or with z | z
        · exact z.symm
        · exact (hv z).elim
      subst e
      have go : ∀ us : List Nat, v ∉ us → (wipe (σ.set v w) us).set v none = (wipe σ us).set v none := by
        intro us
        induction us with
        | nil => intro _; exact List.set_set ..
        | cons u us ih =>
          intro hu
          have n1 : v ≠ u := fun z => hu (by rw [z]; exact List.mem_cons_self ..)
          have n2 : v ∉ us := fun z => hu (List.mem_cons_of_mem _ z)
          show ((wipe (σ.set v w) us).set u none).set v none = ((wipe σ us).set u none).set v none
          rw [List.set_comm _ _ (Ne.symm n1), ih n2, List.set_comm _ _ n1]
      exact go vs hv
section
variable {X : Cx} {κ : Ctx} {A vs : List Nat}
theorem g_name {i : Nat} {x : Str} {pos : Pos} (h : PG X (.Name x pos) (gName i)) (n : A.contains i = false := by rfl) (hv : vs.contains i = true := by rfl) : PG X (.Name x pos) (tG κ A vs (gN i)) := by
  refine PG.imp h fun v σ H Q ⟨B, ρ, G, d, ρ', a, o, r, e, q⟩ => ?_
  cases e
  exact q _ H G (o.set i (show RepR κ B ρ σ H G (.va d) v from r) (not_anch a n)) (Same.refl G) (wipe_set (List.contains_iff_mem.mp hv))
theorem gs_nil : PGs X [] (tGs κ A vs gNi) := by
  refine PGs.imp pgs_nil fun ws σ H Q ⟨B, ρ, G, ds, ρ', a, o, r, e, q⟩ => ?_
  cases ds with
  | nil =>
    cases e
    exact ⟨r, q σ H G o (Same.refl G) rfl⟩
  | cons d l => cases e
theorem gs_cons {e : Expr} {es : List Expr} {g : D → List SD → Option (List SD)} {gr : List D → List SD → Option (List SD)} (h : PG X e (tG κ A vs g)) (h2 : PGs X es (tGs κ A vs gr))
    (hs : (assignEach (e :: es) X.env).map (·.2) = assign e X.env :: (assignEach es X.env).map (·.2) := by rfl) : PGs X (e :: es) (tGs κ A vs (gCo g gr)) := by
  refine PGs.imp (pgs_cons h h2 hs) fun ws σ H Q ⟨B, ρ, G, ds, ρ', a, o, r, e, q⟩ => ?_
  cases ds with
  | nil => cases e
  | cons d l =>
    obtain ⟨v, us, rfl, r1, r2⟩ := r
    obtain ⟨ρ1, e1, e2⟩ := Option.bind_eq_some_iff.mp e
    refine ⟨v, us, rfl, B, ρ, G, d, ρ1, a, o, r1, e1, fun σ1 H1 G1 o1 s1 w1 => ?_⟩
    exact ⟨B, ρ1, G1, l, ρ', a, o1, RepL.mono (.of s1) l r2, e2, fun σ2 H2 G2 o2 s2 w2 => q σ2 H2 G2 o2 (s1.trans s2) (w2.trans w1)⟩
/-- target = e, e's value frozen -/
def sAsg (tg : D → List SD → Option (List SD)) (m : M SD) : S := (fE m).bind fun d => fun ρ => match tg d ρ with
  | some ρ' => .ok .nx ρ'
  | none => .no
theorem s_asg {W : WX} {tg e : Expr} {m : M SD} {g : D → List SD → Option (List SD)} {pos : Pos} (h : PE X e (tE κ W m)) (hg : PG X tg (tG κ A vs g)) (hs : swapsWithSole [tg] e pos.line X.env = pure false := by rfl) (hw : swappedStores [tg] e X.env = pure none := by rfl)
    (h1 : (assignEach [tg] X.env).map (·.2) = [assign tg X.env] := by rfl) : PS X (.Assign [tg] e pos) (tS κ A W (sAsg g m)) := by
  refine PS.imp (ps_asg h hg hs hw h1) fun D σ H ⟨B, ρ, G, a, o, q⟩ => ?_
  refine tE_fz o (PstS.bind q) fun d ρ1 H1 G1 o1 s1 q1 v1 r1 => ?_
  cases e2 : g d ρ1 with
  | none =>
    rw [e2] at q1
    exact q1.elim
  | some ρ2 =>
    rw [e2] at q1
    exact ⟨B, ρ1, G1, d, ρ2, a, o1, r1, e2, fun σ2 H2 G2 o2 s2 _ => q1 σ2 H2 G2 o2 s2⟩
/-- a, b = e1, e2, plain local names -/
def sPar (i j : Nat) (m n : M SD) : S := (fE m).bind fun d => (fE n).bind fun e => fun ρ => .ok .nx ((ρ.set i (.va d)).set j (.va e))
end

/-! ### displays -/
def mTup (n : M (List D)) : M SD := n.bind fun ds => if ds.length ≤ 1000 then M.ret (.va (.tup ds)) else M.no
def mLst (n : M (List D)) : M SD := n.bind fun ds => if ds.length ≤ 1000 then M.ret (.ow (.lst false ds)) else M.no
theorem le_line {n : Nat} (h : n ≤ 1000) : n ≤ sizeLine := Nat.le_of_lt (small1000 h)
section
variable {X : Cx} {κ : Ctx} {W : WX} {es : List Expr} {n : M (List D)} {pos : Pos}
theorem e_tup {k : Nat} (h : PA X es (tA κ W n)) : PE X (.Tuple es k pos) (tE κ W (mTup n)) := by
  refine PE.imp (pe_tup h) fun σ H Q ⟨B, ρ, G, o, q⟩ => ⟨B, ρ, G, o, Pst.mono (Pst.bind q) fun ds ρ' H' G' o' s q' vs rs => ?_⟩
  by_cases hl : ds.length ≤ 1000
  · rw [if_pos hl] at q'
    refine ⟨by rw [rs.length]; exact le_line hl, fun p hp => ?_⟩
    have hg := o'.gnone hp
    exact q' _ _ (o'.alloc (o := .tup vs) hp fun _ z => by cases z) (Same.upd hg) _ ⟨p, vs, rfl, .inl upd_same, RepL.mono (.of (Same.upd hg)) ds rs⟩
  · rw [if_neg hl] at q'
    exact q'.elim
theorem Ok.newOwn {B : Bas} {ρ : List SD} {σ : L2.St} {H G : Hp} (o : Ok κ B ρ σ H G) {p : Addr} {u : HO} {d : D} (hp : H p = none) (h : OwnAt κ B.T G (upd H p u) p d) : RepR κ B ρ σ (upd H p u) G (.ow d) (.ref p) :=
  ⟨p, rfl, o.gnone hp, o.bnone hp, h, fun j e hj => o.apart hp j e hj⟩
theorem e_lst (h : PA X es (tA κ W n)) : PE X (.List es pos) (tE κ W (mLst n)) := by
  refine PE.imp (pe_lst h) fun σ H Q ⟨B, ρ, G, o, q⟩ => ⟨B, ρ, G, o, Pst.mono (Pst.bind q) fun ds ρ' H' G' o' s q' vs rs => ?_⟩
  by_cases hl : ds.length ≤ 1000
  · rw [if_pos hl] at q'
    refine ⟨by rw [rs.length]; exact le_line hl, fun p hp => ?_⟩
    exact q' _ _ (o'.allocOwn hp) (Same.refl _) _ (o'.newOwn hp ⟨vs, upd_same, rs⟩)
  · rw [if_neg hl] at q'
    exact q'.elim
end

/-! ### calls of built-ins -/
def mCB (g : List D → Option SD) (n : M (List D)) : M SD := n.bind fun ds => M.opt (g ds)
section
variable {X : Cx} {κ : Ctx} {W : WX} {e : Expr} {es : List Expr} {n : M (List D)} {pos p : Pos} {x : Str}
theorem cb_ok {r : List V → Hp → VK → Prop} {g : List D → Option SD} {σ : L2.St} {H : Hp} {Q : VK} (hr : CallD κ r g) (h : tE κ W (mCB g n) σ H Q) : tCB r (tA κ W n) σ H Q := by
  obtain ⟨B, ρ, G, o, q⟩ := h
  refine ⟨B, ρ, G, o, Pst.mono (Pst.bind q) fun ds ρ' H' G' o' s q' vs rs => ?_⟩
  obtain ⟨z, hz, q3⟩ := Pst.opt q'
  exact hr B ρ' σ H' G' ds vs z Q o' rs hz fun v H2 G2 o2 s2 rv => q3 H2 G2 o2 s2 v rv
theorem e_callB {id : String} {r : List V → Hp → VK → Prop} {g : List D → Option SD} (hc : CallR X (.builtin id) r) (hr : CallD κ r g) (hg : Gl X x) (hm : X.mg x = none) (hv : bootBuiltins x = some (.builtin id)) (ha : PA X (e :: es) (tA κ W n)) (hn : x ≠ "__name__" := by decide) (hdb : (x == ("__debug__" : Str)) = false := by decide)
    (he : starEach (e :: es) X.env = (false, eval e X.env) :: starEach es X.env := by rfl) (hpl : (backTo pos (starEach es X.env)).any (·.1) = false := by rfl) : PE X (.Call (.Name x p) (e :: es) [] pos) (tE κ W (mCB g n)) :=
  PE.imp (pe_callB hc hg hm hv ha hn hdb he hpl) fun _ _ _ => cb_ok hr
theorem e_callTy {T : String} {r : List V → Hp → VK → Prop} {g : List D → Option SD} (hc : CallR X (.type T) r) (hr : CallD κ r g) (hg : Gl X x) (hm : X.mg x = none) (hv : bootBuiltins x = some (.type T)) (ha : PA X (e :: es) (tA κ W n)) (hn : x ≠ "__name__" := by decide) (hdb : (x == ("__debug__" : Str)) = false := by decide)
    (he : starEach (e :: es) X.env = (false, eval e X.env) :: starEach es X.env := by rfl) (hpl : (backTo pos (starEach es X.env)).any (·.1) = false := by rfl) : PE X (.Call (.Name x p) (e :: es) [] pos) (tE κ W (mCB g n)) :=
  PE.imp (pe_callTy hc hg hm hv ha hn hdb he hpl) fun _ _ _ => cb_ok hr
/-- a built-in class's name as a value -/
theorem e_ty {T : String} (hg : Gl X x) (hm : X.mg x = none) (hv : bootBuiltins x = some (.type T)) (hn : x ≠ "__name__" := by decide) (hdb : (x == ("__debug__" : Str)) = false := by decide) : PE X (.Name x pos) (tE κ W (mC (.ty T))) :=
  e_c (pe_bltn (v := .ty T) hg hm hv rfl hn hdb) fun _ _ => rfl
/-- a global name as a value -/
theorem e_glob {v : V} {u : Value} {d : D} (hg : Gl X x) (hm : X.mg x = some u) (r : RelV v u) (rd : ∀ T G, Rep κ T G d v) (hd : (x == ("__debug__" : Str)) = false := by decide) : PE X (.Name x pos) (tE κ W (mC d)) :=
  e_c (pe_glob hg hm r hd) rd
end
end Fm

set_option maxHeartbeats 3900000
namespace Fm
open L2 PySem PySem.Spec PyProof.Rows

/-! ### what a def does -/
inductive FR where
  | ok (r : SD) (outs : List SD) | ex (x : Exn) (outs : List SD) | no
/-- the places of the arguments that are objects of the caller's own -/
def ownP : List SD → List V → List Addr
  | .ow _ :: l, .ref p :: ws => p :: ownP l ws
  | _ :: l, _ :: ws => ownP l ws
  | _, _ => []
def ArgsOk (κ : Ctx) (T : Pd) (G H : Hp) : List SD → List V → Prop
  | [], vs => vs = []
  | .va d :: l, vs => ∃ v ws, vs = v :: ws ∧ Rep κ T G d v ∧ ArgsOk κ T G H l ws
  | .ow d :: l, vs => ∃ p ws, vs = .ref p :: ws ∧ G p = none ∧ OwnAt κ T G H p d ∧ ArgsOk κ T G H l ws
  | .un :: _, _ => False
structure Pre (κ : Ctx) (T : Pd) (G H : Hp) (as : List SD) (vs : List V) : Prop where
  args : ArgsOk κ T G H as vs
  nd : (ownP as vs).Nodup
  gh : Same G H
  notb : ∀ a ps, G a ≠ some (.tbl ps)
  tabs : LamX.Tabs κ.tabs H
  lent : ∀ a, T a → noT H a ≠ none ∧ a ∉ ownP as vs
def OutAt (κ : Ctx) (T : Pd) (G H : Hp) (p : Addr) : Option SD → Prop
  | some (.ow d) => G p = none ∧ OwnAt κ T G H p d
  | some (.va d) => Rep κ T G d (.ref p)
  | _ => True
structure After (κ : Ctx) (T : Pd) (G H : Hp) (as : List SD) (vs : List V) (outs : List SD) (H' G' : Hp) : Prop where
  keep : ∀ a o, H a = some o → a ∉ ownP as vs → (∀ ps, o ≠ .tbl ps) → H' a = some o
  frz : ∀ a, noT H a ≠ none → a ∉ ownP as vs → G' a = G a
  sub : Same G G'
  gh : Same G' H'
  notb : ∀ a ps, G' a ≠ some (.tbl ps)
  tabs : LamX.Tabs κ.tabs H'
  outs : ∀ (i : Nat) d p, as[i]? = some (SD.ow d) → vs[i]? = some (V.ref p) → OutAt κ T G' H' p outs[i]?
def ResOk (κ : Ctx) (T : Pd) (H : Hp) (as : List SD) (vs : List V) (outs : List SD) (H' G' : Hp) : SD → V → Prop
  | .va d, v => Rep κ T G' d v
  | .ow d, v => ∃ q, v = .ref q ∧ G' q = none ∧ OwnAt κ T G' H' q d ∧ (noT H q = none ∨ q ∈ ownP as vs) ∧
      ∀ (i : Nat) c p c', as[i]? = some (SD.ow c) → vs[i]? = some (V.ref p) → outs[i]? = some (SD.ow c') → p ≠ q
  | .un, _ => False
/-- a def that does f -/
def spF (κ : Ctx) (n : Nat) (f : List SD → FR) : Sp := fun vs H Q E => ∃ T G as, as.length = n ∧ Pre κ T G H as vs ∧ match f as with
  | .ok r outs => ∀ v H' G', After κ T G H as vs outs H' G' → ResOk κ T H as vs outs H' G' r v → Q v H'
  | .ex x outs => ∀ cls d H' G', After κ T G H as vs outs H' G' → RepX κ T H' G' x cls d → E cls d H'
  | .no => False
theorem ArgsOk.length {κ : Ctx} {T : Pd} {G H : Hp} : ∀ {as : List SD} {vs : List V}, ArgsOk κ T G H as vs → vs.length = as.length
  | [], vs, h => by rw [show vs = [] from h] <;> rfl
  | .va d :: l, vs, h => by
    obtain ⟨v, ws, rfl, _, h2⟩ := h
    rw [List.length_cons, List.length_cons, h2.length]
  | .ow d :: l, vs, h => by
    obtain ⟨p, ws, rfl, _, _, h2⟩ := h
    rw [List.length_cons, List.length_cons, h2.length]
  | .un :: l, vs, h => h.elim
theorem ArgsOk.val {κ : Ctx} {T : Pd} {G H : Hp} : ∀ {as : List SD} {vs : List V} {i : Nat} {d : D}, ArgsOk κ T G H as vs → as[i]? = some (SD.va d) → ∃ v, vs[i]? = some v ∧ Rep κ T G d v
  | [], vs, i, d, h, e => by simp at e
  | .va c :: l, vs, 0, d, h, e => by
    obtain ⟨v, ws, rfl, h1, h2⟩ := h
    cases e
    exact ⟨v, rfl, h1⟩
  | .va c :: l, vs, i + 1, d, h, e => by
    obtain ⟨v, ws, rfl, h1, h2⟩ := h
    exact ArgsOk.val (i := i) h2 e
  | .ow c :: l, vs, 0, d, h, e => by cases e
  | .ow c :: l, vs, i + 1, d, h, e => by
    obtain ⟨p, ws, rfl, _, _, h2⟩ := h
    exact ArgsOk.val (i := i) h2 e
  | .un :: l, vs, i, d, h, e => h.elim
theorem ArgsOk.own {κ : Ctx} {T : Pd} {G H : Hp} : ∀ {as : List SD} {vs : List V} {i : Nat} {d : D}, ArgsOk κ T G H as vs → as[i]? = some (SD.ow d) → ∃ p, vs[i]? = some (V.ref p) ∧ G p = none ∧ OwnAt κ T G H p d ∧ p ∈ ownP as vs
  | [], vs, i, d, h, e => by simp at e
  | .va c :: l, vs, 0, d, h, e => by cases e
  | .va c :: l, vs, i + 1, d, h, e => by
    obtain ⟨v, ws, rfl, h1, h2⟩ := h
    obtain ⟨p, e1, e2, e3, e4⟩ := ArgsOk.own (i := i) h2 e
    exact ⟨p, e1, e2, e3, by simpa only [ownP] using e4⟩
  | .ow c :: l, vs, 0, d, h, e => by
    obtain ⟨p, ws, rfl, h1, h3, h2⟩ := h
    cases e
    exact ⟨p, rfl, h1, h3, List.mem_cons_self ..⟩
  | .ow c :: l, vs, i + 1, d, h, e => by
    obtain ⟨p, ws, rfl, h1, h3, h2⟩ := h
    obtain ⟨q, e1, e2, e3, e4⟩ := ArgsOk.own (i := i) h2 e
    exact ⟨q, e1, e2, e3, List.mem_cons_of_mem _ e4⟩
  | .un :: l, vs, i, d, h, e => h.elim
theorem ownP_mem : ∀ {as : List SD} {vs : List V} {p : Addr}, p ∈ ownP as vs → ∃ (i : Nat) (d : D), as[i]? = some (SD.ow d) ∧ vs[i]? = some (V.ref p)
  | [], _, _, h => by cases h
  | _ :: _, [], _, h => by
    simp [ownP] at h
  | .ow d :: l, .ref q :: ws, p, h => by
    have in_or := List.mem_cons.mp h; rcases in_or with rfl | h
    · exact ⟨0, d, rfl, rfl⟩
    · obtain ⟨i, d, e1, e2⟩ := ownP_mem h
      exact ⟨i + 1, d, e1, e2⟩
  | .va d :: l, v :: ws, p, h => by
    obtain ⟨i, d, e1, e2⟩ := ownP_mem (as := l) (vs := ws) (by simpa only [ownP] using h)
    exact ⟨i + 1, d, e1, e2⟩
  | .un :: l, v :: ws, p, h => by
    obtain ⟨i, d, e1, e2⟩ := ownP_mem (as := l) (vs := ws) (by simpa only [ownP] using h)
    exact ⟨i + 1, d, e1, e2⟩
  | .ow d :: l, .non :: ws, p, h => by
    obtain ⟨i, d, e1, e2⟩ := ownP_mem (as := l) (vs := ws) (by simpa only [ownP] using h)
    exact ⟨i + 1, d, e1, e2⟩
  | .ow d :: l, .bl _ :: ws, p, h => by
    obtain ⟨i, d, e1, e2⟩ := ownP_mem (as := l) (vs := ws) (by simpa only [ownP] using h)
    exact ⟨i + 1, d, e1, e2⟩
  | .ow d :: l, .int _ :: ws, p, h => by
    obtain ⟨i, d, e1, e2⟩ := ownP_mem (as := l) (vs := ws) (by simpa only [ownP] using h)
    exact ⟨i + 1, d, e1, e2⟩
  | .ow d :: l, .str _ :: ws, p, h => by
    obtain ⟨i, d, e1, e2⟩ := ownP_mem (as := l) (vs := ws) (by simpa only [ownP] using h)
    exact ⟨i + 1, d, e1, e2⟩
  | .ow d :: l, .byt _ :: ws, p, h => by
    obtain ⟨i, d, e1, e2⟩ := ownP_mem (as := l) (vs := ws) (by simpa only [ownP] using h)
    exact ⟨i + 1, d, e1, e2⟩
  | .ow d :: l, .flt _ :: ws, p, h => by
    obtain ⟨i, d, e1, e2⟩ := ownP_mem (as := l) (vs := ws) (by simpa only [ownP] using h)
    exact ⟨i + 1, d, e1, e2⟩
  | .ow d :: l, .ty _ :: ws, p, h => by
    obtain ⟨i, d, e1, e2⟩ := ownP_mem (as := l) (vs := ws) (by simpa only [ownP] using h)
    exact ⟨i + 1, d, e1, e2⟩
theorem own_inj : ∀ {as : List SD} {vs : List V} {i j : Nat} {d e : D} {p : Addr}, (ownP as vs).Nodup → as[i]? = some (SD.ow d) → as[j]? = some (SD.ow e) → vs[i]? = some (V.ref p) → vs[j]? = some (V.ref p) → i = j := by
  have mem : ∀ {as : List SD} {vs : List V} {i : Nat} {d : D} {p : Addr}, as[i]? = some (SD.ow d) → vs[i]? = some (V.ref p) → p ∈ ownP as vs := by
    intro as
    induction as with
    | nil => intro vs i d p h; simp at h
    | cons a l ih =>
      intro vs i d p h1 h2
      cases vs with
      | nil => simp at h2
      | cons v ws =>
        cases i with
        | zero =>
          cases h1
          cases h2
          exact List.mem_cons_self ..
        | succ i =>
          have q := ih (vs := ws) (i := i) h1 h2
          cases a with
          | ow c => cases v <;> first | exact q | exact List.mem_cons_of_mem _ q
          | va c => exact (by simpa only [ownP] using q)
          | un => exact (by simpa only [ownP] using q)
  intro as
  induction as with
  | nil => intro vs i j d e p _ h; simp at h
  | cons a l ih =>
    intro vs i j d e p nd h1 h2 h3 h4
    cases vs with
    | nil => simp at h3
    | cons v ws =>
      have nd' : (ownP l ws).Nodup := by
        cases a with
        | ow c => cases v <;> first | exact nd | exact (List.nodup_cons.mp nd).2
        | va c => simpa only [ownP] using nd
        | un => simpa only [ownP] using nd
      cases i with
      | zero =>
        cases j with
        | zero => rfl
        | succ j =>
          cases h1
          cases h3
          exact absurd (mem (as := l) (vs := ws) (i := j) h2 h4) (List.nodup_cons.mp nd).1
      | succ i =>
        cases j with
        | zero =>
          cases h2
          cases h4
          exact absurd (mem (as := l) (vs := ws) (i := i) h1 h3) (List.nodup_cons.mp nd).1
        | succ j => rw [ih (vs := ws) (i := i) (j := j) nd' h1 h2 h3 h4]

/-! ### a def by its body -/
/-- the places of the own arguments, from n on -/
def ownIx : Nat → List SD → List Nat
  | _, [] => []
  | n, .ow _ :: l => n :: ownIx (n + 1) l
  | n, _ :: l => ownIx (n + 1) l
/-- the def's body s run: N slots, the own arguments at places of A -/
def runF (A : List Nat) (N : Nat) (s : S) (as : List SD) : FR :=
  if (ownIx 0 as).all (A.contains ·) then match s (as ++ List.replicate (N - as.length) SD.un) with
    | .ok (.rt r) ρ' => .ok r (ρ'.take as.length)
    | .ok .nx ρ' => .ok (.va .non) (ρ'.take as.length)
    | .ex x ρ' => .ex x (ρ'.take as.length)
    | _ => .no
  else .no
theorem ownIx_mem : ∀ {as : List SD} {n i : Nat} {d : D}, as[i]? = some (SD.ow d) → n + i ∈ ownIx n as
  | [], _, _, _, h => absurd h (by simp)
  | .ow c :: l, n, 0, d, h => by rw [Nat.add_zero]; exact List.mem_cons_self ..
  | .ow c :: l, n, i + 1, d, h => by
    have q := ownIx_mem (as := l) (n := n + 1) (i := i) h
    rw [show n + (i + 1) = n + 1 + i from by omega]
    exact List.mem_cons_of_mem _ q
  | .va c :: l, n, 0, d, h => by cases h
  | .va c :: l, n, i + 1, d, h => by
    have q := ownIx_mem (as := l) (n := n + 1) (i := i) h
    rw [show n + (i + 1) = n + 1 + i from by omega]
    exact q
  | .un :: l, n, 0, d, h => by cases h
  | .un :: l, n, i + 1, d, h => by
    have q := ownIx_mem (as := l) (n := n + 1) (i := i) h
    rw [show n + (i + 1) = n + 1 + i from by omega]
    exact q
/-- the places and addresses of the own arguments -/
def anOf : Nat → List SD → List V → List (Nat × Addr)
  | n, .ow _ :: l, .ref p :: ws => (n, p) :: anOf (n + 1) l ws
  | n, _ :: l, _ :: ws => anOf (n + 1) l ws
  | _, _, _ => []
theorem anOf_mem : ∀ {as : List SD} {vs : List V} {n i : Nat} {p : Addr}, (i, p) ∈ anOf n as vs → ∃ j d, i = n + j ∧ as[j]? = some (SD.ow d) ∧ vs[j]? = some (V.ref p) := by
  intro as
  induction as with
  | nil => intro vs n i p h; cases h
  | cons a l ih =>
    intro vs n i p h
    cases vs with
    | nil =>
      cases a <;> cases h
    | cons v ws =>
      have next : (i, p) ∈ anOf (n + 1) l ws → ∃ j d, i = n + j ∧ (a :: l)[j]? = some (SD.ow d) ∧ (v :: ws)[j]? = some (V.ref p) := fun q => by
        obtain ⟨j, d, e1, e2, e3⟩ := ih q
        exact ⟨j + 1, d, by omega, e2, e3⟩
      cases a with
      | ow c =>
        cases v with
        | ref q =>
          have in_or := List.mem_cons.mp h; rcases in_or with e | h
          · cases e
            exact ⟨0, c, rfl, rfl, rfl⟩
          · exact next h
        | _ => exact next h
      | va c => exact next (by simpa only [anOf] using h)
      | un => exact next (by simpa only [anOf] using h)
theorem mem_anOf : ∀ {as : List SD} {vs : List V} {n j : Nat} {p : Addr} {d : D}, as[j]? = some (SD.ow d) → vs[j]? = some (V.ref p) → (n + j, p) ∈ anOf n as vs := by
  intro as
  induction as with
  | nil => intro vs n j p d h; simp at h
  | cons a l ih =>
    intro vs n j p d h1 h2
    cases vs with
    | nil => simp at h2
    | cons v ws =>
      cases j with
      | zero =>
        cases h1
        cases h2
        exact List.mem_cons_self ..
      | succ j =>
        have q := ih (vs := ws) (n := n + 1) (j := j) h1 h2
        rw [show n + 1 + j = n + (j + 1) from by omega] at q
        cases a with
        | ow c => cases v <;> first | exact q | exact List.mem_cons_of_mem _ q
        | va c => exact (by simpa only [anOf] using q)
        | un => exact (by simpa only [anOf] using q)

/-- where a def's body begins -/
theorem Pre.ok {κ : Ctx} {T : Pd} {G H : Hp} {as : List SD} {vs : List V} {N : List Str} (p : Pre κ T G H as vs) (hn : as.length ≤ N.length) :
    Ok κ ⟨fun a => if a ∈ ownP as vs then none else noT H a, G, T, anOf 0 as vs⟩ (as ++ List.replicate (N.length - as.length) SD.un) (L2.start N vs) H G := by
  have hl := p.args.length
  have at_ : ∀ {i : Nat} {x : SD}, (as ++ List.replicate (N.length - as.length) SD.un)[i]? = some x → x ≠ .un → as[i]? = some x ∧ i < as.length := fun {i x} e n => by
    by_cases hi : i < as.length
    · rw [List.getElem?_append_left hi] at e
      exact ⟨e, hi⟩
    · rw [List.getElem?_append_right (by omega), List.getElem?_replicate] at e
      split at e
      · exact absurd (Option.some.inj e).symm n
      · cases e
  have sl : ∀ {i : Nat} {v : V}, vs[i]? = some v → (L2.start N vs)[i]? = some (some v) := fun {i v} e => by
    have hi := (List.getElem?_eq_some_iff.mp e).1
    unfold L2.start
    rw [List.getElem?_append_left (by rw [List.length_map]; exact hi), List.getElem?_map, e]
    rfl
  have ls : ∀ {i : Nat} {v : V}, i < as.length → (L2.start N vs)[i]? = some (some v) → vs[i]? = some v := fun {i v} hi e => by
    have h2 : i < vs.length := by omega
    unfold L2.start at e
    rw [List.getElem?_append_left (by rw [List.length_map]; exact h2), List.getElem?_map, List.getElem?_eq_getElem h2] at e
    rw [List.getElem?_eq_getElem h2]
    have e' := Option.some.inj e
    rw [← Option.some.inj e']
  refine ⟨⟨fun a o e _ => ?_, fun a ps e => ?_, fun a _ => rfl, Same.refl G, p.gh, p.notb, p.tabs, fun a h => ?_⟩, ?_, fun i d e => ?_, fun i d e => ?_, fun i j q d e hij h1 h2 h3 h4 => ?_, fun i q hq => ?_⟩
  · have e' : (if a ∈ ownP as vs then none else noT H a) = some o := e
    by_cases ha : a ∈ ownP as vs
    · rw [if_pos ha] at e'
      cases e'
    · rw [if_neg ha] at e'
      exact (noT_some e').1
  · have e' : (if a ∈ ownP as vs then none else noT H a) = some (.tbl ps) := e
    by_cases ha : a ∈ ownP as vs
    · rw [if_pos ha] at e'
      cases e'
    · rw [if_neg ha] at e'
      exact noT_tbl e'
  · obtain ⟨h1, h2⟩ := p.lent a h
    show (if a ∈ ownP as vs then none else noT H a) ≠ none
    rw [if_neg h2]
    exact h1
  · unfold L2.start
    rw [List.length_append, List.length_append, List.length_map, List.length_replicate, List.length_replicate, hl]
  · obtain ⟨e1, _⟩ := at_ e (by simp)
    obtain ⟨v, e2, e3⟩ := p.args.val e1
    exact ⟨v, sl e2, e3⟩
  · obtain ⟨e1, _⟩ := at_ e (by simp)
    obtain ⟨q, e2, e3, e4, e5⟩ := p.args.own e1
    exact ⟨q, sl e2, e3, if_pos e5, e4⟩
  · obtain ⟨e1, l1⟩ := at_ h1 (by simp)
    obtain ⟨e2, l2⟩ := at_ h2 (by simp)
    exact hij (own_inj p.nd e1 e2 (ls l1 h3) (ls l2 h4))
  · obtain ⟨j, d, e1, e2, e3⟩ := anOf_mem hq
    rw [e1, Nat.zero_add]
    exact sl e3

theorem Pre.after {κ : Ctx} {T : Pd} {G H : Hp} {as : List SD} {vs : List V} {N : List Str} (p : Pre κ T G H as vs) {ρ' : List SD} {σ' : L2.St} {H' G' : Hp}
    (o : Ok κ ⟨fun a => if a ∈ ownP as vs then none else noT H a, G, T, anOf 0 as vs⟩ ρ' σ' H' G') : After κ T G H as vs (ρ'.take as.length) H' G' := by
  have hb : ∀ {a : Addr}, a ∉ ownP as vs → (if a ∈ ownP as vs then none else noT H a) = noT H a := fun {a} h => if_neg h
  refine ⟨fun a u e n nt => o.fr.keep a u ((hb n).trans (noT_of e nt)) nt, fun a e n => o.fr.frz a (by show (if a ∈ ownP as vs then none else noT H a) ≠ none; rw [hb n]; exact e), o.fr.sub, o.fr.gh, o.fr.notb, o.fr.tabs, fun i d q e1 e2 => ?_⟩
  have hi : i < as.length := (List.getElem?_eq_some_iff.mp e1).1
  have an : σ'[i]? = some (some (V.ref q)) := by
    have z := o.anch (0 + i) q (mem_anOf (n := 0) e1 e2)
    rw [Nat.zero_add] at z
    exact z
  rw [List.getElem?_take_of_lt hi]
  cases e3 : ρ'[i]? with
  | none => exact True.intro
  | some x =>
    cases x with
    | un => exact True.intro
    | va c =>
      obtain ⟨v, h1, h2⟩ := o.val i c e3
      rw [an] at h1
      cases h1
      exact h2
    | ow c =>
      obtain ⟨r, h1, h2, h3, h4⟩ := o.own i c e3
      rw [an] at h1
      cases h1
      exact ⟨h2, h4⟩
theorem Pre.res {κ : Ctx} {T : Pd} {G H : Hp} {as : List SD} {vs : List V} (p : Pre κ T G H as vs) {ρ' : List SD} {σ' : L2.St} {H' G' : Hp} {r : SD} {v : V}
    (o : Ok κ ⟨fun a => if a ∈ ownP as vs then none else noT H a, G, T, anOf 0 as vs⟩ ρ' σ' H' G') (h : RepR κ ⟨fun a => if a ∈ ownP as vs then none else noT H a, G, T, anOf 0 as vs⟩ ρ' σ' H' G' r v) : ResOk κ T H as vs (ρ'.take as.length) H' G' r v := by
  cases r with
  | un => exact h.elim
  | va d => exact h
  | ow d =>
    obtain ⟨q, rfl, h1, h2, h3, h4⟩ := h
    refine ⟨q, rfl, h1, h3, ?_, fun i c x c' e1 e2 e3 z => ?_⟩
    · by_cases hq : q ∈ ownP as vs
      · exact .inr hq
      · exact .inl ((if_neg hq).symm.trans h2)
    · have hi : i < as.length := (List.getElem?_eq_some_iff.mp e1).1
      rw [List.getElem?_take_of_lt hi] at e3
      refine h4 i c' e3 ?_
      have y := o.anch (0 + i) x (mem_anOf (n := 0) e1 e2)
      rw [Nat.zero_add] at y
      rw [y, z]
section
variable {P : Program} {w : World} {K : PySem.W.Frag} {f : Addr} {fd : FuncData} {mg : Str → Option Value} {base : Heap} {x qual : Str} {params : Arguments} {body : List Stmt} {scope : Scope} {dvs : List V} {kws : List (Str × V)}
/-- a def's promise by its body, its code told -/
theorem FunD.okC {CX : CXT} {N ps : List Str} {k : Nat} {sp : Sp} (F : FunD K x qual params body scope dvs kws f fd) (S : FnScope N ps scope) (len : ∀ vs H Q E, sp vs H Q E → vs.length = ps.length)
    (hbody : ∀ (cdv : Value) (A : Around) (outer : List Env) (s : Shared) (H : Hp) (vs : List V) (Q : VK) (E : XK), fd.code = cdv → Room k (A.deeper (envOfC qual scope s.heap.objs.size f cdv)) → sp vs H Q E →
      ∃ t, PSs (cxOf CX P w K mg base N qual scope f cdv A outer s H E) body t ∧ t { nx := fun _ H' => Q .non H', rt := Q } (L2.start N vs) H) : FnOk P w K mg base CX (k + 1) f fd ps sp := by
  obtain ⟨_, _, _, _, _, _, _, cdv, _, _, rfl, lk, cd, _⟩ := F.ex
  exact fn_of lk cd S len fun A outer s H vs Q E hr q => hbody cdv A outer s H vs Q E rfl hr q
/-- THE RULE of a def: its body does s -/
theorem def_okC {κ : Ctx} {A : List Nat} {N ps : List Str} {k : Nat} {s : S} (F : FunD K x qual params body scope dvs kws f fd) (Sc : FnScope N ps scope)
    (hbody : ∀ (cdv : Value) (Ar : Around) (outer : List Env) (s0 : Shared) (H : Hp) (E : XK), fd.code = cdv → Room k (Ar.deeper (envOfC qual scope s0.heap.objs.size f cdv)) →
      PSs (cxOf (L2.CX P w) P w K mg base N qual scope f cdv Ar outer s0 H E) body (tS κ A (fun cls d _ H => E cls d H) s)) : FnOk P w K mg base (L2.CX P w) (k + 1) f fd ps (spF κ ps.length (runF A N.length s)) := by
  refine FunD.okC F Sc (fun vs H Q E h => ?_) (fun cdv Ar outer s0 H vs Q E hcd hr h => ⟨_, hbody cdv Ar outer s0 H E hcd hr, ?_⟩)
  · obtain ⟨T, G, as, hl, p, _⟩ := h
    rw [p.args.length, hl]
  · obtain ⟨T, G, as, hl, p, q⟩ := h
    have hn : as.length ≤ N.length := by
      have z := congrArg List.length Sc.pre
      rw [List.length_take] at z
      omega
    unfold runF at q
    by_cases hA : (ownIx 0 as).all (A.contains ·) = true
    · rw [if_pos hA] at q
      refine ⟨⟨fun a => if a ∈ ownP as vs then none else noT H a, G, T, anOf 0 as vs⟩, as ++ List.replicate (N.length - as.length) SD.un, G, fun z hz => ?_, p.ok hn, ?_⟩
      · obtain ⟨i, a⟩ := z
        obtain ⟨j, d, e1, e2, e3⟩ := anOf_mem hz
        have m := ownIx_mem (n := 0) e2
        have y := List.all_eq_true.mp hA _ m
        rw [e1]
        exact List.contains_iff_mem.mp y
      · cases e : s (as ++ List.replicate (N.length - as.length) SD.un) with
        | ok fl ρ' =>
          rw [e] at q
          cases fl with
          | nx => exact fun σ' H' G' o s => q .non H' G' (p.after (N := N) o) rfl
          | rt r => exact fun v σ' H' G' o s rv => q v H' G' (p.after (N := N) o) (p.res o rv)
          | bk => exact q.elim
          | ct => exact q.elim
        | ex x ρ' =>
          rw [e] at q
          exact fun cls d σ' H' G' o s rx => q cls d H' G' (p.after (N := N) o) rx
        | no =>
          rw [e] at q
          exact q.elim
    · rw [if_neg hA] at q
      exact q.elim
theorem def_ok {κ : Ctx} {A : List Nat} {N ps : List Str} {k : Nat} {s : S} (F : FunD K x qual params body scope dvs kws f fd) (Sc : FnScope N ps scope)
    (hbody : ∀ (cdv : Value) (Ar : Around) (outer : List Env) (s0 : Shared) (H : Hp) (E : XK), Room k (Ar.deeper (envOfC qual scope s0.heap.objs.size f cdv)) →
      PSs (cxOf (L2.CX P w) P w K mg base N qual scope f cdv Ar outer s0 H E) body (tS κ A (fun cls d _ H => E cls d H) s)) : FnOk P w K mg base (L2.CX P w) (k + 1) f fd ps (spF κ ps.length (runF A N.length s)) :=
  def_okC F Sc fun cdv Ar outer s0 H E _ hr => hbody cdv Ar outer s0 H E hr
end
end Fm

set_option maxHeartbeats 3900000
namespace Fm
open L2 PySem PySem.Spec PyProof.Rows

/-! ### the call of a def -/
def slots : List Ar → List Nat
  | [] => []
  | .sl i :: l => i :: slots l
  | .va _ :: l => slots l
def getA (ρ : List SD) : Ar → Option SD
  | .va d => some (.va d)
  | .sl i => match ρ[i]? with
    | some (.va d) => some (.va d)
    | some (.ow d) => some (.ow d)
    | _ => none
def getAs (ρ : List SD) : List Ar → Option (List SD)
  | [] => some []
  | a :: l => (getA ρ a).bind fun x => (getAs ρ l).bind fun xs => some (x :: xs)
def isOw : Option SD → Bool
  | some (.ow _) => true
  | _ => false
def putAs : List SD → List Ar → List SD → List SD
  | ρ, .sl i :: l, os => putAs (if isOw ρ[i]? then ρ.set i (os.headD .un) else ρ) l os.tail
  | ρ, .va _ :: l, os => putAs ρ l os.tail
  | ρ, [], _ => ρ
def mCall (f : List SD → FR) (dd : List D) (n : M (List Ar)) : M SD := n.bind fun as => fun ρ => if (slots as).Nodup then match getAs ρ as with
  | none => .no
  | some xs => match f (xs ++ dd.map SD.va) with
    | .ok r outs => .ok r (putAs ρ as outs)
    | .ex x outs => .ex x (putAs ρ as outs)
    | .no => .no
  else .no
theorem slots_mem : ∀ {as : List Ar} {m i : Nat}, as[m]? = some (Ar.sl i) → i ∈ slots as
  | [], _, _, h => by simp at h
  | .sl j :: l, 0, i, h => by cases h; exact List.mem_cons_self ..
  | .sl j :: l, m + 1, i, h => List.mem_cons_of_mem _ (slots_mem (as := l) (m := m) h)
  | .va d :: l, 0, i, h => by cases h
  | .va d :: l, m + 1, i, h => slots_mem (as := l) (m := m) h
/-- what stands in a slot behind the call -/
theorem put_at : ∀ {as : List Ar} {ρ outs : List SD} {j : Nat} {x : SD}, (slots as).Nodup → (putAs ρ as outs)[j]? = some x →
    (∃ (m : Nat) (c : D), as[m]? = some (Ar.sl j) ∧ ρ[j]? = some (SD.ow c) ∧ x = outs[m]?.getD .un) ∨ ((∀ (m : Nat) (c : D), as[m]? = some (Ar.sl j) → ρ[j]? ≠ some (SD.ow c)) ∧ ρ[j]? = some x) := by
  intro as
  induction as with
  | nil => intro ρ outs j x _ h; exact .inr ⟨fun m c h => by simp at h, h⟩
  | cons a l ih =>
    intro ρ outs j x nd h
    have tl : ∀ (m : Nat), outs.tail[m]? = outs[m + 1]? := fun m => by cases outs <;> simp
    cases a with
    | va d =>
      rcases ih (ρ := ρ) (outs := outs.tail) nd h with ⟨m, c, e1, e2, e3⟩ | ⟨e1, e2⟩
      · exact .inl ⟨m + 1, c, e1, e2, by rw [e3, tl]⟩
      · refine .inr ⟨fun m c h => ?_, e2⟩
        cases m with
        | zero => cases h
        | succ m => exact e1 m c h
    | sl i =>
      have nd' := List.nodup_cons.mp (show (i :: slots l).Nodup from nd)
      have h' : (putAs (if isOw ρ[i]? = true then ρ.set i (outs.headD .un) else ρ) l outs.tail)[j]? = some x := h
      by_cases hj : j = i
      · subst hj
        have noj : ∀ (m : Nat), l[m]? ≠ some (Ar.sl j) := fun m z => nd'.1 (slots_mem z)
        rcases ih nd'.2 h' with ⟨m, c, e1, _, _⟩ | ⟨_, e2⟩
        · exact absurd e1 (noj m)
        · by_cases ho : isOw ρ[j]? = true
          · rw [if_pos ho] at e2
            obtain ⟨c, hc⟩ : ∃ c, ρ[j]? = some (SD.ow c) := by
              cases e : ρ[j]? with
              | none => rw [e] at ho; cases ho
              | some y =>
                cases y with
                | ow c => exact ⟨c, rfl⟩
                | va c => rw [e] at ho; cases ho
                | un => rw [e] at ho; cases ho
            rw [List.getElem?_set_self ((List.getElem?_eq_some_iff.mp hc).1)] at e2
            refine .inl ⟨0, c, rfl, hc, ?_⟩
            rw [← Option.some.inj e2]
            cases outs <;> rfl
          · rw [if_neg ho] at e2
            refine .inr ⟨fun m c _ z => ho (by rw [z]; rfl), e2⟩
      · have same : (if isOw ρ[i]? = true then ρ.set i (outs.headD .un) else ρ)[j]? = ρ[j]? := by
          by_cases ho : isOw ρ[i]? = true
          · rw [if_pos ho, List.getElem?_set_ne (Ne.symm hj)]
          · rw [if_neg ho]
        rcases ih nd'.2 h' with ⟨m, c, e1, e2, e3⟩ | ⟨e1, e2⟩
        · exact .inl ⟨m + 1, c, e1, same.symm.trans e2, by rw [e3, tl]⟩
        · refine .inr ⟨fun m c hm => ?_, same.symm.trans e2⟩
          cases m with
          | zero =>
            cases hm
            exact (hj rfl).elim
          | succ m => rw [← same]; exact e1 m c hm
theorem put_len : ∀ {as : List Ar} {ρ outs : List SD}, (putAs ρ as outs).length = ρ.length := by
  intro as
  induction as with
  | nil => intros; rfl
  | cons a l ih =>
    intro ρ outs
    cases a with
    | va d => exact ih
    | sl i =>
      refine (ih (ρ := if isOw ρ[i]? = true then ρ.set i (outs.headD .un) else ρ)).trans ?_
      by_cases ho : isOw ρ[i]? = true
      · rw [if_pos ho, List.length_set]
      · rw [if_neg ho]
section
variable {κ : Ctx} {B : Bas} {ρ : List SD} {σ : L2.St} {H G : Hp}
theorem getAs_args (o : Ok κ B ρ σ H G) : ∀ {as : List Ar} {xs : List SD} {vs : List V}, getAs ρ as = some xs → RepAs κ B.T σ G as vs → ArgsOk κ B.T G H xs vs
  | [], xs, vs, h, r => by
    cases h
    exact r
  | a :: l, xs, vs, h, r => by
    obtain ⟨x, e1, h2⟩ := Option.bind_eq_some_iff.mp h
    obtain ⟨ys, e2, e3⟩ := Option.bind_eq_some_iff.mp h2
    cases e3
    obtain ⟨v, ws, rfl, r1, r2⟩ := r
    have ih := getAs_args o e2 r2
    cases a with
    | va d =>
      cases e1
      exact ⟨v, ws, rfl, r1, ih⟩
    | sl i =>
      have r1 : σ[i]? = some (some v) := r1
      dsimp only [getA] at e1
      cases e : ρ[i]? with
      | none => rw [e] at e1; cases e1
      | some y =>
        rw [e] at e1
        cases y with
        | un => cases e1
        | va d =>
          cases e1
          obtain ⟨w', h1, h2⟩ := o.val i d e
          rw [r1] at h1
          cases h1
          exact ⟨v, ws, rfl, h2, ih⟩
        | ow d =>
          cases e1
          obtain ⟨p, h1, h2, h3, h4⟩ := o.own i d e
          rw [r1] at h1
          cases h1
          exact ⟨p, ws, rfl, h2, h4, ih⟩
theorem getAs_own : ∀ {as : List Ar} {xs : List SD} {m : Nat} {d : D}, getAs ρ as = some xs → xs[m]? = some (SD.ow d) → ∃ i, as[m]? = some (Ar.sl i) ∧ ρ[i]? = some (SD.ow d)
  | [], xs, m, d, h, e => by
    cases h
    simp at e
  | a :: l, xs, m, d, h, e => by
    obtain ⟨x, e1, h2⟩ := Option.bind_eq_some_iff.mp h
    obtain ⟨ys, e2, e3⟩ := Option.bind_eq_some_iff.mp h2
    cases e3
    cases m with
    | succ m => exact getAs_own (as := l) (m := m) e2 e
    | zero =>
      cases e
      cases a with
      | va c => cases e1
      | sl i =>
        refine ⟨i, rfl, ?_⟩
        dsimp only [getA] at e1
        cases e : ρ[i]? with
        | none => rw [e] at e1; cases e1
        | some y =>
          rw [e] at e1
          cases y with
          | un => cases e1
          | va c => cases e1
          | ow c => cases e1; rfl
theorem getAs_at : ∀ {as : List Ar} {xs : List SD} {m i : Nat} {d : D}, getAs ρ as = some xs → as[m]? = some (Ar.sl i) → ρ[i]? = some (SD.ow d) → xs[m]? = some (SD.ow d)
  | [], xs, m, i, d, h, e, _ => by simp at e
  | a :: l, xs, m, i, d, h, e, q => by
    obtain ⟨x, e1, h2⟩ := Option.bind_eq_some_iff.mp h
    obtain ⟨ys, e2, e3⟩ := Option.bind_eq_some_iff.mp h2
    cases e3
    cases m with
    | succ m => exact getAs_at (as := l) (m := m) e2 e q
    | zero =>
      cases e
      dsimp only [getA] at e1
      rw [q] at e1
      cases e1
      rfl
theorem repAs_at : ∀ {as : List Ar} {vs : List V} {m i : Nat} {v : V}, RepAs κ B.T σ G as vs → as[m]? = some (Ar.sl i) → vs[m]? = some v → σ[i]? = some (some v)
  | [], vs, m, i, v, r, e, _ => by simp at e
  | a :: l, vs, m, i, v, r, e, q => by
    obtain ⟨u, ws, rfl, r1, r2⟩ := r
    cases m with
    | succ m => exact repAs_at (as := l) (m := m) r2 e q
    | zero =>
      cases e
      cases q
      exact r1
theorem repAs_len : ∀ {as : List Ar} {vs : List V}, RepAs κ B.T σ G as vs → vs.length = as.length
  | [], vs, r => by rw [show vs = [] from r] <;> rfl
  | a :: l, vs, r => by
    obtain ⟨u, ws, rfl, r1, r2⟩ := r
    rw [List.length_cons, List.length_cons, repAs_len r2]
theorem getAs_len : ∀ {as : List Ar} {xs : List SD}, getAs ρ as = some xs → xs.length = as.length
  | [], xs, h => by cases h; rfl
  | a :: l, xs, h => by
    obtain ⟨x, e1, h2⟩ := Option.bind_eq_some_iff.mp h
    obtain ⟨ys, e2, e3⟩ := Option.bind_eq_some_iff.mp h2
    cases e3
    rw [List.length_cons, List.length_cons, getAs_len e2]
theorem slots_inj {as : List Ar} (nd : (slots as).Nodup) : ∀ {m m' i : Nat}, as[m]? = some (Ar.sl i) → as[m']? = some (Ar.sl i) → m = m' := by
  induction as with
  | nil => intro m m' i h; simp at h
  | cons a l ih =>
    intro m m' i h h'
    have nd2 : (slots l).Nodup := by
      cases a with
      | va d => exact nd
      | sl j => exact (List.nodup_cons.mp (show (j :: slots l).Nodup from nd)).2
    cases m with
    | zero =>
      cases m' with
      | zero => rfl
      | succ m' =>
        cases h
        exact absurd (slots_mem (as := l) (m := m') h') (List.nodup_cons.mp (show (i :: slots l).Nodup from nd)).1
    | succ m =>
      cases m' with
      | zero =>
        cases h'
        exact absurd (slots_mem (as := l) (m := m) h) (List.nodup_cons.mp (show (i :: slots l).Nodup from nd)).1
      | succ m' => rw [ih nd2 (m := m) (m' := m') h h']
/-- the own arguments' addresses differ -/
theorem ownP_nodup : ∀ {as : List SD} {vs : List V}, (∀ (i j : Nat) d e p, i ≠ j → as[i]? = some (SD.ow d) → as[j]? = some (SD.ow e) → vs[i]? = some (V.ref p) → vs[j]? = some (V.ref p) → False) → (ownP as vs).Nodup := by
  intro as
  induction as with
  | nil => intro vs _; exact List.nodup_nil
  | cons a l ih =>
    intro vs h
    cases vs with
    | nil => cases a <;> exact List.nodup_nil
    | cons v ws =>
      have ih' := ih (vs := ws) fun i j d e p hij h1 h2 h3 h4 => h (i + 1) (j + 1) d e p (by omega) h1 h2 h3 h4
      cases a with
      | va c => simpa only [ownP] using ih'
      | un => simpa only [ownP] using ih'
      | ow c =>
        cases v with
        | ref p =>
          refine List.nodup_cons.mpr ⟨fun hm => ?_, ih'⟩
          obtain ⟨i, d, e1, e2⟩ := ownP_mem hm
          exact h 0 (i + 1) c d p (by omega) rfl e1 rfl e2
        | _ => exact ih'
theorem ArgsOk.append {T : Pd} {dd : List D} {dvs : List V} (hd : RepL κ T G dd dvs) : ∀ {as : List SD} {vs : List V}, ArgsOk κ T G H as vs → ArgsOk κ T G H (as ++ dd.map SD.va) (vs ++ dvs)
  | [], vs, h => by
    rw [show vs = [] from h]
    have go : ∀ {dd : List D} {dvs : List V}, RepL κ T G dd dvs → ArgsOk κ T G H (dd.map SD.va) dvs := by
      intro dd
      induction dd with
      | nil => intro dvs r; exact r
      | cons d l ih =>
        intro dvs r
        obtain ⟨v, ws, e, r1, r2⟩ := r
        exact ⟨v, ws, e, r1, ih r2⟩
    exact go hd
  | .va d :: l, vs, h => by
    obtain ⟨v, ws, rfl, h1, h2⟩ := h
    exact ⟨v, ws ++ dvs, rfl, h1, ArgsOk.append hd h2⟩
  | .ow d :: l, vs, h => by
    obtain ⟨p, ws, rfl, h1, h3, h2⟩ := h
    exact ⟨p, ws ++ dvs, rfl, h1, h3, ArgsOk.append hd h2⟩
  | .un :: l, vs, h => h.elim
/-- behind a call -/
theorem call_back (o : Ok κ B ρ σ H G) {as : List Ar} {xs : List SD} {vs dvs : List V} {dd : List D} (nd : (slots as).Nodup) (hx : getAs ρ as = some xs) (r : RepAs κ B.T σ G as vs) (hd : RepL κ B.T G dd dvs) :
    Pre κ B.T G H (xs ++ dd.map SD.va) (vs ++ dvs) ∧ (∀ {outs : List SD} {H' G' : Hp}, After κ B.T G H (xs ++ dd.map SD.va) (vs ++ dvs) outs H' G' → Ok κ B (putAs ρ as outs) σ H' G' ∧
      ∀ {z : SD} {v : V}, ResOk κ B.T H (xs ++ dd.map SD.va) (vs ++ dvs) outs H' G' z v → RepR κ B (putAs ρ as outs) σ H' G' z v) := by
  have a0 := getAs_args o hx r
  have lx := getAs_len hx
  have lv := repAs_len r
  have noD : ∀ {m : Nat} {d : D}, (xs ++ dd.map SD.va)[m]? = some (SD.ow d) → xs[m]? = some (SD.ow d) ∧ m < xs.length := fun {m d} e => by
    by_cases hm : m < xs.length
    · rw [List.getElem?_append_left hm] at e
      exact ⟨e, hm⟩
    · rw [List.getElem?_append_right (by omega), List.getElem?_map] at e
      cases e2 : dd[m - xs.length]? with
      | none => rw [e2] at e; cases e
      | some y => rw [e2] at e; cases e
  have vat : ∀ {m : Nat} {v : V}, m < xs.length → (vs ++ dvs)[m]? = some v → vs[m]? = some v := fun {m v} hm e => by
    rw [List.getElem?_append_left (by omega)] at e
    exact e
  -- an own argument is a slot's
  have arg : ∀ {m : Nat} {d : D} {p : Addr}, (xs ++ dd.map SD.va)[m]? = some (SD.ow d) → (vs ++ dvs)[m]? = some (V.ref p) → ∃ i, as[m]? = some (Ar.sl i) ∧ ρ[i]? = some (SD.ow d) ∧ σ[i]? = some (some (V.ref p)) := fun {m d p} e1 e2 => by
    obtain ⟨e3, hm⟩ := noD e1
    obtain ⟨i, e4, e5⟩ := getAs_own hx e3
    exact ⟨i, e4, e5, repAs_at r e4 (vat hm e2)⟩
  have slot : ∀ {p : Addr}, p ∈ ownP (xs ++ dd.map SD.va) (vs ++ dvs) → ∃ (m i : Nat) (d : D), as[m]? = some (Ar.sl i) ∧ ρ[i]? = some (SD.ow d) ∧ σ[i]? = some (some (V.ref p)) := fun {p} hp => by
    obtain ⟨m, d, e1, e2⟩ := ownP_mem hp
    obtain ⟨i, h1, h2, h3⟩ := arg e1 e2
    exact ⟨m, i, d, h1, h2, h3⟩
  have pb : ∀ {p : Addr}, p ∈ ownP (xs ++ dd.map SD.va) (vs ++ dvs) → B.H p = none := fun {p} hp => by
    obtain ⟨m, i, d, h1, h2, h3⟩ := slot hp
    obtain ⟨q, e1, _, e3, _⟩ := o.own i d h2
    rw [h3] at e1
    cases e1
    exact e3
  have nb : ∀ {a : Addr}, B.H a ≠ none → a ∉ ownP (xs ++ dd.map SD.va) (vs ++ dvs) := fun {a} h z => h (pb z)
  have seen : ∀ {a : Addr}, B.H a ≠ none → noT H a ≠ none := fun {a} h => by
    obtain ⟨u, _, n, e⟩ := o.fr.obj h
    rw [noT_of e n]
    exact fun z => nomatch z
  refine ⟨⟨a0.append hd, ownP_nodup fun i j d e p hij h1 h2 h3 h4 => ?_, o.fr.gh, o.fr.notb, o.fr.tabs, fun a h => ⟨seen (o.fr.lent a h), nb (o.fr.lent a h)⟩⟩, fun {outs H' G'} af => ⟨?_, fun {z v} rz => ?_⟩⟩
  · obtain ⟨i', q1, q2, q3⟩ := arg h1 h3
    obtain ⟨j', w1, w2, w3⟩ := arg h2 h4
    have ne : i' ≠ j' := fun z => by
      subst z
      exact hij (slots_inj nd q1 w1)
    exact o.sep i' j' p d e ne q2 w2 q3 w3
  · -- the state behind it
    have own_in : ∀ {j : Nat} {d : D} {q : Addr}, ρ[j]? = some (SD.ow d) → σ[j]? = some (some (V.ref q)) → (∀ (m : Nat), as[m]? ≠ some (Ar.sl j)) → q ∉ ownP (xs ++ dd.map SD.va) (vs ++ dvs) := fun {j d q} h1 h2 h3 hq => by
      obtain ⟨m, i, c, e1, e2, e3⟩ := slot hq
      have ne : j ≠ i := fun z => h3 m (by rw [z]; exact e1)
      exact o.sep j i q d c ne h1 e2 h2 e3
    have vj : ∀ {m j : Nat} {c : D} {p : Addr}, as[m]? = some (Ar.sl j) → ρ[j]? = some (SD.ow c) → σ[j]? = some (some (V.ref p)) → (xs ++ dd.map SD.va)[m]? = some (SD.ow c) ∧ (vs ++ dvs)[m]? = some (V.ref p) := fun {m j c p} e1 e2 e3 => by
      have h1 := getAs_at hx e1 e2
      have hm := (List.getElem?_eq_some_iff.mp h1).1
      refine ⟨by rw [List.getElem?_append_left hm]; exact h1, ?_⟩
      rw [List.getElem?_append_left (by omega)]
      have hv : m < vs.length := by omega
      have y := repAs_at r e1 (List.getElem?_eq_getElem hv)
      rw [e3] at y
      rw [List.getElem?_eq_getElem hv, ← Option.some.inj (Option.some.inj y)]
    refine ⟨⟨fun a u e n => af.keep a u (o.fr.keep a u e n) (nb (by rw [e]; simp)) n, o.fr.nt, fun a e => (af.frz a (seen e) (nb e)).trans (o.fr.frz a e), o.fr.sub.trans af.sub, af.gh, af.notb, af.tabs, o.fr.lent⟩, by rw [put_len]; exact o.len, fun j d e => ?_, fun j d e => ?_, fun i j p d e hij h1 h2 h3 h4 => ?_, o.anch⟩
    · rcases put_at nd e with ⟨m, c, e1, e2, e3⟩ | ⟨_, e2⟩
      · obtain ⟨p, q1, _, _, _⟩ := o.own j c e2
        obtain ⟨h1, h2⟩ := vj e1 e2 q1
        have y := af.outs m c p h1 h2
        cases e4 : outs[m]? with
        | none => simp only [e4] at e3; cases e3
        | some x =>
          rw [e4] at e3 y
          cases (show SD.va d = x from e3)
          exact ⟨_, q1, y⟩
      · obtain ⟨v, h1, h2⟩ := o.val j d e2
        exact ⟨v, h1, Rep.mono (.of af.sub) d h2⟩
    · rcases put_at nd e with ⟨m, c, e1, e2, e3⟩ | ⟨e1, e2⟩
      · obtain ⟨p, q1, _, q3, _⟩ := o.own j c e2
        obtain ⟨h1, h2⟩ := vj e1 e2 q1
        have y := af.outs m c p h1 h2
        cases e4 : outs[m]? with
        | none => simp only [e4] at e3; cases e3
        | some x =>
          rw [e4] at e3 y
          cases (show SD.ow d = x from e3)
          exact ⟨p, q1, y.1, q3, y.2⟩
      · obtain ⟨q, q1, q2, q3, q4⟩ := o.own j d e2
        have hn := own_in e2 q1 fun m z => e1 m d z e2
        obtain ⟨u, u1, u2, _⟩ := q4.obj
        exact ⟨q, q1, (af.frz q (by rw [noT_of u1 u2]; simp) hn).trans q2, q3, q4.mono af.sub ((af.keep q u u1 hn u2).trans u1.symm)⟩
    · have old : ∀ {m : Nat} {x : D}, (putAs ρ as outs)[m]? = some (SD.ow x) → ∃ y, ρ[m]? = some (SD.ow y) := fun {m x} z => by
        rcases put_at nd z with ⟨_, c, _, e2, _⟩ | ⟨_, e2⟩
        · exact ⟨c, e2⟩
        · exact ⟨x, e2⟩
      obtain ⟨y1, w1⟩ := old h1
      obtain ⟨y2, w2⟩ := old h2
      exact o.sep i j p y1 y2 hij w1 w2 h3 h4
  · cases z with
    | un => exact rz.elim
    | va d => exact rz
    | ow d =>
      obtain ⟨q, rfl, h1, h2, h3, h4⟩ := rz
      refine ⟨q, rfl, h1, ?_, h2, fun j e hj hs => ?_⟩
      · rcases h3 with h3 | h3
        · cases eb : B.H q with
          | none => rfl
          | some u => exact absurd h3 (seen (by rw [eb]; simp))
        · exact pb h3
      · rcases put_at nd hj with ⟨m, c, e1, e2, e3⟩ | ⟨e1, e2⟩
        · have h5 := getAs_at hx e1 e2
          have hm := (List.getElem?_eq_some_iff.mp h5).1
          have hv : m < vs.length := by omega
          have y := repAs_at r e1 (List.getElem?_eq_getElem hv)
          rw [hs] at y
          have e6 : (vs ++ dvs)[m]? = some (V.ref q) := by
            rw [List.getElem?_append_left hv, List.getElem?_eq_getElem hv, ← Option.some.inj (Option.some.inj y)]
          have e5 : (xs ++ dd.map SD.va)[m]? = some (SD.ow c) := by
            rw [List.getElem?_append_left hm]
            exact h5
          cases e4 : outs[m]? with
          | none => simp only [e4] at e3; cases e3
          | some x =>
            rw [e4] at e3
            cases (show SD.ow e = x from e3)
            exact h4 m c q e e5 e6 e4 rfl
        · obtain ⟨p, q1, q2, q3, q4⟩ := o.own j e e2
          rw [hs] at q1
          cases q1
          rcases h3 with h3 | h3
          · obtain ⟨u, u1, u2, _⟩ := q4.obj
            rw [noT_of u1 u2] at h3
            cases h3
          · obtain ⟨m, i, c, w1, w2, w3⟩ := slot h3
            have ne : j ≠ i := fun z => e1 m e (by rw [z]; exact w1) e2
            exact o.sep j i q e c ne e2 w2 hs w3
end
/-- what a call may let out is taken -/
def PassW (X : Cx) (W : WX) : Prop := ∀ σ, PassesAt (L2.CX X.prog X.w) X σ (fun cls d H => W cls d σ H)
theorem passW_of {X : Cx} {W : WX} (tk : Takes X W) : PassW X W := fun σ => passAt tk σ
theorem passW_no {X : Cx} : PassW X (fun _ _ _ _ => False) := fun σ _ _ _ _ _ _ c => by
  obtain ⟨_, _, _, _, _, _, _, _, _, _, _, _, z⟩ := c
  exact z.elim
section
variable {X : Cx} {κ : Ctx} {W : WX} {k N : Nat} {f : Addr} {fd : FuncData} {ps : List Str} {fn : List SD → FR} {dvs : List V} {dd : List D} {ds : List Value} {x : Str} {p pos : Pos} {e : Expr} {es : List Expr} {n : M (List Ar)} {σ : L2.St} {H : Hp} {Q : VK}
theorem call_ok (hN : ps.length = N) (hd : ∀ T G, RepL κ T G dd dvs) (hl : ∀ ρ as ρ' xs, n ρ = .ok as ρ' → getAs ρ' as = some xs → xs.length + dd.length = N) (h : tE κ W (mCall fn dd n) σ H Q) :
    tCallSD (spF κ N fn) dvs (fun σ cls d H => W cls d σ H) (tAr κ W n) σ H Q := by
  obtain ⟨B, ρ, G, o, q⟩ := h
  refine ⟨B, ρ, G, o, ?_⟩
  have q1 := Pst.bind q
  cases en : n ρ with
  | ex x ρ' =>
    rw [en] at q1
    exact q1
  | no =>
    rw [en] at q1
    exact q1
  | ok as ρ' =>
    rw [en] at q1
    refine fun H1 G1 o1 s1 vs rs => ?_
    have q2 := q1 H1 G1 o1 s1
    dsimp only at q2
    by_cases nd : (slots as).Nodup
    · rw [if_pos nd] at q2
      cases hx : getAs ρ' as with
      | none =>
        rw [hx] at q2
        exact q2.elim
      | some xs =>
        rw [hx] at q2
        dsimp only at q2
        obtain ⟨pre, back⟩ := call_back o1 nd hx rs (hd B.T G1)
        refine ⟨B.T, G1, xs ++ dd.map SD.va, ?_, pre, ?_⟩
        · rw [List.length_append, List.length_map]
          exact hl ρ as ρ' xs en hx
        · cases ef : fn (xs ++ dd.map SD.va) with
          | ok r outs =>
            rw [ef] at q2
            exact fun v H2 G2 af rv => q2 H2 G2 (back af).1 af.sub v ((back af).2 rv)
          | ex x outs =>
            rw [ef] at q2
            exact fun cls d H2 G2 af rx => q2 cls d H2 G2 (back af).1 af.sub rx
          | no =>
            rw [ef] at q2
            exact q2.elim
    · rw [if_neg nd] at q2
      exact q2.elim
/-- f(e, ..) -/
theorem e_call (F : FnOk X.prog X.w X.K X.mg X.base (L2.CX X.prog X.w) k f fd ps (spF κ N fn)) (hN : ps.length = N) (hr : Room k X.A) (hg : Gl X x) (hm : X.mg x = some (.ref f)) (hk : PySem.W.keepIn X.K (.ref f) = true) (hb : Binds X.K fd ps ds) (hv : Vals dvs ds) (hd : ∀ T G, RepL κ T G dd dvs)
    (hx : PassW X W) (ha : PA X (e :: es) (tAr κ W n)) (hl : ∀ ρ as ρ' xs, n ρ = .ok as ρ' → getAs ρ' as = some xs → xs.length + dd.length = N) (hdb : (x == ("__debug__" : Str)) = false := by decide) (he : starEach (e :: es) X.env = (false, eval e X.env) :: starEach es X.env := by rfl) (hpl : (backTo pos (starEach es X.env)).any (·.1) = false := by rfl) :
    PE X (.Call (.Name x p) (e :: es) [] pos) (tE κ W (mCall fn dd n)) := PE.imp (pe_callSD F hr hg hm hk hb hv hx ha hdb he hpl) fun _ _ _ => call_ok hN hd hl
end
/-- how many arguments an argument list gives -/
def ALen (n : M (List Ar)) (k : Nat) : Prop := ∀ ρ as ρ', n ρ = .ok as ρ' → as.length = k
theorem alen_nil : ALen aNil 0 := fun ρ as ρ' h => by cases h; rfl
theorem alen_va {m : M SD} {n : M (List Ar)} {k : Nat} (h : ALen n k) : ALen (aVa m n) (k + 1) := fun ρ as ρ' e => by
  unfold aVa M.bind at e
  cases e1 : fE m ρ with
  | ok d ρ1 =>
    rw [e1] at e
    cases e2 : n ρ1 with
    | ok ds ρ2 =>
      simp only [e2] at e
      cases e
      rw [List.length_cons, h _ _ _ e2]
    | ex x ρ2 => simp only [e2] at e; cases e
    | no => simp only [e2] at e; cases e
  | ex x ρ1 => rw [e1] at e; cases e
  | no => rw [e1] at e; cases e
theorem alen_sl {i : Nat} {n : M (List Ar)} {k : Nat} (h : ALen n k) : ALen (aSl i n) (k + 1) := fun ρ as ρ' e => by
  unfold aSl at e
  by_cases hi : isSet ρ[i]? = true
  · rw [if_pos hi] at e
    unfold M.bind at e
    cases e2 : n ρ with
    | ok ds ρ2 =>
      simp only [e2] at e
      cases e
      rw [List.length_cons, h _ _ _ e2]
    | ex x ρ2 => simp only [e2] at e; cases e
    | no => simp only [e2] at e; cases e
  · rw [if_neg hi] at e
    cases e
theorem alen_ok {n : M (List Ar)} {k N : Nat} {dd : List D} (h : ALen n k) (hk : k + dd.length = N) : ∀ ρ as ρ' xs, n ρ = .ok as ρ' → getAs ρ' as = some xs → xs.length + dd.length = N := fun ρ as ρ' xs e hx => by
  rw [getAs_len hx, h _ _ _ e]
  exact hk
end Fm

set_option maxHeartbeats 3900000
namespace Fm
open L2 PySem PySem.Spec PyProof.Rows

/-! ### what is walked -/
def ItD (κ : Ctx) (T : Pd) (G0 : Hp) (J : It) (l : List D) : Prop := ∀ (i : Nat) (B : Bas) (ρ : List SD) (σ : L2.St) (H G : Hp), B.T = T → Ok κ B ρ σ H G → Same G0 G →
  (i < l.length → J.go i H) ∧ (l.length ≤ i → J.stop i H) ∧ ∀ d, l[i]? = some d → ∀ x H', J.yld i H x H' → ∃ G', Ok κ B ρ σ H' G' ∧ Same G G' ∧ Same H H' ∧ Rep κ T G' d x
def tI (κ : Ctx) (W : WX) (m : M (List D)) : TI := fun σ H R => ∃ B ρ G, Ok κ B ρ σ H G ∧ Pst κ W B σ G (m ρ) fun l ρ' H' G' => ∀ J, ItD κ B.T G' J l → R J H'
theorem PI.imp {X : Cx} {tg e : Expr} {t t' : TI} (h : PI X tg e t) (f : ∀ σ H R, t' σ H R → t σ H R) : PI X tg e t' := ⟨fun pins s σ H R I q => h.run pins s σ H R I (f _ _ _ q)⟩
theorem PI.or {X : Cx} {tg e : Expr} {t t' : TI} (h : PI X tg e t) (h' : PI X tg e t') : PI X tg e (fun σ H R => t σ H R ∨ t' σ H R) := ⟨fun pins s σ H R I q => by
  rcases q with q | q
  · exact h.run pins s σ H R I q
  · exact h'.run pins s σ H R I q⟩
/-- a list or a tuple -/
def seqM : D → M (List D)
  | .lst _ l => M.ret l
  | .tup l => M.ret l
  | .str s => M.ret (s.cps.toList.map fun c => D.str ⟨#[c]⟩)
  | _ => M.no
def iSeq (m : M SD) : M (List D) := (fE m).bind seqM
theorem Rep.seqL {κ : Ctx} {T : Pd} {G H : Hp} {b : Bool} {l : List D} {v : V} (s : Same G H) (h : Rep κ T G (.lst b l) v) : ∃ a vs, v = .ref a ∧ SqL κ.K G a vs ∧ SqL κ.K H a vs ∧ RepL κ T G l vs := by
  obtain ⟨a, vs, rfl, ⟨h1, _⟩, h2⟩ := h
  exact ⟨a, vs, rfl, SqL.of h1, SqL.of (s _ _ h1), h2⟩
theorem itd_list {κ : Ctx} {T : Pd} {G0 : Hp} {a : Addr} {l : List D} {vs : List V} (hs : SqL κ.K G0 a vs) (r : RepL κ T G0 l vs) : ItD κ T G0 (Itl κ.K a) l := by
  intro i B ρ σ H G hT o s
  have hH : SqL κ.K H a vs := sqL_mono (s.trans o.fr.gh) hs
  refine ⟨fun hi => ?_, fun hi => ⟨vs, hH, by rw [r.length]; exact hi⟩, fun d hd x H' y => ?_⟩
  · obtain ⟨v, h1, h2⟩ := r.get (List.getElem?_eq_getElem hi)
    exact ⟨vs, v, hH, h1⟩
  · obtain ⟨rfl, y⟩ := y
    obtain ⟨v, h1, h2⟩ := r.get hd
    have z := y vs hH
    rw [h1] at z
    cases z
    exact ⟨G, o, Same.refl G, Same.refl _, Rep.mono (.of s) d h2⟩
theorem itd_tup {κ : Ctx} {T : Pd} {G0 : Hp} {a : Addr} {l : List D} {vs : List V} (hs : TupAt κ.K G0 a vs) (r : RepL κ T G0 l vs) : ItD κ T G0 (Itt κ.K a) l := by
  intro i B ρ σ H G hT o s
  have hH : SqT κ.K H a vs := hs.sq (s.trans o.fr.gh)
  refine ⟨fun hi => ?_, fun hi => ⟨vs, hH, by rw [r.length]; exact hi⟩, fun d hd x H' y => ?_⟩
  · obtain ⟨v, h1, h2⟩ := r.get (List.getElem?_eq_getElem hi)
    exact ⟨vs, v, hH, h1⟩
  · obtain ⟨rfl, y⟩ := y
    obtain ⟨v, h1, h2⟩ := r.get hd
    have z := y vs hH
    rw [h1] at z
    cases z
    exact ⟨G, o, Same.refl G, Same.refl _, Rep.mono (.of s) d h2⟩
/-- 0, 1, .. below n -/
def rngD (lo : Int) (n : Nat) : List D := (List.range n).map fun i => .int (lo + (i : Nat))
theorem itd_rng {κ : Ctx} {T : Pd} {G0 : Hp} {lo : Int} {n : Nat} : ItD κ T G0 (Itr lo n) (rngD lo n) := by
  intro i B ρ σ H G hT o s
  have hl : (rngD lo n).length = n := by simp [rngD]
  refine ⟨fun hi => by rw [hl] at hi; exact hi, fun hi => by rw [hl] at hi; exact hi, fun d hd x H' y => ?_⟩
  obtain ⟨rfl, rfl⟩ := y
  unfold rngD at hd
  rw [List.getElem?_map] at hd
  obtain ⟨j, e1, e2⟩ := Option.map_eq_some_iff.mp hd
  have hj : j = i := by
    have q := List.getElem?_eq_some_iff.mp e1
    obtain ⟨q1, q2⟩ := q
    rw [List.getElem_range] at q2
    exact q2.symm
  subst hj
  subst e2
  exact ⟨G, o, Same.refl G, Same.refl _, rfl⟩
section
variable {X : Cx} {κ : Ctx} {W : WX} {e : Expr} {m : M SD} {tg : Expr}
theorem itd_str {T : Pd} {G0 : Hp} {s : Str} : ItD κ T G0 (Its s) (s.cps.toList.map fun c => D.str ⟨#[c]⟩) := by
  intro i B ρ σ H G hT o k
  have len : (s.cps.toList.map fun c => D.str ⟨#[c]⟩).length = s.cps.size := by simp
  refine ⟨fun hi => by rw [len] at hi; exact hi, fun hi => by rw [len] at hi; exact hi, fun d hd x H' y => ?_⟩
  obtain ⟨rfl, c, hc, rfl⟩ := y
  rw [List.getElem?_map, Array.getElem?_toList, hc] at hd
  cases hd
  exact ⟨G, o, Same.refl G, Same.refl _, rfl⟩
theorem i_seq (hK : X.K = κ.K) (h : PE X e (tE κ W m)) : PI X tg e (tI κ W (iSeq m)) := by
  refine PI.imp (PI.or (pi_list h) (PI.or (pi_tup h) (pi_str h))) fun σ H R ⟨B, ρ, G, o, q⟩ => ?_
  have q1 := Pst.bind q
  -- which of both: by the data
  cases em : fE m ρ with
  | ex x ρ' =>
    refine .inl (tE_fz (k := fun _ _ _ _ => False) o ?_ fun _ _ _ _ _ _ z => z.elim)
    rw [em]
    rw [em] at q1
    exact q1
  | no =>
    rw [em] at q1
    exact q1.elim
  | ok d ρ' =>
    cases d with
    | lst b l =>
      refine .inl (tE_fz (k := fun d ρ' H' G' => d = .lst b l ∧ Pst κ W B σ G' (seqM d ρ') fun l ρ' H' G' => ∀ J, ItD κ B.T G' J l → R J H') o ?_ fun d ρ1 H1 G1 o1 s1 z v r => ?_)
      · rw [em] at q1 ⊢
        exact fun H' G' o' s' => ⟨rfl, q1 H' G' o' s'⟩
      · obtain ⟨rfl, z⟩ := z
        obtain ⟨a, vs, rfl, h1, h2, h3⟩ := r.seqL o1.fr.gh
        refine ⟨a, rfl, ⟨vs, hK ▸ h2⟩, ?_⟩
        rw [hK]
        exact Pst.ret z o1 _ (itd_list h1 h3)
    | tup l =>
      refine .inr (.inl (tE_fz (k := fun d ρ' H' G' => d = .tup l ∧ Pst κ W B σ G' (seqM d ρ') fun l ρ' H' G' => ∀ J, ItD κ B.T G' J l → R J H') o ?_ fun d ρ1 H1 G1 o1 s1 z v r => ?_))
      · rw [em] at q1 ⊢
        exact fun H' G' o' s' => ⟨rfl, q1 H' G' o' s'⟩
      · obtain ⟨rfl, z⟩ := z
        obtain ⟨a, vs, rfl, h1, h3⟩ := r
        refine ⟨a, rfl, ⟨vs, hK ▸ h1.sq o1.fr.gh⟩, ?_⟩
        rw [hK]
        exact Pst.ret z o1 _ (itd_tup h1 h3)
    | str x =>
      refine .inr (.inr (tE_fz (k := fun d ρ' H' G' => d = .str x ∧ Pst κ W B σ G' (seqM d ρ') fun l ρ' H' G' => ∀ J, ItD κ B.T G' J l → R J H') o ?_ fun d ρ1 H1 G1 o1 s1 z v r => ?_))
      · rw [em] at q1 ⊢
        exact fun H' G' o' s' => ⟨rfl, q1 H' G' o' s'⟩
      · obtain ⟨rfl, z⟩ := z
        cases (show v = V.str x from r)
        exact ⟨x, rfl, Pst.ret z o1 _ itd_str⟩
    | _ =>
      refine .inl (tE_fz (k := fun _ _ _ _ => False) o ?_ fun _ _ _ _ _ _ z => z.elim)
      rw [em] at q1 ⊢
      exact fun H' G' o' s' => q1 H' G' o' s'
/-- range(n) -/
def rng1M : List D → M (List D)
  | [.int j] => if -(2 ^ 62) ≤ j ∧ j < 2 ^ 62 then M.ret (rngD 0 j.toNat) else M.no
  | _ => M.no
def rng2M : List D → M (List D)
  | [.int i, .int j] => if -(2 ^ 62) ≤ i ∧ i < 2 ^ 62 ∧ -(2 ^ 62) ≤ j ∧ j < 2 ^ 62 then M.ret (rngD i (j - i).toNat) else M.no
  | _ => M.no
def iRg1 (n : M (List D)) : M (List D) := n.bind rng1M
def iRg2 (n : M (List D)) : M (List D) := n.bind rng2M
theorem i_rng1 {a : Expr} {n : M (List D)} {p pos : Pos} (hg : Gl X "range") (hm : X.mg "range" = none) (ha : PA X [a] (tA κ W n)) (hs : starEach [a] X.env = [(false, eval a X.env)] := by rfl) : PI X tg (.Call (.Name "range" p) [a] [] pos) (tI κ W (iRg1 n)) := by
  refine PI.imp (pi_range1 hg hm ha hs) fun σ H R ⟨B, ρ, G, o, q⟩ => ⟨B, ρ, G, o, Pst.mono (Pst.bind q) fun ds ρ' H' G' o' s q' vs rs => ?_⟩
  match ds, q', rs with
  | [.int j], q', rs =>
    obtain ⟨v, ws, rfl, rfl, rfl⟩ := rs
    have q2 : Pst κ W B σ G' ((if -(2 ^ 62) ≤ j ∧ j < 2 ^ 62 then M.ret (rngD 0 j.toNat) else M.no) ρ') fun l ρ' H' G' => ∀ J, ItD κ B.T G' J l → R J H' := q'
    by_cases hj : -(2 ^ 62) ≤ j ∧ j < 2 ^ 62
    · rw [if_pos hj] at q2
      exact ⟨j, rfl, hj.1, hj.2, Pst.ret q2 o' _ itd_rng⟩
    · rw [if_neg hj] at q2
      exact q2.elim
end

/-! ### for -/
def forL (tg : D → List SD → Option (List SD)) (b : S) : List D → S
  | [], ρ => .ok .nx ρ
  | d :: l, ρ => match tg d ρ with
    | none => .no
    | some ρ1 => match b ρ1 with
      | .ok .nx ρ2 => forL tg b l ρ2
      | .ok .ct ρ2 => forL tg b l ρ2
      | .ok .bk ρ2 => .ok .nx ρ2
      | r => r
def sFor (m : M (List D)) (tg : D → List SD → Option (List SD)) (b : S) : S := m.bind fun l => forL tg b l
section
variable {X : Cx} {κ : Ctx} {A vs : List Nat} {W : WX} {e : Expr} {tg : Expr} {pos : Pos}
theorem s_for {m : M (List D)} {g : D → List SD → Option (List SD)} {b : S} {body : List Stmt} (hp : PassesOwn (model X.prog X.w) X.A X.env X.xe) (hc : X.calm = true) (hi : PI X tg e (tI κ W m)) (hg : PG X tg (tG κ A vs g)) (hb : PSs X body (tS κ A W b))
    (hs : ∀ x, foldedSetIterable e X.env x = pure x := by intro _; rfl) : PS X (.For tg e body [] pos) (tS κ A W (sFor m g b)) := by
  refine PS.imp (ps_for hp hc hi hg hb hs) fun D σ H ⟨B, ρ, G, a, o, q⟩ => ⟨B, ρ, G, o, Pst.mono (PstS.bind q) fun l ρ0 H0 G0 o0 s0 q0 J hJ => ?_⟩
  refine ⟨fun i n σ' H' => n = l.length - i ∧ i ≤ l.length ∧ ∃ ρ' G', Ok κ B ρ' σ' H' G' ∧ Same G0 G' ∧ PstS κ W B G' (forL g b (l.drop i) ρ') D, ⟨l.length, by simp, Nat.zero_le _, ρ0, G0, o0, Same.refl _, q0⟩, ?_⟩
  rintro i n σ1 H1 ⟨rfl, hi, ρ1, G1, o1, s1, q1⟩
  obtain ⟨j1, j2, j3⟩ := hJ i B ρ1 σ1 H1 G1 rfl o1 s1
  by_cases hlt : i < l.length
  · refine .inr ⟨j1 hlt, fun σ' H' => i + 1 ≤ l.length ∧ ∃ ρ' G', Ok κ B ρ' σ' H' G' ∧ Same G0 G' ∧ PstS κ W B G' (forL g b (l.drop (i + 1)) ρ') D, fun σ' H' ⟨h1, h2⟩ => ⟨l.length - (i + 1), by omega, rfl, h1, h2⟩, fun x H2 y => ?_⟩
    obtain ⟨G2, o2, s2, _, r2⟩ := j3 l[i] (List.getElem?_eq_getElem hlt) x H2 y
    rw [List.drop_eq_getElem_cons hlt] at q1
    have q1' : PstS κ W B G1 (match g l[i] ρ1 with
      | none => .no
      | some ρ1 => match b ρ1 with
        | .ok .nx ρ2 => forL g b (l.drop (i + 1)) ρ2
        | .ok .ct ρ2 => forL g b (l.drop (i + 1)) ρ2
        | .ok .bk ρ2 => .ok .nx ρ2
        | r => r) D := q1
    cases eg : g l[i] ρ1 with
    | none =>
      rw [eg] at q1'
      exact q1'.elim
    | some ρ2 =>
      rw [eg] at q1'
      dsimp only at q1'
      refine ⟨B, ρ1, G2, l[i], ρ2, a, o2, r2, eg, fun σ3 H3 G3 o3 s3 _ => ⟨B, ρ2, G3, a, o3, ?_⟩⟩
      have s13 := s2.trans s3
      cases eb : b ρ2 with
      | ok f ρ3 =>
        rw [eb] at q1'
        cases f with
        | nx => exact fun σ4 H4 G4 o4 s4 => ⟨hlt, ρ3, G4, o4, (s1.trans s13).trans s4, PstS.mono q1' (s13.trans s4) (fun _ _ z => z) rfl rfl rfl⟩
        | ct => exact fun σ4 H4 G4 o4 s4 => ⟨hlt, ρ3, G4, o4, (s1.trans s13).trans s4, PstS.mono q1' (s13.trans s4) (fun _ _ z => z) rfl rfl rfl⟩
        | bk => exact fun σ4 H4 G4 o4 s4 => q1' σ4 H4 G4 o4 (s13.trans s4)
        | rt r => exact fun v σ4 H4 G4 o4 s4 rv => q1' v σ4 H4 G4 o4 (s13.trans s4) rv
      | ex x ρ3 =>
        rw [eb] at q1'
        exact fun cls d σ4 H4 G4 o4 s4 rx => q1' cls d σ4 H4 G4 o4 (s13.trans s4) rx
      | no =>
        rw [eb] at q1'
        exact q1'.elim
  · have ei : l.drop i = [] := List.drop_eq_nil_iff.mpr (by omega)
    rw [ei] at q1
    exact .inl ⟨j2 (by omega), q1 σ1 H1 G1 o1 (Same.refl _)⟩

/-! ### while, so many turns at most -/
def whileF (c : M Bool) (b : S) : Nat → S
  | 0, _ => .no
  | n + 1, ρ => match c ρ with
    | .ok true ρ1 => match b ρ1 with
      | .ok .nx ρ2 => whileF c b n ρ2
      | .ok .ct ρ2 => whileF c b n ρ2
      | .ok .bk ρ2 => .ok .nx ρ2
      | r => r
    | .ok false ρ1 => .ok .nx ρ1
    | .ex x ρ1 => .ex x ρ1
    | .no => .no
def sWhile (fuel : List SD → Nat) (c : M Bool) (b : S) : S := fun ρ => whileF c b (fuel ρ) ρ
end
end Fm

set_option maxHeartbeats 3900000
namespace Fm
open L2 PySem PySem.Spec PyProof.Rows

/-! ### comprehensions -/
def wipeR (ρ : List SD) : List Nat → List SD
  | [] => ρ
  | v :: vs => (wipeR ρ vs).set v .un
/-- ρ' with the slots vs as in ρ -/
def unw (ρ ρ' : List SD) : List Nat → List SD
  | [] => ρ'
  | v :: vs => (unw ρ ρ' vs).set v (ρ.getD v .un)
theorem wipeR_len (ρ : List SD) : ∀ vs : List Nat, (wipeR ρ vs).length = ρ.length
  | [] => rfl
  | v :: vs => by
    show ((wipeR ρ vs).set v .un).length = ρ.length
    rw [List.length_set, wipeR_len ρ vs]
theorem unw_len (ρ ρ' : List SD) : ∀ vs : List Nat, (unw ρ ρ' vs).length = ρ'.length
  | [] => rfl
  | v :: vs => by
    show ((unw ρ ρ' vs).set v _).length = ρ'.length
    rw [List.length_set, unw_len ρ ρ' vs]
theorem wipeR_at {ρ : List SD} {j : Nat} {x : SD} : ∀ {vs : List Nat}, (wipeR ρ vs)[j]? = some x → x ≠ .un → j ∉ vs ∧ ρ[j]? = some x
  | [], h, _ => ⟨by simp, h⟩
  | v :: vs, h, n => by
    have h' : ((wipeR ρ vs).set v .un)[j]? = some x := h
    by_cases hj : v = j
    · subst hj
      have hl : v < (wipeR ρ vs).length := by
        have y := (List.getElem?_eq_some_iff.mp h').1
        rw [List.length_set] at y
        exact y
      rw [List.getElem?_set_self hl] at h'
      exact absurd (Option.some.inj h').symm n
    · rw [List.getElem?_set_ne hj] at h'
      obtain ⟨a, b⟩ := wipeR_at h' n
      refine ⟨fun z => ?_, b⟩
      have in_or := List.mem_cons.mp z; rcases in_or with z | z
      · exact hj z.symm
      · exact a z
theorem wipeR_out {ρ : List SD} {j : Nat} : ∀ {vs : List Nat}, j ∉ vs → (wipeR ρ vs)[j]? = ρ[j]?
  | [], _ => rfl
  | v :: vs, h => by
    show ((wipeR ρ vs).set v .un)[j]? = ρ[j]?
    rw [List.getElem?_set_ne (fun z => h (by rw [z]; exact List.mem_cons_self ..)), wipeR_out fun z => h (List.mem_cons_of_mem _ z)]
theorem unw_in {ρ ρ' : List SD} {j : Nat} (hl : ρ'.length = ρ.length) : ∀ {vs : List Nat}, j ∈ vs → (unw ρ ρ' vs)[j]? = ρ[j]?
  | v :: vs, h => by
    show ((unw ρ ρ' vs).set v (ρ.getD v .un))[j]? = ρ[j]?
    by_cases hj : v = j
    · subst hj
      by_cases hv : v < ρ.length
      · rw [List.getElem?_set_self (by rw [unw_len, hl]; exact hv), List.getD_eq_getElem?_getD, List.getElem?_eq_getElem hv]
        rfl
      · rw [List.getElem?_eq_none_iff.mpr (by rw [List.length_set, unw_len, hl]; omega), List.getElem?_eq_none_iff.mpr (by omega)]
    · rw [List.getElem?_set_ne hj]
      refine unw_in hl ?_
      have in_or := List.mem_cons.mp h; rcases in_or with z | z
      · exact absurd z.symm hj
      · exact z
theorem unw_out {ρ ρ' : List SD} {j : Nat} : ∀ {vs : List Nat}, j ∉ vs → (unw ρ ρ' vs)[j]? = ρ'[j]?
  | [], _ => rfl
  | v :: vs, h => by
    show ((unw ρ ρ' vs).set v _)[j]? = ρ'[j]?
    rw [List.getElem?_set_ne (fun z => h (by rw [z]; exact List.mem_cons_self ..)), unw_out fun z => h (List.mem_cons_of_mem _ z)]
def lcL (vs : List Nat) (tg : D → List SD → Option (List SD)) (tt : M Bool) (te : M SD) : List D → List D → M (List D)
  | [], acc, ρ => .ok acc ρ
  | d :: l, acc, ρ => match tg d (wipeR ρ vs) with
    | none => .no
    | some ρ1 => match tt ρ1 with
      | .ok false ρ2 => lcL vs tg tt te l acc (unw ρ ρ2 vs)
      | .ok true ρ2 => match fE te ρ2 with
        | .ok y ρ3 => if acc.length < 1000000 then lcL vs tg tt te l (acc ++ [y]) (unw ρ ρ3 vs) else .no
        | _ => .no
      | _ => .no
def mLc (it : M (List D)) (vs : List Nat) (tg : D → List SD → Option (List SD)) (tt : M Bool) (te : M SD) : M SD := it.bind fun l => (lcL vs tg tt te l []).bind fun acc => M.ret (.ow (.lst false acc))

open Classical in
/-- the heap without the objects of the slots -/
noncomputable def hidS (ρ : List SD) (σ : L2.St) (H : Hp) : Hp := fun a => if ∃ (j : Nat) (d : D), ρ[j]? = some (SD.ow d) ∧ σ[j]? = some (some (V.ref a)) then none else noT H a
section
variable {κ : Ctx} {B : Bas} {ρ ρ' : List SD} {σ σ' : L2.St} {H G H' G' : Hp}
theorem hidS_in {a : Addr} {j : Nat} {d : D} (h1 : ρ[j]? = some (SD.ow d)) (h2 : σ[j]? = some (some (V.ref a))) : hidS ρ σ H a = none := if_pos ⟨j, d, h1, h2⟩
theorem hidS_out {a : Addr} (h : ∀ (j : Nat) (d : D), ρ[j]? = some (SD.ow d) → σ[j]? ≠ some (some (V.ref a))) : hidS ρ σ H a = noT H a := if_neg fun ⟨j, d, h1, h2⟩ => h j d h1 h2
theorem hidS_none {a : Addr} (h : hidS ρ σ H a = none) : (∃ (j : Nat) (d : D), ρ[j]? = some (SD.ow d) ∧ σ[j]? = some (some (V.ref a))) ∨ noT H a = none := by
  by_cases z : ∃ (j : Nat) (d : D), ρ[j]? = some (SD.ow d) ∧ σ[j]? = some (some (V.ref a))
  · exact .inl z
  · refine .inr ?_
    have e : hidS ρ σ H a = noT H a := if_neg z
    rw [← e, h]
theorem hidS_some {a : Addr} {u : HO} (h : hidS ρ σ H a = some u) : H a = some u ∧ ∀ ps, u ≠ .tbl ps := by
  unfold hidS at h
  split at h
  · cases h
  · exact noT_some h
/-- a base laid anew: what the slots vs hold is out of sight -/
noncomputable def Bas.at_ (B : Bas) (ρ : List SD) (σ : L2.St) (H G : Hp) (vs : List Nat) : Bas := ⟨hidS (wipeR ρ vs) σ H, G, B.T, []⟩
theorem seen_noT {B : Bas} {H G : Hp} (k : Frame κ B H G) {a : Addr} (h : B.H a ≠ none) : noT H a ≠ none := by
  obtain ⟨u, _, n, e⟩ := k.obj h
  rw [noT_of e n]
  exact fun z => nomatch z
theorem seen_eq {B : Bas} {H G : Hp} (k : Frame κ B H G) {a : Addr} (h : B.H a ≠ none) : noT H a = H a := by
  obtain ⟨u, _, n, e⟩ := k.obj h
  rw [noT_of e n, e]
theorem Ok.rebase (o : Ok κ B ρ σ H G) (vs : List Nat) : Ok κ (B.at_ ρ σ H G vs) (wipeR ρ vs) (wipe σ vs) H G := by
  have sl : ∀ {j : Nat}, j ∉ vs → (wipe σ vs)[j]? = σ[j]? := fun h => wipe_out h
  refine ⟨⟨fun a u e _ => (hidS_some e).1, fun a ps e => (hidS_some e).2 ps rfl, fun a _ => rfl, Same.refl G, o.fr.gh, o.fr.notb, o.fr.tabs, fun a h => ?_⟩, by rw [wipe_length, wipeR_len]; exact o.len, fun j d e => ?_, fun j d e => ?_, fun i j p d e hij h1 h2 h3 h4 => ?_, fun i p h => nomatch h⟩
  · show hidS (wipeR ρ vs) σ H a ≠ none
    have hb := o.fr.lent a h
    rw [hidS_out fun j d e1 e2 => ?_]
    · exact seen_noT o.fr hb
    · obtain ⟨_, e3⟩ := wipeR_at e1 (by simp)
      obtain ⟨q, q1, _, q3, _⟩ := o.own j d e3
      rw [e2] at q1
      cases q1
      exact hb q3
  · obtain ⟨n, e1⟩ := wipeR_at e (by simp)
    rw [sl n]
    exact o.val j d e1
  · obtain ⟨n, e1⟩ := wipeR_at e (by simp)
    obtain ⟨p, h1, h2, h3, h4⟩ := o.own j d e1
    exact ⟨p, (sl n).trans h1, h2, hidS_in (by rw [wipeR_out n]; exact e1) h1, h4⟩
  · obtain ⟨n1, e1⟩ := wipeR_at h1 (by simp)
    obtain ⟨n2, e2⟩ := wipeR_at h2 (by simp)
    rw [sl n1] at h3
    rw [sl n2] at h4
    exact o.sep i j p d e hij e1 e2 h3 h4
theorem Ok.back (o : Ok κ B ρ σ H G) {vs : List Nat} (o2 : Ok κ (B.at_ ρ σ H G vs) ρ' σ' H' G') (hw : wipe σ' vs = wipe σ vs) : Ok κ B (unw ρ ρ' vs) σ H' G' := by
  have sl : ∀ {j : Nat}, j ∉ vs → σ'[j]? = σ[j]? := fun {j} h => by
    have z : (wipe σ' vs)[j]? = (wipe σ vs)[j]? := by rw [hw]
    rwa [wipe_out h, wipe_out h] at z
  have hlen : ρ'.length = ρ.length := by
    have a := congrArg List.length hw
    rw [wipe_length, wipe_length] at a
    rw [← o2.len, ← o.len, a]
  -- what is not a slot's own is seen
  have seen : ∀ {a : Addr}, B.H a ≠ none → hidS (wipeR ρ vs) σ H a = H a := fun {a} h => (seen_eq o.fr h) ▸ hidS_out fun j d e1 e2 => by
    obtain ⟨_, e3⟩ := wipeR_at e1 (by simp)
    obtain ⟨q, q1, _, q3, _⟩ := o.own j d e3
    rw [e2] at q1
    cases q1
    exact h q3
  have bnone : ∀ {a : Addr}, hidS (wipeR ρ vs) σ H a = none → B.H a = none := fun {a} h => by
    rcases hidS_none h with ⟨j, d, e1, e2⟩ | h
    · obtain ⟨_, e3⟩ := wipeR_at e1 (by simp)
      obtain ⟨q, q1, _, q3, _⟩ := o.own j d e3
      rw [e2] at q1
      cases q1
      exact q3
    · exact Classical.byContradiction fun z => seen_noT o.fr z h
  -- a slot of vs that owns: its object is seen
  have hid : ∀ {j : Nat} {d : D} {p : Addr}, j ∈ vs → ρ[j]? = some (SD.ow d) → σ[j]? = some (some (V.ref p)) → hidS (wipeR ρ vs) σ H p = H p := fun {j d p} hj e1 e2 => by
    have z : hidS (wipeR ρ vs) σ H p = noT H p := hidS_out fun i c z1 z2 => by
      obtain ⟨n, z3⟩ := wipeR_at z1 (by simp)
      have ne : i ≠ j := fun q => n (by rw [q]; exact hj)
      exact o.sep i j p c d ne z3 e1 z2 e2
    obtain ⟨q, q1, _, _, q4⟩ := o.own j d e1
    rw [e2] at q1
    cases q1
    obtain ⟨u, u1, u2, _⟩ := q4.obj
    rw [z, noT_of u1 u2, u1]
  refine ⟨⟨fun a u e n => ?_, o.fr.nt, fun a e => ?_, o.fr.sub.trans o2.fr.sub, o2.fr.gh, o2.fr.notb, o2.fr.tabs, o.fr.lent⟩, by rw [unw_len, hlen]; exact o.len, fun j d e => ?_, fun j d e => ?_, fun i j p d e hij h1 h2 h3 h4 => ?_, o.anch⟩
  · have h1 := o.fr.keep a u e n
    exact o2.fr.keep a u ((seen (by rw [e]; simp)).trans h1) n
  · refine (o2.fr.frz a ?_).trans (o.fr.frz a e)
    show hidS (wipeR ρ vs) σ H a ≠ none
    rw [seen e]
    exact o.fr.there a e
  · by_cases hj : j ∈ vs
    · rw [unw_in hlen hj] at e
      obtain ⟨v, h1, h2⟩ := o.val j d e
      exact ⟨v, h1, Rep.mono (.of o2.fr.sub) d h2⟩
    · rw [unw_out hj] at e
      obtain ⟨v, h1, h2⟩ := o2.val j d e
      exact ⟨v, (sl hj).symm.trans h1, h2⟩
  · by_cases hj : j ∈ vs
    · rw [unw_in hlen hj] at e
      obtain ⟨p, h1, h2, h3, h4⟩ := o.own j d e
      obtain ⟨u, u1, u2, _⟩ := h4.obj
      have hs := hid hj e h1
      have k := o2.fr.keep p u (hs.trans u1) u2
      have g := o2.fr.frz p (by show hidS (wipeR ρ vs) σ H p ≠ none; rw [hs, u1]; simp)
      exact ⟨p, h1, g.trans h2, h3, h4.mono o2.fr.sub (k.trans u1.symm)⟩
    · rw [unw_out hj] at e
      obtain ⟨p, h1, h2, h3, h4⟩ := o2.own j d e
      exact ⟨p, (sl hj).symm.trans h1, h2, bnone h3, h4⟩
  · have cross : ∀ {i j : Nat} {d e : D} {p : Addr}, i ∈ vs → j ∉ vs → ρ[i]? = some (SD.ow d) → ρ'[j]? = some (SD.ow e) → σ[i]? = some (some (V.ref p)) → σ[j]? = some (some (V.ref p)) → False := fun {i j d e p} hi hj e1 e2 e3 e4 => by
      obtain ⟨q, q1, _, q3, _⟩ := o2.own j e e2
      rw [sl hj, e4] at q1
      cases q1
      have hs := hid hi e1 e3
      obtain ⟨q', w1, _, _, w4⟩ := o.own i d e1
      rw [e3] at w1
      cases w1
      obtain ⟨u, u1, _⟩ := w4.obj
      have q3 : hidS (wipeR ρ vs) σ H p = none := q3
      rw [hs, u1] at q3
      cases q3
    by_cases hi : i ∈ vs <;> by_cases hj : j ∈ vs
    · rw [unw_in hlen hi] at h1
      rw [unw_in hlen hj] at h2
      exact o.sep i j p d e hij h1 h2 h3 h4
    · rw [unw_in hlen hi] at h1
      rw [unw_out hj] at h2
      exact cross hi hj h1 h2 h3 h4
    · rw [unw_out hi] at h1
      rw [unw_in hlen hj] at h2
      exact cross hj hi h2 h1 h4 h3
    · rw [unw_out hi] at h1
      rw [unw_out hj] at h2
      exact o2.sep i j p d e hij h1 h2 ((sl hi).trans h3) ((sl hj).trans h4)
/-- a list that no slot holds grows -/
theorem Ok.grow (o : Ok κ B ρ σ H G) {p : Addr} {xs ys : List V} (hp : H p = some (.lst xs)) (hg : G p = none) (hb : B.H p = none) (na : ∀ (j : Nat) (d : D), ρ[j]? = some (SD.ow d) → σ[j]? ≠ some (some (V.ref p))) : Ok κ B ρ σ (upd H p (.lst ys)) G := by
  have nb : ∀ a, B.H a ≠ none → a ≠ p := fun a z y => z (by rw [y]; exact hb)
  refine ⟨⟨fun a u e n => by rw [upd_ne (nb a (by rw [e]; simp))]; exact o.fr.keep a u e n, o.fr.nt, o.fr.frz, o.fr.sub, fun a u e => ?_, o.fr.notb, fun t ht => ?_, o.fr.lent⟩, o.len, o.val, fun j d e => ?_, o.sep, o.anch⟩
  · have n : a ≠ p := fun y => by
      rw [y, hg] at e
      cases e
    rw [upd_ne n]
    exact o.fr.gh a u e
  · obtain ⟨ps, t1, t2, t3⟩ := o.fr.tabs t ht
    have n1 : t.1 ≠ p := fun y => by
      rw [y, hp] at t1
      cases t1
    refine ⟨ps, by rw [upd_ne n1]; exact t1, t2, fun pos cv hc => ?_⟩
    obtain ⟨c, c1, c2⟩ := t3 pos cv hc
    have n2 : c ≠ p := fun y => by
      rw [y, hp] at c2
      unfold LamX.CodeO at c2
      cases c2
    exact ⟨c, c1, by rw [upd_ne n2]; exact c2⟩
  · obtain ⟨q, q1, q2, q3, q4⟩ := o.own j d e
    have nq : q ≠ p := fun y => na j d e (by rw [q1, y])
    exact ⟨q, q1, q2, q3, q4.mono (Same.refl _) (upd_ne nq)⟩
theorem Pst.sub {α : Type} {W : WX} {B : Bas} {σ : L2.St} {G G2 : Hp} {r : Rs α} {k : α → List SD → Hp → Hp → Prop} (h : Pst κ W B σ G r k) (s : Same G G2) : Pst κ W B σ G2 r k := by
  cases r with
  | ok a ρ' => exact fun H' G' o e => h H' G' o (s.trans e)
  | ex x ρ' => exact fun cls d H' G' o e q => h cls d H' G' o (s.trans e) q
  | no => exact h
theorem wipe_in {τ : L2.St} {j : Nat} : ∀ {us : List Nat}, j ∈ us → (wipe τ us)[j]? = if j < τ.length then some none else none
  | u :: us, hm => by
    show ((wipe τ us).set u none)[j]? = _
    by_cases hu : u = j
    · subst hu
      by_cases hl : u < τ.length
      · rw [List.getElem?_set_self (by rw [wipe_length]; exact hl), if_pos hl]
      · rw [List.getElem?_eq_none_iff.mpr (by rw [List.length_set, wipe_length]; omega), if_neg hl]
    · rw [List.getElem?_set_ne hu]
      refine wipe_in ?_
      have in_or := List.mem_cons.mp hm; rcases in_or with q | q
      · exact absurd q.symm hu
      · exact q
theorem wipe_wipe (τ : L2.St) (vs : List Nat) : wipe (wipe τ vs) vs = wipe τ vs := by
  apply List.ext_getElem?
  intro j
  by_cases hj : j ∈ vs
  · rw [wipe_in hj, wipe_in hj, wipe_length]
  · rw [wipe_out hj]
def lcE (acc : List D) : M SD := M.ret (SD.ow (.lst false acc))
/-- what stands between the turns of a comprehension whose list is at p -/
structure LcI (κ : Ctx) (W : WX) (B : Bas) (σ : L2.St) (G0 : Hp) (p : Addr) (vs : List Nat) (g : D → List SD → Option (List SD)) (tt : M Bool) (te : M SD) (Q : VK) (l acc : List D) (ρ : List SD) (H G : Hp) (ws : List V) : Prop where
  ok : Ok κ B ρ σ H G
  sub : Same G0 G
  gn : G p = none
  bn : B.H p = none
  at_ : H p = some (.lst ws)
  rep : RepL κ B.T G acc ws
  na : ∀ (j : Nat) (d : D), ρ[j]? = some (SD.ow d) → σ[j]? ≠ some (some (V.ref p))
  go : Pst κ W B σ G ((lcL vs g tt te l acc).bind lcE ρ) fun r ρ' H' G' => ∀ v, RepR κ B ρ' σ H' G' r v → Q v H'
section
variable {W : WX} {G0 : Hp} {p : Addr} {vs : List Nat} {g : D → List SD → Option (List SD)} {tt : M Bool} {te : M SD} {Q : VK} {l acc : List D} {ws : List V}
theorem LcI.seen (I : LcI κ W B σ G0 p vs g tt te Q l acc ρ H G ws) : hidS (wipeR ρ vs) σ H p = some (.lst ws) := by
  rw [hidS_out fun j d e1 e2 => I.na j d (wipeR_at e1 (by simp)).2 e2]
  exact noT_of I.at_ fun ps z => by cases z
/-- behind a turn's element or test -/
theorem LcI.turned (I : LcI κ W B σ G0 p vs g tt te Q l acc ρ H G ws) {ρ3 : List SD} {σ3 : L2.St} {H4 G4 : Hp} (o4 : Ok κ (B.at_ ρ σ H G vs) ρ3 σ3 H4 G4) (hw : wipe σ3 vs = wipe σ vs) :
    Ok κ B (unw ρ ρ3 vs) σ H4 G4 ∧ Same G G4 ∧ G4 p = none ∧ H4 p = some (.lst ws) ∧ ∀ (j : Nat) (d : D), (unw ρ ρ3 vs)[j]? = some (SD.ow d) → σ[j]? ≠ some (some (V.ref p)) := by
  have hD := I.seen
  have hlen : ρ3.length = ρ.length := by
    have a := congrArg List.length hw
    rw [wipe_length, wipe_length] at a
    rw [← o4.len, ← I.ok.len, a]
  refine ⟨I.ok.back o4 hw, o4.fr.sub, (o4.fr.frz p (by show hidS (wipeR ρ vs) σ H p ≠ none; rw [hD]; simp)).trans I.gn, o4.fr.keep p _ hD (fun ps z => by cases z), fun j d e1 e2 => ?_⟩
  by_cases hj : j ∈ vs
  · rw [unw_in hlen hj] at e1
    exact I.na j d e1 e2
  · rw [unw_out hj] at e1
    obtain ⟨p', w1, w2, w3, w4⟩ := o4.own j d e1
    have sl : σ3[j]? = σ[j]? := by
      have a : (wipe σ3 vs)[j]? = (wipe σ vs)[j]? := by rw [hw]
      rwa [wipe_out hj, wipe_out hj] at a
    rw [sl, e2] at w1
    cases w1
    have w3 : hidS (wipeR ρ vs) σ H p = none := w3
    rw [hD] at w3
    cases w3
end
/-- the reading of a comprehension -/
theorem lc_ok {W W0 : WX} {A vs : List Nat} {it : M (List D)} {g : D → List SD → Option (List SD)} {tt : M Bool} {te : M SD} {Q : VK} (h : tE κ W (mLc it vs g tt te) σ H Q) : tLc (tI κ W it) (tG κ A vs g) (tT κ W0 tt) (tE κ W0 te) vs σ H Q := by
  obtain ⟨B, ρ, G, o, q⟩ := h
  refine ⟨B, ρ, G, o, Pst.mono (Pst.bind q) fun l ρ0 H0 G0 o0 s0 q0 J hJ p hp => ?_⟩
  refine ⟨fun i n H1 => n = l.length - i ∧ i ≤ l.length ∧ ∃ acc ρ1 G1 ws, LcI κ W B σ G0 p vs g tt te Q (l.drop i) acc ρ1 H1 G1 ws,
    ⟨l.length, by simp, Nat.zero_le _, [], ρ0, G0, [], ⟨o0.allocOwn hp, Same.refl _, o0.gnone hp, o0.bnone hp, upd_same, rfl, fun j d e => o0.apart hp j d e, q0⟩⟩, ?_⟩
  rintro i n H1 ⟨rfl, hi, acc, ρ1, G1, ws, I⟩
  obtain ⟨j1, j2, _⟩ := hJ i B ρ1 σ H1 G1 rfl I.ok I.sub
  by_cases hlt : i < l.length
  · refine .inr ⟨j1 hlt, fun H' => i + 1 ≤ l.length ∧ ∃ acc ρ1 G1 ws, LcI κ W B σ G0 p vs g tt te Q (l.drop (i + 1)) acc ρ1 H' G1 ws, fun H' ⟨h1, h2⟩ => ⟨l.length - (i + 1), by omega, rfl, h1, h2⟩, fun x H2 y => ?_⟩
    have ob := I.ok.rebase vs
    obtain ⟨_, _, jb⟩ := hJ i _ _ _ H1 G1 (show (B.at_ ρ1 σ H1 G1 vs).T = B.T from rfl) ob I.sub
    obtain ⟨G2, o2, s2, sH, r2⟩ := jb l[i] (List.getElem?_eq_getElem hlt) x H2 y
    have q1 := I.go
    rw [List.drop_eq_getElem_cons hlt] at q1
    have fail : lcL vs g tt te (l[i] :: l.drop (i + 1)) acc ρ1 = .no → False := fun z => by
      unfold M.bind at q1
      rw [z] at q1
      exact q1.elim
    cases eg : g l[i] (wipeR ρ1 vs) with
    | none => exact (fail (by rw [lcL]; simp only [eg])).elim
    | some ρ2 =>
      refine ⟨B.at_ ρ1 σ H1 G1 vs, wipeR ρ1 vs, G2, l[i], ρ2, (fun z (hz : z ∈ ([] : List (Nat × Addr))) => by cases hz), o2, r2, eg, fun σ3 H3 G3 o3 s3 hw => ?_⟩
      refine ⟨hw.trans (wipe_wipe σ vs), ?_⟩
      have hw' : wipe σ3 vs = wipe σ vs := hw.trans (wipe_wipe σ vs)
      cases et : tt ρ2 with
      | ex x0 ρ3 => exact (fail (by rw [lcL]; simp only [eg, et])).elim
      | no => exact (fail (by rw [lcL]; simp only [eg, et])).elim
      | ok k ρ3 =>
        refine ⟨_, ρ2, G3, o3, ?_⟩
        rw [et]
        intro H4 G4 o4 s4
        cases k with
        | false =>
          obtain ⟨t1, t2, t3, t4, t5⟩ := I.turned o4 hw'
          refine iteF ⟨hlt, acc, unw ρ1 ρ3 vs, G4, ws, ⟨t1, I.sub.trans t2, t3, I.bn, t4, RepL.mono (.of t2) acc I.rep, t5, Pst.sub ?_ t2⟩⟩
          have z : lcL vs g tt te (l[i] :: l.drop (i + 1)) acc ρ1 = lcL vs g tt te (l.drop (i + 1)) acc (unw ρ1 ρ3 vs) := by
            rw [lcL]
            simp only [eg, et]
          unfold M.bind at q1 ⊢
          rw [z] at q1
          exact q1
        | true =>
          refine iteT ?_
          cases ee : fE te ρ3 with
          | ex x0 ρ5 => exact (fail (by rw [lcL]; simp only [eg, et, ee])).elim
          | no => exact (fail (by rw [lcL]; simp only [eg, et, ee])).elim
          | ok d ρ5 =>
            by_cases hl : acc.length < 1000000
            · refine tE_fz (k := fun d' ρ' _ _ => d' = d ∧ ρ' = ρ5) o4 (by rw [ee]; exact fun _ _ _ _ => ⟨rfl, rfl⟩) fun d' ρ' H6 G6 o6 s6 e6 v rv => ?_
              obtain ⟨rfl, rfl⟩ := e6
              obtain ⟨t1, t2, t3, t4, t5⟩ := I.turned o6 hw'
              have rA := RepL.mono (.of t2) acc I.rep
              refine ⟨ws, t4, by rw [rA.length]; exact Nat.lt_of_lt_of_le hl (by rw [sizeLine_eq]; decide), hlt, acc ++ [d'], unw ρ1 ρ' vs, G6, ws ++ [v], ⟨t1.grow t4 t3 I.bn t5, I.sub.trans t2, t3, I.bn, upd_same, rA.append (RepL.one rv), t5, Pst.sub ?_ t2⟩⟩
              have z : lcL vs g tt te (l[i] :: l.drop (i + 1)) acc ρ1 = lcL vs g tt te (l.drop (i + 1)) (acc ++ [d']) (unw ρ1 ρ' vs) := by
                rw [lcL]
                simp only [eg, et, ee, if_pos hl]
              unfold M.bind at q1 ⊢
              rw [z] at q1
              exact q1
            · exact (fail (by rw [lcL]; simp only [eg, et, ee, if_neg hl])).elim
  · have ei : l.drop i = [] := List.drop_eq_nil_iff.mpr (by omega)
    refine .inl ⟨j2 (by omega), ?_⟩
    have q1 := I.go
    rw [ei] at q1
    have q2 : Pst κ W B σ G1 (Rs.ok (SD.ow (.lst false acc)) ρ1) fun r ρ' H' G' => ∀ v, RepR κ B ρ' σ H' G' r v → Q v H' := q1
    exact q2 H1 G1 I.ok (Same.refl _) _ ⟨p, rfl, I.gn, I.bn, ⟨ws, I.at_, I.rep⟩, I.na⟩
end
/-- no exception leaves a comprehension -/
abbrev Wno : WX := fun _ _ _ _ => False
section
variable {X : Cx} {κ : Ctx} {A : List Nat} {W : WX} {iter elt tg : Expr} {ifs : List Expr} {scope : Scope} {own : List (Str × Nat)} {pos : Pos} {it : M (List D)} {g : D → List SD → Option (List SD)} {tt : M Bool} {te : M SD}
theorem ts_nil : PTs X [] (tT κ W (M.ret true)) := ⟨fun pins s σ H Q I ⟨B, ρ, G, o, q⟩ => pts_nil.run pins s σ H Q I (Pst.ret q o)⟩
theorem ts_one {c : Expr} {t : M Bool} (h : PT X c (tT κ W t)) : PTs X [c] (tT κ W t) := pts_one h
theorem e_lc (hc : X.calm = true) (hN : X.N.Nodup) (hi : PI X tg iter (tI κ W it)) (ok : BlkOk X.N X.env.scope scope own)
    (hg : ∀ (s : Shared) (H : Hp) (C : Addr) (cl : List (Str × Addr)) (fp : List Addr), PG (X.blk s H scope (compEnvC scope cl C X.env) fp) tg (tG κ A (own.map (·.2)) g))
    (ht : ∀ (s : Shared) (H : Hp) (C : Addr) (cl : List (Str × Addr)) (fp : List Addr), PTs (X.blk s H scope (compEnvC scope cl C X.env) fp) ifs (tT κ Wno tt))
    (he : ∀ (s : Shared) (H : Hp) (C : Addr) (cl : List (Str × Addr)) (fp : List Addr), PE (X.blk s H scope (compEnvC scope cl C X.env) fp) elt (tE κ Wno te)) (hs : ∀ x, foldedSetIterable iter X.env x = pure x := by intro _; rfl) :
    PE X (.ListComp elt [⟨tg, iter, ifs, 0⟩] scope pos) (tE κ W (mLc it (own.map (·.2)) g tt te)) := PE.imp (pe_lc hc hN hi ok hg ht he hs) fun _ _ _ => lc_ok
theorem s_setLc {i : Nat} {y : Str} {py spos : Pos} (hc : X.calm = true) (hN : X.N.Nodup) (hy : X.N[i]? = some y) (hyl : X.env.scope.names.lookup y = some .local)
    (hsw : swapsWith (.ListComp elt [⟨tg, iter, ifs, 0⟩] scope pos) (some (.Name y py)) spos.line X.env = pure true) (hi : PI X tg iter (tI κ W it)) (ok : BlkOk X.N X.env.scope scope own)
    (hg : ∀ (s : Shared) (H : Hp) (C : Addr) (cl : List (Str × Addr)) (fp : List Addr), PG (X.blk s H scope (compEnvC scope cl C X.env) fp) tg (tG κ A (own.map (·.2)) g))
    (ht : ∀ (s : Shared) (H : Hp) (C : Addr) (cl : List (Str × Addr)) (fp : List Addr), PTs (X.blk s H scope (compEnvC scope cl C X.env) fp) ifs (tT κ Wno tt))
    (he : ∀ (s : Shared) (H : Hp) (C : Addr) (cl : List (Str × Addr)) (fp : List Addr), PE (X.blk s H scope (compEnvC scope cl C X.env) fp) elt (tE κ Wno te)) (n : A.contains i = false := by rfl) (hs : ∀ x, foldedSetIterable iter X.env x = pure x := by intro _; rfl) :
    PS X (.Assign [.Name y py] (.ListComp elt [⟨tg, iter, ifs, 0⟩] scope pos) spos) (tS κ A W (sSet i (mLc it (own.map (·.2)) g tt te))) := by
  refine PS.imp (ps_setLc hc hN hy hyl hsw hi ok hg ht he hs) fun D σ H ⟨B, ρ, G, a, o, q⟩ => ?_
  refine lc_ok ⟨B, ρ, G, o, Pst.mono (PstS.bind q) fun r ρ' H' G' o' s q' v rv => ?_⟩
  exact q' _ H' G' (o'.set i rv (not_anch a n)) (Same.refl G')
end
end Fm

set_option maxHeartbeats 3900000
namespace Fm
open L2 PySem PySem.Spec PyProof.Rows

/-! ### numbers -/
def mulG (i j : Int) : Prop := i.natAbs.log2 + j.natAbs.log2 < 1000000
instance (i j : Int) : Decidable (mulG i j) := by unfold mulG; exact inferInstance
def divG (i j : Int) : Prop := j ≠ 0 ∧ (j.natAbs.log2 < 9000 ∨ i.natAbs.log2 ≤ j.natAbs.log2 + 4000)
instance (i j : Int) : Decidable (divG i j) := by unfold divG; exact inferInstance
def powG (i j : Int) : Prop := 0 ≤ j ∧ j ≤ 1000000 ∧ i.natAbs < 2 ^ 64
instance (i j : Int) : Decidable (powG i j) := by unfold powG; exact inferInstance
theorem divG.slow {i j : Int} (h : divG i j) : Builtin.divisionGoesByPylong i j = false := by
  rcases h.2 with h2 | h2
  · exact PyProof.noPylong_of_log2 h2
  · show (decide ((if j == 0 then 0 else j.natAbs.log2 / 30 + 1) > 300) && decide ((if i == 0 then 0 else i.natAbs.log2 / 30 + 1) > (if j == 0 then 0 else j.natAbs.log2 / 30 + 1) + 150)) = false
    have hj : (j == 0) = false := by simpa using h.1
    rw [hj]
    have z : (if i == 0 then 0 else i.natAbs.log2 / 30 + 1) ≤ i.natAbs.log2 / 30 + 1 := by split <;> omega
    have y : (if false = true then 0 else j.natAbs.log2 / 30 + 1) = j.natAbs.log2 / 30 + 1 := rfl
    rw [y, Bool.and_eq_false_iff]
    right
    refine decide_eq_false ?_
    have : i.natAbs.log2 / 30 ≤ (j.natAbs.log2 + 4000) / 30 := Nat.div_le_div_right h2
    omega
def subD : D → D → Option SD
  | .int i, .int j => some (.va (.int (i - j)))
  | _, _ => none
def mulD : D → D → Option SD
  | .int i, .int j => if mulG i j then some (.va (.int (i * j))) else none
  | _, _ => none
def modD : D → D → Option SD
  | .int i, .int j => if j = 0 then none else some (.va (.int (i.fmod j)))
  | _, _ => none
def divD : D → D → Option SD
  | .int i, .int j => if divG i j then some (.va (.int (i.fdiv j))) else none
  | _, _ => none
def powD : D → D → Option SD
  | .int i, .int j => if powG i j then some (.va (.int (i ^ j.toNat))) else none
  | _, _ => none
def ltD : D → D → Option SD
  | .int i, .int j => some (.va (.bl (decide (i < j))))
  | _, _ => none
def leD : D → D → Option SD
  | .int i, .int j => some (.va (.bl (decide (i ≤ j))))
  | _, _ => none
def gtD : D → D → Option SD
  | .int i, .int j => some (.va (.bl (decide (j < i))))
  | _, _ => none
def geD : D → D → Option SD
  | .int i, .int j => some (.va (.bl (decide (j ≤ i))))
  | _, _ => none
section
variable {κ : Ctx} {X : Cx}
/-- two ints, a value out -/
theorem opd_I {C : Int → Int → Prop} {gv : Int → Int → V} {g : D → D → Option SD} {gd : Int → Int → D} (hc : ∀ d e z, g d e = some z → ∃ i j, d = .int i ∧ e = .int j ∧ C i j ∧ z = .va (gd i j)) (hr : ∀ i j T G, Rep κ T G (gd i j) (gv i j)) : OpD κ (rI C gv) g := by
  intro B ρ σ H G d e x y z Q o r1 r2 hz q
  obtain ⟨i, j, rfl, rfl, c, rfl⟩ := hc d e z hz
  exact ⟨i, j, r1, r2, c, q _ H G o (Same.refl G) (hr i j _ _)⟩
theorem opd_I0 {gv : Int → Int → V} {g : D → D → Option SD} {gd : Int → Int → D} (hc : ∀ d e z, g d e = some z → ∃ i j, d = .int i ∧ e = .int j ∧ z = .va (gd i j)) (hr : ∀ i j T G, Rep κ T G (gd i j) (gv i j)) : OpD κ (rI0 gv) g := by
  intro B ρ σ H G d e x y z Q o r1 r2 hz q
  obtain ⟨i, j, rfl, rfl, rfl⟩ := hc d e z hz
  exact ⟨i, j, r1, r2, q _ H G o (Same.refl G) (hr i j _ _)⟩
theorem od_sub : OpD κ (rI0 fun i j => .int (i - j)) subD := opd_I0 (gd := fun i j => .int (i - j)) (fun d e z h => by
  cases d <;> cases e <;> first | (cases h; exact ⟨_, _, rfl, rfl, rfl⟩) | cases h) fun _ _ _ _ => rfl
theorem od_lt : OpD κ (rI0 fun i j => .bl (decide (i < j))) ltD := opd_I0 (gd := fun i j => .bl (decide (i < j))) (fun d e z h => by
  cases d <;> cases e <;> first | (cases h; exact ⟨_, _, rfl, rfl, rfl⟩) | cases h) fun _ _ _ _ => rfl
theorem od_le : OpD κ (rI0 fun i j => .bl (decide (i ≤ j))) leD := opd_I0 (gd := fun i j => .bl (decide (i ≤ j))) (fun d e z h => by
  cases d <;> cases e <;> first | (cases h; exact ⟨_, _, rfl, rfl, rfl⟩) | cases h) fun _ _ _ _ => rfl
theorem od_gt : OpD κ (rI0 fun i j => .bl (decide (j < i))) gtD := opd_I0 (gd := fun i j => .bl (decide (j < i))) (fun d e z h => by
  cases d <;> cases e <;> first | (cases h; exact ⟨_, _, rfl, rfl, rfl⟩) | cases h) fun _ _ _ _ => rfl
theorem od_ge : OpD κ (rI0 fun i j => .bl (decide (j ≤ i))) geD := opd_I0 (gd := fun i j => .bl (decide (j ≤ i))) (fun d e z h => by
  cases d <;> cases e <;> first | (cases h; exact ⟨_, _, rfl, rfl, rfl⟩) | cases h) fun _ _ _ _ => rfl
theorem od_mod : OpD κ (rI (fun _ j => j ≠ 0) fun i j => .int (i.fmod j)) modD := opd_I (gd := fun i j => .int (i.fmod j)) (fun d e z h => by
  cases d <;> cases e <;> first | (unfold modD at h; dsimp only at h; split at h; cases h; (cases h; exact ⟨_, _, rfl, rfl, by assumption, rfl⟩)) | cases h) fun _ _ _ _ => rfl
theorem op_divX : OpR X (binaryOp .FloorDiv) (rI divG fun i j => .int (i.fdiv j)) := opI fun _ _ _ _ _ _ _ hc q => floordiv_int hc.1 q (.inl hc.slow)
theorem od_div : OpD κ (rI divG fun i j => .int (i.fdiv j)) divD := opd_I (gd := fun i j => .int (i.fdiv j)) (fun d e z h => by
  cases d <;> cases e <;> first | (unfold divD at h; dsimp only at h; split at h; (cases h; exact ⟨_, _, rfl, rfl, by assumption, rfl⟩); cases h) | cases h) fun _ _ _ _ => rfl
theorem od_pow : OpD κ (rI CPow fun i j => .int (i ^ j.toNat)) powD := opd_I (gd := fun i j => .int (i ^ j.toNat)) (fun d e z h => by
  cases d <;> cases e <;> first | (unfold powD at h; dsimp only at h; split at h; (cases h; exact ⟨_, _, rfl, rfl, by assumption, rfl⟩); cases h) | cases h) fun _ _ _ _ => rfl
def negD : D → Option SD
  | .int i => some (.va (.int (-i)))
  | _ => none
theorem ud_neg : UnD κ (rU fun i => .int (-i)) negD := by
  intro B ρ σ H G d x z Q o r hz q
  cases d with
  | int i =>
    cases hz
    exact ⟨i, r, q _ H G o (Same.refl G) rfl⟩
  | _ => cases hz

/-! ### + : ints, texts, tuples, lists -/
def addD : D → D → Option SD
  | .int i, .int j => some (.va (.int (i + j)))
  | .str x, .str y => if x.length + y.length ≤ 1000000 then some (.va (.str (x ++ y))) else none
  | .tup [], .tup _ => none
  | .tup (a :: l), .tup m => if (a :: l).length + m.length ≤ 1000000 then some (.va (.tup (a :: l ++ m))) else none
  | .lst _ l, .lst _ m => if l.length + m.length ≤ 1000000 then some (.ow (.lst false (l ++ m))) else none
  | _, _ => none
theorem line_of {n : Nat} (h : n ≤ 1000000) : n ≤ sizeLine := by rw [sizeLine_eq]; omega
theorem od_add : OpD κ (fun x y H Q => rI0 (fun i j => .int (i + j)) x y H Q ∨ ((fun x y H Q => ∃ i j, x = .str i ∧ y = .str j ∧ i.length + j.length ≤ sizeLine ∧ Q (.str (i ++ j)) H) x y H Q ∨ (rCatT κ.K x y H Q ∨ rCat x y H Q))) addD := by
  intro B ρ σ H G d e x y z Q o r1 r2 hz q
  cases d with
  | int i =>
    cases e with
    | int j =>
      cases hz
      exact .inl ⟨i, j, r1, r2, q _ H G o (Same.refl G) rfl⟩
    | _ => cases hz
  | str a =>
    cases e with
    | str b =>
      have hz' : (if a.length + b.length ≤ 1000000 then some (SD.va (.str (a ++ b))) else none) = some z := hz
      split at hz'
      · cases hz'
        exact .inr (.inl ⟨a, b, r1, r2, line_of (by assumption), q _ H G o (Same.refl G) rfl⟩)
      · cases hz'
    | _ => cases hz
  | tup l =>
    cases e with
    | tup m =>
      cases l with
      | nil => cases hz
      | cons a l =>
        have hz' : (if (a :: l).length + m.length ≤ 1000000 then some (SD.va (.tup (a :: l ++ m))) else none) = some z := hz
        split at hz'
        · cases hz'
          obtain ⟨p, vs, rfl, h1, h2⟩ := r1
          obtain ⟨p', ws, rfl, h3, h4⟩ := r2
          have l1 := h2.length
          have l2 := h4.length
          refine .inr (.inr (.inl ⟨p, p', vs, ws, rfl, rfl, h1.sq o.fr.gh, h3.sq o.fr.gh, (fun n => by (rw [n] at l1; cases l1)), line_of (by rw [l1, l2]; assumption), fun n => ?_, fun n t ht => ?_⟩))
          · have em : m = [] := by
              cases m with
              | nil => rfl
              | cons b m => rw [n] at l2; cases l2
            subst em
            refine q _ H G o (Same.refl G) ?_
            rw [List.append_nil]
            exact ⟨p, vs, rfl, h1, h2⟩
          · have hg := o.gnone ht
            exact q _ _ _ (o.alloc ht fun _ z => by cases z) (Same.upd hg) ⟨t, vs ++ ws, rfl, .inl upd_same, RepL.append (RepL.mono (.of (Same.upd hg)) _ h2) (RepL.mono (.of (Same.upd hg)) _ h4)⟩
        · cases hz'
    | _ => cases l <;> cases hz
  | lst b l =>
    cases e with
    | lst c m =>
      have hz' : (if l.length + m.length ≤ 1000000 then some (SD.ow (.lst false (l ++ m))) else none) = some z := hz
      split at hz'
      · cases hz'
        obtain ⟨p, vs, rfl, ⟨h1, _⟩, h2⟩ := r1
        obtain ⟨p', ws, rfl, ⟨h3, _⟩, h4⟩ := r2
        refine .inr (.inr (.inr ⟨p, p', vs, ws, rfl, rfl, o.fr.gh _ _ h1, o.fr.gh _ _ h3, line_of (by rw [h2.length, h4.length]; assumption), fun t ht => ?_⟩))
        exact q _ _ _ (o.allocOwn ht) (Same.refl G) (o.newOwn ht ⟨_, upd_same, h2.append h4⟩)
      · cases hz'
    | _ => cases hz
  | _ => cases hz
theorem op_addX : OpR X (binaryOp .Add) (fun x y H Q => rI0 (fun i j => .int (i + j)) x y H Q ∨ ((fun x y H Q => ∃ i j, x = .str i ∧ y = .str j ∧ i.length + j.length ≤ sizeLine ∧ Q (.str (i ++ j)) H) x y H Q ∨ (rCatT X.K x y H Q ∨ rCat x y H Q))) :=
  op_add.or (op_add_str.or (op_catT.or op_cat))

/-! ### == and != of plain data -/
mutual
def D.py : D → PyData
  | .bl b => .bool b
  | .int i => .int i
  | .str s => .str s
  | .tup l => .tuple (pyL l)
  | .lst _ l => .list (pyL l)
  | _ => .none
def pyL : List D → List PyData
  | [] => []
  | d :: l => D.py d :: pyL l
end
mutual
/-- plain, and nested n deep at most -/
def D.pl : Nat → D → Bool
  | _, .non => true
  | _, .bl _ => true
  | _, .int _ => true
  | _, .str s => PyData.strOk s
  | 0, .tup _ => false
  | n + 1, .tup l => plL n l
  | 0, .lst _ _ => false
  | n + 1, .lst _ l => plL n l
  | _, _ => false
def plL : Nat → List D → Bool
  | _, [] => true
  | n, d :: l => D.pl n d && plL n l
end
def peq (d e : D) : Bool := PyData.eqv d.py e.py
end
end Fm

set_option maxHeartbeats 200000
namespace Fm
open L2 PySem PySem.Spec PyProof.Rows
section
variable {κ : Ctx} {X : Cx}
mutual
theorem py_can : ∀ (d : D) {n : Nat}, d.pl n = true → d.py.canLay0 = true ∧ d.py.depth ≤ n
  | .non, n, _ => ⟨rfl, Nat.zero_le _⟩
  | .bl b, n, _ => ⟨rfl, Nat.zero_le _⟩
  | .int i, n, _ => ⟨rfl, Nat.zero_le _⟩
  | .str s, n, h => ⟨by cases n <;> exact h, Nat.zero_le _⟩
  | .tup l, 0, h => by cases h
  | .tup l, n + 1, h => by
    obtain ⟨h1, h2⟩ := pyL_can l (n := n) h
    exact ⟨h1, Nat.succ_le_succ h2⟩
  | .lst b l, 0, h => by cases h
  | .lst b l, n + 1, h => by
    obtain ⟨h1, h2⟩ := pyL_can l (n := n) h
    exact ⟨h1, Nat.succ_le_succ h2⟩
  | .dk b l, n, h => by cases n <;> cases h
  | .ins b c l, n, h => by cases n <;> cases h
  | .ty s, n, h => by cases n <;> cases h
  | .adr a, n, h => by cases n <;> cases h
  | .scr l, n, h => by cases n <;> cases h
theorem pyL_can : ∀ (l : List D) {n : Nat}, plL n l = true → PyData.canLayAll0 (pyL l) = true ∧ PyData.depthAll (pyL l) ≤ n
  | [], n, _ => ⟨rfl, Nat.zero_le _⟩
  | d :: l, n, h => by
    have h' : (D.pl n d && plL n l) = true := h
    rw [Bool.and_eq_true] at h'
    obtain ⟨a1, a2⟩ := py_can d h'.1
    obtain ⟨b1, b2⟩ := pyL_can l h'.2
    refine ⟨?_, Nat.max_le.mpr ⟨a2, b2⟩⟩
    show (d.py.canLay0 && PyData.canLayAll0 (pyL l)) = true
    rw [a1, b1] <;> rfl
end
mutual
theorem rep_dp {T : Pd} {G H : Hp} (s : Same G H) : ∀ (d : D) {n : Nat} {v : V}, d.pl n = true → Rep κ T G d v → Dp κ.K H v d.py
  | .non, n, v, _, h => by cases (show v = V.non from h); exact .non
  | .bl b, n, v, _, h => by cases (show v = V.bl b from h); exact .bl b
  | .int i, n, v, _, h => by cases (show v = V.int i from h); exact .int i
  | .str x, n, v, _, h => by cases (show v = V.str x from h); exact .str x
  | .tup l, 0, v, q, h => by cases q
  | .tup l, n + 1, v, q, h => by
    obtain ⟨a, vs, rfl, h1, h2⟩ := h
    exact .tup (h1.sq s) (repL_dp s l (n := n) q h2)
  | .lst b l, 0, v, q, h => by cases q
  | .lst b l, n + 1, v, q, h => by
    obtain ⟨a, vs, rfl, ⟨h1, _⟩, h2⟩ := h
    exact .lst (SqL.of (s _ _ h1)) (repL_dp s l (n := n) q h2)
  | .dk b l, n, v, q, h => by cases n <;> cases q
  | .ins b c l, n, v, q, h => by cases n <;> cases q
  | .ty x, n, v, q, h => by cases n <;> cases q
  | .adr a, n, v, q, h => by cases n <;> cases q
  | .scr l, n, v, q, h => by cases n <;> cases q
theorem repL_dp {T : Pd} {G H : Hp} (s : Same G H) : ∀ (l : List D) {n : Nat} {vs : List V}, plL n l = true → RepL κ T G l vs → DpAll κ.K H vs (pyL l)
  | [], n, vs, _, h => by rw [show vs = [] from h]; exact .nil
  | d :: l, n, vs, q, h => by
    have q' : (D.pl n d && plL n l) = true := q
    rw [Bool.and_eq_true] at q'
    obtain ⟨v, ws, rfl, h1, h2⟩ := h
    exact .cons (rep_dp s d q'.1 h1) (repL_dp s l q'.2 h2)
end
def eqD (d e : D) : Option SD := if d.pl 60 && e.pl 60 then some (.va (.bl (peq d e))) else none
def neD (d e : D) : Option SD := if d.pl 60 && e.pl 60 then some (.va (.bl (!peq d e))) else none
theorem shaped_of {d : D} (h : d.pl 60 = true) : SeqAt.shaped d.py = true := by
  obtain ⟨h1, h2⟩ := py_can d h
  unfold SeqAt.shaped
  rw [h1, decide_eq_true (by omega)]
  rfl
theorem od_eq : OpD κ (rEqD κ.K) eqD := by
  intro B ρ σ H G d e x y z Q o r1 r2 hz q
  unfold eqD at hz
  split at hz
  · rename_i hp
    cases hz
    rw [Bool.and_eq_true] at hp
    exact ⟨d.py, e.py, rep_dp o.fr.gh d hp.1 r1, rep_dp o.fr.gh e hp.2 r2, shaped_of hp.1, shaped_of hp.2, q _ H G o (Same.refl G) rfl⟩
  · cases hz
theorem od_ne : OpD κ (rNeD κ.K) neD := by
  intro B ρ σ H G d e x y z Q o r1 r2 hz q
  unfold neD at hz
  split at hz
  · rename_i hp
    cases hz
    rw [Bool.and_eq_true] at hp
    exact ⟨d.py, e.py, rep_dp o.fr.gh d hp.1 r1, rep_dp o.fr.gh e hp.2 r2, shaped_of hp.1, shaped_of hp.2, q _ H G o (Same.refl G) rfl⟩
  · cases hz
/-- is None, is not None -/
def isnD : D → D → Option SD
  | .non, .non => some (.va (.bl true))
  | .adr _, .non => none
  | _, .non => some (.va (.bl false))
  | _, _ => none
def ntnD : D → D → Option SD
  | .non, .non => some (.va (.bl false))
  | .adr _, .non => none
  | _, .non => some (.va (.bl true))
  | _, _ => none
theorem rep_non {T : Pd} {G : Hp} {d : D} {v : V} (h : Rep κ T G d v) (n : d ≠ .non) : v ≠ .non := fun z => by
  subst z
  cases d with
  | non => exact n rfl
  | bl b => cases (show V.non = V.bl b from h)
  | int b => cases (show V.non = V.int b from h)
  | str b => cases (show V.non = V.str b from h)
  | tup l => obtain ⟨a, vs, e, _⟩ := h; cases e
  | lst b l => obtain ⟨a, vs, e, _⟩ := h; cases e
  | dk b l => obtain ⟨a, vs, e, _⟩ := h; cases e
  | ins b c l => obtain ⟨a, dx, vs, e, _⟩ := h; cases e
  | ty s => cases (show V.non = V.ty s from h)
  | adr a => cases (show V.non = V.ref a from h)
  | scr l => obtain ⟨a, vs, e, _⟩ := h; cases e
theorem od_isn : OpD κ (fun x y H Q => y = .non ∧ Q (.bl (decide (x = .non))) H) isnD := by
  intro B ρ σ H G d e x y z Q o r1 r2 hz q
  cases e with
  | non =>
    refine ⟨r2, ?_⟩
    by_cases n : d = .non
    · subst n
      cases hz
      cases (show x = V.non from r1)
      exact q _ H G o (Same.refl G) rfl
    · rw [decide_eq_false (rep_non r1 n)]
      cases d <;> first | exact (n rfl).elim | (cases hz; exact q _ H G o (Same.refl G) rfl) | cases hz
  | _ => cases d <;> cases hz
theorem od_ntn : OpD κ (fun x y H Q => y = .non ∧ Q (.bl (!decide (x = .non))) H) ntnD := by
  intro B ρ σ H G d e x y z Q o r1 r2 hz q
  cases e with
  | non =>
    refine ⟨r2, ?_⟩
    by_cases n : d = .non
    · subst n
      cases hz
      cases (show x = V.non from r1)
      exact q _ H G o (Same.refl G) rfl
    · rw [decide_eq_false (rep_non r1 n)]
      cases d <;> first | exact (n rfl).elim | (cases hz; exact q _ H G o (Same.refl G) rfl) | cases hz
  | _ => cases d <;> cases hz

/-! ### an item -/
def ixD : D → D → Option SD
  | .tup l, .int i => (atI l i).map SD.va
  | .lst _ l, .int i => (atI l i).map SD.va
  | .str s, .int i => if s.length ≤ 1000000 then (atI s.cps.toList i).map fun c => SD.va (.str ⟨#[c]⟩) else none
  | _, _ => none
theorem atI_rep {T : Pd} {G : Hp} {l : List D} {vs : List V} {i : Int} {d : D} (r : RepL κ T G l vs) (h : atI l i = some d) : ∃ v, atI vs i = some v ∧ Rep κ T G d v := by
  unfold atI at h ⊢
  obtain ⟨j, h1, h2⟩ := Option.bind_eq_some_iff.mp h
  obtain ⟨v, h3, h4⟩ := r.get h2
  rw [r.length, h1]
  exact ⟨v, h3, h4⟩
theorem od_ix : OpD κ (rIx κ.K) ixD := by
  intro B ρ σ H G d e x y z Q o r1 r2 hz q
  cases d with
  | tup l =>
    cases e with
    | int i =>
      obtain ⟨c, h1, rfl⟩ := Option.map_eq_some_iff.mp (show (atI l i).map SD.va = some z from hz)
      obtain ⟨p, vs, rfl, h2, h3⟩ := r1
      obtain ⟨v, h4, h5⟩ := atI_rep h3 h1
      exact .inr (.inl ⟨p, vs, i, v, rfl, r2, h2.sq o.fr.gh, h4, q v H G o (Same.refl G) h5⟩)
    | _ => cases hz
  | lst b l =>
    cases e with
    | int i =>
      obtain ⟨c, h1, rfl⟩ := Option.map_eq_some_iff.mp (show (atI l i).map SD.va = some z from hz)
      obtain ⟨p, vs, rfl, ⟨h2, _⟩, h3⟩ := r1
      obtain ⟨v, h4, h5⟩ := atI_rep h3 h1
      exact .inl ⟨p, vs, i, v, rfl, r2, SqL.of (o.fr.gh _ _ h2), h4, q v H G o (Same.refl G) h5⟩
    | _ => cases hz
  | str s =>
    cases e with
    | int i =>
      have hz' : (if s.length ≤ 1000000 then (atI s.cps.toList i).map fun c => SD.va (.str ⟨#[c]⟩) else none) = some z := hz
      split at hz'
      · obtain ⟨c, h1, rfl⟩ := Option.map_eq_some_iff.mp hz'
        exact .inr (.inr ⟨s, i, c, r1, r2, line_of (by assumption), h1, q _ H G o (Same.refl G) rfl⟩)
      · cases hz'
    | _ => cases hz
  | _ => cases e <;> cases hz

/-! ### built-ins -/
def lenD : List D → Option SD
  | [.tup l] => some (.va (.int l.length))
  | [.lst _ l] => some (.va (.int l.length))
  | [.str s] => if s.length ≤ 1000000 then some (.va (.int s.length)) else none
  | _ => none
theorem cd_len : CallD κ (fun xs H Q => ∃ x n, xs = [x] ∧ LenV κ.K x H n ∧ Q (.int n) H) lenD := by
  intro B ρ σ H G ds xs z Q o r hz q
  unfold lenD at hz
  split at hz
  · rename_i l
    obtain ⟨v, ws, rfl, ⟨p, vs, rfl, h1, h2⟩, rfl⟩ := r
    have e := (Option.some.inj hz).symm
    subst e
    exact ⟨_, l.length, rfl, .inr ⟨vs, h1.sq o.fr.gh, h2.length.symm⟩, q _ H G o (Same.refl G) rfl⟩
  · rename_i b l
    obtain ⟨v, ws, rfl, ⟨p, vs, rfl, ⟨h1, _⟩, h2⟩, rfl⟩ := r
    have e := (Option.some.inj hz).symm
    subst e
    exact ⟨_, l.length, rfl, .inl ⟨vs, SqL.of (o.fr.gh _ _ h1), h2.length.symm⟩, q _ H G o (Same.refl G) rfl⟩
  · rename_i s
    obtain ⟨v, ws, rfl, h, rfl⟩ := r
    have h : v = V.str s := h
    subst h
    split at hz
    · have e := (Option.some.inj hz).symm
      subst e
      exact ⟨_, s.length, rfl, ⟨line_of (by assumption), rfl⟩, q _ H G o (Same.refl G) rfl⟩
    · cases hz
  · cases hz
def absD : List D → Option SD
  | [.int i] => some (.va (.int (if i < 0 then -i else i)))
  | _ => none
def intD : List D → Option SD
  | [.int i] => some (.va (.int i))
  | [.bl b] => some (.va (.int (if b then 1 else 0)))
  | _ => none
/-- list(..), tuple(..) -/
def listD : List D → Option SD
  | [.tup l] => some (.ow (.lst false l))
  | [.lst _ l] => some (.ow (.lst false l))
  | _ => none
theorem cd_list : CallD κ (fun xs H Q => ∃ p ys, xs = [.ref p] ∧ (SqL κ.K H p ys ∨ SqT κ.K H p ys) ∧ ∀ l, H l = none → Q (.ref l) (upd H l (.lst ys))) listD := by
  intro B ρ σ H G ds xs z Q o r hz q
  unfold listD at hz
  split at hz
  · obtain ⟨v, ws, rfl, ⟨p, vs, rfl, h1, h2⟩, rfl⟩ := r
    have e := (Option.some.inj hz).symm
    subst e
    exact ⟨p, vs, rfl, .inr (h1.sq o.fr.gh), fun t ht => q _ _ _ (o.allocOwn ht) (Same.refl G) (o.newOwn ht ⟨vs, upd_same, h2⟩)⟩
  · obtain ⟨v, ws, rfl, ⟨p, vs, rfl, ⟨h1, _⟩, h2⟩, rfl⟩ := r
    have e := (Option.some.inj hz).symm
    subst e
    exact ⟨p, vs, rfl, .inl (SqL.of (o.fr.gh _ _ h1)), fun t ht => q _ _ _ (o.allocOwn ht) (Same.refl G) (o.newOwn ht ⟨vs, upd_same, h2⟩)⟩
  · cases hz
def tupD : List D → Option SD
  | [.tup l] => some (.va (.tup l))
  | [.lst _ l] => some (.va (.tup l))
  | _ => none
theorem cd_tup : CallD κ (fun xs H Q => ∃ p ys, xs = [.ref p] ∧ ((SqL κ.K H p ys ∧ ∀ l, H l = none → Q (.ref l) (upd H l (.tup ys))) ∨ (SqT κ.K H p ys ∧ Q (.ref p) H))) tupD := by
  intro B ρ σ H G ds xs z Q o r hz q
  unfold tupD at hz
  split at hz
  · obtain ⟨v, ws, rfl, ⟨p, vs, rfl, h1, h2⟩, rfl⟩ := r
    have e := (Option.some.inj hz).symm
    subst e
    exact ⟨p, vs, rfl, .inr ⟨h1.sq o.fr.gh, q _ H G o (Same.refl G) ⟨p, vs, rfl, h1, h2⟩⟩⟩
  · rename_i b l
    obtain ⟨v, ws, rfl, ⟨p, vs, rfl, ⟨h1, _⟩, h2⟩, rfl⟩ := r
    have e := (Option.some.inj hz).symm
    subst e
    refine ⟨p, vs, rfl, .inl ⟨SqL.of (o.fr.gh _ _ h1), fun t ht => ?_⟩⟩
    have hg := o.gnone ht
    exact q _ _ _ (o.alloc ht fun _ z => by cases z) (Same.upd hg) ⟨t, vs, rfl, .inl upd_same, RepL.mono (.of (Same.upd hg)) l h2⟩
  · cases hz
/-- all(..), any(..) of a list of True, False -/
def boolsD : List D → Option (List Bool)
  | [] => some []
  | .bl b :: l => (boolsD l).map (b :: ·)
  | _ :: _ => none
theorem bools_rep {T : Pd} {G : Hp} : ∀ {l : List D} {bs : List Bool} {vs : List V}, boolsD l = some bs → RepL κ T G l vs → vs = bs.map V.bl
  | [], bs, vs, h, r => by cases h; exact r
  | .bl b :: l, bs, vs, h, r => by
    obtain ⟨cs, h1, rfl⟩ := Option.map_eq_some_iff.mp (show (boolsD l).map (b :: ·) = some bs from h)
    obtain ⟨v, ws, rfl, rfl, h2⟩ := r
    rw [bools_rep h1 h2]
    rfl
def allD : List D → Option SD
  | [.lst _ l] => (boolsD l).map fun bs => .va (.bl (bs.all id))
  | _ => none
def anyD : List D → Option SD
  | [.lst _ l] => (boolsD l).map fun bs => .va (.bl (bs.any id))
  | _ => none
theorem cd_all : CallD κ (rAll κ.K) allD := by
  intro B ρ σ H G ds xs z Q o r hz q
  unfold allD at hz
  split at hz
  · obtain ⟨bs, h1, e⟩ := Option.map_eq_some_iff.mp hz
    subst e
    obtain ⟨v, ws, rfl, ⟨p, vs, rfl, ⟨h2, _⟩, h3⟩, rfl⟩ := r
    rw [bools_rep h1 h3] at h2
    exact ⟨p, bs, rfl, SqL.of (o.fr.gh _ _ h2), q _ H G o (Same.refl G) rfl⟩
  · cases hz
theorem cd_any : CallD κ (rAny κ.K) anyD := by
  intro B ρ σ H G ds xs z Q o r hz q
  unfold anyD at hz
  split at hz
  · obtain ⟨bs, h1, e⟩ := Option.map_eq_some_iff.mp hz
    subst e
    obtain ⟨v, ws, rfl, ⟨p, vs, rfl, ⟨h2, _⟩, h3⟩, rfl⟩ := r
    rw [bools_rep h1 h3] at h2
    exact ⟨p, bs, rfl, SqL.of (o.fr.gh _ _ h2), q _ H G o (Same.refl G) rfl⟩
  · cases hz

/-! ### isinstance -/
def D.kind : D → Option String
  | .non => some "NoneType"
  | .bl _ => some "bool"
  | .int _ => some "int"
  | .str _ => some "str"
  | .tup _ => some "tuple"
  | .lst _ _ => some "list"
  | .dk _ _ => some "dict"
  | _ => none
def kitT (a n : String) : Option Bool := if n = "int" then some (a = "int" || a = "bool") else if n = "bool" ∨ n = "str" ∨ n = "list" ∨ n = "tuple" ∨ n = "dict" then some (a = n) else none
theorem kitT_ok {d : D} {a n : String} {r : Bool} (h : d.kind = some a) (k : kitT a n = some r) : kitB a n = some r := by
  have ha : a = "NoneType" ∨ a = "bool" ∨ a = "int" ∨ a = "str" ∨ a = "tuple" ∨ a = "list" ∨ a = "dict" := by
    cases d <;> cases h <;> simp
  have hn : n = "int" ∨ n = "bool" ∨ n = "str" ∨ n = "list" ∨ n = "tuple" ∨ n = "dict" := by
    unfold kitT at k
    split at k
    · exact .inl (by assumption)
    · split at k
      · exact .inr (by assumption)
      · cases k
  have go : kitB a n = kitT a n := by
    rcases ha with rfl | rfl | rfl | rfl | rfl | rfl | rfl <;> rcases hn with rfl | rfl | rfl | rfl | rfl | rfl <;> decide +kernel
  rw [go, k]
theorem kind_ty {T : Pd} {G H : Hp} {d : D} {a : String} {v : V} (s : Same G H) (h : d.kind = some a) (r : Rep κ T G d v) : TyX κ.K H v (.type a) := by
  cases d with
  | non => cases h; cases (show v = V.non from r); exact .base .non
  | bl b => cases h; cases (show v = V.bl b from r); exact .base (.bl b)
  | int b => cases h; cases (show v = V.int b from r); exact .base (.int b)
  | str b => cases h; cases (show v = V.str b from r); exact .base (.str b)
  | tup l =>
    cases h
    obtain ⟨p, vs, rfl, h1, _⟩ := r
    rcases h1 with h1 | ⟨o, its, n, e1, e2, _⟩
    · exact .base (.tup (s _ _ h1))
    · exact .kTuple e1 e2
  | lst b l =>
    cases h
    obtain ⟨p, vs, rfl, ⟨h1, _⟩, _⟩ := r
    exact .base (.lst (s _ _ h1))
  | dk b l =>
    cases h
    obtain ⟨p, vs, rfl, ⟨h1, _⟩, _⟩ := r
    rcases h1 with h1 | ⟨_, o, h1⟩
    · exact .base (.dK (s _ _ h1))
    · exact .fDict (s _ _ h1)
  | _ => cases h
def isiD : List D → Option SD
  | [d, .ty n] => d.kind.bind fun a => (kitT a n).map fun r => .va (.bl r)
  | _ => none
theorem cd_isi : CallD κ (rIsi κ.K) isiD := by
  intro B ρ σ H G ds xs z Q o r hz q
  unfold isiD at hz
  split at hz
  · rename_i d n
    obtain ⟨a, h1, h2⟩ := Option.bind_eq_some_iff.mp hz
    obtain ⟨b, h3, e⟩ := Option.map_eq_some_iff.mp h2
    subst e
    obtain ⟨v, ws, rfl, r1, w', us, rfl, rfl, rfl⟩ := r
    exact ⟨v, _, _, _, b, rfl, .ty n, kind_ty o.fr.gh h1 r1, kit_ty (kitT_ok h1 h3), q _ H G o (Same.refl G) rfl⟩
  · cases hz
def kitsT (a : String) : List D → Option Bool
  | [] => some false
  | .ty n :: l => (kitT a n).bind fun b => (kitsT a l).map fun c => b || c
  | _ :: _ => none
def isitD : List D → Option SD
  | [d, .tup l] => d.kind.bind fun a => (kitsT a l).map fun r => .va (.bl r)
  | _ => none
theorem kits_ok {T : Pd} {G : Hp} {d : D} {a : String} (h : d.kind = some a) : ∀ {l : List D} {vs : List V} {b : Bool}, kitsT a l = some b → RepL κ T G l vs → ∃ us, Paired ClsV vs us ∧ PySem.W.kitAny κ.K (.type a) us = some b
  | [], vs, b, e, r => by
    cases e
    rw [show vs = [] from r]
    exact ⟨[], .nil, kitAny_nil⟩
  | .ty n :: l, vs, b, e, r => by
    obtain ⟨c, h1, h2⟩ := Option.bind_eq_some_iff.mp (show ((kitT a n).bind fun b => (kitsT a l).map fun c => b || c) = some b from e)
    obtain ⟨c', h3, rfl⟩ := Option.map_eq_some_iff.mp h2
    obtain ⟨v, ws, rfl, rfl, r2⟩ := r
    obtain ⟨us, p, k⟩ := kits_ok h h3 r2
    refine ⟨.type n :: us, .cons (.ty n) p, kitAny_cons (kit_ty (kitT_ok h h1)) (fun z => ?_) fun z => ?_⟩
    · rw [z, Bool.false_or]
      exact k
    · rw [z, Bool.true_or]
theorem op_isiX : CallR X (.builtin "isinstance") (fun xs H Q => rIsiT X.K xs H Q ∨ rIsiK X.K xs H Q) := CallR.or call_isiT call_isiK
theorem paired_inj : ∀ {vs : List V} {us ws : List Value}, Paired ClsV vs us → Vals vs ws → ws = us := fun {vs us ws} a b => ClsV.all a b
theorem cd_isit : CallD κ (fun xs H Q => rIsiT κ.K xs H Q ∨ rIsiK κ.K xs H Q) isitD := by
  intro B ρ σ H G ds xs z Q o r hz q
  unfold isitD at hz
  split at hz
  · rename_i d l
    obtain ⟨a, h1, h2⟩ := Option.bind_eq_some_iff.mp hz
    obtain ⟨b, h3, e⟩ := Option.map_eq_some_iff.mp h2
    subst e
    obtain ⟨v, ws, rfl, r1, w', us, rfl, ⟨p, cs, rfl, r2, r3⟩, rfl⟩ := r
    obtain ⟨us', k1, k2⟩ := kits_ok (κ := κ) h1 h3 r3
    rcases r2 with r2 | ⟨ob, its, n, e1, e2, e3, e4, e5⟩
    · exact .inl ⟨v, p, cs, _, us', b, rfl, o.fr.gh _ _ r2, k1, kind_ty o.fr.gh h1 r1, k2, q _ H G o (Same.refl G) rfl⟩
    · obtain ⟨oc, od, dt, sl⟩ := ob
      cases e2
      cases e3
      have e6 := paired_inj k1 e5
      refine .inr ⟨v, p, od, us', n, sl, _, b, rfl, ?_, kind_ty o.fr.gh h1 r1, k2, q _ H G o (Same.refl G) rfl⟩
      rw [e1, ← e6]
  · cases hz
end
end Fm

set_option maxHeartbeats 390000
namespace Fm
open L2 PySem PySem.Spec PyProof.Rows

/-! ### a slot's own object, lent to an expression -/
def SD.nbS : SD → Bool
  | .va d => d.nb
  | .ow d => d.nbO
  | .un => true
def mixL : List SD → List SD → Option (List SD)
  | [], _ => some []
  | .ow _ :: l, x :: r => if x.nbS then (mixL l r).map (x :: ·) else none
  | y :: l, _ :: r => (mixL l r).map (y :: ·)
  | _ :: _, [] => none
def lendB (i : Nat) (d : D) (ρ ρ1 : List SD) : Option (List SD) := (mixL (ρ.set i .un) ρ1).map fun l => l.set i (.ow d)
def mLend (i : Nat) (m : M SD) : M SD := fun ρ => match ρ[i]? with
  | some (.ow d) => match m (ρ.set i (.va d.ln)) with
    | .ok r ρ1 => if r.nbS then match lendB i d ρ ρ1 with
      | some ρ2 => .ok r ρ2
      | none => .no
      else .no
    | .ex x ρ1 => if nbF x.fs then match lendB i d ρ ρ1 with
      | some ρ2 => .ex x ρ2
      | none => .no
      else .no
    | .no => .no
  | _ => m ρ
theorem mixL_at : ∀ {l r o : List SD} {j : Nat} {x : SD}, mixL l r = some o → o[j]? = some x → (∃ c, l[j]? = some (SD.ow c) ∧ r[j]? = some x ∧ x.nbS = true) ∨ ((∀ c, l[j]? ≠ some (SD.ow c)) ∧ l[j]? = some x)
  | [], r, o, j, x, h, e => by
    cases h
    simp at e
  | y :: l, [], o, j, x, h, e => by cases y <;> cases h
  | .ow c :: l, y :: r, o, j, x, h, e => by
    have h' : (if y.nbS then (mixL l r).map (y :: ·) else none) = some o := h
    split at h'
    · obtain ⟨o', h1, rfl⟩ := Option.map_eq_some_iff.mp h'
      cases j with
      | zero =>
        cases e
        exact .inl ⟨c, rfl, rfl, by assumption⟩
      | succ j => exact mixL_at (j := j) h1 e
    · cases h'
  | .va c :: l, y :: r, o, j, x, h, e => by
    obtain ⟨o', h1, rfl⟩ := Option.map_eq_some_iff.mp (show (mixL l r).map (SD.va c :: ·) = some o from h)
    cases j with
    | zero =>
      cases e
      exact .inr ⟨(fun c' z => by cases z), rfl⟩
    | succ j => exact mixL_at (j := j) h1 e
  | .un :: l, y :: r, o, j, x, h, e => by
    obtain ⟨o', h1, rfl⟩ := Option.map_eq_some_iff.mp (show (mixL l r).map (SD.un :: ·) = some o from h)
    cases j with
    | zero =>
      cases e
      exact .inr ⟨(fun c' z => by cases z), rfl⟩
    | succ j => exact mixL_at (j := j) h1 e
theorem mixL_len : ∀ {l r o : List SD}, mixL l r = some o → o.length = l.length
  | [], r, o, h => by cases h; rfl
  | y :: l, [], o, h => by cases y <;> cases h
  | .ow c :: l, y :: r, o, h => by
    have h' : (if y.nbS then (mixL l r).map (y :: ·) else none) = some o := h
    split at h'
    · obtain ⟨o', h1, rfl⟩ := Option.map_eq_some_iff.mp h'
      rw [List.length_cons, List.length_cons, mixL_len h1]
    · cases h'
  | .va c :: l, y :: r, o, h => by
    obtain ⟨o', h1, rfl⟩ := Option.map_eq_some_iff.mp (show (mixL l r).map (SD.va c :: ·) = some o from h)
    rw [List.length_cons, List.length_cons, mixL_len h1]
  | .un :: l, y :: r, o, h => by
    obtain ⟨o', h1, rfl⟩ := Option.map_eq_some_iff.mp (show (mixL l r).map (SD.un :: ·) = some o from h)
    rw [List.length_cons, List.length_cons, mixL_len h1]
section
variable {κ : Ctx} {B : Bas} {ρ ρ1 : List SD} {σ : L2.St} {H G H' G' : Hp}
theorem OwnAt.mono2 {T T' : Pd} {G G' H : Hp} {p : Addr} {d : D} (h : OwnAt κ T G H p d) (e : Mono T G T' G') : OwnAt κ T' G' H p d := by
  cases d with
  | lst b l =>
    obtain ⟨vs, h1, h2⟩ := h
    exact ⟨vs, h1, RepL.mono e l h2⟩
  | dk b l =>
    obtain ⟨vs, h1, h2⟩ := h
    exact ⟨vs, h1, RepK.mono e l h2⟩
  | ins b c l =>
    obtain ⟨dx, vs, h1, h2⟩ := h
    exact ⟨dx, vs, h1, RepF.mono e l h2⟩
  | scr l =>
    obtain ⟨vs, h1, h2⟩ := h
    exact ⟨vs, h1, RepL.mono e l h2⟩
  | _ => exact h.elim
theorem OwnAt.er {T T' : Pd} {G H : Hp} {p q : Addr} {o : HO} {d : D} (ho : G p = some o) (mu : Mut (some o)) (ht : T' p) (hT : ∀ a, a ≠ p → (T' a ↔ T a)) (n : d.nbO = true) (h : OwnAt κ T' G H q d) : OwnAt κ T (er G p) H q d := by
  cases d with
  | lst b l =>
    obtain ⟨vs, h1, h2⟩ := h
    exact ⟨vs, h1, RepL.er ho mu ht hT l n h2⟩
  | dk b l =>
    obtain ⟨vs, h1, h2⟩ := h
    exact ⟨vs, h1, RepK.er ho mu ht hT l n h2⟩
  | ins b c l =>
    obtain ⟨dx, vs, h1, h2⟩ := h
    exact ⟨dx, vs, h1, RepF.er ho mu ht hT l n h2⟩
  | scr l =>
    obtain ⟨vs, h1, h2⟩ := h
    exact ⟨vs, h1, RepL.er ho mu ht hT l n h2⟩
  | _ => exact h.elim
theorem OwnAt.lent {T : Pd} {G H : Hp} {p : Addr} {d : D} {o : HO} (h : OwnAt κ T G H p d) (hp : H p = some o) (hg : G p = none) : Rep κ (fun a => T a ∨ a = p) (upd G p o) d.ln (.ref p) := by
  have l : Ld (fun a => T a ∨ a = p) p true := ⟨fun _ => rfl, fun _ => .inr rfl⟩
  have m : Mono T G (fun a => T a ∨ a = p) (upd G p o) := ⟨Same.upd hg, fun a u b e k => ⟨(fun z => by
    rcases z with z | z
    · exact k.mp z
    · rw [z, hg] at e
      cases e), fun z => .inl (k.mpr z)⟩⟩
  cases d with
  | lst b l' =>
    obtain ⟨vs, h1, h2⟩ := h
    rw [hp] at h1
    cases h1
    exact ⟨p, vs, rfl, ⟨upd_same, l⟩, RepL.mono m l' h2⟩
  | dk b l' =>
    obtain ⟨vs, h1, h2⟩ := h
    rw [hp] at h1
    cases h1
    exact ⟨p, vs, rfl, ⟨.inl upd_same, l⟩, RepK.mono m l' h2⟩
  | ins b c l' =>
    obtain ⟨dx, vs, h1, h2⟩ := h
    rw [hp] at h1
    cases h1
    exact ⟨p, dx, vs, rfl, ⟨upd_same, l⟩, RepF.mono m l' h2⟩
  | scr l' =>
    obtain ⟨vs, h1, h2⟩ := h
    exact ⟨p, .non :: vs, rfl, .inr rfl, ⟨.non, vs, rfl, rfl, RepL.mono m l' h2⟩⟩
  | _ => exact h.elim
/-- the base while slot i's object at p is lent -/
noncomputable def Bas.ln (B : Bas) (i : Nat) (p : Addr) (u : HO) (ρ : List SD) (σ : L2.St) (H G : Hp) : Bas := ⟨hidS (ρ.set i .un) σ H, upd G p u, fun a => B.T a ∨ a = p, []⟩
structure Lent (κ : Ctx) (B : Bas) (i : Nat) (p : Addr) (u : HO) (d : D) (ρ : List SD) (σ : L2.St) (H G : Hp) : Prop where
  ok : Ok κ B ρ σ H G
  sl : ρ[i]? = some (SD.ow d)
  at_ : σ[i]? = some (some (V.ref p))
  gn : G p = none
  bn : B.H p = none
  own : OwnAt κ B.T G H p d
  hp : H p = some u
  mu : Mut (some u)
theorem Ok.lend (o : Ok κ B ρ σ H G) {i : Nat} {d : D} (e : ρ[i]? = some (SD.ow d)) : ∃ p u, Lent κ B i p u d ρ σ H G := by
  obtain ⟨p, h1, h2, h3, h4⟩ := o.own i d e
  obtain ⟨u, h5, _, h6⟩ := h4.obj
  exact ⟨p, u, o, e, h1, h2, h3, h4, h5, h6⟩
section
variable {i : Nat} {p : Addr} {u : HO} {d : D}
theorem set_un {j : Nat} {c : D} (h : (ρ.set i .un)[j]? = some (SD.ow c)) : j ≠ i ∧ ρ[j]? = some (SD.ow c) := by
  by_cases hj : j = i
  · subst hj
    have hl : j < ρ.length := by
      have y := (List.getElem?_eq_some_iff.mp h).1
      rw [List.length_set] at y
      exact y
    rw [List.getElem?_set_self hl] at h
    cases h
  · rw [List.getElem?_set_ne (Ne.symm hj)] at h
    exact ⟨hj, h⟩
theorem Lent.mono (L : Lent κ B i p u d ρ σ H G) : Mono B.T G (fun a => B.T a ∨ a = p) (upd G p u) := ⟨Same.upd L.gn, fun a u b e k => ⟨(fun z => by
    rcases z with z | z
    · exact k.mp z
    · rw [z, L.gn] at e
      cases e), fun z => .inl (k.mpr z)⟩⟩
theorem Lent.seen (L : Lent κ B i p u d ρ σ H G) : hidS (ρ.set i .un) σ H p = some u := by
  rw [hidS_out fun j c e1 e2 => ?_]
  · exact noT_of L.hp fun ps z => by
      have m := L.mu
      rw [z] at m
      exact m
  · obtain ⟨n, e3⟩ := set_un e1
    exact L.ok.sep j i p c d n e3 L.sl e2 L.at_
theorem Lent.enter (L : Lent κ B i p u d ρ σ H G) : Ok κ (B.ln i p u ρ σ H G) (ρ.set i (.va d.ln)) σ H (upd G p u) := by
  have o := L.ok
  have hl := (List.getElem?_eq_some_iff.mp L.sl).1
  have not_ow : ∀ {j : Nat} {x : SD}, (ρ.set i (.va d.ln))[j]? = some x → (j = i ∧ x = .va d.ln) ∨ (j ≠ i ∧ ρ[j]? = some x) := fun {j x} e => by
    by_cases hj : j = i
    · subst hj
      rw [List.getElem?_set_self hl] at e
      exact .inl ⟨rfl, (Option.some.inj e).symm⟩
    · rw [List.getElem?_set_ne (Ne.symm hj)] at e
      exact .inr ⟨hj, e⟩
  refine ⟨⟨fun a w e _ => (hidS_some e).1, fun a ps e => (hidS_some e).2 ps rfl, fun a _ => rfl, Same.refl _, fun a w e => ?_, fun a ps e => ?_, o.fr.tabs, fun a h => ?_⟩, by rw [List.length_set]; exact o.len, fun j c e => ?_, fun j c e => ?_, fun j k q c c' hjk h1 h2 h3 h4 => ?_, fun _ _ h => nomatch h⟩
  · by_cases na : a = p
    · rw [na, upd_same] at e
      rw [na, L.hp]
      exact e
    · rw [upd_ne na] at e
      exact o.fr.gh a w e
  · by_cases na : a = p
    · rw [na, upd_same] at e
      have mu := L.mu
      rw [Option.some.inj e] at mu
      exact mu
    · rw [upd_ne na] at e
      exact o.fr.notb a ps e
  · show hidS (ρ.set i .un) σ H a ≠ none
    rcases h with h | h
    · have hb := o.fr.lent a h
      rw [hidS_out fun j c e1 e2 => ?_]
      · exact seen_noT o.fr hb
      · obtain ⟨_, e3⟩ := set_un e1
        obtain ⟨q, q1, _, q3, _⟩ := o.own j c e3
        rw [e2] at q1
        cases q1
        exact hb q3
    · rw [h, L.seen]
      simp
  · rcases not_ow e with ⟨rfl, e1⟩ | ⟨_, e1⟩
    · cases e1
      exact ⟨_, L.at_, L.own.lent L.hp L.gn⟩
    · obtain ⟨v, h1, h2⟩ := o.val j c e1
      exact ⟨v, h1, Rep.mono L.mono c h2⟩
  · rcases not_ow e with ⟨_, e1⟩ | ⟨n, e1⟩
    · cases e1
    · obtain ⟨q, q1, q2, q3, q4⟩ := o.own j c e1
      have nq : q ≠ p := fun y => o.sep j i p c d n e1 L.sl (by rw [q1, y]) L.at_
      exact ⟨q, q1, by rw [upd_ne nq]; exact q2, hidS_in (by rw [List.getElem?_set_ne (Ne.symm n)]; exact e1) q1, q4.mono2 L.mono⟩
  · rcases not_ow h1 with ⟨_, e1⟩ | ⟨n1, e1⟩
    · cases e1
    · rcases not_ow h2 with ⟨_, e2⟩ | ⟨n2, e2⟩
      · cases e2
      · exact o.sep j k q c c' hjk e1 e2 h3 h4
/-- what is out of sight under the loan stood not at the entry -/
theorem Lent.bnone (L : Lent κ B i p u d ρ σ H G) {a : Addr} (h : hidS (ρ.set i .un) σ H a = none) : B.H a = none := by
  rcases hidS_none h with ⟨j, c, e1, e2⟩ | h
  · obtain ⟨_, e3⟩ := set_un e1
    obtain ⟨q, q1, _, q3, _⟩ := L.ok.own j c e3
    rw [e2] at q1
    cases q1
    exact q3
  · exact Classical.byContradiction fun z => seen_noT L.ok.fr z h
theorem Lent.vis (L : Lent κ B i p u d ρ σ H G) {a : Addr} (h : B.H a ≠ none) : hidS (ρ.set i .un) σ H a = H a := (seen_eq L.ok.fr h) ▸ hidS_out fun j c e1 e2 => by
  obtain ⟨_, e3⟩ := set_un e1
  obtain ⟨q, q1, _, q3, _⟩ := L.ok.own j c e3
  rw [e2] at q1
  cases q1
  exact h q3
theorem Lent.leave (L : Lent κ B i p u d ρ σ H G) (o1 : Ok κ (B.ln i p u ρ σ H G) ρ1 σ H' G') {ρ2 : List SD} (hm : lendB i d ρ ρ1 = some ρ2) :
    Ok κ B ρ2 σ H' (er G' p) ∧ Same G (er G' p) ∧ G' p = some u ∧ (∀ (j : Nat) (c : D), ρ2[j]? = some (SD.ow c) → j = i ∨ ρ1[j]? = some (SD.ow c)) := by
  have o := L.ok
  have hl := (List.getElem?_eq_some_iff.mp L.sl).1
  obtain ⟨l, hl1, rfl⟩ := Option.map_eq_some_iff.mp hm
  have ll : l.length = ρ.length := by rw [mixL_len hl1, List.length_set]
  have gp : G' p = some u := o1.fr.sub p u (show upd G p u p = some u from upd_same)
  have np : p ∉ ([] : List Addr) := by simp
  have sG : Same G (er G' p) := fun a w e => by
    have na : a ≠ p := fun y => by
      rw [y, L.gn] at e
      cases e
    rw [er_ne na]
    exact o1.fr.sub a w ((upd_ne na).trans e)
  have hT : ∀ a, a ≠ p → ((B.T a ∨ a = p) ↔ B.T a) := fun a n => ⟨fun z => z.elim id fun y => absurd y n, .inl⟩
  have ht : (fun a => B.T a ∨ a = p) p := .inr rfl
  -- what stands in a slot
  have cs : ∀ {j : Nat} {x : SD}, (l.set i (.ow d))[j]? = some x → (j = i ∧ x = .ow d) ∨ (j ≠ i ∧ ((∃ c, ρ[j]? = some (SD.ow c) ∧ ρ1[j]? = some x ∧ x.nbS = true) ∨ ((∀ c, ρ[j]? ≠ some (SD.ow c)) ∧ ρ[j]? = some x))) := fun {j x} e => by
    by_cases hj : j = i
    · subst hj
      rw [List.getElem?_set_self (by omega)] at e
      exact .inl ⟨rfl, (Option.some.inj e).symm⟩
    · rw [List.getElem?_set_ne (Ne.symm hj)] at e
      refine .inr ⟨hj, ?_⟩
      have y := mixL_at hl1 e
      rw [List.getElem?_set_ne (Ne.symm hj)] at y
      exact y
  have hP : H' p = H p := (o1.fr.keep p u L.seen fun ps z => by
    have mu := L.mu
    rw [z] at mu
    exact mu).trans L.hp.symm
  refine ⟨⟨⟨fun a w e n => ?_, o.fr.nt, fun a e => ?_, o.fr.sub.trans sG, fun a w e => ?_, fun a ps e => ?_, o1.fr.tabs, o.fr.lent⟩, by rw [List.length_set, ll]; exact o.len, fun j c e => ?_, fun j c e => ?_, fun j k q c c' hjk h1 h2 h3 h4 => ?_, o.anch⟩, sG, gp, fun j c e => ?_⟩
  · exact o1.fr.keep a w ((L.vis (by rw [e]; simp)).trans (o.fr.keep a w e n)) n
  · have na : a ≠ p := fun y => e (by rw [y]; exact L.bn)
    rw [er_ne na]
    refine (o1.fr.frz a ?_).trans ((upd_ne na).trans (o.fr.frz a e))
    show hidS (ρ.set i .un) σ H a ≠ none
    rw [L.vis e]
    exact o.fr.there a e
  · by_cases na : a = p
    · rw [na, er_same] at e
      cases e
    · rw [er_ne na] at e
      exact o1.fr.gh a w e
  · by_cases na : a = p
    · rw [na, er_same] at e
      cases e
    · rw [er_ne na] at e
      exact o1.fr.notb a ps e
  · rcases cs e with ⟨_, e1⟩ | ⟨n, ⟨c', e1, e2, e3⟩ | ⟨_, e1⟩⟩
    · cases e1
    · obtain ⟨v, h1, h2⟩ := o1.val j c e2
      exact ⟨v, h1, Rep.er gp L.mu ht hT c e3 h2⟩
    · obtain ⟨v, h1, h2⟩ := o.val j c e1
      exact ⟨v, h1, Rep.mono (.of sG) c h2⟩
  · rcases cs e with ⟨rfl, e1⟩ | ⟨n, ⟨c', e1, e2, e3⟩ | ⟨e1, e2⟩⟩
    · cases e1
      exact ⟨p, L.at_, er_same, L.bn, L.own.mono sG hP⟩
    · obtain ⟨q, q1, q2, q3, q4⟩ := o1.own j c e2
      have nq : q ≠ p := fun y => by
        rw [y, gp] at q2
        cases q2
      exact ⟨q, q1, by rw [er_ne nq]; exact q2, L.bnone q3, OwnAt.er gp L.mu ht hT e3 q4⟩
    · exact absurd e2 (e1 c)
  · have pick : ∀ {j : Nat} {c : D}, (l.set i (.ow d))[j]? = some (SD.ow c) → (j = i) ∨ (j ≠ i ∧ ρ1[j]? = some (SD.ow c)) := fun {j c} e => by
      rcases cs e with ⟨e1, _⟩ | ⟨n, ⟨c', e1, e2, e3⟩ | ⟨e1, e2⟩⟩
      · exact .inl e1
      · exact .inr ⟨n, e2⟩
      · exact absurd e2 (e1 c)
    have apart : ∀ {j : Nat} {c : D}, ρ1[j]? = some (SD.ow c) → σ[j]? = some (some (V.ref p)) → False := fun {j c} e1 e2 => by
      obtain ⟨q, q1, q2, _, _⟩ := o1.own j c e1
      rw [e2] at q1
      cases q1
      rw [gp] at q2
      cases q2
    rcases pick h1 with e1 | ⟨n1, e1⟩ <;> rcases pick h2 with e2 | ⟨n2, e2⟩
    · exact hjk (e1.trans e2.symm)
    · rw [e1, L.at_] at h3
      cases h3
      exact apart e2 h4
    · rw [e2, L.at_] at h4
      cases h4
      exact apart e1 h3
    · exact o1.sep j k q c c' hjk e1 e2 h3 h4
  · rcases cs e with ⟨e1, _⟩ | ⟨n, ⟨c', e1, e2, e3⟩ | ⟨e1, e2⟩⟩
    · exact .inl e1
    · exact .inr e2
    · exact absurd e2 (e1 c)
end
theorem lend_ok {W : WX} {i : Nat} {m : M SD} {Q : VK} (h : tE κ W (mLend i m) σ H Q) : tE κ W m σ H Q := by
  obtain ⟨B, ρ, G, o, q⟩ := h
  unfold mLend at q
  cases e : ρ[i]? with
  | none =>
    rw [e] at q
    exact ⟨B, ρ, G, o, q⟩
  | some x =>
    rw [e] at q
    cases x with
    | un => exact ⟨B, ρ, G, o, q⟩
    | va c => exact ⟨B, ρ, G, o, q⟩
    | ow d =>
      dsimp only at q
      obtain ⟨p, u, L⟩ := o.lend e
      refine ⟨_, _, _, L.enter, ?_⟩
      have hT : ∀ a, a ≠ p → ((B.T a ∨ a = p) ↔ B.T a) := fun a n => ⟨fun z => z.elim id fun y => absurd y n, .inl⟩
      cases em : m (ρ.set i (.va d.ln)) with
      | no =>
        rw [em] at q
        exact q.elim
      | ex x ρ1 =>
        rw [em] at q
        dsimp only at q
        by_cases hn : nbF x.fs = true
        · rw [if_pos hn] at q
          cases hm : lendB i d ρ ρ1 with
          | none =>
            rw [hm] at q
            exact q.elim
          | some ρ2 =>
            rw [hm] at q
            intro cls dd H' G' o1 s1 rx
            obtain ⟨k1, k2, k3, k4⟩ := L.leave o1 hm
            refine q cls dd H' (er G' p) k1 k2 ?_
            obtain ⟨x1, dx, vs, x2, x3, x4⟩ := rx
            exact ⟨x1, dx, vs, x2, x3, RepF.er k3 L.mu (.inr rfl) hT _ hn x4⟩
        · rw [if_neg hn] at q
          exact q.elim
      | ok r ρ1 =>
        rw [em] at q
        dsimp only at q
        by_cases hn : r.nbS = true
        · rw [if_pos hn] at q
          cases hm : lendB i d ρ ρ1 with
          | none =>
            rw [hm] at q
            exact q.elim
          | some ρ2 =>
            rw [hm] at q
            intro H' G' o1 s1 v rv
            obtain ⟨k1, k2, k3, k4⟩ := L.leave o1 hm
            refine q H' (er G' p) k1 k2 v ?_
            cases r with
            | un => exact rv.elim
            | va c => exact Rep.er k3 L.mu (.inr rfl) hT c hn rv
            | ow c =>
              obtain ⟨t, rfl, t1, t2, t3, t4⟩ := rv
              have nt : t ≠ p := fun y => by
                rw [y, k3] at t1
                cases t1
              refine ⟨t, rfl, by rw [er_ne nt]; exact t1, L.bnone t2, OwnAt.er k3 L.mu (.inr rfl) hT hn t3, fun j c' e1 e2 => ?_⟩
              rcases k4 j c' e1 with z | z
              · rw [z, L.at_] at e2
                cases e2
                exact nt rfl
              · exact t4 j c' z e2
        · rw [if_neg hn] at q
          exact q.elim
end
end Fm

set_option maxHeartbeats 390000
namespace Fm
open L2 PySem PySem.Spec PyProof.Rows

/-! ### a slot's value, looked at -/
def slD : SD → Option D
  | .va d => some d
  | .ow d => some d
  | .un => none
section
variable {κ : Ctx} {B : Bas} {ρ : List SD} {σ : L2.St} {H G : Hp}
theorem Ok.set_is (o : Ok κ B ρ σ H G) {i : Nat} (h : isSet ρ[i]? = true) : ∃ v, σ[i]? = some (some v) := by
  cases e : ρ[i]? with
  | none =>
    rw [e] at h
    cases h
  | some x =>
    refine o.there e fun z => ?_
    rw [e, z] at h
    cases h
end
def guardS {α : Type} (i : Nat) (m : M α) : M α := fun ρ => if isSet ρ[i]? then m ρ else .no
theorem guard_ok {α : Type} {κ : Ctx} {W : WX} {B : Bas} {σ : L2.St} {H G : Hp} {ρ : List SD} {i : Nat} {m : M α} {k : α → List SD → Hp → Hp → Prop} (o : Ok κ B ρ σ H G) (h : Pst κ W B σ G (guardS i m ρ) k) : (∃ v, σ[i]? = some (some v)) ∧ Pst κ W B σ G (m ρ) k := by
  unfold guardS at h
  by_cases hi : isSet ρ[i]? = true
  · rw [if_pos hi] at h
    exact ⟨o.set_is hi, h⟩
  · rw [if_neg hi] at h
    exact h.elim
theorem guard_okS {κ : Ctx} {W : WX} {B : Bas} {σ : L2.St} {H G : Hp} {ρ : List SD} {i : Nat} {m : S} {D : Ends} (o : Ok κ B ρ σ H G) (h : PstS κ W B G (guardS i m ρ) D) : (∃ v, σ[i]? = some (some v)) ∧ PstS κ W B G (m ρ) D := by
  unfold guardS at h
  by_cases hi : isSet ρ[i]? = true
  · rw [if_pos hi] at h
    exact ⟨o.set_is hi, h⟩
  · rw [if_neg hi] at h
    exact h.elim
/-- x[e], x a name: nothing is frozen -/
def atS (i : Nat) (e : D) : M SD := fun ρ => match ρ[i]? with
  | some (.va d) => match ixD d e with
    | some z => .ok z ρ
    | none => .no
  | some (.ow (.lst b l)) => match ixD (.lst b l) e with
    | some z => .ok z ρ
    | none => .no
  | _ => .no
def mSub (i : Nat) (m : M SD) : M SD := guardS i ((fE m).bind (atS i))
section
variable {κ : Ctx} {X : Cx} {W : WX} {σ : L2.St} {H : Hp} {Q : VK}
/-! ### x[i] = e, x.append(e), x a name that owns -/
def putS (i : Nat) (v k : D) : S := fun ρ => match ρ[i]?, k with
  | some (.ow (.lst b l)), .int j => match ixN l.length j with
    | some n => .ok .nx (ρ.set i (.ow (.lst b (l.set n v))))
    | none => .no
  | _, _ => .no
def sPut (i : Nat) (mk me : M SD) : S := (fE me).bind fun v => guardS i ((fE mk).bind fun k => putS i v k)
def appS (i : Nat) (ds : List D) : M SD := fun ρ => match ρ[i]?, ds with
  | some (.ow (.lst b l)), [v] => if l.length < 1000000 then .ok (.va .non) (ρ.set i (.ow (.lst b (l ++ [v])))) else .no
  | _, _ => .no
def isOwL : Option SD → Bool
  | some (.ow (.lst _ _)) => true
  | _ => false
def mApp (i : Nat) (n : M (List D)) : M SD := fun ρ => if isOwL ρ[i]? then (n.bind (appS i)) ρ else .no

theorem app_ok {i : Nat} {n : M (List D)} (h : tE κ W (mApp i n) σ H Q) : tBM κ.K "list" rAppend (tVar i) (tA κ W n) σ H Q := by
  obtain ⟨B, ρ, G, o, q⟩ := h
  unfold mApp at q
  cases hi : isOwL ρ[i]? with
  | false =>
    rw [hi, if_neg Bool.false_ne_true] at q
    exact q.elim
  | true =>
    rw [hi, if_pos rfl] at q
    cases e : ρ[i]? with
    | none =>
      rw [e] at hi
      cases hi
    | some x =>
      cases x with
      | un =>
        rw [e] at hi
        cases hi
      | va d =>
        rw [e] at hi
        cases hi
      | ow d =>
        cases d with
        | lst b l =>
          obtain ⟨p, e1, e2, e3, vs, e4, e5⟩ := o.own i _ e
          refine ⟨_, e1, .inl ⟨rfl, vs, SqL.of e4⟩, B, ρ, G, o, Pst.mono (Pst.bind q) fun ds ρ' H' G' o' s q' xs rs => ?_⟩
          unfold appS at q'
          cases h2 : ρ'[i]? with
          | none =>
            rw [h2] at q'
            exact q'.elim
          | some x =>
            rw [h2] at q'
            cases x with
            | un => exact q'.elim
            | va d => exact q'.elim
            | ow d =>
              cases d with
              | lst b' l' =>
                cases ds with
                | nil => exact q'.elim
                | cons v r =>
                  cases r with
                  | cons _ _ => exact q'.elim
                  | nil =>
                    dsimp only at q'
                    by_cases hl : l'.length < 1000000
                    · rw [if_pos hl] at q'
                      obtain ⟨p', f1, f2, f3, ws, f4, f5⟩ := o'.own i _ h2
                      rw [e1] at f1
                      cases f1
                      obtain ⟨y, us, rfl, r1, r2⟩ := rs
                      have r2 : us = [] := r2
                      subst r2
                      refine ⟨p, ws, y, rfl, rfl, f4, by rw [f5.length, sizeLine_eq]; omega, ?_⟩
                      exact q' _ G' (o'.write h2 e1 (fun ps z => by cases z) ⟨_, upd_same, f5.append (RepL.one r1)⟩) (Same.refl G') _ rfl
                    · rw [if_neg hl] at q'
                      exact q'.elim
              | _ => exact q'.elim
        | _ =>
          rw [e] at hi
          cases hi
theorem e_app {i : Nat} {x : Str} {e : Expr} {n : M (List D)} {p apos cpos : Pos} (hK : X.K = κ.K) (h : PE X (.Name x p) (tVar i)) (ha : PA X [e] (tA κ W n))
    (hbase : attributeBase (.Name x p) "append" X.env (eval (.Name x p) X.env) = eval (.Name x p) X.env := by rfl)
    (hfew : ((backTo cpos (starEach [e] X.env)).all (fun x => !x.1) && (backToKw cpos (keywordEach [] X.env)).all (fun x => x.1.isSome) && decide (([e] : List Expr).length + ([] : List Keyword).length + (if ([] : List Keyword).isEmpty then 0 else 1) < 30)) = true := by rfl)
    (hline : (apos.endLine == cpos.line) = true := by rfl) (hs : starEach [e] X.env = (false, eval e X.env) :: starEach [] X.env := by rfl) (hplain : (backTo cpos (starEach ([] : List Expr) X.env)).any (·.1) = false := by rfl) : PE X (.Call (.Attribute (.Name x p) "append" apos) [e] [] cpos) (tE κ W (mApp i n)) :=
  PE.imp (pe_bm PySem.F.plainAttrs_list PySem.F.slot_list_append PySem.F.type_list_append mt_append h ha hbase hfew hline hs hplain) fun _ _ _ q => by
    rw [hK]
    exact app_ok q
end
end Fm

set_option maxHeartbeats 990000
/-! zip(x, y, strict=True) over tuples and lists of one length -/
namespace Zs
open PySem L2

/-! ### what stands in the heap while such a zip goes -/
abbrev two (x y : Value) : Obj := { cls := .type "tuple", data := .seq #[x, y] }
/-- the zip itself: `own` is the pair that it lent out last, `ti` the pair of its iterators, `to` the pair that it keeps -/
abbrev zob (ti to : Addr) (own : Value) : Obj := { cls := .type "zip", dict := none, data := .fields #[own, .bool false, .bool true, .ref ti, .ref to], slots := #[] }
/-- the items of one side; its iterator at draw n. The flag: a tuple's side -/
def Sd (b : Bool) (h : Heap) (l : Addr) (xs : Array Value) : Prop := if b then h.IsTuple l xs else h.IsList l xs
def At (b : Bool) (h : Heap) (p l : Addr) (n : Nat) : Prop := if b then h.IsTupleIter p l n else h.IsListIter p l n
section
variable {b c : Bool} {h g : Heap} {l p : Addr} {xs : Array Value} {n : Nat}
theorem Sd.on (f : ∀ o, h.get? l = some o → g.get? l = some o) : Sd b h l xs → Sd b g l xs := by
  cases b with
  | false => exact fun a => Heap.IsList.at (h := h) a f
  | true => exact fun ⟨o, a, r⟩ => ⟨o, f o a, r⟩
theorem At.on (f : ∀ o, h.get? p = some o → g.get? p = some o) : At b h p l n → At b g p l n := by
  cases b <;> exact fun ⟨o, a, r⟩ => ⟨o, f o a, r⟩
theorem At.stands : At b h p l n → ∃ o vs, h.get? p = some o ∧ o.data = .fields vs := by
  cases b <;> exact fun ⟨o, a, _, r⟩ => ⟨o, _, a, r⟩
end
/-- a zip at z over the iterators p of a and q of d, behind n draws -/
structure Zip2 (b c : Bool) (z ti to p q a d : Addr) (n : Nat) (own u v : Value) (h : Heap) : Prop where
  z : h.get? z = some (zob ti to own)
  i : h.get? ti = some (two (.ref p) (.ref q))
  o : h.get? to = some (two u v)
  p : At b h p a n
  q : At c h q d n
/-- what is none of its four changing objects stays -/
def Stay (z to p q : Addr) (h g : Heap) : Prop := ∀ e o, e ≠ z → e ≠ to → e ≠ p → e ≠ q → h.get? e = some o → g.get? e = some o

section
variable {P : Program} {w : World} {s : Shared} {A : Around} {E : Value → Shared → Prop}
/-! ### one draw of one side -/
theorem draw {b : Bool} {p l : Addr} {n : Nat} {xs : Array Value} {x : Value} {Q : Option Value → Shared → Prop} (hp : At b s.heap p l n) (hl : Sd b s.heap l xs) (hx : xs[n]? = some x)
    (go : ∀ g, At b g p l (n + 1) → Heap.SameBut p s.heap g → Q (some x) { s with heap := g }) : wpAny (model P w) A (Builtin.SmallTypes.nextOrEnd (.ref p)) Q E s := by
  have done : wpAny (model P w) A (Builtin.SmallTypes.nextOf (.ref p)).attempt (fun r s1 => wpAny (model P w) A (match r with | .ok v => pure (some v) | .error e => do if ← isInstance e (.type "StopIteration") then pure none else throw e) Q E s1) E s := by
    refine wpAny_attempt ?_
    cases b with
    | false => exact wpAny_nextOf_list_item (E := _) (show s.heap.IsListIter p l n from hp) (show s.heap.IsList l xs from hl) hx fun g r k => wpAny_pure (go g r k)
    | true => exact RZ.nextOf_tuple_item (show s.heap.IsTupleIter p l n from hp) (show s.heap.IsTuple l xs from hl) hx fun g r k => wpAny_pure (go g r k)
  exact wpAny_bind done
theorem drawn {b : Bool} {p l : Addr} {n : Nat} {xs : Array Value} {Q : Option Value → Shared → Prop} (calm : A.handled = none) (hp : At b s.heap p l n) (hl : Sd b s.heap l xs) (hx : xs[n]? = none)
    (go : ∀ g, Heap.ExtBut p s.heap g → Q none { s with heap := g }) : wpAny (model P w) A (Builtin.SmallTypes.nextOrEnd (.ref p)) Q E s := by
  have over : ∀ (g : Heap) (e : Addr), Heap.ExtBut p s.heap g → (∃ o, g.get? e = some o ∧ o.cls = .type "StopIteration") →
      wpAny (model P w) A (do if ← isInstance (.ref e) (.type "StopIteration") then pure none else throw (.ref e) : Sem (Option Value)) Q E { s with heap := g } :=
    fun g e k t => wpAny_bind (wpAny_isInstance (T := "StopIteration") (b := true) t isSubtype_stop (wpAny_pure (go g k)))
  refine wpAny_bind (m := (Builtin.SmallTypes.nextOf (.ref p)).attempt) (wpAny_attempt ?_)
  cases b with
  | false => exact wpAny_nextOf_list_end calm (show s.heap.IsListIter p l n from hp) (show s.heap.IsList l xs from hl) hx over
  | true => exact RZ.nextOf_tuple_end calm (show s.heap.IsTupleIter p l n from hp) (show s.heap.IsTuple l xs from hl) hx over
/-- what changes at p and at `to` alone -/
def Two (p to : Addr) (h g : Heap) : Prop := (∀ e, e ≠ p → e ≠ to → g.get? e = h.get? e) ∧ g.objs.size = h.objs.size
/-- the draw of one side is put at place j of the pair that the zip keeps -/
theorem put {β : Type} {b : Bool} {p l to : Addr} {n j : Nat} {xs kept : Array Value} {x : Value} {r : β} {m : Sem (Option Value)} {f : Value → Sem Unit} {k1 : Option Value → Sem β} {k2 : Option (Array Value) → Sem β} {k3 : Unit → Sem β} {Q : β → Shared → Prop}
    (hm : m = Builtin.SmallTypes.nextOrEnd (.ref p)) (small : kept.size = 2) (ne : to ≠ p) (ho : s.heap.get? to = some { cls := .type "tuple", data := .seq kept }) (hp : At b s.heap p l n) (hl : Sd b s.heap l xs) (hx : xs[n]? = some x)
    (e1 : k1 (some x) = (seqItems? (.ref to) >>= k2)) (e2 : k2 (some kept) = (updateSeq to (·.setIfInBounds j x) >>= k3)) (e3 : k3 () = (letGo [kept.getD j .none] >>= fun _ => pure r))
    (go : ∀ g, At b g p l (n + 1) → g.get? to = some { cls := .type "tuple", data := .seq (kept.setIfInBounds j x) } → Two p to s.heap g → Q r { s with heap := g }) : wpAny (model P w) A (m.onRaise f >>= k1) Q E s := by
  rw [hm]
  refine wpAny_bind (wpAny_onRaise (draw hp hl hx fun g r1 k => ?_))
  have t1 : g.get? to = some { cls := .type "tuple", data := .seq kept } := (k.2 _ ne).trans ho
  have fit : kept.size ≤ sizeLine := by rw [small]; decide
  rw [e1]
  refine wpAny_bind (wpAny_seqItems t1 rfl ?_)
  rw [e2]
  refine wpAny_bind (wpAny_updateSeq t1 rfl ?_ fit (by rw [Array.size_setIfInBounds]; omega))
  rw [e3]
  refine wpAny_bind (wpAny_letGo (wpAny_pure (go _ (r1.on fun o q => ?_) ?_ ⟨fun e h1 h2 => ?_, ?_⟩)))
  · exact (Heap.get?_update_other _ _ ne).trans q
  · rw [Heap.get?_update_self _ t1 rfl]; simp [Obj.mapSeq]
  · exact (Heap.get?_update_other _ _ (Ne.symm h2)).trans (k.2 e h1)
  · exact (Heap.size_after_update ..).trans k.1
/-- zip.__next__ where both sides have an item, or neither -/
theorem step {b c : Bool} {z ti to p q a d : Addr} {n : Nat} {xs ys : Array Value} {u v : Value} {Q : Value → Shared → Prop} (calm : A.handled = none) (D : ZipApart z ti to p q a d)
    (Z : Zip2 b c z ti to p q a d n .none u v s.heap) (hx : Sd b s.heap a xs) (hy : Sd c s.heap d ys)
    (go : (∃ x y, xs[n]? = some x ∧ ys[n]? = some y ∧ ∀ g, Zip2 b c z ti to p q a d (n + 1) (rawInt s.heap.objs.size) x y g → g.get? s.heap.objs.size = some (two x y) → g.objs.size = s.heap.objs.size + 1 → Stay z to p q s.heap g → Q (.ref s.heap.objs.size) { s with heap := g }) ∨
      (xs[n]? = none ∧ ys[n]? = none ∧ ∀ g e, Stay z to p q s.heap g → (∃ o, g.get? e = some o ∧ o.cls = .type "StopIteration") → E (.ref e) { s with heap := g })) :
    wpAny (model P w) A (Builtin.«zip.__next__» ⟨[.ref z], []⟩) (fun fin s' => ∃ v, fin = .done (.ret v) ∧ Q v s') E s := by
  obtain ⟨hp, gs, dr, tk, os⟩ := s
  have hz := Z.z
  have hi := Z.i
  have ho := Z.o
  iterate 56 (first | with_reducible apply wpAny_loadPart' hz | with_reducible apply wpAny_loadPart' hi | wp_step)
  refine wpAny_bind (wpAny_setField_rec hz (by simp) fun h1 z1 k1 => ?_)
  have apart : ∀ e o, e ≠ z → hp.get? e = some o → h1.get? e = some o := fun e o ne q => (k1.2 e ne).trans q
  refine wpAny_bind ?_
  rw [show (#[Value.ref p, Value.ref q].toList.zipIdx : List (Value × Nat)) = [(.ref p, 0), (.ref q, 1)] from rfl, List.forIn_cons]
  rcases go with ⟨x, y, ex, ey, go⟩ | ⟨ex, ey, out⟩
  · refine wpAny_bind (put (b := b) (l := a) (n := n) (xs := xs) (x := x) (j := 0) (kept := #[u, v]) (to := to) (p := p) rfl rfl D.TOi1 (apart _ _ D.TOz ho) (Z.p.on fun o e => apart _ o D.i1z e) (hx.on fun o e => apart _ o D.l1z e) ex rfl rfl rfl fun h2 p2 o2 k2 => ?_)
    have k12 : ∀ e o, e ≠ z → e ≠ to → e ≠ p → hp.get? e = some o → h2.get? e = some o := fun e o n1 n2 n3 q => (k2.1 e n3 n2).trans (apart e o n1 q)
    show wpAny _ _ (forIn [(Value.ref q, 1)] _ _) _ _ _
    rw [List.forIn_cons]
    refine wpAny_bind (put (b := c) (l := d) (n := n) (xs := ys) (x := y) (j := 1) (kept := #[x, v]) (to := to) (p := q) rfl rfl D.TOi2 o2 (Z.q.on fun o e => k12 _ o D.i2z D.TOi2.symm D.i12.symm e) (hy.on fun o e => k12 _ o D.l2z D.l2TO D.l2i1 e) ey rfl rfl rfl fun h3 q3 o3 k3 => ?_)
    show wpAny _ _ (forIn [] _ _) _ _ _
    rw [List.forIn_nil]
    refine wpAny_pure ?_
    have sz : h3.objs.size = hp.objs.size := k3.2.trans (k2.2.trans k1.1)
    have z3 : h3.get? z = some (zob ti to .ellipsis) := (k3.1 _ D.i2z.symm D.TOz.symm).trans ((k2.1 _ D.i1z.symm D.TOz.symm).trans z1)
    have p3 : At b h3 p a (n + 1) := p2.on fun o e => (k3.1 _ D.i12 D.TOi1.symm).trans e
    have st : Stay z to p q hp h3 := fun e o n1 n2 n3 n4 f => (k3.1 e n4 n2).trans (k12 e o n1 n2 n3 f)
    have pair : h3.get? to = some (two x y) := o3
    refine wpAny_bind (wpAny_seqItems pair rfl (wpAny_bind (wpAny_newTuple ?_)))
    refine wpAny_bind (wpAny_bind (wpAny_setField_rec (Heap.get?_push_of_some _ z3) (by simp) fun h4 z4 k4 => ?_))
    refine wpAny_setField_rec z4 (by simp) fun h5 z5 k5 => ?_
    have kept : ∀ e o, e ≠ z → (h3.push (two x y)).get? e = some o → h5.get? e = some o := fun e o ne f => (k5.2 e ne).trans ((k4.2 e ne).trans f)
    have kept3 : ∀ e o, e ≠ z → h3.get? e = some o → h5.get? e = some o := fun e o ne f => kept e o ne (Heap.get?_push_of_some _ f)
    have low : z < h3.objs.size := Heap.lt_size z3
    have new : h5.get? hp.objs.size = some (two x y) := kept _ _ (Nat.ne_of_gt (sz ▸ low)) (by rw [← sz]; exact Heap.get?_push_size _ rfl)
    have sz5 : h5.objs.size = hp.objs.size + 1 := k5.1.trans (k4.1.trans ((Heap.size_push ..).trans (by omega)))
    have z6 : h5.get? z = some (zob ti to (rawInt h3.objs.size)) := z5
    rw [sz] at z6
    refine wpAny_pure ⟨.ref h3.objs.size, rfl, ?_⟩
    rw [sz]
    exact go h5 ⟨z6, kept3 _ _ D.TIz (st _ _ D.TIz D.TITO D.TIi1 D.TIi2 hi), kept3 _ _ D.TOz pair, p3.on fun o e => kept3 _ o D.i1z e, q3.on fun o e => kept3 _ o D.i2z e⟩ new sz5 fun e o n1 n2 n3 n4 f => kept3 e o n1 (st e o n1 n2 n3 n4 f)
  · refine wpAny_bind (wpAny_bind (wpAny_onRaise ?_))
    show wpAny _ _ (Builtin.SmallTypes.nextOrEnd (.ref p)) _ _ _
    refine drawn calm (Z.p.on fun o e => apart _ o D.i1z e) (hx.on fun o e => apart _ o D.l1z e) ex fun h2 k2 => ?_
    refine wpAny_bind (wpAny_setField_rec (k2 _ _ D.i1z.symm z1) (by simp) fun h3 z3 k3 => wpAny_bind ?_)
    have st : ∀ e o, e ≠ z → e ≠ p → hp.get? e = some o → h3.get? e = some o := fun e o n1 n3 f => (k3.2 e n1).trans (k2 _ _ n3 (apart e o n1 f))
    show wpAny _ _ (bind _ _) _ _ _
    refine wpAny_bind ?_
    rw [show ((#[Value.ref p, Value.ref q].toList.drop 1).zipIdx 1 : List (Value × Nat)) = [(.ref q, 1)] from rfl, List.forIn_cons]
    refine wpAny_bind (wpAny_bind (drawn (s := ⟨h3, gs, dr, tk, os⟩) calm (Z.q.on fun o e => st _ o D.i2z D.i12.symm e) (hy.on fun o e => st _ o D.l2z D.l2i1 e) ey fun h4 k4 => ?_))
    refine wpAny_ite_false (by decide) (wpAny_pure ?_)
    show wpAny _ _ (forIn [] _ _) _ _ _
    rw [List.forIn_nil]
    refine wpAny_pure (wpAny_bind (wpAny_rule ?_))
    refine wpAny_bind (m := newExc (.type "StopIteration") []) ?_
    have calm1 : A.in1.handled = none := calm
    iterate 14 wp_step
    refine wpAny_of_eq (a := Value.none) rfl (wpAny_newObj_type (wpAny_raiseNew_none calm (out _ _ (fun e o n1 n2 n3 n4 f => ?_) ⟨_, Heap.get?_push_size _ rfl, rfl⟩)) (by size_fits))
    exact Heap.get?_push_of_some _ (Heap.get?_push_of_some _ (k4 _ _ n4 (st e o n1 n3 f)))
end
section
variable {P : Program} {w : World} {s : Shared} {A : Around} {E : Value → Shared → Prop}
theorem next {b c : Bool} {z ti to p q a d : Addr} {n : Nat} {xs ys : Array Value} {u v : Value} {Q : Option Value → Shared → Prop} (calm : A.handled = none) (D : ZipApart z ti to p q a d)
    (Z : Zip2 b c z ti to p q a d n .none u v s.heap) (hx : Sd b s.heap a xs) (hy : Sd c s.heap d ys)
    (go : (∃ x y, xs[n]? = some x ∧ ys[n]? = some y ∧ ∀ g, Zip2 b c z ti to p q a d (n + 1) (rawInt s.heap.objs.size) x y g → g.get? s.heap.objs.size = some (two x y) → g.objs.size = s.heap.objs.size + 1 → Stay z to p q s.heap g → Q (some (.ref s.heap.objs.size)) { s with heap := g }) ∨
      (xs[n]? = none ∧ ys[n]? = none ∧ ∀ g, Stay z to p q s.heap g → Q none { s with heap := g })) : wpAny (model P w) A (pyNext (.ref z)) Q E s := by
  have t : s.TypeIs (.ref z) "zip" := ⟨_, Z.z, rfl⟩
  refine wpAny_bind (m := (callSpecial? (.ref z) "__next__").attempt) (wpAny_attempt (wpAny_callSpecial?_slot (name := Str.ofString "__next__") t F.slot_zip_next ?_))
  refine wpAny_call_entry F.slot_zip_next t F.entry_zip_next (step calm D Z hx hy ?_) (F.args_zip_next_1 _)
  rcases go with ⟨x, y, ex, ey, go⟩ | ⟨ex, ey, go⟩
  · exact .inl ⟨x, y, ex, ey, fun g g1 g2 g3 g4 => wpAny_pure (go g g1 g2 g3 g4)⟩
  · exact .inr ⟨ex, ey, fun g e st he => wpAny_bind (wpAny_isInstance (T := "StopIteration") (b := true) he isSubtype_stop (wpAny_pure (go g st)))⟩
/-- the pair that was lent out last goes -/
theorem gone {es : List Expr} {k : Nat} {pos : Pos} {z ti to r : Addr} {Q : Unit → Shared → Prop} (hz : s.heap.get? z = some (zob ti to (rawInt r)))
    (go : ∀ g, g.get? z = some (zob ti to .none) → Heap.SameBut z s.heap g → Q () { s with heap := g }) : wpAny (model P w) A (letOwnedTupleGo (.Tuple es k pos) (.ref z) (.ref r)) Q E s := by
  refine wpAny_bind (wpAny_load hz (show wpAny _ _ (ite _ _ _) _ _ _ from ?_))
  split
  · exact wpAny_bind (wpAny_rule (wpAny_setField_rec hz (by simp) fun g g1 g2 => go g g1 g2))
  · rename_i no
    exact absurd (by simp) no
theorem iter_self {z ti to : Addr} {own : Value} {Q : Value → Shared → Prop} (hz : s.heap.get? z = some (zob ti to own)) (h : Q (.ref z) s) : wpAny (model P w) A (pyIter (.ref z)) Q E s :=
  have t : s.TypeIs (.ref z) "zip" := ⟨_, hz, rfl⟩
  wpAny_pyIter_slot t F.slot_zip_iter (wpAny_call_entry F.slot_zip_iter t F.entry_zip_iter (wpAny_pure (a := Fin.done (.ret (.ref z))) ⟨_, rfl, "zip", _, t, F.slot_zip_next.lookup, h⟩) (F.args_zip_iter_1 _))
end

/-! ### how it is made: five new objects, one behind the other -/
def laid (h : Heap) (os : List Obj) : Heap := os.foldl Heap.push h
theorem laid_old : ∀ (os : List Obj) {h : Heap} {e : Addr} {o : Obj}, h.get? e = some o → (laid h os).get? e = some o
  | [], _, _, _, f => f
  | _ :: os, _, _, _, f => laid_old os (Heap.get?_push_of_some _ f)
theorem laid_new (os : List Obj) : ∀ (h : Heap) (i : Nat) (o : Obj), os[i]? = some o → o.isFreed = false → (laid h os).get? (h.objs.size + i) = some o := by
  induction os with
  | nil => exact fun h i o e => absurd e (by simp)
  | cons x os ih =>
    intro h i o e f
    cases i with
    | zero =>
      have e1 : x = o := Option.some.inj e
      rw [e1]
      exact laid_old os (Heap.get?_push_size h f)
    | succ i =>
      have r := ih (h.push x) i o e f
      rw [Heap.size_push, Nat.add_assoc, Nat.add_comm 1 i] at r
      exact r
/-- the iterator of one side, new -/
def itO (b : Bool) (l : Addr) : Obj := { cls := .type (if b then "tuple_iterator" else "list_iterator"), data := .fields #[.ref l, .int 0 0] }
theorem At.first {b : Bool} {h : Heap} {p l : Addr} (e : h.get? p = some (itO b l)) : At b h p l 0 := by
  cases b <;> exact ⟨_, e, rfl, rfl⟩
theorem iter_side {P : Program} {w : World} {b : Bool} {h : Heap} {l : Addr} {xs : Array Value} (hl : Sd b h l xs) {A : Around} {E : Value → Shared → Prop} {gs : Array GenState} {dr : Drawn} {tk : Nat} {os : OsState} {Q : Value → Shared → Prop}
    (q : Q (.ref h.objs.size) ⟨h.push (itO b l), gs, dr, tk, os⟩) : wpAny (model P w) A (pyIter (.ref l)) Q E ⟨h, gs, dr, tk, os⟩ := by
  cases b with
  | false => exact wpAny_pyIter_list (s := ⟨h, gs, dr, tk, os⟩) (show h.IsList l xs from hl) q
  | true => exact wpAny_pyIter_tuple (s := ⟨h, gs, dr, tk, os⟩) (show h.IsTuple l xs from hl) q
abbrev five (b c : Bool) (a d : Addr) (n : Nat) : List Obj := [itO b a, itO c d, two (.ref n) (.ref (n + 1)), two .none .none, zob (n + 2) (n + 3) .none]
abbrev kwS : List (Str × Value) := [(Str.ofString "strict", .bool true)]
theorem new_zip {b c : Bool} {a d : Addr} {xs ys : Array Value} : Meets (Builtin.«zip.__new__» ⟨[.type "zip", .ref a, .ref d], kwS⟩) (fun _ R s => (Sd b s.heap a xs ∧ Sd c s.heap d ys) ∧
      R (.ok (.ret (.ref (s.heap.objs.size + 4)))) { s with heap := laid s.heap (five b c a d s.heap.objs.size) }) :=
  .of_wp fun P w A R s h => by
    obtain ⟨hp, gs, dr, tk, os⟩ := s
    obtain ⟨⟨h1, h2⟩, h⟩ := h
    have word : (Str.ofString "strict" != ("strict" : Str)) = false := by decide +kernel
    have its := sub_zip
    have o1 := @iter_side P w b hp a xs h1
    have o2 := @iter_side P w c (hp.push (itO b a)) d ys (h2.on fun o e => Heap.get?_push_of_some _ e)
    wp_walk using o1, o2
    refine ⟨_, rfl, ?_⟩
    simp only [Heap.size_push]
    exact h
/-! ### the five cells of a zip -/
section
variable {b c : Bool} {z ti to p q a d : Addr} {n : Nat} {own u v : Value} {h g : Heap}
abbrev cells (z ti to p q : Addr) : List Addr := [z, ti, to, p, q]
theorem all_cells {z ti to p q : Addr} {φ : Addr → Prop} (h1 : φ z) (h2 : φ ti) (h3 : φ to) (h4 : φ p) (h5 : φ q) : ∀ e ∈ cells z ti to p q, φ e := by
  simp only [cells, List.mem_cons, List.not_mem_nil, or_false]
  intro e m
  rcases m with m | m | m | m | m <;> (subst m; assumption)
theorem Zip2.on (Z : Zip2 b c z ti to p q a d n own u v h) (k : ∀ e ∈ cells z ti to p q, ∀ o, h.get? e = some o → g.get? e = some o) : Zip2 b c z ti to p q a d n own u v g :=
  ⟨k _ (by simp) _ Z.z, k _ (by simp) _ Z.i, k _ (by simp) _ Z.o, Z.p.on (k _ (by simp)), Z.q.on (k _ (by simp))⟩
theorem Zip2.cell (Z : Zip2 b c z ti to p q a d n own u v h) : ∀ e ∈ cells z ti to p q, ∃ o, h.get? e = some o ∧ ∀ v, o.data ≠ .cell v := by
  obtain ⟨o1, v1, e1, d1⟩ := Z.p.stands
  obtain ⟨o2, v2, e2, d2⟩ := Z.q.stands
  exact all_cells ⟨_, Z.z, nofun⟩ ⟨_, Z.i, nofun⟩ ⟨_, Z.o, nofun⟩ ⟨o1, e1, by rw [d1]; exact nofun⟩ ⟨o2, e2, by rw [d2]; exact nofun⟩
theorem Stay.out (k : Stay z to p q h g) : ∀ e o, e ∉ cells z ti to p q → h.get? e = some o → g.get? e = some o := fun e o m f => by
  simp only [cells, List.mem_cons, List.not_mem_nil, or_false, not_or] at m
  exact k e o m.1 m.2.2.1 m.2.2.2.1 m.2.2.2.2 f
end
section
variable {P : Program} {w : World} {s : Shared} {A : Around} {E : Value → Shared → Prop}
theorem made {b c : Bool} {a d : Addr} {xs ys : Array Value} {Q : Value → Shared → Prop} (hx : Sd b s.heap a xs) (hy : Sd c s.heap d ys)
    (go : ∀ n g, n = s.heap.objs.size → Zip2 b c (n + 4) (n + 2) (n + 3) n (n + 1) a d 0 .none .none .none g → (∀ e o, s.heap.get? e = some o → g.get? e = some o) → Q (.ref (n + 4)) { s with heap := g }) :
    wpAny (model P w) A (call (.type "zip") [.ref a, .ref d] kwS) Q E s := by
  refine callType_newKw F.called_zip (by decide) (by kernel_rfl) (by kernel_rfl) (fun obj => by unfold argsOk; kernel_rfl) F.entry_zip_new new_zip ⟨⟨hx, hy⟩, ?_⟩
  have at' : ∀ i o, (five b c a d s.heap.objs.size)[i]? = some o → o.isFreed = false → (laid s.heap (five b c a d s.heap.objs.size)).get? (s.heap.objs.size + i) = some o := fun i o => laid_new _ _ i o
  have zz := at' 4 _ rfl rfl
  exact ⟨⟨_, zz, rfl⟩, go _ _ rfl ⟨zz, at' 2 _ rfl rfl, at' 3 _ rfl rfl, .first (at' 0 _ rfl rfl), .first (at' 1 _ rfl rfl)⟩ fun e o f => laid_old _ f⟩
/-- a class of the language called with names -/
theorem callWith_kws {M : Model} {pos : Pos} {T : String} {as : List (Bool × Sem Value)} {ks : List (Option Str × Sem Value)} {Q : Value → Shared → Prop} (plain : (as.any (·.1) || ks.any (·.1.isNone)) = false)
    (h : wpAny M A (evalArgs (.type T) true as ks) (fun r s1 => wpAny M A (call (.type T) r.pos r.kw) Q E s1) E s) : wpAny M A (callWith pos (.type T) [] as ks) Q E s := by
  have back : ∀ {r : Value} {s2 : Shared}, Q r s2 → wpAny M A (do holding [r] point; pure r) Q E s2 := fun q => wpAny_bind (wpAny_holding (wpAny_point (wpAny_pure q)))
  refine wpAny_bind (m := holding [.type T] (evalArgs (.type T) true as ks)) (wpAny_holding (wpAny_mono h (fun r s1 h1 => ?_) fun _ _ k => k))
  refine wpAny_bind (wpAny_standAt (plain.symm ▸ ?_))
  exact wpAny_bind (m := keeperOf (.type T)) (wpAny_of_eq rfl (wpAny_bind (wpAny_mono h1 (fun _ _ q => back q) fun _ _ k => k)))
end
end Zs
namespace Fm
open L2 PySem PySem.Spec PyProof.Rows Zs
def SqB (k : Bool) (K : PySem.W.Frag) (H : Hp) (a : Addr) (xs : List V) : Prop := match k with
  | true => SqT K H a xs
  | false => SqL K H a xs
section
variable {X : Cx} {pins : List (Addr × Obj)} {σ : L2.St} {H : Hp} {s : Shared} {k : Bool} {a : Addr} {xs ys : List V}
theorem SqB.src (I : Inv X pins σ H s) (h : SqB k X.K H a xs) : ∃ its : List Value, Vals xs its ∧ Sd k s.heap a its.toArray ∧ a < s.heap.objs.size := by
  cases k with
  | false =>
    obtain ⟨its, r, l, _⟩ := I.list h
    exact ⟨its, r, l.isList, l.lt⟩
  | true =>
    obtain ⟨its, r, t, _⟩ := I.tuple h
    obtain ⟨o, e, _⟩ := id t
    exact ⟨its, r, t, Heap.lt_size e⟩
theorem SqB.inj (I : Inv X pins σ H s) (h : SqB k X.K H a xs) (h' : SqB k X.K H a ys) : xs = ys := by
  cases k with
  | false => exact I.list_inj (show SqL X.K H a xs from h) h'
  | true => exact I.tuple_inj (show SqT X.K H a xs from h) h'
end
/-- two of one length: each turn gives a new pair of their items -/
def ItS (K : PySem.W.Frag) (k k' : Bool) (a b : Addr) : It where
  go i H := ∃ xs ys, SqB k K H a xs ∧ SqB k' K H b ys ∧ i < xs.length ∧ i < ys.length
  yld i H v H' := ∃ T x y, v = .ref T ∧ H T = none ∧ H' = upd H T (.tup [x, y]) ∧ (∀ xs, SqB k K H a xs → xs[i]? = some x) ∧ ∀ ys, SqB k' K H b ys → ys[i]? = some y
  stop i H := ∃ xs ys, SqB k K H a xs ∧ SqB k' K H b ys ∧ xs.length ≤ i ∧ ys.length ≤ i
theorem turnS {P : Program} {w : World} {K : PySem.W.Frag} {es : List Expr} {kk : Nat} {tpos : Pos} {k k' : Bool} {a d z ti to p q : Addr} (D : ZipApart z ti to p q a d) :
    Turn P w K (.Tuple es kk tpos) (ItS K k k' a d) (cells z ti to p q) z fun i h => ∃ u v, Zip2 k k' z ti to p q a d i .none u v h where
  mem := by simp
  obj := fun i h ⟨_, _, Z⟩ => Z.cell
  keep := fun i h g ⟨u, v, Z⟩ f => ⟨u, v, Z.on f⟩
  self := fun A i s Q E ⟨_, _, Z⟩ r => iter_self Z.z r
  done := fun X e1 e2 e3 calm i pins s σ H E I hf ⟨u, v, Z⟩ ⟨xs, ys, qx, qy, l1, l2⟩ => by
    subst e1 e2 e3
    obtain ⟨us, rx, px, _⟩ := qx.src I
    obtain ⟨vs, ry, py, _⟩ := qy.src I
    have m1 := rx.length
    have m2 := ry.length
    exact next (I.ok.hd calm) D Z px py (.inr ⟨by simp; omega, by simp; omega, fun g st => ⟨rfl, I.turnedL (t' := s.toks) st.out hf⟩⟩)
  item := fun X e1 e2 e3 calm i pins s σ H E I hf ⟨u, v, Z⟩ ⟨xs, ys, qx, qy, l1, l2⟩ => by
    subst e1 e2 e3
    obtain ⟨us, rx, px, _⟩ := qx.src I
    obtain ⟨vs, ry, py, _⟩ := qy.src I
    have ex : xs[i]? = some xs[i] := List.getElem?_eq_getElem l1
    have ey : ys[i]? = some ys[i] := List.getElem?_eq_getElem l2
    obtain ⟨x, hx, r1⟩ := rx.get ex
    obtain ⟨y, hy, r2⟩ := ry.get ey
    refine next (I.ok.hd calm) D Z px py (.inl ⟨x, y, by rw [List.getElem?_toArray]; exact hx, by rw [List.getElem?_toArray]; exact hy, fun g Zg new sz st => ⟨_, rfl, gone Zg.z fun g2 z2 sb => ?_⟩⟩)
    have low : ∀ e ∈ cells z ti to p q, e < s.heap.objs.size := fun e m => by
      obtain ⟨o, f, _⟩ := Z.cell e m
      exact Heap.lt_size f
    have new2 : g2.get? s.heap.objs.size = some (two x y) := (sb.2 _ (Nat.ne_of_gt (low z (by simp)))).trans new
    have pair : ObjOk X.prog X.w (upd H s.heap.objs.size (.tup [xs[i], ys[i]])) g2 s.heap.objs.size (.tup [xs[i], ys[i]]) := ⟨Nat.le_trans (Nat.le_of_eq (show [xs[i], ys[i]].length = 2 from rfl)) (by decide), [x, y], .cons r1 (.cons r2 .nil), _, new2, rfl, _, rfl⟩
    refine ⟨.ref s.heap.objs.size, _, I.turnedNew (t' := s.toks) (ch := cells z ti to p q) (fun e o m f => ?_) hf (Nat.le_refl _) pair, rfl, ?_, ⟨x, y, ?_⟩, fun e m => ?_⟩
    · exact (sb.2 e fun r => m (by rw [r]; simp)).trans (st.out e o m f)
    · exact ⟨_, _, _, rfl, I.hok.fresh (Nat.le_refl _), rfl, fun l f => by rw [f.inj I qx]; exact ex, fun l f => by rw [f.inj I qy]; exact ey⟩
    · exact ⟨z2, (sb.2 _ D.TIz).trans Zg.i, (sb.2 _ D.TOz).trans Zg.o, Zg.p.on fun o f => (sb.2 _ D.i1z).trans f, Zg.q.on fun o f => (sb.2 _ D.i2z).trans f⟩
    · exact (upd_ne (Nat.ne_of_lt (low e m))).trans (hf e m).1
def iZipS (K : PySem.W.Frag) (ta : TA) : TI := fun σ H R => ta σ H fun vs H1 => ∃ (k k' : Bool) (a b : Addr) (xs ys : List V), vs = [.ref a, .ref b] ∧ SqB k K H1 a xs ∧ SqB k' K H1 b ys ∧ R (ItS K k k' a b) H1
theorem pi_zipS {X : Cx} {e e2 : Expr} {ta : TA} {p pos tpos kpos cpos : Pos} {j : Nat} {elts : List Expr} {kk : Nat} (hg : Gl X "zip") (hm : X.mg "zip" = none) (ha : PA X [e, e2] ta)
    (hs : starEach [e, e2] X.env = (false, eval e X.env) :: starEach [e2] X.env := by rfl) (hpl : ((backTo pos (starEach [e, e2] X.env)).any (·.1) || (backToKw pos (keywordEach [⟨some "strict", .Constant (.bool true) j cpos, kpos⟩] X.env)).any (·.1.isNone)) = false := by rfl) :
    PI X (.Tuple elts kk tpos) (.Call (.Name "zip" p) [e, e2] [⟨some "strict", .Constant (.bool true) j cpos, kpos⟩] pos) (iZipS X.K ta) := by
  refine ⟨fun pins s σ H R I h => wpAny_Call_Name_kw (ld_blt I hg hm PyProof.Rows.boot_zip (callWith_kws hpl (evalArgs_kw2 rfl (thn (ha.run pos pins s σ H _ I h) fun us s1 got => ?_) hs)))⟩
  obtain ⟨vs, H1, I1, r1, k, k', a, d, xs, ys, rfl, qx, qy, hR⟩ := got
  obtain ⟨v1, v2, rfl, rv1, rv2⟩ : ∃ v1 v2, us = [v1, v2] ∧ RelV (.ref a) v1 ∧ RelV (.ref d) v2 := by
    cases r1 with
    | cons f1 r2 =>
      cases r2 with
      | cons f2 r3 =>
        cases r3
        exact ⟨_, _, rfl, f1, f2⟩
  cases rv1
  cases rv2
  obtain ⟨is, rx, px, la⟩ := qx.src I1
  obtain ⟨js, ry, py, lb⟩ := qy.src I1
  refine kwAll_cons (Constant_bool (kwAll_nil (made px py fun n g en Z old => iter_self Z.z ?_)))
  have I2 : Inv X pins σ H1 { s1 with heap := g } := I1.kept (t' := s1.toks) old
  have new : ∀ e, s1.heap.objs.size ≤ e → FpOk X pins H1 e := fun e le => I1.fpOk le (I1.hok.fresh le)
  subst en
  exact ⟨_, _, _, _, H1, rfl, I2, turnS (PySem.W.ktu_apart s1.heap.objs.size a d la lb), ⟨_, _, Z⟩, all_cells (new _ (by omega)) (new _ (by omega)) (new _ (by omega)) (new _ (by omega)) (new _ (by omega)), hR⟩
end Fm

set_option maxHeartbeats 390000
namespace Fm
open L2 PySem PySem.Spec PyProof.Rows

/-! ### zip(a, b, strict=True) -/
def D.seq : D → Option (Bool × List D)
  | .lst _ l => some (false, l)
  | .tup l => some (true, l)
  | _ => none
def zipP : List D → List D → List D
  | a :: l, b :: m => .tup [a, b] :: zipP l m
  | _, _ => []
theorem zipP_at : ∀ {l m : List D} {i : Nat} {d : D}, (zipP l m)[i]? = some d → ∃ a b, l[i]? = some a ∧ m[i]? = some b ∧ d = .tup [a, b]
  | [], m, i, d, h => by
    unfold zipP at h
    simp at h
  | a :: l, [], i, d, h => by
    unfold zipP at h
    simp at h
  | a :: l, b :: m, 0, d, h => by
    unfold zipP at h
    cases h
    exact ⟨a, b, rfl, rfl, rfl⟩
  | a :: l, b :: m, i + 1, d, h => by
    unfold zipP at h
    exact zipP_at (l := l) (m := m) (i := i) (by simpa using h)
theorem zipP_len : ∀ {l m : List D}, l.length = m.length → (zipP l m).length = l.length
  | [], m, h => by
    unfold zipP
    rfl
  | a :: l, [], h => by simp at h
  | a :: l, b :: m, h => by
    unfold zipP
    rw [List.length_cons, List.length_cons, zipP_len (by simpa using h)]
def zipM : List D → M (List D)
  | [d, e] => match d.seq, e.seq with
    | some (_, l), some (_, m) => if l.length = m.length then M.ret (zipP l m) else M.no
    | _, _ => M.no
  | _ => M.no
def iZp (n : M (List D)) : M (List D) := n.bind zipM
theorem Rep.sqB {κ : Ctx} {T : Pd} {G H : Hp} {d : D} {k : Bool} {l : List D} {v : V} (s : Same G H) (h : d.seq = some (k, l)) (r : Rep κ T G d v) : ∃ a vs, v = .ref a ∧ SqB k κ.K G a vs ∧ SqB k κ.K H a vs ∧ RepL κ T G l vs := by
  cases d with
  | lst b l' =>
    cases h
    obtain ⟨a, vs, rfl, h1, h2, h3⟩ := r.seqL s
    exact ⟨a, vs, rfl, h1, h2, h3⟩
  | tup l' =>
    cases h
    obtain ⟨a, vs, rfl, h1, h2⟩ := r
    exact ⟨a, vs, rfl, h1.sq (Same.refl G), h1.sq s, h2⟩
  | _ => cases h
theorem SqB.mono {k : Bool} {K : PySem.W.Frag} {G H : Hp} (s : Same G H) {a : Addr} {vs : List V} (h : SqB k K G a vs) : SqB k K H a vs := by
  cases k with
  | true => exact SqT.mono s h
  | false => exact sqL_mono s h
theorem itd_zip {κ : Ctx} {T : Pd} {G0 : Hp} {k k' : Bool} {a b : Addr} {l m : List D} {vs ws : List V} (hl : l.length = m.length) (ha : SqB k κ.K G0 a vs) (hb : SqB k' κ.K G0 b ws) (ra : RepL κ T G0 l vs) (rb : RepL κ T G0 m ws) : ItD κ T G0 (ItS κ.K k k' a b) (zipP l m) := by
  intro i B ρ σ H G hT o s
  have sH := s.trans o.fr.gh
  have qa := ha.mono sH
  have qb := hb.mono sH
  have hz := zipP_len hl
  refine ⟨fun hi => ?_, fun hi => ⟨vs, ws, qa, qb, by rw [ra.length]; omega, by rw [rb.length]; omega⟩, fun d hd x H' y => ?_⟩
  · exact ⟨vs, ws, qa, qb, by rw [ra.length]; omega, by rw [rb.length]; omega⟩
  · obtain ⟨t, x1, x2, rfl, ht, rfl, f1, f2⟩ := y
    obtain ⟨c, e, hc, he, rfl⟩ := zipP_at hd
    obtain ⟨v, h1, h2⟩ := ra.get hc
    obtain ⟨u, h3, h4⟩ := rb.get he
    have g1 := f1 _ qa
    rw [h1] at g1
    cases g1
    have g2 := f2 _ qb
    rw [h3] at g2
    cases g2
    have hg := o.gnone ht
    have sU : Same G (upd G t (.tup [x1, x2])) := Same.upd hg
    refine ⟨upd G t (.tup [x1, x2]), o.alloc ht (fun _ z => by cases z), sU, Same.upd ht, ⟨t, [x1, x2], rfl, .inl upd_same, ⟨x1, [x2], rfl, Rep.mono (.of (s.trans sU)) c h2, ⟨x2, [], rfl, Rep.mono (.of (s.trans sU)) e h4, rfl⟩⟩⟩⟩
section
variable {X : Cx} {κ : Ctx} {W : WX}
theorem i_zip {e e2 : Expr} {n : M (List D)} {p pos tpos kpos cpos : Pos} {j : Nat} {elts : List Expr} {kk : Nat} (hK : X.K = κ.K) (hg : Gl X "zip") (hm : X.mg "zip" = none) (ha : PA X [e, e2] (tA κ W n))
    (hs : starEach [e, e2] X.env = (false, eval e X.env) :: starEach [e2] X.env := by rfl) (hpl : ((backTo pos (starEach [e, e2] X.env)).any (·.1) || (backToKw pos (keywordEach [⟨some "strict", .Constant (.bool true) j cpos, kpos⟩] X.env)).any (·.1.isNone)) = false := by rfl) :
    PI X (.Tuple elts kk tpos) (.Call (.Name "zip" p) [e, e2] [⟨some "strict", .Constant (.bool true) j cpos, kpos⟩] pos) (tI κ W (iZp n)) := by
  refine PI.imp (pi_zipS hg hm ha hs hpl) fun σ H R ⟨B, ρ, G, o, q⟩ => ⟨B, ρ, G, o, Pst.mono (Pst.bind q) fun ds ρ' H' G' o' s q' vs rs => ?_⟩
  cases ds with
  | nil => exact q'.elim
  | cons d r =>
    cases r with
    | nil => exact q'.elim
    | cons e r =>
      cases r with
      | cons _ _ => exact q'.elim
      | nil =>
        have q2 : Pst κ W B σ G' ((match d.seq, e.seq with
          | some (_, l), some (_, m) => if l.length = m.length then M.ret (zipP l m) else M.no
          | _, _ => M.no) ρ') fun l ρ' H' G' => ∀ J, ItD κ B.T G' J l → R J H' := q'
        cases h1 : d.seq with
        | none =>
          rw [h1] at q2
          exact q2.elim
        | some p1 =>
          obtain ⟨k, l⟩ := p1
          cases h2 : e.seq with
          | none =>
            rw [h1, h2] at q2
            exact q2.elim
          | some p2 =>
            obtain ⟨k', m⟩ := p2
            rw [h1, h2] at q2
            dsimp only at q2
            by_cases hl : l.length = m.length
            · rw [if_pos hl] at q2
              obtain ⟨v, us, rfl, r1, w', us', rfl, r2, rfl⟩ := rs
              obtain ⟨a, ws, rfl, g1, g2, g3⟩ := r1.sqB o'.fr.gh h1
              obtain ⟨b, zs, rfl, g4, g5, g6⟩ := r2.sqB o'.fr.gh h2
              refine ⟨k, k', a, b, ws, zs, rfl, hK ▸ g2, hK ▸ g5, ?_⟩
              rw [hK]
              exact Pst.ret q2 o' _ (itd_zip hl g1 g4 g3 g6)
            · rw [if_neg hl] at q2
              exact q2.elim

/-! ### slices -/
def tO (κ : Ctx) (W : WX) (m : M (Option Int)) : TO := fun σ H Q => ∃ B ρ G, Ok κ B ρ σ H G ∧ Pst κ W B σ G (m ρ) fun o _ H' _ => Q o H'
theorem PO.imp {e : Option Expr} {t t' : TO} (h : PO X e t) (f : ∀ σ H Q, t' σ H Q → t σ H Q) : PO X e t' := ⟨fun pins s σ H Q I q => h.run pins s σ H Q I (f _ _ _ q)⟩
def mPN : M (Option Int) := M.ret none
def intM : D → M (Option Int)
  | .int i => M.ret (some i)
  | _ => M.no
def mPS (m : M SD) : M (Option Int) := (fE m).bind intM
theorem o_none : PO X none (tO κ W mPN) := PO.imp po_none fun σ H Q ⟨B, ρ, G, o, q⟩ => Pst.ret q o
theorem o_some {e : Expr} {m : M SD} (h : PE X e (tE κ W m)) : PO X (some e) (tO κ W (mPS m)) := by
  refine PO.imp (po_some h) fun σ H Q ⟨B, ρ, G, o, q⟩ => ?_
  refine tE_fz o (Pst.bind q) fun d ρ1 H1 G1 o1 s1 q1 v1 r1 => ?_
  cases d with
  | int i => exact ⟨i, r1, Pst.ret q1 o1⟩
  | _ => exact q1.elim
def cutD (l : List D) (lo hi : Option Int) : List D := (l.drop (HT.sIx l.length 0 lo)).take (HT.sIx l.length l.length hi - HT.sIx l.length 0 lo)
def slcD : D → Option Int → Option Int → Option SD
  | .lst _ l, lo, hi => some (.ow (.lst false (cutD l lo hi)))
  | .scr l, lo, hi => if mkL l then none else some (.ow (.lst false (cutD l lo hi)))
  | .tup l, lo, hi => some (.va (.tup (cutD l lo hi)))
  | .str s, lo, hi => if s.length ≤ 1000000 then some (.va (.str (cutS s lo hi))) else none
  | _, _, _ => none
theorem cut_rep {T : Pd} {G : Hp} {l : List D} {vs : List V} (r : RepL κ T G l vs) (lo hi : Option Int) : RepL κ T G (cutD l lo hi) (cutV vs lo hi) := by
  unfold cutD cutV
  rw [r.length]
  exact (r.drop _).take _
def mSl (m : M SD) (ml mh : M (Option Int)) : M SD := (fE m).bind fun d => ml.bind fun lo => mh.bind fun hi => M.opt (slcD d lo hi)
theorem e_slice {e : Expr} {lo hi : Option Expr} {m : M SD} {ml mh : M (Option Int)} {p2 pos : Pos} (hK : X.K = κ.K) (he : PE X e (tE κ W m)) (hl : PO X lo (tO κ W ml)) (hh : PO X hi (tO κ W mh)) : PE X (.Subscript e (.Slice lo hi none p2) pos) (tE κ W (mSl m ml mh)) := by
  refine PE.imp (pe_slice (sl_list.or (sl_tupA.or sl_str)) he hl hh) fun σ H Q ⟨B, ρ, G, o, q⟩ => ?_
  refine tE_fz o (Pst.bind q) fun d ρ1 H1 G1 o1 s1 q1 v1 r1 => ?_
  refine ⟨B, ρ1, G1, o1, Pst.mono (Pst.bind q1) fun lo ρ2 H2 G2 o2 s2 q2 => ?_⟩
  refine ⟨B, ρ2, G2, o2, Pst.mono (Pst.bind q2) fun hi ρ3 H3 G3 o3 s3 q3 => ?_⟩
  have r3 := Rep.mono (.of (s2.trans s3)) d r1
  obtain ⟨z, hz, q4⟩ := Pst.opt q3
  rw [hK]
  cases d with
  | lst b l =>
    cases hz
    obtain ⟨a, vs, rfl, ⟨h1, _⟩, h2⟩ := r3
    exact .inl ⟨a, vs, rfl, SqL.of (o3.fr.gh _ _ h1), fun p hp => q4 _ _ (o3.allocOwn hp) (Same.refl _) _ (o3.newOwn hp ⟨_, upd_same, cut_rep h2 lo hi⟩)⟩
  | scr l =>
    have hz' : (if mkL l = true then none else some (SD.ow (.lst false (cutD l lo hi)))) = some z := hz
    by_cases hm : mkL l = true
    · rw [if_pos hm] at hz'
      cases hz'
    rw [if_neg hm] at hz'
    cases hz'
    obtain ⟨a, vs, rfl, h1, h2⟩ := r3
    exact .inl ⟨a, vs, rfl, (h1.resolve_right hm).sq o3.fr.gh, fun p hp => q4 _ _ (o3.allocOwn hp) (Same.refl _) _ (o3.newOwn hp ⟨_, upd_same, cut_rep h2 lo hi⟩)⟩
  | tup l =>
    cases hz
    obtain ⟨a, vs, rfl, h1, h2⟩ := r3
    refine .inr (.inl ⟨a, vs, rfl, h1.sq o3.fr.gh, fun hw => ?_, fun hw p hp => ?_⟩)
    · refine q4 _ _ o3 (Same.refl _) _ ⟨a, vs, rfl, h1, ?_⟩
      have c := cut_rep h2 lo hi
      have e : cutV vs lo hi = vs := by
        unfold cutV
        rw [hw.1, hw.2]
        simp
      rw [e] at c
      exact c
    · have hg := o3.gnone hp
      exact q4 _ _ (o3.alloc hp fun _ z => by cases z) (Same.upd hg) _ ⟨p, _, rfl, .inl upd_same, RepL.mono (.of (Same.upd hg)) _ (cut_rep h2 lo hi)⟩
  | str s =>
    have hz' : (if s.length ≤ 1000000 then some (SD.va (.str (cutS s lo hi))) else none) = some z := hz
    split at hz'
    · cases hz'
      exact .inr (.inr ⟨s, r3, line_of (by assumption), q4 _ _ o3 (Same.refl _) _ rfl⟩)
    · cases hz'
  | _ => cases hz

/-! ### list * int -/
def repD : D → D → Option SD
  | .int i, .int j => if mulG i j then some (.va (.int (i * j))) else none
  | .lst _ l, .int k => if -(2 ^ 62) ≤ k ∧ k < 2 ^ 62 ∧ l.length * k.toNat ≤ 1000000 then some (.ow (.lst false (List.replicate k.toNat l).flatten)) else none
  | .str s, .int k => if 2 ≤ k ∧ k < 2 ^ 62 ∧ s.length ≠ 0 ∧ s.length * k.toNat ≤ 1000000 then some (.va (.str ⟨(List.replicate k.toNat s.cps).foldl (· ++ ·) #[]⟩)) else none
  | _, _ => none
/-- a text, some times -/
def rRepS : R2 := fun x y H Q => ∃ (s : Str) (k : Int), x = .str s ∧ y = .int k ∧ 2 ≤ k ∧ k < 2 ^ 62 ∧ s.length ≠ 0 ∧ s.length * k.toNat ≤ 1000000 ∧ Q (.str ⟨(List.replicate k.toNat s.cps).foldl (· ++ ·) #[]⟩) H
theorem op_repS {X : Cx} : OpR X (binaryOp .Mult) rRepS := by
  rintro pins s σ H x y v u Q I rx ry ⟨z, k, rfl, rfl, h1, h2, h3, h4, q⟩
  obtain ⟨t, rfl⟩ := rx
  obtain ⟨t', rfl⟩ := ry
  obtain ⟨n, rfl⟩ : ∃ n : Nat, k = n := ⟨k.toNat, by omega⟩
  rw [Int.toNat_natCast] at h4 q
  have one : ¬ ((n : Int) < 1) := by omega
  have two : ((n : Int) == 1 || z.length == 0) = false := by
    rw [Bool.or_eq_false_iff]
    exact ⟨beq_eq_false_iff_ne.mpr (by omega), beq_eq_false_iff_ne.mpr h3⟩
  have fold : ∀ (m : Nat) (a : Array Nat), ((List.replicate m z.cps).foldl (· ++ ·) a).size = a.size + m * z.cps.size := by
    intro m
    induction m with
    | zero => intro a; simp
    | succ m ih =>
      intro a
      rw [List.replicate_succ, List.foldl_cons, ih, Array.size_append, Nat.succ_mul]
      omega
  have sz : (⟨(List.replicate n z.cps).foldl (· ++ ·) #[]⟩ : Str).length ≤ 1000000 := by
    show ((List.replicate n z.cps).foldl (· ++ ·) #[]).size ≤ 1000000
    rw [fold]
    have e : z.length = z.cps.size := rfl
    rw [e, Nat.mul_comm] at h4
    simp only [List.size_toArray, List.length_nil, Nat.zero_add]
    exact h4
  refine PySem.P.mul_str ?_ (fun _ _ => ?_) (fun _ _ => ?_) ?_
  · rw [decide_eq_false (by omega), decide_eq_false (by omega)]
    rfl
  · have hz : (z.length : Int) ≤ 1000000 := by
      have hp : 1 ≤ n := by omega
      have := Nat.le_trans (Nat.le_mul_of_pos_right z.length hp) h4
      omega
    have hm : z.length * n ≤ 1000000 := h4
    have : (1000000 : Int) ≤ 2 ^ 63 - 1 := by decide
    rw [Int.not_lt]
    refine (Int.le_ediv_iff_mul_le (by omega)).mpr ?_
    have : ((z.length * n : Nat) : Int) ≤ ((1000000 : Nat) : Int) := Int.ofNat_le.mpr hm
    rw [Int.natCast_mul] at this
    omega
  · rw [Int.toNat_natCast]
    exact PyProof.Rows.short24 (by omega)
  · rw [if_neg one, if_neg (by rw [two]; exact Bool.false_ne_true), Int.toNat_natCast]
    exact ⟨line_of sz, .str _, H, I.tok _, ⟨_, rfl⟩, q⟩
theorem RepL.flat {T : Pd} {G : Hp} {l : List D} {vs : List V} (r : RepL κ T G l vs) : ∀ n : Nat, RepL κ T G (List.replicate n l).flatten (List.replicate n vs).flatten
  | 0 => rfl
  | n + 1 => by
    simp only [List.replicate_succ, List.flatten_cons]
    exact r.append (r.flat n)
theorem od_rep : OpD κ (fun x y H Q => rI CMulW (fun i j => .int (i * j)) x y H Q ∨ (rRep x y H Q ∨ rRepS x y H Q)) repD := by
  intro B ρ σ H G d e x y z Q o r1 r2 hz q
  cases d with
  | int i =>
    cases e with
    | int j =>
      have hz' : (if mulG i j then some (SD.va (.int (i * j))) else none) = some z := hz
      split at hz'
      · cases hz'
        exact .inl ⟨i, j, r1, r2, by assumption, q _ H G o (Same.refl G) rfl⟩
      · cases hz'
    | _ => cases hz
  | lst b l =>
    cases e with
    | int k =>
      have hz' : (if -(2 ^ 62) ≤ k ∧ k < 2 ^ 62 ∧ l.length * k.toNat ≤ 1000000 then some (SD.ow (.lst false (List.replicate k.toNat l).flatten)) else none) = some z := hz
      split at hz'
      · rename_i hk
        cases hz'
        obtain ⟨p, vs, rfl, ⟨h1, _⟩, h2⟩ := r1
        refine .inr (.inl ⟨p, k, vs, rfl, r2, o.fr.gh _ _ h1, by omega, by omega, line_of (by rw [h2.length]; exact hk.2.2), fun t ht => ?_⟩)
        exact q _ _ _ (o.allocOwn ht) (Same.refl G) (o.newOwn ht ⟨_, upd_same, h2.flat _⟩)
      · cases hz'
    | _ => cases hz
  | str a =>
    cases e with
    | int k =>
      have hz' : (if 2 ≤ k ∧ k < 2 ^ 62 ∧ a.length ≠ 0 ∧ a.length * k.toNat ≤ 1000000 then some (SD.va (.str ⟨(List.replicate k.toNat a.cps).foldl (· ++ ·) #[]⟩)) else none) = some z := hz
      split at hz'
      · rename_i hk
        cases hz'
        exact .inr (.inr ⟨a, k, r1, r2, hk.1, hk.2.1, hk.2.2.1, hk.2.2.2, q _ H G o (Same.refl G) rfl⟩)
      · cases hz'
    | _ => cases hz
  | _ => cases e <;> cases hz
theorem op_mulX : OpR X (binaryOp .Mult) (fun x y H Q => rI CMulW (fun i j => .int (i * j)) x y H Q ∨ (rRep x y H Q ∨ rRepS x y H Q)) := op_mulW.or (op_rep.or op_repS)

/-! ### a, b, c = .. -/
def sPar3 (i j l : Nat) (m n k : M SD) : S := (fE m).bind fun d => (fE n).bind fun e => (fE k).bind fun f => fun ρ => .ok .nx (((ρ.set i (.va d)).set j (.va e)).set l (.va f))
/-! ### unpacking: a list or a tuple -/
theorem PG.or {e : Expr} {t t' : TG} (h : PG X e t) (h' : PG X e t') : PG X e (fun v σ H Q => t v σ H Q ∨ t' v σ H Q) := ⟨fun pins s σ H v u Q I r q => by
  rcases q with q | q
  · exact h.run pins s σ H v u Q I r q
  · exact h'.run pins s σ H v u Q I r q⟩
def gSq (n : Nat) (r : List D → List SD → Option (List SD)) : D → List SD → Option (List SD)
  | .tup l, ρ => if l.length = n then r l ρ else none
  | .lst _ l, ρ => if l.length = n then r l ρ else none
  | _, _ => none
theorem g_seq {A vs : List Nat} {es : List Expr} {k n : Nat} {pos : Pos} {gr : List D → List SD → Option (List SD)} (hK : X.K = κ.K) (hc : X.calm = true) (h : PGs X es (tGs κ A vs gr)) (hn : (assignEach es X.env).length = n := by rfl) (hst : (assignEach es X.env).findIdx? (·.1) = none := by rfl) :
    PG X (.Tuple es k pos) (tG κ A vs (gSq n gr)) := by
  refine PG.imp (PG.or (pg_tup hc h hn hst) (pg_unl hc h hn hst)) fun v σ H Q ⟨B, ρ, G, d, ρ', a, o, r, e, q⟩ => ?_
  cases d with
  | tup l =>
    unfold gSq at e
    dsimp only at e
    by_cases hl : l.length = n
    · rw [if_pos hl] at e
      obtain ⟨p, ws, rfl, r1, r2⟩ := r
      exact .inl ⟨p, ws, rfl, by rw [hK]; exact r1.sq o.fr.gh, by rw [r2.length]; exact hl, B, ρ, G, l, ρ', a, o, r2, e, q⟩
    · rw [if_neg hl] at e
      cases e
  | lst b l =>
    unfold gSq at e
    dsimp only at e
    by_cases hl : l.length = n
    · rw [if_pos hl] at e
      obtain ⟨p, ws, rfl, ⟨r1, _⟩, r2⟩ := r
      exact .inr ⟨p, ws, rfl, SqL.of (o.fr.gh _ _ r1), by rw [r2.length]; exact hl, B, ρ, G, l, ρ', a, o, r2, e, q⟩
    · rw [if_neg hl] at e
      cases e
  | _ => cases e

/-! ### a < b < c; what is never reached -/
def chainK (g' : D → D → Option SD) (b : D) (mc : M SD) : SD → M SD
  | .va (.bl true) => (fE mc).bind fun c => M.opt (g' b c)
  | .va (.bl false) => M.ret (.va (.bl false))
  | _ => M.no
def mChain (g g' : D → D → Option SD) (ma mb mc : M SD) : M SD := (fE ma).bind fun a => (fE mb).bind fun b => (M.opt (g a b)).bind (chainK g' b mc)
theorem chain_ok {σ : L2.St} {H : Hp} {Q : VK} {r r' : R2} {g g' : D → D → Option SD} {ma mb mc : M SD} (hr : OpD κ r g) (hr' : OpD κ r' g') (h : tE κ W (mChain g g' ma mb mc) σ H Q) : tChain r r' (tE κ W ma) (tE κ W mb) (tE κ W mc) σ H Q := by
  obtain ⟨B, ρ, G, o, q⟩ := h
  refine tE_fz o (Pst.bind q) fun d ρ1 H1 G1 o1 s1 q1 v1 r1 => ?_
  refine tE_fz o1 (Pst.bind q1) fun e ρ2 H2 G2 o2 s2 q2 v2 r2 => ?_
  obtain ⟨z, hz, q3⟩ := Pst.opt (Pst.bind q2)
  refine hr B ρ2 σ H2 G2 d e v1 v2 z _ o2 (Rep.mono (.of s2) d r1) r2 hz fun v H' G' o' s' rv => ?_
  have q4 := q3 H' G' o' s'
  unfold chainK at q4
  split at q4
  · have rv : v = V.bl true := rv
    subst rv
    refine ⟨true, rfl, iteT ?_⟩
    refine tE_fz o' (Pst.bind q4) fun f ρ3 H3 G3 o3 s3 q5 v3 r3 => ?_
    obtain ⟨z', hz', q6⟩ := Pst.opt q5
    exact hr' B ρ3 σ H3 G3 e f v2 v3 z' Q o3 (Rep.mono (.of (s'.trans s3)) e r2) r3 hz' fun v H4 G4 o4 s4 rv => q6 H4 G4 o4 s4 v rv
  · have rv : v = V.bl false := rv
    subst rv
    exact ⟨false, rfl, iteF (Pst.ret q4 o' _ rfl)⟩
  · exact q4.elim
theorem e_chain {a b c : Expr} {op op' : CmpOp} {r r' : R2} {g g' : D → D → Option SD} {ma mb mc : M SD} {pos : Pos} (ho : OpR X (compareOp op) r) (hr : OpD κ r g) (ho' : OpR X (compareOp op') r') (hr' : OpD κ r' g') (ha : PE X a (tE κ W ma)) (hb : PE X b (tE κ W mb)) (hc : PE X c (tE κ W mc))
    (hm : lastMarks [op, op'] [b, c] = false := by with_unfolding_all rfl) : PE X (.Compare a [op, op'] [b, c] pos) (tE κ W (mChain g g' ma mb mc)) := PE.imp (pe_chain ho ho' ha hb hc hm) fun _ _ _ => chain_ok hr hr'
theorem t_chain {a b c : Expr} {op op' : CmpOp} {r r' : R2} {g g' : D → D → Option SD} {ma mb mc : M SD} {pos : Pos} (ho : OpR X (compareOp op) r) (hr : OpD κ r g) (ho' : OpR X (compareOp op') r') (hr' : OpD κ r' g') (ha : PE X a (tE κ W ma)) (hb : PE X b (tE κ W mb)) (hc : PE X c (tE κ W mc))
    (hm : lastMarks [op, op'] [b, c] = false := by with_unfolding_all rfl) : PT X (.Compare a [op, op'] [b, c] pos) (tT κ W (mTst (mChain g g' ma mb mc))) := PT.imp (pt_chain ho ho' ha hb hc hm) fun _ _ _ q => chain_ok hr hr' (tst_ok q)
theorem s_no {A : List Nat} {e : Stmt} : PS X e (tS κ A W M.no) := ⟨fun _ _ _ _ _ _ ⟨_, _, _, _, _, q⟩ => q.elim⟩
end
end Fm

set_option maxHeartbeats 390000
namespace Fm
open L2 PySem PySem.Spec PyProof.Rows

/-! ### what a def leaves in its parameters: told for its callers' own objects alone -/
def nrm : List SD → List SD → List SD
  | .ow _ :: as, o :: os => o :: nrm as os
  | _ :: as, _ :: os => .un :: nrm as os
  | _, _ => []
def nrmF (as : List SD) : FR → FR
  | .ok r os => .ok r (nrm as os)
  | .ex x os => .ex x (nrm as os)
  | .no => .no
theorem nrm_at : ∀ {as os : List SD} {i : Nat} {d : D}, as[i]? = some (SD.ow d) → (nrm as os)[i]? = os[i]?
  | [], os, i, d, h => by simp at h
  | a :: as, [], i, d, h => by
    cases a <;> unfold nrm <;> simp
  | .ow c :: as, o :: os, 0, d, h => by
    unfold nrm
    rfl
  | .va c :: as, o :: os, 0, d, h => by cases h
  | .un :: as, o :: os, 0, d, h => by cases h
  | a :: as, o :: os, i + 1, d, h => by
    have ih := nrm_at (as := as) (os := os) (i := i) (d := d) h
    cases a <;> (unfold nrm; exact ih)
theorem After.nrm {κ : Ctx} {T : Pd} {G H : Hp} {as : List SD} {vs : List V} {os : List SD} {H' G' : Hp} (a : After κ T G H as vs os H' G') : After κ T G H as vs (nrm as os) H' G' :=
  ⟨a.keep, a.frz, a.sub, a.gh, a.notb, a.tabs, fun i d p e1 e2 => by
    rw [nrm_at e1]
    exact a.outs i d p e1 e2⟩
theorem ResOk.nrm {κ : Ctx} {T : Pd} {H : Hp} {as : List SD} {vs : List V} {os : List SD} {H' G' : Hp} {r : SD} {v : V} (a : ResOk κ T H as vs os H' G' r v) : ResOk κ T H as vs (nrm as os) H' G' r v := by
  cases r with
  | un => exact a
  | va d => exact a
  | ow d =>
    obtain ⟨q, e, h1, h2, h3, h4⟩ := a
    exact ⟨q, e, h1, h2, h3, fun i c p c' e1 e2 e3 => h4 i c p c' e1 e2 (by rw [← nrm_at e1]; exact e3)⟩
theorem spF_nrm {κ : Ctx} {n : Nat} {f : List SD → FR} {vs : List V} {H : Hp} {Q : VK} {E : XK} (q : spF κ n (fun as => nrmF as (f as)) vs H Q E) : spF κ n f vs H Q E := by
  obtain ⟨T, G, as, hl, p, q⟩ := q
  refine ⟨T, G, as, hl, p, ?_⟩
  cases e : f as with
  | ok r os =>
    simp only [e, nrmF] at q
    exact fun v H' G' a b => q v H' G' a.nrm b.nrm
  | ex x os =>
    simp only [e, nrmF] at q
    exact fun cls d H' G' a b => q cls d H' G' a.nrm b
  | no =>
    simp only [e, nrmF] at q
def runN (A : List Nat) (N : Nat) (s : S) (as : List SD) : FR := nrmF as (runF A N s as)
section
variable {P : Program} {w : World} {K : PySem.W.Frag} {f : Addr} {fd : FuncData} {mg : Str → Option Value} {base : Heap} {x qual : Str} {params : Arguments} {body : List Stmt} {scope : Scope} {dvs : List V} {kws : List (Str × V)}
theorem FnOk.weak {CX : CXT} {k : Nat} {ps : List Str} {sp sp' : Sp} (F : FnOk P w K mg base CX k f fd ps sp) (h : ∀ vs H Q E, sp' vs H Q E → sp vs H Q E) : FnOk P w K mg base CX k f fd ps sp' :=
  { F with
    len := fun vs H Q E q => F.len vs H Q E (h vs H Q E q)
    run := fun A outer s H args us vs Q E a b c d e => F.run A outer s H args us vs Q E a b c d (h vs H Q E e) }
/-- THE RULE of a def: its body does s -/
theorem def_okN {κ : Ctx} {A : List Nat} {N ps : List Str} {k : Nat} {s : S} (F : FunD K x qual params body scope dvs kws f fd) (Sc : FnScope N ps scope)
    (hbody : ∀ (cdv : Value) (Ar : Around) (outer : List Env) (s0 : Shared) (H : Hp) (E : XK), Room k (Ar.deeper (envOfC qual scope s0.heap.objs.size f cdv)) →
      PSs (cxOf (L2.CX P w) P w K mg base N qual scope f cdv Ar outer s0 H E) body (tS κ A (fun cls d _ H => E cls d H) s)) : FnOk P w K mg base (L2.CX P w) (k + 1) f fd ps (spF κ ps.length (runN A N.length s)) :=
  FnOk.weak (def_ok F Sc hbody) fun _ _ _ _ q => spF_nrm q
end
/-- a def that may be called by its name -/
structure Callee (P : Program) (w : World) (K : PySem.W.Frag) (mg : Str → Option Value) (base : Heap) (κ : Ctx) (x : Str) (k : Nat) (ps : List Str) (fn : List SD → FR) (f : Addr) (fd : FuncData) : Prop where
  ok : FnOk P w K mg base (L2.CX P w) k f fd ps (spF κ ps.length fn)
  gl : mg x = some (.ref f)
  kp : PySem.W.keepIn K (Value.ref f) = true
section
variable {X : Cx} {κ : Ctx} {W : WX} {k k' : Nat} {f : Addr} {fd : FuncData} {ps : List Str} {fn : List SD → FR} {x : Str} {p pos : Pos} {e : Expr} {es : List Expr} {n : M (List Ar)}
/-- f(e, ..), all parameters given -/
theorem e_callC (C : Callee X.prog X.w X.K X.mg X.base κ x k ps fn f fd) (hb : Binds X.K fd ps []) (hr : Room k' X.A) (hk : k ≤ k') (hg : Gl X x) (hx : PassW X W) (ha : PA X (e :: es) (tAr κ W n)) (hl : ALen n ps.length) (hdb : (x == ("__debug__" : Str)) = false := by decide) (he : starEach (e :: es) X.env = (false, eval e X.env) :: starEach es X.env := by rfl) (hpl : (backTo pos (starEach es X.env)).any (·.1) = false := by rfl) :
    PE X (.Call (.Name x p) (e :: es) [] pos) (tE κ W (mCall fn [] n)) :=
  e_call C.ok rfl (hr.mono hk) hg C.gl C.kp hb .nil (fun _ _ => rfl) hx ha (alen_ok hl (Nat.add_zero _)) hdb he hpl
theorem e_one {op : BoolOp} {a : Expr} {m : M SD} (h : PE X a (tE κ W m)) : PE X (.BoolOp op [a] pos) (tE κ W m) := pe_one h
end
end Fm

set_option maxHeartbeats 390000
namespace Fm
open L2 PySem PySem.Spec PyProof.Rows

/-! ### the end of a law -/
theorem ints_rep {κ : Ctx} {T : Pd} {G : Hp} : ∀ ns : List Int, RepL κ T G (ns.map D.int) (ns.map V.int)
  | [] => rfl
  | n :: ns => ⟨.int n, ns.map V.int, rfl, rfl, ints_rep ns⟩
/-- what a law's def has to answer: at every script True -/
def Truth (f : List SD → FR) : Prop := ∀ ns : List Int, ns.length ≤ 63 → (∀ z ∈ ns, Builtin.Int.intBits z ≤ 1048576) → ∀ d : D, d = .scr (ns.map D.int) ∨ d = .lst false (ns.map D.int) → ∃ outs, f [.va d] = .ok (.va (.bl true)) outs
/-- .. is enough -/
theorem law_at {l : PySem.W.OpenLaw} {w : World} {K : PySem.W.Frag} {cl : String → Addr} {tabs : List (Addr × Str)} {cs : List (Addr × Addr)} {k : Nat} {x : Str} {mg : Str → Option Value} {fa : Addr} {h : Heap} {fd : FuncData} {f : List SD → FR}
    (ht : ∀ p ∈ tabs, ∃ c, (c, p.1) ∈ cs) (h1 : ∀ p ∈ cs, h.get? p.2 = some { cls := .none, data := .fields #[] }) (h2 : ∀ p ∈ cs, K.lookup p.2 = none) (h3 : ∀ p ∈ cs, PySem.W.CodeHd h p.1 p.2)
    (hb : ∀ (s : Shared) (u : Value), BindsTo s fd ⟨[u], []⟩ [(x, u)]) (hf : Truth f)
    (F : ∀ base : Heap, K.In base → base.Ns mainGlobals mg → (∀ p ∈ cs, LamX.TabB base mg p.1 p.2) → FnOk l.prog w K mg base (L2.CX l.prog w) k fa fd [x] (spF ⟨K, cl, tabs, w⟩ 1 f)) :
    LamX.LawAtS l w K (L2.CX l.prog w) k 63 x mg fa h := by
  refine ⟨fd, cs, _, h1, h2, h3, hb, fun H a ns hl hbits hH hS => ?_, F⟩
  have tb : LamX.Tabs tabs H := fun p hp => by
    obtain ⟨c, hc⟩ := ht p hp
    exact LamX.TabS.nil (hH _ hc)
  have fin : ∀ (G : Hp) (d : D), (d = .scr (ns.map D.int) ∨ d = .lst false (ns.map D.int)) → Same G H → (∀ a ps, G a ≠ some (.tbl ps)) → Rep ⟨K, cl, tabs, w⟩ (fun _ => False) G d (.ref a) → spF ⟨K, cl, tabs, w⟩ 1 f [.ref a] H (fun v _ => v = .bl true) fun _ _ _ => False := fun G d hd s nb r => by
    obtain ⟨outs, e⟩ := hf ns hl hbits d hd
    refine ⟨fun _ => False, G, [.va d], rfl, ⟨⟨_, [], rfl, r, rfl⟩, List.nodup_nil, s, nb, tb, fun _ z => z.elim⟩, ?_⟩
    rw [e]
    exact fun v H' G' _ rv => rv
  have one : ∀ o : HO, H a = some o → (∀ ps, o ≠ .tbl ps) → Same (fun b => if b = a then some o else none) H ∧ ∀ b ps, (fun b => if b = a then some o else none : Hp) b ≠ some (.tbl ps) := fun o ho n => by
    refine ⟨fun b u e => ?_, fun b ps e => ?_⟩
    · by_cases hb : b = a
      · simp only [hb, if_true] at e
        rw [hb, ho, e]
      · simp only [if_neg hb] at e
        cases e
    · by_cases hb : b = a
      · simp only [hb, if_true] at e
        exact n ps (Option.some.inj e)
      · simp only [if_neg hb] at e
        cases e
  rcases hS with (hS | ⟨o, hS⟩) | hS
  · obtain ⟨q1, q2⟩ := one _ hS fun _ z => by cases z
    exact fin _ _ (.inr rfl) q1 q2 ⟨a, ns.map V.int, rfl, ⟨if_pos rfl, fun z => z.elim, fun z => by cases z⟩, ints_rep ns⟩
  · obtain ⟨q1, q2⟩ := one _ hS fun _ z => by cases z
    exact fin _ _ (.inl rfl) q1 q2 ⟨a, ns.map V.int, rfl, .inl (.inl ⟨o, if_pos rfl⟩), ints_rep ns⟩
  · exact fin (fun _ => none) _ (.inl rfl) (fun _ _ e => by cases e) (fun _ _ e => by cases e) ⟨a, ns.map V.int, rfl, .inl (.inr hS), ints_rep ns⟩
theorem cx_no {P : Program} {w : World} {H : Hp} {s : Shared} {e : Value} {s' : Shared} (h : L2.CX P w [] H s (fun _ _ _ => False) e s') : False := by
  exact h.elim fun _ ⟨_, _, _, _, _, _, _, _, _, _, _, z⟩ => z
end Fm

set_option maxHeartbeats 390000
namespace Fm
open L2 PySem PySem.Spec PyProof.Rows

/-! ### turns -/
def lcT (vs : List Nat) (tg : D → List SD → Option (List SD)) (tt : M Bool) (te : M SD) (d : D) (ρ : List SD) : Rs (Option D) := match tg d (wipeR ρ vs) with
  | none => .no
  | some ρ1 => match tt ρ1 with
    | .ok false ρ2 => .ok none (unw ρ ρ2 vs)
    | .ok true ρ2 => match fE te ρ2 with
      | .ok y ρ3 => .ok (some y) (unw ρ ρ3 vs)
      | _ => .no
    | _ => .no
section
variable {vs : List Nat} {tg : D → List SD → Option (List SD)} {tt : M Bool} {te : M SD}
theorem lcL_step {d : D} {l acc : List D} {ρ : List SD} : lcL vs tg tt te (d :: l) acc ρ = match tg d (wipeR ρ vs) with
    | none => .no
    | some ρ1 => match tt ρ1 with
      | .ok false ρ2 => lcL vs tg tt te l acc (unw ρ ρ2 vs)
      | .ok true ρ2 => match fE te ρ2 with
        | .ok y ρ3 => if acc.length < 1000000 then lcL vs tg tt te l (acc ++ [y]) (unw ρ ρ3 vs) else .no
        | _ => .no
      | _ => .no := rfl
theorem lcL_some {d : D} {l acc : List D} {ρ ρ' : List SD} {y : D} (h : lcT vs tg tt te d ρ = .ok (some y) ρ') (ha : acc.length < 1000000) : lcL vs tg tt te (d :: l) acc ρ = lcL vs tg tt te l (acc ++ [y]) ρ' := by
  rw [lcL_step]
  unfold lcT at h
  revert h
  cases tg d (wipeR ρ vs) with
  | none => intro h; cases h
  | some ρ1 =>
    dsimp only
    cases tt ρ1 with
    | ok k ρ2 =>
      cases k with
      | false => intro h; cases h
      | true =>
        dsimp only
        cases fE te ρ2 with
        | ok z ρ3 =>
          intro h
          cases h
          exact if_pos ha
        | ex x ρ3 => intro h; cases h
        | no => intro h; cases h
    | ex x ρ2 => intro h; cases h
    | no => intro h; cases h
/-- a comprehension whose turns each give something -/
theorem lc_ex {l : List D} (I : Nat → List SD → Prop) (P : Nat → D → Prop) (step : ∀ (i : Nat) (d : D) (ρ : List SD), l[i]? = some d → I i ρ → ∃ y ρ', lcT vs tg tt te d ρ = .ok (some y) ρ' ∧ P i y ∧ I (i + 1) ρ') {ρ : List SD} (h0 : I 0 ρ) (hl : l.length ≤ 1000000) :
    ∃ ys ρ', lcL vs tg tt te l [] ρ = .ok ys ρ' ∧ ys.length = l.length ∧ (∀ (i : Nat) (y : D), ys[i]? = some y → P i y) ∧ I l.length ρ' := by
  have go : ∀ (n : Nat) (m acc : List D) (i : Nat) (ρ : List SD), m.length = n → l.drop i = m → acc.length = i → i ≤ l.length → (∀ (i : Nat) (y : D), acc[i]? = some y → P i y) → I i ρ →
      ∃ ys ρ', lcL vs tg tt te m acc ρ = .ok ys ρ' ∧ ys.length = l.length ∧ (∀ (i : Nat) (y : D), ys[i]? = some y → P i y) ∧ I l.length ρ' := by
    intro n
    induction n with
    | zero =>
      intro m acc i ρ hn hd ha hi hp hI
      have hm : m = [] := List.eq_nil_of_length_eq_zero hn
      subst hm
      have hi' : i = l.length := by
        have z := List.drop_eq_nil_iff.mp hd
        omega
      subst hi'
      exact ⟨acc, ρ, by rw [lcL], ha, hp, hI⟩
    | succ n ih =>
      intro m acc i ρ hn hd ha hi hp hI
      cases m with
      | nil => cases hn
      | cons d m =>
        have hlt : i < l.length := by
          have z := congrArg List.length hd
          rw [List.length_drop, List.length_cons] at z
          omega
        have hgd : l[i]? = some d := by
          rw [List.drop_eq_getElem_cons hlt] at hd
          rw [List.getElem?_eq_getElem hlt]
          cases hd
          rfl
        have hm : l.drop (i + 1) = m := by
          rw [List.drop_eq_getElem_cons hlt] at hd
          cases hd
          rfl
        obtain ⟨y, ρ', e1, e2, e3⟩ := step i d ρ hgd hI
        rw [lcL_some e1 (by omega)]
        refine ih m (acc ++ [y]) (i + 1) ρ' (by simpa using hn) hm (by rw [List.length_append, ha]; rfl) hlt (fun j z hz => ?_) e3
        by_cases hj : j < acc.length
        · rw [List.getElem?_append_left hj] at hz
          exact hp j z hz
        · rw [List.getElem?_append_right (by omega)] at hz
          have : j = i := by
            have q := (List.getElem?_eq_some_iff.mp hz).1
            simp at q
            omega
          subst this
          rw [ha, Nat.sub_self] at hz
          cases hz
          exact e2
  exact go l.length l [] 0 ρ rfl rfl rfl (Nat.zero_le _) (fun i y h => by simp at h) h0
end
/-- ranges -/
theorem rngD_len (lo : Int) (n : Nat) : (rngD lo n).length = n := by simp [rngD]
theorem rngD_at {lo : Int} {n i : Nat} (h : i < n) : (rngD lo n)[i]? = some (.int (lo + (i : Nat))) := by
  unfold rngD
  rw [List.getElem?_map, List.getElem?_range h]
  rfl
theorem peq_int (a b : Int) : peq (.int a) (.int b) = decide (a = b) := by
  show PyData.eqv (.int a) (.int b) = _
  unfold PyData.eqv
  rfl
theorem pl_int (n : Nat) (a : Int) : D.pl n (.int a) = true := by cases n <;> rfl
end Fm

set_option maxHeartbeats 390000
namespace Fm
open L2 PySem PySem.Spec PyProof.Rows

/-! ### numbers -/
/-- size -/
def Sz (k : Nat) (i : Int) : Prop := i.natAbs < 2 ^ k
theorem Sz.mono {j k : Nat} {i : Int} (h : Sz j i) (l : j ≤ k) : Sz k i := Nat.lt_of_lt_of_le h (Nat.pow_le_pow_right (by decide) l)
theorem Sz.add {j : Nat} {a b : Int} (h : Sz j a) (l : Sz j b) : Sz (j + 1) (a + b) := by
  unfold Sz at *
  have z := Int.natAbs_add_le a b
  rw [Nat.pow_succ]
  omega
theorem Sz.neg {j : Nat} {a : Int} (h : Sz j a) : Sz j (-a) := by
  unfold Sz at *
  rw [Int.natAbs_neg]
  exact h
theorem Sz.sub {j : Nat} {a b : Int} (h : Sz j a) (l : Sz j b) : Sz (j + 1) (a - b) := by
  rw [Int.sub_eq_add_neg]
  exact h.add l.neg
theorem log2_le {n k : Nat} (h : n < 2 ^ k) : n.log2 ≤ k := by
  by_cases hn : n = 0
  · rw [hn]
    exact Nat.zero_le _
  · exact Nat.le_of_lt ((Nat.log2_lt hn).mpr h)
theorem mulG_of {j k : Nat} {a b : Int} (h : Sz j a) (l : Sz k b) (s : j + k < 1000000) : mulG a b := by
  have h1 := log2_le h
  have h2 := log2_le l
  unfold mulG
  omega
theorem divG_of {k : Nat} {a b : Int} (hb : b ≠ 0) (l : Sz k b) (s : k < 9000) : divG a b := by
  have h2 := log2_le l
  exact ⟨hb, .inl (by omega)⟩
/-! ### lowest terms -/
def byG (a b : Int) : Int := if b < 0 then 0 - (Int.gcd a b : Int) else (Int.gcd a b : Int)
def lo (a b : Int) : Int × Int := (a.fdiv (byG a b), b.fdiv (byG a b))
/-! ### places -/
theorem ixN_nat (len n : Nat) : ixN len (n : Int) = if n < len then some n else none := by
  unfold ixN
  rw [if_pos (Int.natCast_nonneg n)]
  by_cases h : n < len
  · rw [if_pos (show n < len from h), if_pos (by omega)]
    rfl
  · rw [if_neg (show ¬ n < len from h), if_neg (by omega)]
theorem atI_nat {α : Type} (l : List α) (n : Nat) : atI l (n : Int) = l[n]? := by
  unfold atI
  rw [ixN_nat]
  by_cases h : n < l.length
  · rw [if_pos h]
    rfl
  · rw [if_neg h, List.getElem?_eq_none_iff.mpr (by omega)]
    rfl
end Fm

set_option maxHeartbeats 390000
namespace Fm
open L2 PySem PySem.Spec PyProof.Rows

/-- turns enough for a number that goes down to 0 -/
def absFuel (i : Nat) (ρ : List SD) : Nat := match ρ[i]? with
  | some (.va (.int b)) => b.natAbs + 2
  | _ => 0
/-! ### what is wanted behind a piece: a calculus over data -/
structure Wp {α : Type} (m : M α) (ρ : List SD) (p : α → List SD → Prop) (E : Exn → List SD → Prop) : Prop where
  run : match m ρ with
    | .ok a ρ' => p a ρ'
    | .ex x ρ' => E x ρ'
    | .no => False
structure Fw (r : FR) (p : SD → List SD → Prop) (E : Exn → List SD → Prop) : Prop where
  run : match r with
    | .ok a o => p a o
    | .ex x o => E x o
    | .no => False
abbrev NoX : Exn → List SD → Prop := fun _ _ => False
def Ow (r : Option SD) (p : SD → Prop) : Prop := ∃ z, r = some z ∧ p z
theorem Wp.mono {α : Type} {m : M α} {ρ : List SD} {p q : α → List SD → Prop} {E F : Exn → List SD → Prop} (h : Wp m ρ p E) (f : ∀ a ρ', p a ρ' → q a ρ') (g : ∀ x ρ', E x ρ' → F x ρ') : Wp m ρ q F := by
  refine ⟨?_⟩
  have h := h.run
  split
  · rename_i e
    rw [e] at h
    exact f _ _ h
  · rename_i e
    rw [e] at h
    exact g _ _ h
  · rename_i e
    rw [e] at h
    exact h
theorem Fw.ok {f : FR} {p : SD → List SD → Prop} (h : Fw f p NoX) : ∃ r o, f = .ok r o ∧ p r o := by
  have h := h.run
  split at h
  · exact ⟨_, _, rfl, h⟩
  · exact h.elim
  · exact h.elim
section
variable {α β : Type} {ρ : List SD} {E : Exn → List SD → Prop}
theorem w_bind {m : M α} {k : α → M β} {p : β → List SD → Prop} (h : Wp m ρ (fun a ρ' => Wp (k a) ρ' p E) E) : Wp (m.bind k) ρ p E := by
  refine ⟨?_⟩
  have h := h.run
  unfold M.bind
  cases e : m ρ with
  | ok a ρ' =>
    rw [e] at h
    exact h.run
  | ex x ρ' =>
    rw [e] at h
    exact h
  | no =>
    rw [e] at h
    exact h
theorem w_pure {a : α} {p : α → List SD → Prop} (h : p a ρ) : Wp (M.ret a) ρ p E := ⟨h⟩
theorem w_opt {o : Option α} {p : α → List SD → Prop} (h : ∃ z, o = some z ∧ p z ρ) : Wp (M.opt o) ρ p E := by
  obtain ⟨z, rfl, h⟩ := h
  exact ⟨h⟩
variable {p : SD → List SD → Prop} {q : D → List SD → Prop} {t : Bool → List SD → Prop} {s : Fl → List SD → Prop} {pl : List D → List SD → Prop} {pa : List Ar → List SD → Prop}
theorem w_c {d : D} (h : p (.va d) ρ) : Wp (mC d) ρ p E := ⟨h⟩
theorem w_fz {m : M SD} (h : Wp m ρ (fun r ρ' => Wp (fzM r) ρ' q E) E) : Wp (fE m) ρ q E := w_bind h
theorem w_fzV {d : D} (h : q d ρ) : Wp (fzM (.va d)) ρ q E := ⟨h⟩
theorem w_fzL {b : Bool} {l : List D} (h : q (.lst false l) ρ) : Wp (fzM (.ow (.lst b l))) ρ q E := ⟨h⟩
theorem w_var {i : Nat} {d : D} (e : ρ[i]? = some (.va d)) (h : p (.va d) ρ) : Wp (mVar i) ρ p E := by
  refine ⟨?_⟩
  unfold mVar
  rw [e]
  exact h
theorem w_varO {i : Nat} {b : Bool} {l : List D} (e : ρ[i]? = some (.ow (.lst b l))) (h : p (.va (.lst false l)) (ρ.set i (.va (.lst false l)))) : Wp (mVar i) ρ p E := by
  refine ⟨?_⟩
  unfold mVar
  rw [e]
  exact h
theorem w_mov {i : Nat} {d : D} (e : ρ[i]? = some (.va d)) (h : p (.va d) ρ) : Wp (mMov i) ρ p E := by
  refine ⟨?_⟩
  unfold mMov
  rw [e]
  exact h
theorem w_movO {i : Nat} {d : D} (e : ρ[i]? = some (.ow d)) (h : p (.ow d) (ρ.set i .un)) : Wp (mMov i) ρ p E := by
  refine ⟨?_⟩
  unfold mMov
  rw [e]
  exact h
theorem w_op {g : D → D → Option SD} {ma mb : M SD} (h : Wp (fE ma) ρ (fun d ρ1 => Wp (fE mb) ρ1 (fun e ρ2 => Ow (g d e) fun z => p z ρ2) E) E) : Wp (mOp g ma mb) ρ p E := by
  refine w_bind (h.mono (fun d ρ1 h => w_bind (h.mono (fun e ρ2 h => w_opt h) fun _ _ z => z)) fun _ _ z => z)
theorem w_un {g : D → Option SD} {ma : M SD} (h : Wp (fE ma) ρ (fun d ρ1 => Ow (g d) fun z => p z ρ1) E) : Wp (mUn g ma) ρ p E := w_bind (h.mono (fun d ρ1 h => w_opt h) fun _ _ z => z)
theorem w_chain {g g' : D → D → Option SD} {ma mb mc : M SD} (h : Wp (fE ma) ρ (fun d ρ1 => Wp (fE mb) ρ1 (fun e ρ2 => Ow (g d e) fun z => Wp (chainK g' e mc z) ρ2 p E) E) E) : Wp (mChain g g' ma mb mc) ρ p E :=
  w_bind (h.mono (fun d ρ1 h => w_bind (h.mono (fun e ρ2 h => w_bind (w_opt h)) fun _ _ z => z)) fun _ _ z => z)
theorem w_chK {g' : D → D → Option SD} {e : D} {mc : M SD} {b : Bool} (h : (b = true → Wp (fE mc) ρ (fun f ρ1 => Ow (g' e f) fun z => p z ρ1) E) ∧ (b = false → p (.va (.bl false)) ρ)) : Wp (chainK g' e mc (.va (.bl b))) ρ p E := by
  cases b with
  | true => exact w_bind ((h.1 rfl).mono (fun _ _ h => w_opt h) fun _ _ z => z)
  | false => exact ⟨h.2 rfl⟩
/-! tests -/
theorem w_tst {m : M SD} (h : Wp (fE m) ρ (fun d ρ' => ∃ b, d = .bl b ∧ t b ρ') E) : Wp (mTst m) ρ t E := w_bind (h.mono (fun d ρ' h => by
  obtain ⟨b, rfl, h⟩ := h
  exact ⟨h⟩) fun _ _ z => z)
theorem w_not {m : M Bool} (h : Wp m ρ (fun b ρ' => t (!b) ρ') E) : Wp (mNot m) ρ t E := w_bind (h.mono (fun _ _ h => ⟨h⟩) fun _ _ z => z)
theorem w_andT {m n : M Bool} (h : Wp m ρ (fun b ρ' => (b = true → Wp n ρ' t E) ∧ (b = false → t false ρ')) E) : Wp (mAnd m n) ρ t E := w_bind (h.mono (fun b ρ' h => by
  cases b with
  | true => exact h.1 rfl
  | false => exact ⟨h.2 rfl⟩) fun _ _ z => z)
theorem w_orT {m n : M Bool} (h : Wp m ρ (fun b ρ' => (b = true → t true ρ') ∧ (b = false → Wp n ρ' t E)) E) : Wp (mOr m n) ρ t E := w_bind (h.mono (fun b ρ' h => by
  cases b with
  | true => exact ⟨h.1 rfl⟩
  | false => exact h.2 rfl) fun _ _ z => z)
theorem w_andV {m n : M SD} (h : Wp (mTst m) ρ (fun b ρ' => (b = true → Wp n ρ' p E) ∧ (b = false → p (.va (.bl false)) ρ')) E) : Wp (mAndV m n) ρ p E := w_bind (h.mono (fun b ρ' h => by
  cases b with
  | true => exact h.1 rfl
  | false => exact ⟨h.2 rfl⟩) fun _ _ z => z)
theorem w_notV {m : M SD} (h : Wp (mTst m) ρ (fun b ρ' => p (.va (.bl (!b))) ρ') E) : Wp (mNotV m) ρ p E := w_bind (h.mono (fun _ _ h => ⟨h⟩) fun _ _ z => z)
theorem w_ife {c : M Bool} {m n : M SD} (h : Wp c ρ (fun b ρ' => (b = true → Wp m ρ' p E) ∧ (b = false → Wp n ρ' p E)) E) : Wp (mIfE c m n) ρ p E := w_bind (h.mono (fun b ρ' h => by
  cases b with
  | true => exact h.1 rfl
  | false => exact h.2 rfl) fun _ _ z => z)
/-! arguments, displays, calls -/
theorem w_nil (h : pl [] ρ) : Wp mNil ρ pl E := ⟨h⟩
theorem w_cons {m : M SD} {n : M (List D)} (h : Wp (fE m) ρ (fun d ρ1 => Wp n ρ1 (fun ds ρ2 => pl (d :: ds) ρ2) E) E) : Wp (mCons m n) ρ pl E := w_bind (h.mono (fun _ _ h => w_bind (h.mono (fun _ _ h => ⟨h⟩) fun _ _ z => z)) fun _ _ z => z)
theorem w_anil (h : pa [] ρ) : Wp aNil ρ pa E := ⟨h⟩
theorem w_ava {m : M SD} {n : M (List Ar)} (h : Wp (fE m) ρ (fun d ρ1 => Wp n ρ1 (fun ds ρ2 => pa (.va d :: ds) ρ2) E) E) : Wp (aVa m n) ρ pa E := w_bind (h.mono (fun _ _ h => w_bind (h.mono (fun _ _ h => ⟨h⟩) fun _ _ z => z)) fun _ _ z => z)
theorem w_asl {i : Nat} {n : M (List Ar)} (g : isSet ρ[i]? = true) (h : Wp n ρ (fun ds ρ2 => pa (.sl i :: ds) ρ2) E) : Wp (aSl i n) ρ pa E := by
  refine ⟨?_⟩
  unfold aSl
  rw [if_pos g]
  exact (w_bind (p := pa) (h.mono (fun _ _ h => ⟨h⟩) fun _ _ z => z)).run
theorem w_tup {n : M (List D)} (h : Wp n ρ (fun ds ρ' => ds.length ≤ 1000 ∧ p (.va (.tup ds)) ρ') E) : Wp (mTup n) ρ p E := w_bind (h.mono (fun ds ρ' h => by
  rw [if_pos h.1]
  exact ⟨h.2⟩) fun _ _ z => z)
theorem w_lst {n : M (List D)} (h : Wp n ρ (fun ds ρ' => ds.length ≤ 1000 ∧ p (.ow (.lst false ds)) ρ') E) : Wp (mLst n) ρ p E := w_bind (h.mono (fun ds ρ' h => by
  rw [if_pos h.1]
  exact ⟨h.2⟩) fun _ _ z => z)
theorem w_cb {g : List D → Option SD} {n : M (List D)} (h : Wp n ρ (fun ds ρ' => Ow (g ds) fun z => p z ρ') E) : Wp (mCB g n) ρ p E := w_bind (h.mono (fun _ _ h => w_opt h) fun _ _ z => z)
theorem w_call {f : List SD → FR} {dd : List D} {n : M (List Ar)} (h : Wp n ρ (fun as ρ' => (slots as).Nodup ∧ ∃ xs, getAs ρ' as = some xs ∧ Fw (f (xs ++ dd.map SD.va)) (fun r o => p r (putAs ρ' as o)) fun x o => E x (putAs ρ' as o)) E) : Wp (mCall f dd n) ρ p E := w_bind (h.mono (fun as ρ' h => by
  obtain ⟨h1, xs, h2, h3⟩ := h
  refine ⟨?_⟩
  simp only [if_pos h1, h2]
  have h3 := h3.run
  split at h3
  · rename_i e
    simp only [e]
    exact h3
  · rename_i e
    simp only [e]
    exact h3
  · exact h3.elim) fun _ _ z => z)
theorem fw_ok {f : FR} {r : SD} {o : List SD} (e : f = .ok r o) (h : p r o) : Fw f p E := by
  rw [e]
  exact ⟨h⟩
theorem w_app {i : Nat} {n : M (List D)} {b : Bool} {l : List D} (e : ρ[i]? = some (.ow (.lst b l))) (h : Wp n ρ (fun ds ρ' => ∃ b l v, ρ'[i]? = some (.ow (.lst b l)) ∧ ds = [v] ∧ l.length < 1000000 ∧ p (.va .non) (ρ'.set i (.ow (.lst b (l ++ [v]))))) E) : Wp (mApp i n) ρ p E := by
  refine ⟨?_⟩
  unfold mApp
  rw [if_pos (by rw [e]; rfl)]
  refine Wp.run (E := E) (p := p) ?_
  refine w_bind (p := p) (h.mono (fun ds ρ' h => ?_) fun _ _ z => z)
  obtain ⟨b, l, v, e1, rfl, hl, h⟩ := h
  refine ⟨?_⟩
  unfold appS
  simp only [e1, if_pos hl]
  exact h
theorem w_sl {m : M SD} {ml mh : M (Option Int)} (h : Wp (fE m) ρ (fun d ρ1 => Wp ml ρ1 (fun lo ρ2 => Wp mh ρ2 (fun hi ρ3 => Ow (slcD d lo hi) fun z => p z ρ3) E) E) E) : Wp (mSl m ml mh) ρ p E :=
  w_bind (h.mono (fun _ _ h => w_bind (h.mono (fun _ _ h => w_bind (h.mono (fun _ _ h => w_opt h) fun _ _ z => z)) fun _ _ z => z)) fun _ _ z => z)
variable {po : Option Int → List SD → Prop}
theorem w_pn (h : po none ρ) : Wp mPN ρ po E := ⟨h⟩
theorem w_ps {m : M SD} (h : Wp (fE m) ρ (fun d ρ' => ∃ i, d = .int i ∧ po (some i) ρ') E) : Wp (mPS m) ρ po E := w_bind (h.mono (fun d ρ' h => by
  obtain ⟨i, rfl, h⟩ := h
  exact ⟨h⟩) fun _ _ z => z)
theorem w_lc {it : M (List D)} {vs : List Nat} {g : D → List SD → Option (List SD)} {tt : M Bool} {te : M SD} (h : Wp it ρ (fun l ρ1 => Wp (lcL vs g tt te l []) ρ1 (fun ys ρ2 => p (.ow (.lst false ys)) ρ2) E) E) : Wp (mLc it vs g tt te) ρ p E := w_bind (h.mono (fun _ _ h => w_bind (h.mono (fun _ _ h => ⟨h⟩) fun _ _ z => z)) fun _ _ z => z)
/-! what is walked -/
theorem w_rng1 {n : M (List D)} (h : Wp n ρ (fun ds ρ' => ∃ j, ds = [.int j] ∧ (-(2 ^ 62) ≤ j ∧ j < 2 ^ 62) ∧ pl (rngD 0 j.toNat) ρ') E) : Wp (iRg1 n) ρ pl E := w_bind (h.mono (fun ds ρ' h => by
  obtain ⟨j, rfl, hj, h⟩ := h
  show Wp (if -(2 ^ 62) ≤ j ∧ j < 2 ^ 62 then M.ret (rngD 0 j.toNat) else M.no) ρ' pl E
  rw [if_pos hj]
  exact ⟨h⟩) fun _ _ z => z)
theorem w_zip {n : M (List D)} (h : Wp n ρ (fun ds ρ' => ∃ d e b l c m, ds = [d, e] ∧ d.seq = some (b, l) ∧ e.seq = some (c, m) ∧ l.length = m.length ∧ pl (zipP l m) ρ') E) : Wp (iZp n) ρ pl E := w_bind (h.mono (fun ds ρ' h => by
  obtain ⟨d, e, b, l, c, m, rfl, e1, e2, hl, h⟩ := h
  show Wp (match d.seq, e.seq with
    | some (_, l), some (_, m) => if l.length = m.length then M.ret (zipP l m) else M.no
    | _, _ => M.no) ρ' pl E
  rw [e1, e2]
  dsimp only
  rw [if_pos hl]
  exact ⟨h⟩) fun _ _ z => z)
/-! statements -/
theorem w_sseq {a b : S} (h : Wp a ρ (fun f ρ1 => match f with | .nx => Wp b ρ1 s E | f => s f ρ1) E) : Wp (sSeq a b) ρ s E := by
  refine ⟨?_⟩
  have h := h.run
  unfold sSeq
  cases e : a ρ with
  | ok f ρ1 =>
    rw [e] at h
    cases f <;> first | exact h.run | exact h
  | ex x ρ1 =>
    rw [e] at h
    exact h
  | no =>
    rw [e] at h
    exact h
theorem w_nx (h : s .nx ρ) : Wp sNx ρ s E := ⟨h⟩
theorem w_ret {m : M SD} (h : Wp m ρ (fun r ρ' => s (.rt r) ρ') E) : Wp (sRet m) ρ s E := w_bind (h.mono (fun _ _ h => ⟨h⟩) fun _ _ z => z)
theorem w_set {i : Nat} {m : M SD} (h : Wp m ρ (fun r ρ' => s .nx (ρ'.set i r)) E) : Wp (sSet i m) ρ s E := w_bind (h.mono (fun _ _ h => ⟨h⟩) fun _ _ z => z)
theorem w_drop {m : M SD} (h : Wp m ρ (fun r ρ' => s .nx ρ') E) : Wp (sDrop m) ρ s E := w_bind (h.mono (fun _ _ h => ⟨h⟩) fun _ _ z => z)
theorem w_if {c : M Bool} {a b : S} (h : Wp c ρ (fun k ρ' => (k = true → Wp a ρ' s E) ∧ (k = false → Wp b ρ' s E)) E) : Wp (sIf c a b) ρ s E := w_bind (h.mono (fun b ρ' h => by
  cases b with
  | true => exact h.1 rfl
  | false => exact h.2 rfl) fun _ _ z => z)
theorem w_asg {g : D → List SD → Option (List SD)} {m : M SD} (h : Wp (fE m) ρ (fun d ρ' => ∃ ρ2, g d ρ' = some ρ2 ∧ s .nx ρ2) E) : Wp (sAsg g m) ρ s E := w_bind (h.mono (fun d ρ' h => by
  obtain ⟨ρ2, e, h⟩ := h
  refine ⟨?_⟩
  simp only [e]
  exact h) fun _ _ z => z)
theorem w_for {m : M (List D)} {g : D → List SD → Option (List SD)} {b : S} (h : Wp m ρ (fun l ρ' => Wp (forL g b l) ρ' s E) E) : Wp (sFor m g b) ρ s E := w_bind h
/-- a for loop: I holds ahead of turn i -/
theorem w_forL {g : D → List SD → Option (List SD)} {b : S} {l : List D} (I : Nat → List SD → Prop)
    (step : ∀ (i : Nat) (d : D) (ρ : List SD), l[i]? = some d → I i ρ → ∃ ρ1, g d ρ = some ρ1 ∧ Wp b ρ1 (fun f ρ2 => match f with | .nx => I (i + 1) ρ2 | .ct => I (i + 1) ρ2 | .bk => s .nx ρ2 | .rt r => s (.rt r) ρ2) E)
    (h0 : I 0 ρ) (fin : ∀ ρ', I l.length ρ' → s .nx ρ') : Wp (forL g b l) ρ s E := by
  have go : ∀ (m : List D) (i : Nat) (ρ : List SD), l.drop i = m → i ≤ l.length → I i ρ → Wp (forL g b m) ρ s E := by
    intro m
    induction m with
    | nil =>
      intro i ρ hd hi hI
      have hi' : i = l.length := by
        have z := List.drop_eq_nil_iff.mp hd
        omega
      subst hi'
      exact ⟨fin ρ hI⟩
    | cons d m ih =>
      intro i ρ hd hi hI
      have hlt : i < l.length := by
        have z := congrArg List.length hd
        rw [List.length_drop, List.length_cons] at z
        omega
      have hgd : l[i]? = some d := by
        rw [List.drop_eq_getElem_cons hlt] at hd
        rw [List.getElem?_eq_getElem hlt]
        cases hd
        rfl
      have hm : l.drop (i + 1) = m := by
        rw [List.drop_eq_getElem_cons hlt] at hd
        cases hd
        rfl
      obtain ⟨ρ1, e1, h⟩ := step i d ρ hgd hI
      refine ⟨?_⟩
      have h := h.run
      unfold forL
      simp only [e1]
      cases eb : b ρ1 with
      | ok f ρ2 =>
        rw [eb] at h
        cases f with
        | nx => exact (ih (i + 1) ρ2 hm hlt h).run
        | ct => exact (ih (i + 1) ρ2 hm hlt h).run
        | bk => exact h
        | rt r => exact h
      | ex x ρ2 =>
        rw [eb] at h
        exact h
      | no =>
        rw [eb] at h
        exact h
  exact go l 0 ρ rfl (Nat.zero_le _) h0
/-- a def's body -/
theorem fw_run {A : List Nat} {N : Nat} {b : S} {as : List SD} {p : SD → List SD → Prop} (ho : (ownIx 0 as).all (A.contains ·) = true)
    (h : Wp b (as ++ List.replicate (N - as.length) SD.un) (fun f ρ' => match f with | .rt r => p r (nrm as (ρ'.take as.length)) | .nx => p (.va .non) (nrm as (ρ'.take as.length)) | _ => False) fun x ρ' => E x (nrm as (ρ'.take as.length))) : Fw (Fm.runN A N b as) p E := by
  refine ⟨?_⟩
  unfold Fm.runN runF
  rw [if_pos ho]
  have h := h.run
  cases e : b (as ++ List.replicate (N - as.length) SD.un) with
  | ok f ρ' =>
    rw [e] at h
    cases f with
    | rt r => exact h
    | nx => exact h
    | bk => exact h.elim
    | ct => exact h.elim
  | ex x ρ' =>
    rw [e] at h
    exact h
  | no =>
    rw [e] at h
    exact h.elim
/-! turns of comprehensions -/
theorem lc_turn {vs : List Nat} {g : D → List SD → Option (List SD)} {te : M SD} {d : D} {ρ1 : List SD} {P : D → List SD → Prop} (e : g d (wipeR ρ vs) = some ρ1) (h : Wp (fE te) ρ1 (fun y ρ3 => P y (unw ρ ρ3 vs)) NoX) : ∃ y ρ', lcT vs g (M.ret true) te d ρ = .ok (some y) ρ' ∧ P y ρ' := by
  unfold lcT
  simp only [e, M.ret]
  have h := h.run
  cases e2 : fE te ρ1 with
  | ok y ρ3 =>
    rw [e2] at h
    exact ⟨y, _, rfl, h⟩
  | ex x ρ3 =>
    rw [e2] at h
    exact h.elim
  | no =>
    rw [e2] at h
    exact h.elim
theorem w_lcL {vs : List Nat} {g : D → List SD → Option (List SD)} {te : M SD} {l : List D} (I : Nat → List SD → Prop) (P : Nat → D → Prop)
    (step : ∀ (i : Nat) (d : D) (ρ : List SD), l[i]? = some d → I i ρ → ∃ ρ1, g d (wipeR ρ vs) = some ρ1 ∧ Wp (fE te) ρ1 (fun y ρ3 => P i y ∧ I (i + 1) (unw ρ ρ3 vs)) NoX) (h0 : I 0 ρ) (hl : l.length ≤ 1000000)
    (fin : ∀ ys ρ', ys.length = l.length → (∀ (i : Nat) (y : D), ys[i]? = some y → P i y) → I l.length ρ' → pl ys ρ') : Wp (lcL vs g (M.ret true) te l []) ρ pl E := by
  obtain ⟨ys, ρ', e, h1, h2, h3⟩ := lc_ex (vs := vs) (tg := g) (tt := M.ret true) (te := te) I P (fun i d ρ hd hI => by
    obtain ⟨ρ1, e1, h⟩ := step i d ρ hd hI
    obtain ⟨y, ρ', e2, e3⟩ := lc_turn (P := fun y ρ' => P i y ∧ I (i + 1) ρ') e1 h
    exact ⟨y, ρ', e2, e3⟩) h0 hl
  refine ⟨?_⟩
  rw [e]
  exact fin ys ρ' h1 h2 h3
end
/-! operators -/
section
variable {p : SD → Prop} {a b : Int}
theorem o_sub (h : p (.va (.int (a - b)))) : Ow (subD (.int a) (.int b)) p := ⟨_, rfl, h⟩
theorem o_mul (h : p (.va (.int (a * b)))) (g : mulG a b) : Ow (repD (.int a) (.int b)) p := ⟨_, if_pos g, h⟩
theorem o_mod (h : p (.va (.int (a.fmod b)))) (g : b ≠ 0) : Ow (modD (.int a) (.int b)) p := ⟨_, if_neg g, h⟩
theorem o_div (h : p (.va (.int (a.fdiv b)))) (g : divG a b) : Ow (divD (.int a) (.int b)) p := ⟨_, if_pos g, h⟩
theorem o_pow (h : p (.va (.int (a ^ b.toNat)))) (g : powG a b) : Ow (powD (.int a) (.int b)) p := ⟨_, if_pos g, h⟩
theorem o_lt (h : p (.va (.bl (decide (a < b))))) : Ow (ltD (.int a) (.int b)) p := ⟨_, rfl, h⟩
theorem o_le (h : p (.va (.bl (decide (a ≤ b))))) : Ow (leD (.int a) (.int b)) p := ⟨_, rfl, h⟩
theorem o_gt (h : p (.va (.bl (decide (b < a))))) : Ow (gtD (.int a) (.int b)) p := ⟨_, rfl, h⟩
theorem o_ge (h : p (.va (.bl (decide (b ≤ a))))) : Ow (geD (.int a) (.int b)) p := ⟨_, rfl, h⟩
theorem o_eqI (h : p (.va (.bl (decide (a = b))))) : Ow (eqD (.int a) (.int b)) p := ⟨_, by
  unfold eqD
  rw [pl_int, pl_int, peq_int]
  rfl, h⟩
theorem o_neI (h : p (.va (.bl (!decide (a = b))))) : Ow (neD (.int a) (.int b)) p := ⟨_, by
  unfold neD
  rw [pl_int, pl_int, peq_int]
  rfl, h⟩
theorem o_eq {d e : D} (h : p (.va (.bl (peq d e)))) (g : d.pl 60 = true) (g' : e.pl 60 = true) : Ow (eqD d e) p := ⟨_, by
  unfold eqD
  rw [g, g']
  rfl, h⟩
theorem o_ne {d e : D} (h : p (.va (.bl (!peq d e)))) (g : d.pl 60 = true) (g' : e.pl 60 = true) : Ow (neD d e) p := ⟨_, by
  unfold neD
  rw [g, g']
  rfl, h⟩
theorem o_neg (h : p (.va (.int (-a)))) : Ow (negD (.int a)) p := ⟨_, rfl, h⟩
theorem o_ixT {l : List D} {d : D} (e : atI l a = some d) (h : p (.va d)) : Ow (ixD (.tup l) (.int a)) p := ⟨.va d, by
  show (atI l a).map SD.va = _
  rw [e]
  rfl, h⟩
theorem o_ixL {c : Bool} {l : List D} {d : D} (e : atI l a = some d) (h : p (.va d)) : Ow (ixD (.lst c l) (.int a)) p := ⟨.va d, by
  show (atI l a).map SD.va = _
  rw [e]
  rfl, h⟩
end
end Fm

set_option maxHeartbeats 390000
namespace Fm
open L2 PySem PySem.Spec PyProof.Rows
theorem fw_mono {f : FR} {p q : SD → List SD → Prop} {E : Exn → List SD → Prop} (h : Fw f p NoX) (g : ∀ r o, p r o → q r o) : Fw f q E := by
  obtain ⟨r, o, e, h⟩ := h.ok
  exact fw_ok e (g r o h)
section
variable {γ : Type} {ρ : List SD} {E : Exn → List SD → Prop} {pl : List D → List SD → Prop}
theorem list_eq {ys : List D} {L : List γ} {g : γ → D} (hl : ys.length = L.length) (h : ∀ (i : Nat) (y : D), ys[i]? = some y → ∃ c, L[i]? = some c ∧ y = g c) : ys = L.map g := by
  apply List.ext_getElem?
  intro i
  by_cases hi : i < ys.length
  · obtain ⟨c, e1, e2⟩ := h i ys[i] (List.getElem?_eq_getElem hi)
    rw [List.getElem?_eq_getElem hi, List.getElem?_map, e1, e2]
    rfl
  · rw [List.getElem?_eq_none_iff.mpr (by omega), List.getElem?_eq_none_iff.mpr (by rw [List.length_map]; omega)]
theorem list_of {ys : List D} {Q : γ → Prop} {g : γ → D} (h : ∀ y ∈ ys, ∃ c, Q c ∧ y = g c) : ∃ L : List γ, ys = L.map g ∧ ∀ c ∈ L, Q c := by
  induction ys with
  | nil => exact ⟨[], rfl, fun c hc => by cases hc⟩
  | cons y ys ih =>
    obtain ⟨c, h1, rfl⟩ := h y (List.mem_cons_self ..)
    obtain ⟨L, rfl, h2⟩ := ih fun z hz => h z (List.mem_cons_of_mem _ hz)
    refine ⟨c :: L, rfl, fun d hd => ?_⟩
    have in_or := List.mem_cons.mp hd; rcases in_or with rfl | hd
    · exact h1
    · exact h2 d hd
/-- a comprehension that gives the list L, and changes nothing -/
theorem w_lcG {vs : List Nat} {g : D → List SD → Option (List SD)} {te : M SD} {l : List D} (L : List γ) (m : γ → D) (hL : L.length = l.length)
    (step : ∀ (i : Nat) (d : D) (c : γ), l[i]? = some d → L[i]? = some c → ∃ ρ1, g d (wipeR ρ vs) = some ρ1 ∧ Wp (fE te) ρ1 (fun y ρ3 => y = m c ∧ unw ρ ρ3 vs = ρ) NoX) (hl : l.length ≤ 1000000) (fin : pl (L.map m) ρ) : Wp (lcL vs g (M.ret true) te l []) ρ pl E := by
  refine w_lcL (I := fun _ ρ' => ρ' = ρ) (P := fun i y => ∃ c, L[i]? = some c ∧ y = m c) (fun i d ρ' hd hρ => ?_) rfl hl fun ys ρ' h1 h2 h3 => ?_
  · subst hρ
    have hi : i < L.length := by
      rw [hL]
      exact (List.getElem?_eq_some_iff.mp hd).1
    obtain ⟨ρ1, e1, h⟩ := step i d L[i] hd (List.getElem?_eq_getElem hi)
    exact ⟨ρ1, e1, h.mono (fun y ρ3 ⟨a, b⟩ => ⟨⟨_, List.getElem?_eq_getElem hi, a⟩, b⟩) fun _ _ z => z⟩
  · subst h3
    rw [list_eq (h1.trans hL.symm) h2]
    exact fin
/-- a comprehension whose items each have Q; I: what changes -/
theorem w_lcQ {vs : List Nat} {g : D → List SD → Option (List SD)} {te : M SD} {l : List D} (I : Nat → List SD → Prop) (Q : γ → Prop) (m : γ → D)
    (step : ∀ (i : Nat) (d : D) (ρ : List SD), l[i]? = some d → I i ρ → ∃ ρ1, g d (wipeR ρ vs) = some ρ1 ∧ Wp (fE te) ρ1 (fun y ρ3 => (∃ c, Q c ∧ y = m c) ∧ I (i + 1) (unw ρ ρ3 vs)) NoX) (h0 : I 0 ρ) (hl : l.length ≤ 1000000)
    (fin : ∀ (L : List γ) ρ', L.length = l.length → (∀ c ∈ L, Q c) → I l.length ρ' → pl (L.map m) ρ') : Wp (lcL vs g (M.ret true) te l []) ρ pl E := by
  refine w_lcL (I := I) (P := fun i y => ∃ c, Q c ∧ y = m c) step h0 hl fun ys ρ' h1 h2 h3 => ?_
  obtain ⟨L, rfl, hQ⟩ := list_of (ys := ys) (Q := Q) (g := m) fun y hy => by
    obtain ⟨i, hi, e⟩ := List.mem_iff_getElem.mp hy
    exact h2 i y (by rw [List.getElem?_eq_getElem hi, e])
  exact fin L ρ' (by rw [← h1, List.length_map]) hQ h3
end
theorem o_tupL {p : SD → Prop} {b : Bool} {l : List D} (h : p (.va (.tup l))) : Ow (tupD [.lst b l]) p := ⟨_, rfl, h⟩
theorem o_listL {p : SD → Prop} {b : Bool} {l : List D} (h : p (.ow (.lst false l))) : Ow (listD [.lst b l]) p := ⟨_, rfl, h⟩
theorem o_isi {p : SD → Prop} {d : D} {n a : String} {r : Bool} (h1 : d.kind = some a) (h2 : kitT a n = some r) (h : p (.va (.bl r))) : Ow (isiD [d, .ty n]) p := ⟨.va (.bl r), by
  unfold isiD
  simp only [h1, h2, Option.bind_some, Option.map_some], h⟩
theorem o_isit {p : SD → Prop} {d : D} {l : List D} {a : String} {r : Bool} (h1 : d.kind = some a) (h2 : kitsT a l = some r) (h : p (.va (.bl r))) : Ow (isitD [d, .tup l]) p := ⟨.va (.bl r), by
  unfold isitD
  simp only [h1, h2, Option.bind_some, Option.map_some], h⟩
theorem boolsD_map (bs : List Bool) : boolsD (bs.map D.bl) = some bs := by
  induction bs with
  | nil => rfl
  | cons b bs ih =>
    show (boolsD (bs.map D.bl)).map (b :: ·) = _
    rw [ih]
    rfl
theorem o_all {p : SD → Prop} {b : Bool} {bs : List Bool} (h : p (.va (.bl (bs.all id)))) : Ow (allD [.lst b (bs.map D.bl)]) p := ⟨_, by
  unfold allD
  dsimp only
  rw [boolsD_map]
  rfl, h⟩
theorem o_any {p : SD → Prop} {b : Bool} {bs : List Bool} (h : p (.va (.bl (bs.any id)))) : Ow (anyD [.lst b (bs.map D.bl)]) p := ⟨_, by
  unfold anyD
  dsimp only
  rw [boolsD_map]
  rfl, h⟩
theorem kit_int_int : kitT "int" "int" = some true := by decide +kernel
theorem kit_int_bool : kitT "int" "bool" = some false := by decide +kernel
theorem kit_int_tuple : kitT "int" "tuple" = some false := by decide +kernel
theorem kits_int : kitsT "int" [.ty "int", .ty "str"] = some true := by decide +kernel
theorem kits_str : kitsT "str" [.ty "int", .ty "str"] = some true := by decide +kernel
theorem kits_tuple : kitsT "tuple" [.ty "int", .ty "str"] = some false := by decide +kernel
theorem kits_list : kitsT "list" [.ty "int", .ty "str"] = some false := by decide +kernel
/-- .. asked kind by kind -/
def OwI (d : D) (n : String) (p : SD → Prop) : Prop := Ow (isiD [d, .ty n]) p
def OwT (d : D) (l : List D) (p : SD → Prop) : Prop := Ow (isitD [d, .tup l]) p
theorem o_isi0 {p : SD → Prop} {d : D} {n : String} (h : OwI d n p) : Ow (isiD [d, .ty n]) p := h
theorem o_isit0 {p : SD → Prop} {d : D} {l : List D} (h : OwT d l p) : Ow (isitD [d, .tup l]) p := h
theorem o_isI {p : SD → Prop} {d : D} {n a : String} {r : Bool} (h2 : kitT a n = some r) (h1 : d.kind = some a) (h : p (.va (.bl r))) : OwI d n p := o_isi h1 h2 h
theorem o_isT {p : SD → Prop} {d : D} {l : List D} {a : String} {r : Bool} (h2 : kitsT a l = some r) (h1 : d.kind = some a) (h : p (.va (.bl r))) : OwT d l p := o_isit h1 h2 h
theorem nd1 (i : Nat) : [i].Nodup := by simp
theorem x_one {α : Type} {P Q : α → Prop} {a : α} (h : P a) (q : Q a) : ∃ a, P a ∧ Q a := ⟨a, h, q⟩
theorem x_two {α β : Type} {P Q : α → β → Prop} {a : α} {b : β} (h : P a b) (q : Q a b) : ∃ a b, P a b ∧ Q a b := ⟨a, b, h, q⟩
theorem x_call0 {α : Type} {N : Prop} {P Q : α → Prop} {a : α} (n : N) (h : P a) (q : Q a) : N ∧ ∃ a, P a ∧ Q a := ⟨n, a, h, q⟩
theorem x_len {n : Nat} {P : Prop} (h : n ≤ 1000) (p : P) : n ≤ 1000 ∧ P := ⟨h, p⟩
theorem peq_bl (a b : Bool) : peq (.bl a) (.bl b) = decide (a = b) := by cases a <;> cases b <;> rfl
theorem pl_bl (n : Nat) (a : Bool) : D.pl n (.bl a) = true := by cases n <;> rfl
theorem o_eqB {p : SD → Prop} {a b : Bool} (h : p (.va (.bl (decide (a = b))))) : Ow (eqD (.bl a) (.bl b)) p := ⟨_, by
  unfold eqD
  rw [pl_bl, pl_bl, peq_bl]
  rfl, h⟩
theorem o_neB {p : SD → Prop} {a b : Bool} (h : p (.va (.bl (!decide (a = b))))) : Ow (neD (.bl a) (.bl b)) p := ⟨_, by
  unfold neD
  rw [pl_bl, pl_bl, peq_bl]
  rfl, h⟩
theorem o_isnN {p : SD → Prop} (h : p (.va (.bl true))) : Ow (isnD .non .non) p := ⟨_, rfl, h⟩
theorem o_isnI {p : SD → Prop} {a : Int} (h : p (.va (.bl false))) : Ow (isnD (.int a) .non) p := ⟨_, rfl, h⟩
theorem o_isnB {p : SD → Prop} {a : Bool} (h : p (.va (.bl false))) : Ow (isnD (.bl a) .non) p := ⟨_, rfl, h⟩
theorem o_isnS {p : SD → Prop} {a : Str} (h : p (.va (.bl false))) : Ow (isnD (.str a) .non) p := ⟨_, rfl, h⟩
theorem o_isnT {p : SD → Prop} {a : List D} (h : p (.va (.bl false))) : Ow (isnD (.tup a) .non) p := ⟨_, rfl, h⟩
theorem o_isnL {p : SD → Prop} {b : Bool} {a : List D} (h : p (.va (.bl false))) : Ow (isnD (.lst b a) .non) p := ⟨_, rfl, h⟩
theorem o_ntnN {p : SD → Prop} (h : p (.va (.bl false))) : Ow (ntnD .non .non) p := ⟨_, rfl, h⟩
theorem o_ntnI {p : SD → Prop} {a : Int} (h : p (.va (.bl true))) : Ow (ntnD (.int a) .non) p := ⟨_, rfl, h⟩
/-- both ways of a test that is known -/
theorem br_t {P Q : Prop} (h : P) : ((true = true → P) ∧ (true = false → Q)) := ⟨fun _ => h, fun z => Bool.noConfusion z⟩
theorem br_f {P Q : Prop} (h : Q) : ((false = true → P) ∧ (false = false → Q)) := ⟨fun z => Bool.noConfusion z, fun _ => h⟩
theorem br_nt {P Q : Prop} (h : Q) : (((!true) = true → P) ∧ ((!true) = false → Q)) := ⟨fun z => Bool.noConfusion z, fun _ => h⟩
/-- plain, of no great size -/
def okS : Nat → D → Bool
  | _, .non => true
  | _, .bl _ => true
  | _, .int _ => true
  | n + 1, .tup l => decide (l.length ≤ 1000) && l.all (okS n)
  | n + 1, .lst _ l => decide (l.length ≤ 1000) && l.all (okS n)
  | _, _ => false
theorem br_d {α : Type} [DecidableEq α] {a : α} {P Q : Prop} (h : Q) : (((!decide (a = a)) = true → P) ∧ ((!decide (a = a)) = false → Q)) := ⟨fun z => by simp at z, fun _ => h⟩
theorem br_e {α : Type} [DecidableEq α] {a : α} {P Q : Prop} (h : P) : ((decide (a = a) = true → P) ∧ (decide (a = a) = false → Q)) := ⟨fun _ => h, fun z => by simp at z⟩
theorem x_is {o : Option SD} {P : Prop} (h : isSet o = true) (p : P) : isSet o = true ∧ P := ⟨h, p⟩
theorem x_put {o : Option SD} {k : D} {P : Bool → List D → Int → Nat → Prop} {b : Bool} {l : List D} {j : Int} {n : Nat} (e1 : o = some (.ow (.lst b l))) (e2 : k = .int j) (e3 : ixN l.length j = some n) (h : P b l j n) :
    ∃ b l j n, o = some (.ow (.lst b l)) ∧ k = .int j ∧ ixN l.length j = some n ∧ P b l j n := ⟨b, l, j, n, e1, e2, e3, h⟩
theorem w_mid {ρ : List SD} {E : Exn → List SD → Prop} {a : S} {p q : Fl → List SD → Prop} (h : Wp a ρ q E) (g : ∀ f ρ', q f ρ' → p f ρ') : Wp a ρ p E := h.mono g fun _ _ z => z
theorem at_int {cells : List Int} {i : Int} (h0 : 0 ≤ i) (h1 : i < ((cells.map D.int).length : Nat)) : ∃ z, atI (cells.map D.int) i = some (.int z) := by
  obtain ⟨n, rfl⟩ : ∃ n : Nat, i = n := Int.eq_ofNat_of_zero_le h0
  have hn : n < cells.length := by
    rw [List.length_map] at h1
    omega
  refine ⟨cells[n], ?_⟩
  rw [Fm.atI_nat, List.getElem?_map, List.getElem?_eq_getElem hn]
  rfl
theorem mkL_int (ns : List Int) : mkL (ns.map D.int) = false := by cases ns <;> rfl
theorem o_slS {p : SD → Prop} {l : List D} {lo hi : Option Int} (h : p (.ow (.lst false (cutD l lo hi)))) (e : mkL l = false := by first | rfl | exact Fm.mkL_int _) : Ow (slcD (.scr l) lo hi) p := ⟨_, if_neg (by rw [e]; exact Bool.false_ne_true), h⟩
theorem o_slL {p : SD → Prop} {b : Bool} {l : List D} {lo hi : Option Int} (h : p (.ow (.lst false (cutD l lo hi)))) : Ow (slcD (.lst b l) lo hi) p := ⟨_, rfl, h⟩
theorem cutD_map {γ : Type} (l : List γ) (m : γ → D) (lo hi : Option Int) : ∃ l' : List γ, cutD (l.map m) lo hi = l'.map m := by
  unfold cutD
  exact ⟨(l.drop _).take _, by rw [List.map_take, List.map_drop]⟩
theorem br_T {b : Bool} {P Q : Prop} (e : b = true) (h : P) : (b = true → P) ∧ (b = false → Q) := ⟨fun _ => h, fun z => by rw [e] at z; cases z⟩
section
variable {α : Type} {m : M α} {p : α → List SD → Prop} {E : Exn → List SD → Prop}
theorem w_stP {ρ o ρ' : List SD} {as : List Ar} (e : putAs ρ as o = ρ') (h : Wp m ρ' p E) : Wp m (putAs ρ as o) p E := by
  rw [e]
  exact h
theorem w_stS {ρ ρ' : List SD} {i : Nat} {x : SD} (e : ρ.set i x = ρ') (h : Wp m ρ' p E) : Wp m (ρ.set i x) p E := by
  rw [e]
  exact h
theorem w_stA {ρ r ρ' : List SD} (e : ρ ++ r = ρ') (h : Wp m ρ' p E) : Wp m (ρ ++ r) p E := by
  rw [e]
  exact h
end
end Fm

set_option maxHeartbeats 390000
namespace Fm
open L2 PySem PySem.Spec PyProof.Rows

/-! ### own exceptions, made without arguments -/
/-- what the making asks of the class's own __init__ -/
def tMk0 (C : Addr) (sp : Sp) : L2.St → Hp → XK → Prop := fun σ H Q => ∀ a, H a = none →
  sp [.ref a] (upd H a (exo a C none)) (fun v H2 => v = .non ∧ ∃ (d : Addr) (fs : List (Str × V)), H2 a = some (exo a C (some d)) ∧ H2 d = some (exd d fs) ∧ H d = none ∧ Q (.ref C) (some d) (upd (del H2 a) d (.xd fs))) fun _ _ _ => False
section
variable {X : Cx} {C fI : Addr} {CX : CXT} {k : Nat} {fd : FuncData} {sp : Sp} {x : Str} {p pos : Pos}
end
/-- what such an __init__ keeps: one field, a text -/
def spI (K : PySem.W.Frag) (f z : Str) : Sp := fun vs H Q E => ∃ a C : Addr, vs = [.ref a] ∧ OexC K C ∧ PySem.W.findIn K (.ref C) f = some none ∧ H a = some (exo a C none) ∧ ∀ dx, H dx = none → dx ≠ a → Q .non (upd (upd H dx (exd dx [(f, .str z)])) a (exo a C (some dx)))
/-- a class of exceptions that the program raises without arguments -/
structure ExC (P : Program) (w : World) (K : PySem.W.Frag) (mg : Str → Option Value) (base : Heap) (κ : Ctx) (x : Str) (c : String) (f z : Str) (fI : Addr) (fd : FuncData) : Prop where
  T : OexC K (κ.cl c)
  no : PySem.W.findIn K (.ref (κ.cl c)) f = some none
  iC : PySem.W.findIn K (.ref (κ.cl c)) "__init__" = some (some (.ref fI))
  tI : PySem.W.typeIn K (.ref fI) = some (.type "function")
  ok : FnOk P w K mg base (L2.CX P w) 1 fI fd ["self"] (spI K f z)
  bd : Binds K fd ["self"] []
  gl : mg x = some (.ref (κ.cl c))
def sEx (x : Exn) : S := fun ρ => .ex x ρ
section
variable {X : Cx} {κ : Ctx} {A : List Nat} {W : WX} {x : Str} {c : String} {f z : Str} {fI : Addr} {fd : FuncData} {p p2 pos : Pos}
end
end Fm

set_option maxHeartbeats 390000
namespace Fm
open L2 PySem PySem.Spec PyProof.Rows

/-! ### try: body, several clauses except x as n: suite -/
/-- the exception a in a handler's hand: noted in this frame, its flight at an end, and the state one of ours -/
structure Hand (X : Cx) (pins : List (Addr × Obj)) (σ : L2.St) (H : Hp) (cls : Value) (d : Option Addr) (a : Addr) (s : Shared) : Prop where
  na : H a = none
  air : ∃ (B : Heap) (sI : Shared), L2.Inv X pins σ H sI ∧ (∀ b o, sI.heap.get? b = some o → b ∉ frs X.stack → B.get? b = some o) ∧ sI.heap.UpToSlots s.heap ∧ PySem.HandSPX.FlyingZ B X.stack a (Zc cls d) s.heap ∧ s.os = sI.os ∧ AllBare s.gens
section
variable {X : Cx} {pins : List (Addr × Obj)} {σ : L2.St} {H : Hp} {cls : Value} {d : Option Addr} {a : Addr} {s : Shared}
end
/-- a clause: its class, the slot of its name, what its suite does -/
structure Cl where
  c : Value
  i : Nat
  ts : Addr → Value → Option Addr → TS
/-- behind a suite its name is gone -/
def Ends.less (D : Ends) (i : Nat) : Ends := { nx := fun σ H => D.nx (σ.set i none) H, rt := D.rt, bk := fun σ H => D.bk (σ.set i none) H, ct := fun σ H => D.ct (σ.set i none) H }
/-- what the clauses, one behind another, wish of an exception of the body -/
def wCls (K : PySem.W.Frag) (Wout : WX) (D : Ends) : List Cl → WX
  | [] => Wout
  | q :: r => fun cls d σ H => ∃ b, PySem.W.exmOne K cls q.c = some b ∧ (b = true → ∀ a, H a = none → q.ts a cls d (Ends.less D q.i) (σ.set q.i (some (.ref a))) H) ∧ (b = false → wCls K Wout D r cls d σ H)
inductive ClsOk (X : Cx) : List ExceptHandler → List Cl → Prop
  | nil : ClsOk X [] []
  | cons {x n : Str} {q : Cl} {b₀ : Stmt} {suite : List Stmt} {np pos : Pos} {hds : List ExceptHandler} {l : List Cl} (hc : Names X x q.c) (hi : X.N[q.i]? = some n) (hl : X.env.kindOf n = some .local)
      (go : ∀ (a : Addr) (oe : Obj) (cls : Value) (d : Option Addr) (pn : List (Addr × Obj)), Zc cls d oe → (∃ vs, oe.data = .fields vs) → PSs (X.suite a ((a, oe) :: pn)) (b₀ :: suite) (q.ts a cls d)) (r : ClsOk X hds l) :
      ClsOk X (.ExceptHandler (some (.Name x np)) (some n) (b₀ :: suite) pos :: hds) (q :: l)
section
variable {X : Cx} {pins : List (Addr × Obj)} {Wout : WX} {D : Ends}
end
end Fm

set_option maxHeartbeats 390000
namespace Fm
open L2 PySem PySem.Spec PyProof.Rows

/-! ### a lambda handed to a def that calls it -/
section
variable {X : Cx} {pins pinsZ pn : List (Addr × Obj)} {σ σZ : L2.St} {H HZ : Hp} {s sZ : Shared} {CXg : CXT} {E Eg : XK} {Ng : List Str} {qg : Str} {sg scope : Scope} {g f c' : Addr} {cdg pm ctv : Value} {params : Arguments} {body : Expr} {k : Nat} {xe : Value → Shared → Prop} {tb : TE} {tc : XK → TE} {Q : VK}
/-- the frame of the def that got it -/
abbrev cxG (X : Cx) (CXg : CXT) (Ng : List Str) (qg : Str) (sg : Scope) (g : Addr) (cdg : Value) (s : Shared) (H : Hp) (Eg : XK) (pn : List (Addr × Obj)) (xe : Value → Shared → Prop) : Cx := (cxOf CXg X.prog X.w X.K X.mg X.base Ng qg sg g cdg X.A X.stack s H Eg).tr pn xe
end
end Fm

set_option maxHeartbeats 390000
namespace Fm
open L2 PySem PySem.Spec PyProof.Rows

/-! ### tried(lambda: e): what e gives and no word, or None and the word of the exception -/
def mTried (hit : String → Bool) (f : Str) (m : M SD) : M SD := fun ρ => match fE m ρ with
  | .ok d ρ' => .ok (.va (.tup [d, .str ""])) ρ'
  | .ex x ρ' => if hit x.c then (match x.fs.lookup f with
    | some w => .ok (.va (.tup [.non, w])) ρ'
    | none => .no) else .no
  | .no => .no
/-- what is asked of the classes: CM and CK catch those that hit tells of -/
structure TryK (K : PySem.W.Frag) (κ : Ctx) (CM CK : Value) (f : Str) (hit : String → Bool) : Prop where
  on : ∀ c, hit c = true → ∃ b, PySem.W.exmOne K (.ref (κ.cl c)) CM = some b ∧ (b = false → PySem.W.exmOne K (.ref (κ.cl c)) CK = some true)
  xf : ∀ c, hit c = true → XfC K (κ.cl c) ∧ PySem.W.findIn K (.ref (κ.cl c)) f = some none
/-- a new pair -/
def tPair (u v : V) : Hp → VK → Prop := fun H Q => ∀ p, H p = none → Q (.ref p) (upd H p (.tup [u, v]))
/-- what the def that tries makes of the lambda's reading -/
def TTried (K : PySem.W.Frag) (CM CK : Value) (f : Str) : (XK → Hp → VK → Prop) → Hp → VK → Prop := fun tl H Q =>
  tl (fun cls d H' => ∃ b, PySem.W.exmOne K cls CM = some b ∧ (b = false → PySem.W.exmOne K cls CK = some true) ∧
    ∃ (C dd : Addr) (fs : List (Str × V)) (w : V), cls = .ref C ∧ XfC K C ∧ PySem.W.findIn K (.ref C) f = some none ∧ d = some dd ∧ H' dd = some (.xd fs) ∧ fs.lookup f = some w ∧ tPair .non w H' Q) H fun v H' => tPair v (.str "") H' Q
/-- the suite of a clause: word = e.called -/
def tWord (K : PySem.W.Frag) (f : Str) (a : Addr) (cls : Value) (d : Option Addr) : TS := fun D σ H => ∃ C, XfC K C ∧ PySem.W.findIn K (.ref C) f = some none ∧ tAsg (tXf a cls d C f (tVar 3)) (gName 2) D σ H
section
variable {X : Cx} {x a nf nw n xm xk f : Str} {g CM CK : Addr} {sg : Scope} {cdg : Value} {p1 p2 p3 p4 p5 p6 p7 p8 p9 q1 q2 q3 q4 q5 q6 q7 q8 q9 r1 r2 r3 r4 r5 o1 o2 o3 o4 : Pos} {j1 j2 j3 : Nat}
end
/-- the tables of code grow: the state stands -/
theorem Ok.ext {κ : Ctx} {B : Bas} {ρ : List SD} {σ : L2.St} {H H1 G : Hp} (o : Ok κ B ρ σ H G) (e : LamX.ExtN H H1) (t : LamX.Tabs κ.tabs H1) : Ok κ B ρ σ H1 G where
  fr := ⟨fun a u h n => e a u (o.fr.keep a u h n) n, o.fr.nt, o.fr.frz, o.fr.sub, fun a u h => e a u (o.fr.gh a u h) fun ps z => o.fr.notb a ps (by rw [h, z]), o.fr.notb, t, o.fr.lent⟩
  len := o.len
  val := o.val
  own := fun i d h => by
    obtain ⟨p, h1, h2, h3, h4⟩ := o.own i d h
    obtain ⟨u, u1, u2, _⟩ := h4.obj
    exact ⟨p, h1, h2, h3, h4.mono (Same.refl G) ((e p u u1 u2).trans u1.symm)⟩
  sep := o.sep
  anch := o.anch
section
variable {X : Cx} {κ : Ctx} {W : WX} {x a nf nw n xm xk f : Str} {g CM CK : Addr} {sg scope : Scope} {pg params : Arguments} {fd : FuncData} {body : Expr} {m : M SD} {hit : String → Bool} {c P : Addr} {k : Nat} {p pos lpos p1 p2 p3 p4 p5 p6 p7 p8 p9 q1 q2 q3 q4 q5 q6 q7 q8 q9 r1 r2 r3 r4 r5 o1 o2 o3 o4 : Pos} {j1 j2 j3 : Nat}
end
end Fm

set_option maxHeartbeats 390000
namespace Fm
open L2 PySem PySem.Spec PyProof.Rows

/-! ### calls that leave the last parameters to their defaults; calls by keywords alone -/
/-- the defaults that fill up -/
def BindsV (K : PySem.W.Frag) (fd : FuncData) (ps : List Str) (dvs : List V) : Prop := ∃ ds, Vals dvs ds ∧ Binds K fd ps ds
/-- all parameters by name -/
def BindsKw (K : PySem.W.Frag) (fd : FuncData) (ps ks : List Str) : Prop := ∀ (s : Shared) (ws : List Value), K.In s.heap → ws.length = ps.length → BindsTo s fd ⟨[], ks.zip ws⟩ (ps.zip ws)
section
variable {X : Cx} {κ : Ctx} {W : WX} {k k' : Nat} {f : Addr} {fd : FuncData} {ps ks : List Str} {fn : List SD → FR} {x : Str} {p pos kpos : Pos} {e : Expr} {es : List Expr} {n : M (List Ar)} {kws : List Keyword} {nm : Option Str}
/-- f(e, ..), the last parameters by their defaults -/
theorem e_callD {dd : List D} {dvs : List V} (C : Callee X.prog X.w X.K X.mg X.base κ x k ps fn f fd) (hb : BindsV X.K fd ps dvs) (hd : ∀ T G, RepL κ T G dd dvs) (hr : Room k' X.A) (hk : k ≤ k') (hg : Gl X x) (hx : PassW X W) (ha : PA X (e :: es) (tAr κ W n)) {j : Nat} (hl : ALen n j) (hj : j + dd.length = ps.length)
    (hdb : (x == ("__debug__" : Str)) = false := by decide) (he : starEach (e :: es) X.env = (false, eval e X.env) :: starEach es X.env := by rfl) (hpl : (backTo pos (starEach es X.env)).any (·.1) = false := by rfl) : PE X (.Call (.Name x p) (e :: es) [] pos) (tE κ W (mCall fn dd n)) := by
  obtain ⟨ds, hv, hb⟩ := hb
  exact e_call C.ok rfl (hr.mono hk) hg C.gl C.kp hb hv hd hx ha (alen_ok hl hj) hdb he hpl
theorem PK.imp {t t' : TA} (h : PK X kws t) (f : ∀ σ H Q, t' σ H Q → t σ H Q) : PK X kws t' := ⟨fun pos pins s σ H Q I q => h.run pos pins s σ H Q I (f σ H Q q)⟩
theorem kr_nil : PK X [] (tAr κ W aNil) := PK.imp pk_nil fun σ H Q ⟨B, ρ, G, o, q⟩ => Pst.ret q o [] rfl
theorem kr_va {m : M SD} (h : PE X e (tE κ W m)) (h2 : PK X kws (tAr κ W n)) : PK X (⟨nm, e, kpos⟩ :: kws) (tAr κ W (aVa m n)) := by
  refine PK.imp (pk_cons h h2) fun σ H Q ⟨B, ρ, G, o, q⟩ => ?_
  refine tE_fz o (Pst.bind q) fun d ρ1 H1 G1 o1 s1 q1 v1 r1 => ?_
  exact ⟨B, ρ1, G1, o1, Pst.mono (Pst.bind q1) fun ds ρ2 H2 G2 o2 s2 q2 vs rs => Pst.ret q2 o2 _ ⟨v1, vs, rfl, Rep.mono (.of s2) d r1, rs⟩⟩
end
end Fm

set_option maxHeartbeats 390000
namespace Fm
open L2 PySem PySem.Spec PyProof.Rows

/-! ### what the written part says of exception classes and of a def's code, as a test -/
theorem and2 {a b : Bool} (h : (a && b) = true) : a = true ∧ b = true := Bool.and_eq_true_iff.mp h
end Fm

set_option maxHeartbeats 390000
namespace Fm
open L2 PySem PySem.Spec PyProof.Rows

/-! ### the calculus: exceptions -/
section
variable {ρ : List SD} {E : Exn → List SD → Prop} {p : SD → List SD → Prop} {s : Fl → List SD → Prop}
end
mutual
theorem eqv_self : ∀ (d : D) {n : Nat}, d.pl n = true → PyData.eqv d.py d.py = true
  | .non, _, _ => rfl
  | .bl b, _, _ => by cases b <;> rfl
  | .int i, _, _ => by show (i == i) = true; simp
  | .str s, _, _ => by show (s == s) = true; simp
  | .tup l, 0, h => by cases h
  | .tup l, n + 1, h => eqvL_self l (n := n) h
  | .lst _ l, 0, h => by cases h
  | .lst _ l, n + 1, h => eqvL_self l (n := n) h
  | .dk _ _, n, h => by cases n <;> cases h
  | .ins _ _ _, n, h => by cases n <;> cases h
  | .ty _, n, h => by cases n <;> cases h
  | .adr _, n, h => by cases n <;> cases h
  | .scr _, n, h => by cases n <;> cases h
theorem eqvL_self : ∀ (l : List D) {n : Nat}, plL n l = true → PyData.eqvAll (pyL l) (pyL l) = true
  | [], _, _ => rfl
  | d :: l, n, h => by
    obtain ⟨h1, h2⟩ := and2 (show (D.pl n d && plL n l) = true from by unfold plL at h; exact h)
    show (PyData.eqv d.py d.py && PyData.eqvAll (pyL l) (pyL l)) = true
    rw [eqv_self d h1, eqvL_self l h2]
    rfl
end
end Fm

set_option maxHeartbeats 390000
namespace Fm
open L2 PySem PySem.Spec PyProof.Rows

/-! ### methods of a text with one argument -/
def mM1 (g : Str → D → Option SD) (ma mb : M SD) : M SD := (fE ma).bind fun d => match d with
  | .str s => (fE mb).bind fun e => M.opt (g s e)
  | _ => M.no
def MtD (κ : Ctx) (r : V → List V → Hp → VK → Prop) (g : Str → D → Option SD) : Prop := ∀ (B : Bas) (ρ : List SD) (σ : L2.St) (H G : Hp) (s : Str) (e : D) (y : V) (z : SD) (Q : VK), Ok κ B ρ σ H G → Rep κ B.T G e y → g s e = some z →
  (∀ v H' G', Ok κ B ρ σ H' G' → Same G G' → RepR κ B ρ σ H' G' z v → Q v H') → r (.str s) [y] H Q
section
variable {X : Cx} {κ : Ctx} {W : WX}
theorem e_m1 {o e : Expr} {ma mb : M SD} {id : String} {name : Str} {apos pos : Pos} {r : V → List V → Hp → VK → Prop} {g : Str → D → Option SD} (slot : Slot "str" name id) (ty : typeOf (.builtin id) = pure (.type "method_descriptor")) (rule : MtR X id r) (hr : MtD κ r g)
    (ho : PE X o (tE κ W ma)) (he : PE X e (tE κ W mb)) (hs : starEach [e] X.env = [(false, eval e X.env)] := by rfl) (hbase : attributeBase o name X.env (eval o X.env) = eval o X.env := by rfl) (hline : (apos.endLine == pos.line) = true := by rfl) :
    PE X (.Call (.Attribute o name apos) [e] [] pos) (tE κ W (mM1 g ma mb)) := by
  refine PE.imp (pe_m1 slot ty rule ho he hs hbase hline) fun σ H Q ⟨B, ρ, G, o, q⟩ => ?_
  refine tE_fz o (Pst.bind q) fun d ρ1 H1 G1 o1 s1 q1 v1 r1 => ?_
  cases d with
  | str s =>
    cases (show v1 = V.str s from r1)
    refine ⟨⟨s, rfl⟩, tE_fz o1 (Pst.bind q1) fun e ρ2 H2 G2 o2 s2 q2 v2 r2 => ?_⟩
    obtain ⟨z, hz, q3⟩ := Pst.opt q2
    exact hr B ρ2 σ H2 G2 s e v2 z Q o2 r2 hz fun v H' G' o' s' rv => q3 H' G' o' s' v rv
  | _ => exact q1.elim
def splitG (s : Str) : D → Option SD
  | .str b => if b.length ≠ 0 ∧ s.length ≤ 1000000 then some (.ow (.lst false ((Txt.split s b).map D.str))) else none
  | _ => none
def partG (s : Str) : D → Option SD
  | .str b => if b.length ≠ 0 ∧ s.length ≤ 1000000 then some (.va (.tup [.str (Txt.partition s b).1, .str (Txt.partition s b).2.1, .str (Txt.partition s b).2.2])) else none
  | _ => none
/-- the texts of a list of texts -/
def strsOf : List D → Option (List Str)
  | [] => some []
  | .str s :: l => (strsOf l).map (s :: ·)
  | _ :: _ => none
def joinG (s : Str) : D → Option SD
  | .lst _ l => (strsOf l).bind fun ys => if (ys.map (·.length)).sum + ys.length * s.length ≤ 1000000 then some (.va (.str (Txt.join s ys))) else none
  | .tup l => (strsOf l).bind fun ys => if (ys.map (·.length)).sum + ys.length * s.length ≤ 1000000 then some (.va (.str (Txt.join s ys))) else none
  | _ => none
theorem strsOf_eq : ∀ {l : List D} {ys : List Str}, strsOf l = some ys → l = ys.map D.str
  | [], ys, h => by cases h; rfl
  | d :: l, ys, h => by
    cases d with
    | str s =>
      obtain ⟨zs, h1, rfl⟩ := Option.map_eq_some_iff.mp (show (strsOf l).map (s :: ·) = some ys from h)
      rw [strsOf_eq h1]
      rfl
    | _ => cases h
theorem strsOf_map : ∀ ys : List Str, strsOf (ys.map D.str) = some ys
  | [] => rfl
  | y :: ys => by
    show (strsOf (ys.map D.str)).map (y :: ·) = _
    rw [strsOf_map ys]
    rfl
theorem strs_un {T : Pd} {G : Hp} : ∀ {ys : List Str} {vs : List V}, RepL κ T G (ys.map D.str) vs → vs = ys.map V.str
  | [], _, h => h
  | y :: ys, vs, h => by
    obtain ⟨v, ws, rfl, h1, h2⟩ := h
    rw [strs_un h2, show v = V.str y from h1]
    rfl
where line_of2 {n : Nat} (h : n ≤ 1000000) : n + 2 ≤ sizeLine := by rw [sizeLine_eq]; omega
theorem e_join (hK : X.K = κ.K) {o e : Expr} {ma mb : M SD} {apos pos : Pos} (ho : PE X o (tE κ W ma)) (he : PE X e (tE κ W mb)) (hs : starEach [e] X.env = [(false, eval e X.env)] := by rfl) (hbase : attributeBase o "join" X.env (eval o X.env) = eval o X.env := by rfl) (hline : (apos.endLine == pos.line) = true := by rfl) :
    PE X (.Call (.Attribute o "join" apos) [e] [] pos) (tE κ W (mM1 joinG ma mb)) :=
  e_m1 F.slot_str_join F.type_str_join mt_join (fun B ρ σ H G s e y z Q o r hz q => by
    have fin : ∀ {l : List D} {p : Addr} {vs : List V}, y = .ref p → RepL κ B.T G l vs → (SqL X.K H p vs ∨ SqT X.K H p vs) → ((strsOf l).bind fun ys => if (ys.map (·.length)).sum + ys.length * s.length ≤ 1000000 then some (SD.va (.str (Txt.join s ys))) else none) = some z →
        ∃ a p, ∃ ys : List Str, V.str s = .str a ∧ [y] = [.ref p] ∧ (SqL X.K H p (ys.map V.str) ∨ SqT X.K H p (ys.map V.str)) ∧ (ys.map (·.length)).sum + ys.length * a.length ≤ 16777216 ∧ Q (.str (Txt.join a ys)) H := fun {l p vs} ey rl sq hz => by
      obtain ⟨ys, h1, h2⟩ := Option.bind_eq_some_iff.mp hz
      have el := strsOf_eq h1
      subst el
      have ev := strs_un rl
      subst ev ey
      split at h2
      · rename_i h
        cases h2
        exact ⟨s, p, ys, rfl, rfl, sq, by omega, q _ H G o (Same.refl G) rfl⟩
      · cases h2
    cases e with
    | lst b l =>
      obtain ⟨a, vs, rfl, ⟨h1, _⟩, h2⟩ := r
      exact fin rfl h2 (.inl (SqL.of (o.fr.gh _ _ h1))) hz
    | tup l =>
      obtain ⟨a, vs, rfl, h1, h2⟩ := r
      exact fin rfl h2 (.inr (hK ▸ h1.sq o.fr.gh)) hz
    | _ => cases hz) ho he hs hbase hline
end
/-! ### str(int), int(text) -/
def strD : List D → Option SD
  | [.int i] => if i.natAbs.log2 < 1920 then some (.va (.str (toString i))) else none
  | _ => none
def intSD : List D → Option SD
  | [.str a] => if a.length ≤ 640 then (PySem.intText? a).map fun n => .va (.int n) else none
  | ds => intD ds
section
variable {X : Cx} {κ : Ctx}
end
/-! ### x in y: a sign in a text, data in a list -/
def inB : D → D → Option Bool
  | .str x, .str z => match x.cps.toList with
    | [c] => some (decide (c ∈ z.cps.toList))
    | _ => none
  | d, .lst _ l => if d.pl 60 && (D.lst false l).pl 60 then some (l.any fun e => peq e d) else none
  | _, _ => none
def inD (d e : D) : Option SD := (inB d e).map fun b => .va (.bl b)
def ninD (d e : D) : Option SD := (inB d e).map fun b => .va (.bl (!b))
theorem any_py (d : D) : ∀ l : List D, (pyL l).any (fun z => PyData.eqv z d.py) = l.any fun e => peq e d
  | [] => rfl
  | e :: l => by
    show (PyData.eqv e.py d.py || (pyL l).any fun z => PyData.eqv z d.py) = _
    rw [any_py d l]
    rfl
section
variable {X : Cx} {κ : Ctx}
theorem in_cases {T : Pd} {G H : Hp} {d e : D} {x y : V} {b : Bool} (s : Same G H) (r1 : Rep κ T G d x) (r2 : Rep κ T G e y) (h : inB d e = some b) :
    (∃ (c : Nat) (z : Str), x = .str ⟨#[c]⟩ ∧ y = .str z ∧ b = decide (c ∈ z.cps.toList)) ∨ ∃ (p : PyData) (ps : List PyData), Dp κ.K H x p ∧ Dp κ.K H y (.list ps) ∧ SeqAt.shaped p = true ∧ SeqAt.shaped (.list ps) = true ∧ b = ps.any fun z => PyData.eqv z p := by
  have deep : ∀ {bb : Bool} {l : List D}, e = .lst bb l → (if d.pl 60 && (D.lst false l).pl 60 then some (l.any fun e => peq e d) else none) = some b →
      ∃ (p : PyData) (ps : List PyData), Dp κ.K H x p ∧ Dp κ.K H y (.list ps) ∧ SeqAt.shaped p = true ∧ SeqAt.shaped (.list ps) = true ∧ b = ps.any fun z => PyData.eqv z p := fun {bb l} he g => by
    subst he
    split at g
    · rename_i hp
      cases g
      obtain ⟨p1, p2⟩ := and2 hp
      have p3 : (D.lst bb l).pl 60 = true := p2
      exact ⟨d.py, pyL l, rep_dp s d p1 r1, rep_dp s (.lst bb l) p3 r2, shaped_of p1, shaped_of (d := .lst bb l) p3, (any_py d l).symm⟩
    · cases g
  cases e with
  | lst bb l =>
    refine .inr (deep rfl ?_)
    cases d <;> exact h
  | str z =>
    cases d with
    | str w =>
      left
      have h' : (match w.cps.toList with
        | [c] => some (decide (c ∈ z.cps.toList))
        | _ => none) = some b := h
      split at h'
      · rename_i c ec
        cases h'
        have ew : w = ⟨#[c]⟩ := by
          obtain ⟨a⟩ := w
          have : a = #[c] := by rw [← Array.toArray_toList (xs := a), ec]
          rw [this]
        subst ew
        exact ⟨c, z, r1, r2, rfl⟩
      · cases h'
    | _ => cases h
  | _ => cases d <;> cases h
abbrev rIn2 (K : PySem.W.Frag) : R2 := fun x y H Q => (∃ (c : Nat) (z : Str), x = .str ⟨#[c]⟩ ∧ y = .str z ∧ Q (.bl (decide (c ∈ z.cps.toList))) H) ∨ rInD K x y H Q
abbrev rNin2 (K : PySem.W.Frag) : R2 := fun x y H Q => (∃ (c : Nat) (z : Str), x = .str ⟨#[c]⟩ ∧ y = .str z ∧ Q (.bl (!decide (c ∈ z.cps.toList))) H) ∨ rNotInD K x y H Q
theorem op_in2 (hu : X.A.units + 65 < cLine) : OpR X (compareOp .In) (rIn2 X.K) := op_in_sign.or (op_inD hu)
theorem op_nin2 (hu : X.A.units + 65 < cLine) : OpR X (compareOp .NotIn) (rNin2 X.K) := op_notIn_sign.or (op_notInD hu)
theorem od_in : OpD κ (rIn2 κ.K) inD := by
  intro B ρ σ H G d e x y z Q o r1 r2 hz q
  obtain ⟨b, hb, rfl⟩ := Option.map_eq_some_iff.mp hz
  have fin := q (.bl b) H G o (Same.refl G) rfl
  rcases in_cases o.fr.gh r1 r2 hb with ⟨c, w, h1, h2, rfl⟩ | ⟨p, ps, h1, h2, h3, h4, rfl⟩
  · exact .inl ⟨c, w, h1, h2, fin⟩
  · exact .inr ⟨p, ps, h1, h2, h3, h4, fin⟩
theorem od_nin : OpD κ (rNin2 κ.K) ninD := by
  intro B ρ σ H G d e x y z Q o r1 r2 hz q
  obtain ⟨b, hb, rfl⟩ := Option.map_eq_some_iff.mp hz
  have fin := q (.bl (!b)) H G o (Same.refl G) rfl
  rcases in_cases o.fr.gh r1 r2 hb with ⟨c, w, h1, h2, rfl⟩ | ⟨p, ps, h1, h2, h3, h4, rfl⟩
  · exact .inl ⟨c, w, h1, h2, fin⟩
  · exact .inr ⟨p, ps, h1, h2, h3, h4, fin⟩
end
end Fm

set_option maxHeartbeats 390000
namespace Fm
open L2 PySem PySem.Spec PyProof.Rows

/-! ### calls with values and names -/
/-- n values, the others by name -/
def BindsPK (K : PySem.W.Frag) (fd : FuncData) (ps : List Str) (n : Nat) (ks : List Str) : Prop := ∀ (s : Shared) (us ws : List Value), K.In s.heap → us.length = n → ws.length = ks.length → BindsTo s fd ⟨us, ks.zip ws⟩ (ps.zip (us ++ ws))
theorem FunD.bindsPK {K : PySem.W.Frag} {x qual : Str} {params : Arguments} {body : List Stmt} {scope : Scope} {kws : List (Str × V)} {f : Addr} {fd : FuncData} {ps ks : List Str} {n : Nat} (F : FunD K x qual params body scope [] kws f fd)
    (h : ∀ (kV doc pm : Value) (an : Option Addr) (cdv ct : Value) (us ws : List Value), us.length = n → ws.length = ks.length → bindArgs (PySem.W.fnOf x qual params body scope .none kV doc pm an cdv ct) ⟨us, ks.zip ws⟩ = pure (ps.zip (us ++ ws))) : BindsPK K fd ps n ks := by
  obtain ⟨_, _, _, kV, doc, pm, an, cdv, ct, _, rfl, _, _, hD, _⟩ := F.ex
  rcases hD with ⟨_, rfl⟩ | ⟨no, _⟩
  · exact fun s us ws _ l1 l2 => BindsTo.of_looks fun M => h kV doc pm an cdv ct us ws l1 l2 ▸ PySem.W.Looks.now
  · exact absurd rfl no
def aApp (n k : M (List Ar)) : M (List Ar) := n.bind fun as => k.bind fun bs => M.ret (as ++ bs)
theorem alen_app {n k : M (List Ar)} {i j : Nat} (h : ALen n i) (g : ALen k j) : ALen (aApp n k) (i + j) := fun ρ as ρ' e => by
  unfold aApp M.bind at e
  cases e1 : n ρ with
  | ok a1 ρ1 =>
    rw [e1] at e
    dsimp only at e
    cases e2 : k ρ1 with
    | ok a2 ρ2 =>
      rw [e2] at e
      cases e
      rw [List.length_append, h _ _ _ e1, g _ _ _ e2]
    | ex x ρ2 =>
      rw [e2] at e
      cases e
    | no =>
      rw [e2] at e
      cases e
  | ex x ρ1 =>
    rw [e1] at e
    cases e
  | no =>
    rw [e1] at e
    cases e
theorem RepAs.append {κ : Ctx} {T : Pd} {σ : L2.St} {G : Hp} : ∀ {as bs : List Ar} {vs ws : List V}, RepAs κ T σ G as vs → RepAs κ T σ G bs ws → RepAs κ T σ G (as ++ bs) (vs ++ ws)
  | [], bs, vs, ws, h, g => by
    rw [show vs = [] from h]
    exact g
  | a :: as, bs, vs, ws, h, g => by
    obtain ⟨v, us, rfl, h1, h2⟩ := h
    exact ⟨v, us ++ ws, rfl, h1, RepAs.append h2 g⟩
theorem RepAs.len {κ : Ctx} {T : Pd} {σ : L2.St} {G : Hp} : ∀ {as : List Ar} {vs : List V}, RepAs κ T σ G as vs → vs.length = as.length
  | [], vs, h => by rw [show vs = [] from h]; rfl
  | a :: as, vs, h => by
    obtain ⟨v, us, rfl, _, h2⟩ := h
    rw [List.length_cons, List.length_cons, RepAs.len h2]
section
variable {X : Cx} {κ : Ctx} {W : WX} {k k' : Nat} {f : Addr} {fd : FuncData} {ps ks : List Str} {fn : List SD → FR} {x : Str} {p pos : Pos} {e : Expr} {es : List Expr} {n m : M (List Ar)} {kws : List Keyword}
/-- f(e, .., k = e, ..) -/
theorem e_callPK {i : Nat} (C : Callee X.prog X.w X.K X.mg X.base κ x k ps fn f fd) (hb : BindsPK X.K fd ps i ks) (hr : Room k' X.A) (hk : k ≤ k') (hg : Gl X x) (hx : PassW X W) (ha : PA X (e :: es) (tAr κ W n)) (hkw : PK X kws (tAr κ W m)) (hi : ALen n i) (hj : ALen m ks.length) (hl : i + ks.length = ps.length)
    (hdb : (x == ("__debug__" : Str)) = false := by decide) (he : starEach (e :: es) X.env = (false, eval e X.env) :: starEach es X.env := by rfl) (hall : (backToKw pos (keywordEach kws X.env)).all (·.1.isSome) = true := by rfl) (hks : (backToKw pos (keywordEach kws X.env)).filterMap (·.1) = ks := by rfl)
    (hpl : ((backTo pos (starEach (e :: es) X.env)).any (·.1) || (backToKw pos (keywordEach kws X.env)).any (·.1.isNone)) = false := by rfl) : PE X (.Call (.Name x p) (e :: es) kws pos) (tE κ W (mCall fn [] (aApp n m))) := by
  have w : PE X (.Call (.Name x p) (e :: es) kws pos) (fun σ H Q => tAr κ W n σ H fun vs H1 => tAr κ W m σ H1 fun zs H2 => vs.length = i ∧ zs.length = ks.length ∧ spF κ ps.length fn (vs ++ zs) H2 Q fun cls d H => W cls d σ H) := by
    refine ⟨fun pins s σ H Q I h => wpAny_Call_Name_kw (ld_glob I hg C.gl ?_ hdb)⟩
    refine PySem.W.callWith_KW (h₀ := X.base) I.ok.mod.kin C.kp hall (thn (ha.run pos pins s σ H _ I h) fun us s1 ⟨vs, H1, I1, r, q⟩ => ?_) hpl he
    refine thn (hkw.run pos pins s1 σ H1 _ I1 q) fun ws s2 ⟨kvs, H2, I2, rz, l1, l2, q2⟩ => ⟨I2.kIn, ?_⟩
    rw [hks]
    refine wpAny_call (codeAny_mono (C.ok.run X.A X.stack s2 H2 ⟨us, ks.zip ws⟩ (us ++ ws) (vs ++ kvs) Q _ (hr.mono hk) I2.env0 (hb s2 us ws I2.kIn (r.length.symm.trans l1) (rz.length.symm.trans l2)) (r.append rz) q2) fun r2 s3 back => ?_)
    match r2, back with
    | .error e, z => exact hx σ pins H2 s2 e s3 I2 z
    | .ok .next, z => exact z.elim
    | .ok .brk, z => exact z.elim
    | .ok .cont, z => exact z.elim
    | .ok (.ret u), z => exact I2.after z
  refine PE.imp w fun σ H Q h => ?_
  obtain ⟨B, ρ, G, o, q⟩ := call_ok (κ := κ) (W := W) (dvs := []) (dd := []) (N := ps.length) (ps := ps) rfl (fun _ _ => rfl) (alen_ok (alen_app hi hj) (by rw [List.length_nil, Nat.add_zero]; exact hl)) h
  refine ⟨B, ρ, G, o, ?_⟩
  have q1 := Pst.bind (m := n) (f := fun as => m.bind fun bs => M.ret (as ++ bs)) q
  cases en : n ρ with
  | no =>
    rw [en] at q1
    exact q1
  | ex x ρ' =>
    rw [en] at q1
    exact q1
  | ok as ρ1 =>
    rw [en] at q1
    intro H1 G1 o1 s1 vs rs
    have q2 := Pst.bind (m := m) (f := fun bs => M.ret (as ++ bs)) (q1 H1 G1 o1 s1)
    refine ⟨B, ρ1, G1, o1, ?_⟩
    cases em : m ρ1 with
    | no =>
      rw [em] at q2
      exact q2
    | ex x ρ' =>
      rw [em] at q2
      exact q2
    | ok bs ρ2 =>
      rw [em] at q2
      intro H2 G2 o2 s2 zs rz
      have q3 := Pst.ret (q2 H2 G2 o2 s2) o2 (vs ++ zs) ((rs.mono s2).append rz)
      have q4 : spF κ ps.length fn (vs ++ zs ++ []) H2 Q (fun cls d H => W cls d σ H) := q3
      rw [List.append_nil] at q4
      exact ⟨rs.len.trans (hi _ _ _ en), rz.len.trans (hj _ _ _ em), q4⟩
end
end Fm

set_option maxHeartbeats 390000
namespace Fm
open L2 PySem PySem.Spec PyProof.Rows

/-! ### an own exception made with one value -/
/-- what such an __init__ keeps: a text in the field f, the value in the field g -/
def spI2 (K : PySem.W.Frag) (f z g : Str) : Sp := fun vs H Q E => ∃ (a C : Addr) (y : V), vs = [.ref a, y] ∧ OexC K C ∧ PySem.W.findIn K (.ref C) f = some none ∧ PySem.W.findIn K (.ref C) g = some none ∧ H a = some (exo a C none) ∧
  ∀ dx, H dx = none → dx ≠ a → Q .non (upd (upd (upd H dx (exd dx [(f, .str z)])) a (exo a C (some dx))) dx (exd dx [(g, y), (f, .str z)]))
/-- a class of exceptions that the program raises with one value -/
structure ExC2 (P : Program) (w : World) (K : PySem.W.Frag) (mg : Str → Option Value) (base : Heap) (κ : Ctx) (x : Str) (c : String) (f z g n : Str) (fI : Addr) (fd : FuncData) : Prop where
  T : OexC K (κ.cl c)
  no : PySem.W.findIn K (.ref (κ.cl c)) f = some none
  no2 : PySem.W.findIn K (.ref (κ.cl c)) g = some none
  iC : PySem.W.findIn K (.ref (κ.cl c)) "__init__" = some (some (.ref fI))
  tI : PySem.W.typeIn K (.ref fI) = some (.type "function")
  ok : FnOk P w K mg base (L2.CX P w) 1 fI fd ["self", n] (spI2 K f z g)
  bd : Binds K fd ["self", n] []
  gl : mg x = some (.ref (κ.cl c))
def sEx1 (c : String) (f z g : Str) (m : M SD) : S := (fE m).bind fun d => sEx ⟨c, [(g, d), (f, .str z)]⟩
section
variable {X : Cx} {κ : Ctx} {A : List Nat} {W : WX} {x : Str} {c : String} {f z g n : Str} {fI : Addr} {fd : FuncData} {e : Expr} {m : M SD} {p p2 pos : Pos}
end
/-! ### try: .. except C as e: x = e.f -/
def sTryF (b : S) (hit : String → Bool) (i j : Nat) (f : Str) : S := fun ρ => match b ρ with
  | .ex x ρ' => if hit x.c = true ∧ i < ρ'.length then (match x.fs.lookup f with
    | some w => .ok .nx (((ρ'.set i .un).set j (.va w)).set i .un)
    | none => .no) else .no
  | r => r
/-- what is asked of the class: CM catches those that hit tells of -/
structure Try1K (K : PySem.W.Frag) (κ : Ctx) (CM : Value) (f : Str) (hit : String → Bool) : Prop where
  on : ∀ c, hit c = true → PySem.W.exmOne K (.ref (κ.cl c)) CM = some true
  xf : ∀ c, hit c = true → XfC K (κ.cl c) ∧ PySem.W.findIn K (.ref (κ.cl c)) f = some none
def tField (K : PySem.W.Frag) (f : Str) (i j : Nat) (a : Addr) (cls : Value) (d : Option Addr) : TS := fun D σ H => ∃ C, XfC K C ∧ PySem.W.findIn K (.ref C) f = some none ∧ tAsg (tXf a cls d C f (tVar i)) (gName j) D σ H
section
variable {X : Cx} {κ : Ctx} {A : List Nat} {Wout : WX} {i j : Nat} {f nw n xm : Str} {CM : Addr} {body : List Stmt} {b : S} {hit : String → Bool} {q1 q2 q3 q4 q5 q6 pos : Pos}
end
theorem room65 {k : Nat} {A : Around} (r : Room k A) : A.units + 65 < cLine := by have := r.un; omega
end Fm

set_option maxHeartbeats 390000
namespace Fm
open L2 PySem PySem.Spec PyProof.Rows

/-! ### the calculus: texts -/
/-- a plain text of at most n signs -/
structure Tx (n : Nat) (s : Str) : Prop where
  len : s.length ≤ n
  asc : ∀ c ∈ s.cps.toList, c < 128
theorem Tx.mono {m n : Nat} {s : Str} (h : Tx m s) (l : m ≤ n) : Tx n s := ⟨Nat.le_trans h.len l, h.asc⟩
def D.items : D → Option (List D)
  | .lst _ l => some l
  | .tup l => some l
  | .str s => some (s.cps.toList.map fun c => D.str ⟨#[c]⟩)
  | _ => none
section
variable {α : Type} {ρ : List SD} {E : Exn → List SD → Prop} {p : SD → List SD → Prop} {s : Fl → List SD → Prop} {pl : List D → List SD → Prop} {pa : List Ar → List SD → Prop}
theorem w_seqX {m : M SD} (h : Wp (fE m) ρ (fun d ρ' => ∃ l, d.items = some l ∧ pl l ρ') E) : Wp (iSeq m) ρ pl E := w_bind (h.mono (fun d ρ' h => by
  obtain ⟨l, e, h⟩ := h
  cases d <;> first
    | (cases e; exact ⟨h⟩)
    | cases e) fun _ _ z => z)
theorem w_aapp {n k : M (List Ar)} (h : Wp n ρ (fun as ρ1 => Wp k ρ1 (fun bs ρ2 => pa (as ++ bs) ρ2) E) E) : Wp (aApp n k) ρ pa E := w_bind (h.mono (fun _ _ h => w_bind (h.mono (fun _ _ h => w_pure h) fun _ _ z => z)) fun _ _ z => z)
/-- a method's step -/
structure Mw (g : Str → D → Option SD) (mb : M SD) (d : D) (ρ : List SD) (p : SD → List SD → Prop) (E : Exn → List SD → Prop) : Prop where
  run : ∃ z, d = .str z ∧ Wp (fE mb) ρ (fun e ρ2 => Ow (g z e) fun r => p r ρ2) E
theorem w_m1 {g : Str → D → Option SD} {ma mb : M SD} (h : Wp (fE ma) ρ (fun d ρ1 => Mw g mb d ρ1 p E) E) : Wp (mM1 g ma mb) ρ p E := w_bind (h.mono (fun d ρ1 h => by
  obtain ⟨z, rfl, k⟩ := h.run
  exact w_bind (k.mono (fun _ _ h => w_opt h) fun _ _ z => z)) fun _ _ z => z)
theorem w_mw {g : Str → D → Option SD} {mb : M SD} {z : Str} (h : Wp (fE mb) ρ (fun e ρ2 => Ow (g z e) fun r => p r ρ2) E) : Mw g mb (.str z) ρ p E := ⟨z, rfl, h⟩
end
section
variable {p : SD → Prop} {a b : Str} {l : List D} {lo hi : Option Int} {i : Int}
theorem peq_str (a b : Str) : peq (.str a) (.str b) = decide (a = b) := rfl
theorem pl_str {n : Nat} (h : PyData.strOk a = true) : D.pl n (.str a) = true := by cases n <;> exact h
theorem o_eqStr (h : p (.va (.bl (decide (a = b))))) (ha : PyData.strOk a = true) (hb : PyData.strOk b = true) : Ow (eqD (.str a) (.str b)) p := ⟨_, by
  unfold eqD
  rw [pl_str ha, pl_str hb, peq_str]
  rfl, h⟩
theorem o_slStr (h : p (.va (.str (cutS a lo hi)))) (g : a.length ≤ 1000000) : Ow (slcD (.str a) lo hi) p := ⟨_, if_pos g, h⟩
theorem o_ixStr {c : Nat} (h : p (.va (.str ⟨#[c]⟩))) (e : atI a.cps.toList i = some c) (g : a.length ≤ 1000000) : Ow (ixD (.str a) (.int i)) p := ⟨_, by
  show (if a.length ≤ 1000000 then (atI a.cps.toList i).map fun c => SD.va (.str ⟨#[c]⟩) else none) = _
  rw [if_pos g, e]
  rfl, h⟩
theorem o_inS {c : Nat} (h : p (.va (.bl (decide (c ∈ a.cps.toList))))) : Ow (inD (.str ⟨#[c]⟩) (.str a)) p := ⟨_, rfl, h⟩
theorem o_join {x : Bool} {ys : List Str} (h : p (.va (.str (Txt.join a ys)))) (g : (ys.map (·.length)).sum + ys.length * a.length ≤ 1000000) : Ow (joinG a (.lst x (ys.map D.str))) p := ⟨_, by
  show (strsOf (ys.map D.str)).bind _ = _
  rw [strsOf_map]
  exact if_pos g, h⟩
end
end Fm

set_option maxHeartbeats 390000
namespace Fm
open L2 PySem PySem.Spec PyProof.Rows

/-! ### a slot's own list, lent for a while: read by others, then the slot's own again -/
def nbFl : Fl → Bool
  | .rt r => r.nbS
  | _ => true
def sLend (i : Nat) (s : S) : S := fun ρ => match ρ[i]? with
  | some (.ow (.lst b l)) => match s (ρ.set i (.va (.lst true l))) with
    | .ok f ρ' => if ((ρ'.set i .un).all SD.nbS && nbFl f) = true ∧ i < ρ'.length then .ok f (ρ'.set i (.ow (.lst b l))) else .no
    | _ => .no
  | _ => .no
section
variable {κ : Ctx} {B : Bas} {ρ ρ' : List SD} {σ σ' : L2.St} {H H' G G' : Hp} {i : Nat} {p : Addr} {b : Bool} {l : List D} {vs : List V}
/-- the base while it is lent -/
abbrev lendC (B : Bas) (i : Nat) (p : Addr) (vs : List V) : Bas := ⟨upd B.H p (.lst vs), upd B.G p (.lst vs), fun a => B.T a ∨ a = p, (i, p) :: B.an⟩
theorem OwnAt.monoT {T T' : Pd} {q : Addr} {d : D} (h : OwnAt κ T G H q d) (e : Mono T G T' G') (k : H' q = H q) : OwnAt κ T' G' H' q d := by
  cases d <;> first
    | exact h.elim
    | (obtain ⟨vs, h1, h2⟩ := h; first | exact ⟨vs, k.trans h1, RepL.mono e _ h2⟩ | exact ⟨vs, k.trans h1, RepK.mono e _ h2⟩ | exact ⟨vs, h1.at k, RepL.mono e _ h2⟩)
    | (obtain ⟨dx, vs, h1, h2⟩ := h; exact ⟨dx, vs, k.trans h1, RepF.mono e _ h2⟩)
/-- what stands behind it -/
structure LendO (κ : Ctx) (B : Bas) (i : Nat) (p : Addr) (vs : List V) (G : Hp) (l : List D) : Prop where
  gp : G p = none
  bp : B.H p = none
  bg : B.G p = none
  hr : RepL κ B.T G l vs
  sub : Same B.G G
  lent : ∀ a, B.T a → B.H a ≠ none
theorem LendO.at (f : LendO κ B i p vs G l) (o : Ok κ (lendC B i p vs) ρ' σ' H' G') : G' p = some (.lst vs) ∧ H' p = some (.lst vs) ∧ σ'[i]? = some (some (V.ref p)) := by
  have h1 : H' p = some (.lst vs) := o.fr.keep p _ upd_same fun ps z => nomatch z
  have h2 : G' p = some (.lst vs) := by
    have z := o.fr.frz p (by show upd B.H p _ p ≠ none; rw [upd_same]; exact fun z => nomatch z)
    rw [z]
    exact upd_same
  exact ⟨h2, h1, o.anch i p (List.mem_cons_self ..)⟩
theorem LendO.same (f : LendO κ B i p vs G l) (s : Same (upd G p (.lst vs)) G') : Same G (er G' p) := fun a u h => by
  have na : a ≠ p := fun z => by rw [z, f.gp] at h; cases h
  rw [er_ne na]
  exact s a u (by rw [upd_ne na]; exact h)
end
/-! ### the calculus -/
end Fm

set_option maxHeartbeats 990000
/-! zip(x, y) over tuples and lists of one length -/
namespace Zn
open PySem L2 Zs
abbrev zo0 (ti to : Addr) (own : Value) : Obj := { cls := .type "zip", dict := none, data := .fields #[own, .bool false, .bool false, .ref ti, .ref to], slots := #[] }
structure Zip0 (b c : Bool) (z ti to p q a d : Addr) (n : Nat) (own u v : Value) (h : Heap) : Prop where
  z : h.get? z = some (zo0 ti to own)
  i : h.get? ti = some (two (.ref p) (.ref q))
  o : h.get? to = some (two u v)
  p : At b h p a n
  q : At c h q d n
section
variable {P : Program} {w : World} {s : Shared} {A : Around} {E : Value → Shared → Prop}
end
abbrev fiveN (b c : Bool) (a d : Addr) (n : Nat) : List Obj := [itO b a, itO c d, two (.ref n) (.ref (n + 1)), two .none .none, zo0 (n + 2) (n + 3) .none]
section
variable {b c : Bool} {z ti to p q a d : Addr} {n : Nat} {own u v : Value} {h g : Heap}
end
section
variable {P : Program} {w : World} {s : Shared} {A : Around} {E : Value → Shared → Prop}
end
end Zn

set_option maxHeartbeats 390000
namespace Fm
open L2 PySem PySem.Spec PyProof.Rows Zs Zn

/-! ### zip(a, b) of one length -/
/-! ### enumerate(a list) -/
def enP : Nat → List D → List D
  | _, [] => []
  | k, d :: l => .tup [.int (k : Nat), d] :: enP (k + 1) l
theorem enP_at : ∀ {l : List D} {k i : Nat}, (enP k l)[i]? = l[i]?.map fun d => .tup [.int ((k + i : Nat) : Int), d]
  | [], _, _ => by simp [enP]
  | d :: l, k, 0 => rfl
  | d :: l, k, i + 1 => by
    show (enP (k + 1) l)[i]? = _
    rw [enP_at, List.getElem?_cons_succ, show k + 1 + i = k + (i + 1) by omega]
theorem enP_len : ∀ {l : List D} {k : Nat}, (enP k l).length = l.length
  | [], _ => rfl
  | d :: l, k => by
    show (enP (k + 1) l).length + 1 = _
    rw [enP_len]
    rfl
def enM : D → M (List D)
  | .lst _ l => M.ret (enP 0 l)
  | _ => M.no
def iEn (m : M SD) : M (List D) := (fE m).bind enM
theorem itd_enum {κ : Ctx} {T : Pd} {G0 : Hp} {a : Addr} {l : List D} {vs : List V} (hs : SqL κ.K G0 a vs) (r : RepL κ T G0 l vs) : ItD κ T G0 (Ite κ.K a) (enP 0 l) := by
  intro i B ρ σ H G hT o s
  have q := sqL_mono (s.trans o.fr.gh) hs
  have hl := r.length
  refine ⟨fun hi => ?_, fun hi => ⟨vs, q, by rw [enP_len] at hi; omega⟩, fun d hd x H' y => ?_⟩
  · rw [enP_len] at hi
    exact ⟨vs, vs[i]'(by omega), q, List.getElem?_eq_getElem _⟩
  · rw [enP_at, Nat.zero_add] at hd
    obtain ⟨c, hc, rfl⟩ := Option.map_eq_some_iff.mp hd
    obtain ⟨t, u, rfl, ht, rfl, f⟩ := y
    obtain ⟨v, h1, h2⟩ := r.get hc
    have g1 := f _ q
    rw [h1] at g1
    cases g1
    have sU : Same G (upd G t (.tup [.int (i : Nat), u])) := Same.upd (o.gnone ht)
    exact ⟨upd G t (.tup [.int (i : Nat), u]), o.alloc ht (fun _ z => by cases z), sU, Same.upd ht, t, [.int (i : Nat), u], rfl, .inl upd_same, .int (i : Nat), [u], rfl, rfl, u, [], rfl, Rep.mono (.of (s.trans sU)) c h2, rfl⟩
/-! ### divmod, sum -/
def dvmD : List D → Option SD
  | [.int i, .int j] => if divG i j then some (.va (.tup [.int (i.fdiv j), .int (i.fmod j)])) else none
  | _ => none
def intsD : List D → Option (List Int)
  | [] => some []
  | .int i :: l => (intsD l).map (i :: ·)
  | _ :: _ => none
def sumD : List D → Option SD
  | [.lst _ l] => (intsD l).map fun ns => .va (.int ns.sum)
  | _ => none
/-! ### the calculus -/
section
variable {ρ : List SD} {E : Exn → List SD → Prop} {pl : List D → List SD → Prop} {p : SD → Prop}
end
end Fm

set_option maxHeartbeats 990000
/-! sorted(xs, key=f): the keys are ints, the order is stable; J is what holds all the while -/
namespace Sj
open PySem PyProof.Rows
structure SJ (z : Nat) (J : Shared → Prop) : Prop where
  grow : ∀ {s : Shared} {h' : Heap} {t' : Nat}, J s → (∀ b o, s.heap.get? b = some o → h'.get? b = some o) → J { s with heap := h', toks := t' }
  alt : ∀ {s : Shared} {h' : Heap} {t' : Nat} {b : Addr}, J s → z ≤ b → Heap.SameBut b s.heap h' → J { s with heap := h', toks := t' }
section
variable {prog : Program} {w : World} {A : Around} {E : Value → Shared → Prop} {s : Shared} {a kS : Addr} {vs : List Value} {kz : List Int} {keys : Array Value} {e e1 : Nat} {P : PySem.Fin → Shared → Prop} {z : Nat} {J : Shared → Prop}
end
end Sj

set_option maxHeartbeats 990000
namespace Fm
open L2 PySem PySem.Spec PyProof.Rows NdefX LamX Sj

/-! ### a stable order by keys -/
section
variable {α β : Type}
def insK (x : Int × α) : List (Int × α) → List (Int × α)
  | [] => [x]
  | y :: l => if x.1 ≤ y.1 then x :: y :: l else y :: insK x l
def srtK : List (Int × α) → List (Int × α)
  | [] => []
  | x :: l => insK x (srtK l)
end
/-! ### key = lambda p: abs(p[0][y]) -/
def D.itm : D → Option (List D)
  | .tup l => some l
  | .lst _ l => some l
  | _ => none
def absK : D → Option Int
  | .int i => some (if i < 0 then -i else i)
  | _ => none
def keyD (n : Int) (d : D) : Option Int := d.itm.bind fun l => (atI l 0).bind fun e => e.itm.bind fun m => (atI m n).bind absK
def keysD (n : Int) : List D → Option (List Int)
  | [] => some []
  | d :: l => (keyD n d).bind fun k => (keysD n l).map (k :: ·)
section
variable {κ : Ctx} {T : Pd} {G H : Hp}
/-- the lambda's body, read -/
abbrev tKey (K : PySem.W.Frag) : TE := tCB (fun xs H Q => ∃ i, xs = [.int i] ∧ Q (.int (if i < 0 then -i else i)) H) (tCons (tOp (rIx K) (tOp (rIx K) (tVar 0) (tC (.int 0))) (tVar 1)) tNil)
end
def mSrt (j : Nat) (m : M SD) : M SD := (fE m).bind fun d => fun ρ => match d, ρ[j]? with
  | .lst _ l, some (.va (.int n)) => match keysD n l with
    | some ks => .ok (.ow (.lst false ((srtK (ks.zip l)).map Prod.snd))) ρ
    | none => .no
  | _, _ => .no
section
variable {pins : List (Addr × Obj)} {X : Cx} {σ : L2.St} {H : Hp} {s : Shared}
variable {f c' : Addr} {pm ctv u : Value} {v : V} {params : Arguments} {body : Expr} {scope : Scope} {p y : Str} {j k : Nat} {t : TE} {Q : VK}
end
end Fm

set_option maxHeartbeats 990000
/-! ### sorted, min, max over data -/
namespace Mn
open PySem PySem.W
section
variable {prog : Program} {w : World} {A : Around} {s : Shared} {E : Value → Shared → Prop}
/-- the heap with the two in a tuple -/
abbrev two (h : Heap) (a b : Value) : Heap := h.push { cls := .type "tuple", data := .seq #[a, b] }
/-- min(a, b) of two alike data -/
theorem min_pair {a b : Value} {x y : PyData} {as bs : List Addr} {Q : Value → Shared → Prop} (hh : A.handled = none) (ra : Reads s.heap a x as) (rb : Reads s.heap b y bs) (hal : AlikeAll [x, y]) (hu : A.units + 1 + PyData.depthAll [x, y] < cLine)
    (h : ∀ h' tk, (∀ c o, s.heap.get? c = some o → h'.get? c = some o) → Q (if dataLt y x then b else a) { s with heap := h', toks := tk }) : wpAny (model prog w) A (call (.builtin "min") [a, b]) Q E s := by
  have old : ∀ c o, s.heap.get? c = some o → (two s.heap a b).get? c = some o := fun c o e => Heap.get?_push_of_some _ e
  have tupAt : (two s.heap a b).IsTuple s.heap.objs.size #[a, b] := ⟨_, Heap.get?_push_size _ rfl, rfl, 0, rfl⟩
  have rd : ReadsAll (two s.heap a b) #[a, b].toList [x, y] (as ++ (bs ++ [])) := .cons (reads_keeps old ra) (.cons (reads_keeps old rb) .nil)
  refine call_function_tree F.kind_min F.plain_min F.entry_min (F.args_min2 a b) (wpAny_bind (wpAny_of_eq (a := [none, none]) rfl (wpAny_bind (wpAny_newObj_type (wpAny_bind (iter_tupleW (A := A.in1) (s := { s with heap := two s.heap a b }) hh tupAt fun s₂ e W st hfp hw hkeep => wpAny_bind (wpAny_newObj_type ?_)))))))
  have nm : "min.loop" = (toString "min" ++ toString ".loop" : String) := by decide
  have hSf : s₂.heap.objs.size ∉ [(two s.heap a b).objs.size, s.heap.objs.size] := fun hm => absurd (hfp _ hm) (Nat.lt_irrefl _)
  rw [← nm]
  have hcmp := cmpIn_lt (prog := prog) (w := w) (A := A.in1) (s := { s with heap := two s.heap a b }) rd hal (show A.units + 1 + _ < _ from hu)
  refine wpAny_pure ⟨plainId_quiet F.plain_min_loop _, codeAny_min_loop_firstH W _ hw _ hcmp s₂.heap.objs.size hSf (fresh_in hkeep) _ (by show 0 < 2; omega) (fun b o e => Heap.get?_push_of_some _ (hkeep b o e)) (W.frame 0 s₂ _ s₂.toks st (Nat.le_refl _) fun b _ o e => Heap.get?_push_of_some _ e) (Heap.get?_push_size _ rfl) fun v s' hP hm => ?_⟩
  have hm2 := Moved.drop_new (tk := s₂.toks) hm (Nat.le_refl _)
  obtain ⟨h', tk, rfl, hk'⟩ := moved_old (s := { s with heap := s.heap.push { cls := .type "tuple", data := .seq #[a, b] } }) e rfl hm2
  have ev : v = if dataLt y x then b else a := by
    have hP' : (#[a, b] : Array Value)[argBest (fun i j => dataLt ([x, y].getD i .none) ([x, y].getD j .none)) 1]? = some v := hP
    have e1 : argBest (fun i j => dataLt ([x, y].getD i .none) ([x, y].getD j .none)) 1 = if dataLt y x then 1 else 0 := rfl
    rw [e1] at hP'
    cases c : dataLt y x with
    | true =>
      rw [c, if_pos rfl] at hP'
      cases hP'
      exact (if_pos rfl).symm
    | false =>
      rw [c, if_neg Bool.false_ne_true] at hP'
      cases hP'
      exact (if_neg Bool.false_ne_true).symm
  subst ev
  exact h h' tk fun c o e => hk' c o (old c o e)
end
end Mn
namespace Fm
open L2 PySem PySem.Spec PyProof.Rows PySem.W
theorem inC {α : Type} {a b : α} {l : List α} (h : a ∈ b :: l) : a = b ∨ a ∈ l := List.mem_cons.mp h
theorem allC {α : Type} {p : α → Bool} {a : α} {l : List α} (h : (a :: l).all p = true) : p a = true ∧ l.all p = true := Bool.and_eq_true_iff.mp h

/-- what sorted and min take -/
def sortB (l : List D) : Bool := plL 60 l && (l.all fun a => l.all fun b => alike a.py b.py) && ((l.all fun a => match a.py with | .tuple (_ :: _) => true | _ => false) || l.all fun a => match a.py with | .none => false | .tuple _ => false | _ => true)
def srtD (l : List D) : List D := l.mergeSort (dataLe false D.py)
section
variable {κ : Ctx} {X : Cx}
theorem plL_mem : ∀ {l : List D} {n : Nat} {d : D}, plL n l = true → d ∈ l → d.pl n = true
  | c :: l, n, d, h, m => by
    have h' : (D.pl n c && plL n l) = true := by unfold plL at h; exact h
    rw [Bool.and_eq_true] at h'
    rcases inC m with rfl | m
    · exact h'.1
    · exact plL_mem h'.2 m
theorem sortB_pl {l : List D} (h : sortB l = true) : plL 60 l = true := by
  unfold sortB at h
  rw [Bool.and_eq_true, Bool.and_eq_true] at h
  exact h.1.1
theorem sortB_alike {l : List D} (h : sortB l = true) : AllAlike (l.map D.py) := by
  unfold sortB at h
  rw [Bool.and_eq_true, Bool.and_eq_true] at h
  have h2 := h.1.2
  intro d hd e he
  obtain ⟨a, ha, rfl⟩ := List.mem_map.mp hd
  obtain ⟨b, hb, rfl⟩ := List.mem_map.mp he
  exact List.all_eq_true.mp (List.all_eq_true.mp h2 a ha) b hb
theorem sortB_able {l : List D} (h : sortB l = true) : Sortable (l.map D.py) := by
  unfold sortB at h
  rw [Bool.and_eq_true] at h
  rcases Bool.or_eq_true_iff.mp h.2 with z | z
  · refine .inl fun d hd => ?_
    obtain ⟨a, ha, rfl⟩ := List.mem_map.mp hd
    have y := List.all_eq_true.mp z a ha
    split at y
    · rename_i u r e
      exact ⟨u, r, e⟩
    · cases y
  · refine .inr fun d hd => ?_
    obtain ⟨a, ha, rfl⟩ := List.mem_map.mp hd
    have y := List.all_eq_true.mp z a ha
    refine ⟨fun e => ?_, fun xs e => ?_⟩
    · rw [e] at y
      cases y
    · rw [e] at y
      cases y
/-- the values stand for the data -/
def Std (κ : Ctx) (T : Pd) (G : Hp) (u : Value) (d : D) : Prop := ∃ v, RelV v u ∧ Rep κ T G d v
theorem each_of {T : Pd} {G : Hp} : ∀ {ds : List D} {vs : List V} {us : List Value}, RepL κ T G ds vs → Vals vs us → EachIs (Std κ T G) us ds
  | [], vs, us, r, h => by
    rw [show vs = [] from r] at h
    cases h
    exact .nil
  | d :: ds, vs, us, r, h => by
    obtain ⟨v, ws, rfl, r1, r2⟩ := r
    cases h with
    | cons a b => exact .cons ⟨v, a, r1⟩ (each_of r2 b)
theorem of_each {T : Pd} {G : Hp} {us : List Value} {ds : List D} (h : EachIs (Std κ T G) us ds) : ∃ vs, Vals vs us ∧ RepL κ T G ds vs := by
  induction h with
  | nil => exact ⟨[], .nil, rfl⟩
  | cons a b ih =>
    obtain ⟨v, h1, h2⟩ := a
    obtain ⟨vs, h3, h4⟩ := ih
    exact ⟨v :: vs, .cons h1 h3, v, vs, rfl, h2, h4⟩
theorem py_reads {T : Pd} {G H : Hp} {pins : List (Addr × Obj)} {σ : L2.St} {s : Shared} (hK : X.K = κ.K) (I : L2.Inv X pins σ H s) (gh : Same G H) {d : D} {u : Value} {n : Nat} (hp : d.pl n = true) (h : Std κ T G u d) : ∃ as, Reads s.heap u d.py as := by
  obtain ⟨v, h1, h2⟩ := h
  exact Dp.reads I d.py v u (hK ▸ rep_dp gh d hp h2) h1
def rSortD (κ : Ctx) : List V → Hp → VK → Prop := fun xs H Q => ∃ a vs ds T G, xs = [.ref a] ∧ SqL κ.K H a vs ∧ RepL κ T G ds vs ∧ Same G H ∧ sortB ds = true ∧ ∀ ws p, RepL κ T G (srtD ds) ws → H p = none → Q (.ref p) (upd H p (.lst ws))
theorem cr_sortD (hK : X.K = κ.K) (hu : X.A.units + 65 < cLine) : CallR X (.builtin "sorted") (rSortD κ) := by
  rintro pins s σ H xs us Q I r h
  obtain ⟨a, vs, ds, T, G, rfl, hs, hr, gh, hb, q⟩ := h
  obtain ⟨its, rv, hl, hz⟩ := I.list (hK ▸ hs)
  rw [Vals.ref1 r]
  have e := each_of hr rv
  have pl := sortB_pl hb
  have lz : ds.length ≤ sizeLine := by rw [← hr.length]; exact hz
  have er : EachIs (fun u d => ∃ as, Reads s.heap u (D.py d) as) its ds := by
    have go : ∀ {us : List Value} {l : List D}, EachIs (Std κ T G) us l → (∀ d ∈ l, d.pl 60 = true) → EachIs (fun u d => ∃ as, Reads s.heap u (D.py d) as) us l := by
      intro us l h
      induction h with
      | nil => exact fun _ => .nil
      | cons a b ih => exact fun hp => .cons (py_reads hK I gh (hp _ (List.mem_cons_self ..)) a) (ih fun d hd => hp d (List.mem_cons_of_mem _ hd))
    exact go e fun d hd => plL_mem pl hd
  refine sorted_data hl.isList e er (sortB_alike hb) (sortB_able hb) lz (fun d hd => ?_) fun out ol ho => ?_
  · have := (py_can d (plL_mem pl hd)).2
    omega
  · obtain ⟨ws, w1, w2⟩ := of_each ho
    obtain ⟨ep, he'⟩ := PyProof.Rows.sortedAll_at s.heap its (List.toArray out)
    have wl : ws.length ≤ sizeLine := by
      have z : ws.length = (srtD ds).length := w2.length
      have z2 : (srtD ds).length = ds.length := List.length_mergeSort _
      rw [z, z2]
      exact lz
    exact ⟨.ref _, upd H (s.heap.objs.size + 1) (.lst ws), I.laid (t' := s.toks) (fun _ _ => PyProof.Rows.sortedAll_old) (Nat.le_succ _) ⟨wl, out, ep, w1, he'⟩, rfl, q ws _ w2 (I.hok.fresh (Nat.le_succ _))⟩
def minB (d e : D) : Bool := d.pl 60 && e.pl 60 && alike d.py d.py && alike d.py e.py && alike e.py d.py && alike e.py e.py && (match d.py with | .none => false | _ => true) && (match e.py with | .none => false | _ => true)
theorem minB_all {d e : D} (h : minB d e = true) : d.pl 60 = true ∧ e.pl 60 = true ∧ AlikeAll [d.py, e.py] := by
  unfold minB at h
  obtain ⟨h, h8⟩ := and2 h
  obtain ⟨h, h7⟩ := and2 h
  obtain ⟨h, h6⟩ := and2 h
  obtain ⟨h, h5⟩ := and2 h
  obtain ⟨h, h4⟩ := and2 h
  obtain ⟨h, h3⟩ := and2 h
  obtain ⟨h1, h2⟩ := and2 h
  refine ⟨h1, h2, fun x hx y hy => ?_, fun x hx => ?_⟩
  · rcases inC hx with rfl | hx
    · rcases inC hy with rfl | hy
      · exact h3
      · rw [List.mem_singleton.mp hy]
        exact h4
    · rw [List.mem_singleton.mp hx]
      rcases inC hy with rfl | hy
      · exact h5
      · rw [List.mem_singleton.mp hy]
        exact h6
  · rcases inC hx with rfl | hx
    · intro z
      rw [z] at h7
      cases h7
    · rw [List.mem_singleton.mp hx]
      intro z
      rw [z] at h8
      cases h8
def min2D (d e : D) : D := if dataLt e.py d.py then e else d
def rMin2D (κ : Ctx) : List V → Hp → VK → Prop := fun xs H Q => ∃ x y d e T G, xs = [x, y] ∧ Rep κ T G d x ∧ Rep κ T G e y ∧ Same G H ∧ minB d e = true ∧ Q (if dataLt e.py d.py then y else x) H
theorem cr_min2D (hK : X.K = κ.K) (hc : X.calm = true) (hu : X.A.units + 65 < cLine) : CallR X (.builtin "min") (rMin2D κ) := by
  rintro pins s σ H xs us Q I r h
  obtain ⟨x, y, d, e, T, G, rfl, r1, r2, gh, hb, q⟩ := h
  obtain ⟨u, u', rfl, h1, h2⟩ := vals2 r
  obtain ⟨p1, p2, al⟩ := minB_all hb
  obtain ⟨as, ra⟩ := py_reads hK I gh p1 ⟨x, h1, r1⟩
  obtain ⟨bs, rb⟩ := py_reads hK I gh p2 ⟨y, h2, r2⟩
  have d1 := (py_can d p1).2
  have d2 := (py_can e p2).2
  refine Mn.min_pair (I.ok.hd hc) ra rb al ?_ fun h' tk k => ⟨_, H, I.kept k, ?_, q⟩
  · show X.A.units + 1 + max d.py.depth (max e.py.depth 0) < cLine
    omega
  · split
    · exact h2
    · exact h1
def sortD : List D → Option SD
  | [.lst _ l] => if sortB l then some (.ow (.lst false (srtD l))) else none
  | _ => none
theorem cd_sortD : CallD κ (rSortD κ) sortD := by
  intro B ρ σ H G ds xs z Q o r hz q
  unfold sortD at hz
  split at hz
  · rename_i b l
    split at hz
    · rename_i hb
      cases hz
      obtain ⟨v, ws, rfl, r1, rfl⟩ := r
      obtain ⟨a, vs, rfl, h2, h3, h4⟩ := r1.seqL o.fr.gh
      exact ⟨a, vs, l, B.T, G, rfl, h3, h4, o.fr.gh, hb, fun ws p hw hp => q _ _ G (o.allocOwn hp) (Same.refl G) (o.newOwn hp ⟨ws, upd_same, hw⟩)⟩
    · cases hz
  · cases hz
def minD2 : List D → Option SD
  | [d, e] => if minB d e then some (.va (min2D d e)) else none
  | _ => none
theorem cd_min2D : CallD κ (rMin2D κ) minD2 := by
  intro B ρ σ H G ds xs z Q o r hz q
  unfold minD2 at hz
  split at hz
  · rename_i d e
    split at hz
    · rename_i hb
      cases hz
      obtain ⟨x, ws, rfl, r1, y, w2, rfl, r2, rfl⟩ := r
      refine ⟨x, y, d, e, B.T, G, rfl, r1, r2, o.fr.gh, hb, q _ H G o (Same.refl G) ?_⟩
      show Rep κ B.T G (min2D d e) _
      unfold min2D
      split
      · exact r2
      · exact r1
    · cases hz
  · cases hz
/-- max of a list of ints -/
def maxIs : List Int → Int
  | [] => 0
  | x :: l => l.foldl max x
def maxLD : List D → Option SD
  | [.lst _ l] => match intsD l with
    | some (x :: ns) => some (.va (.int (ns.foldl max x)))
    | _ => none
  | _ => none
end
/-! ### the calculus -/
section
variable {p : SD → Prop}
theorem o_min2 {d e : D} (h : p (.va (min2D d e))) (g : minB d e = true) : Ow (minD2 [d, e]) p := ⟨_, if_pos g, h⟩
end
end Fm

set_option maxHeartbeats 990000
/-! ### dicts -/
namespace Fm
open L2 PySem PySem.Spec PyProof.Rows PySem.W
def keyOf : D → Option Key
  | .int i => some (.inl i)
  | .str s => some (.inr s)
  | _ => none
def getK (l : List (Key × D)) (k : Key) : Option D := (l.find? fun kv => decide (kv.1 = k)).map (·.2)
def putKD (l : List (Key × D)) (k : Key) (d : D) : List (Key × D) :=
  if (l.any fun kv => decide (kv.1 = k)) = true then l.map (fun kv => if kv.1 = k then (kv.1, d) else kv) else l ++ [(k, d)]
def dropKD (l : List (Key × D)) (k : Key) : List (Key × D) := l.filter fun kv => decide (kv.1 ≠ k)
section
variable {κ : Ctx} {T : Pd} {G H : Hp}
theorem key_rep {d : D} {v : V} {k : Key} (r : Rep κ T G d v) (h : keyOf d = some k) : v = kV k := by
  cases d with
  | int i =>
    cases h
    exact r
  | str s =>
    cases h
    exact r
  | _ => cases h
theorem getK_cons (p : Key × D) (l : List (Key × D)) (k : Key) : getK (p :: l) k = if p.1 = k then some p.2 else getK l k := by
  unfold getK
  rw [List.find?_cons]
  by_cases h : p.1 = k
  · rw [if_pos h, decide_eq_true h] <;> rfl
  · rw [if_neg h, decide_eq_false h]
theorem RepK.val : ∀ {l : List (Key × D)} {vs : List (Key × V)} (k : Key), RepK κ T G l vs → (∀ d, getK l k = some d → ∃ v, valV vs k = some v ∧ Rep κ T G d v) ∧ (getK l k).isSome = (valV vs k).isSome
  | [], vs, k, h => by
    rw [show vs = [] from h]
    exact ⟨(fun d z => by cases z), rfl⟩
  | (c, d) :: l, vs, k, h => by
    obtain ⟨v, ws, rfl, h1, h2⟩ := h
    obtain ⟨i1, i2⟩ := RepK.val k h2
    rw [getK_cons]
    by_cases e : c = k
    · rw [if_pos e, valV_pos (p := (c, v)) e]
      exact ⟨fun d' z => by cases z; exact ⟨v, rfl, h1⟩, rfl⟩
    · rw [if_neg e, valV_neg (p := (c, v)) e]
      exact ⟨i1, i2⟩
theorem RepK.any : ∀ {l : List (Key × D)} {vs : List (Key × V)} (k : Key), RepK κ T G l vs → (l.any fun kv => decide (kv.1 = k)) = vs.any fun kv => decide (kv.1 = k)
  | [], vs, k, h => by
    rw [show vs = [] from h]
    rfl
  | (c, d) :: l, vs, k, h => by
    obtain ⟨v, ws, rfl, h1, h2⟩ := h
    rw [List.any_cons, List.any_cons, RepK.any k h2]
theorem RepK.append : ∀ {l m : List (Key × D)} {vs ws : List (Key × V)}, RepK κ T G l vs → RepK κ T G m ws → RepK κ T G (l ++ m) (vs ++ ws)
  | [], m, vs, ws, h, k => by rw [show vs = [] from h]; exact k
  | (c, d) :: l, m, vs, ws, h, k => by
    obtain ⟨v, us, h1, h2, h3⟩ := h
    rw [h1]
    exact ⟨v, us ++ ws, rfl, h2, h3.append k⟩
theorem RepK.put {l : List (Key × D)} {vs : List (Key × V)} (k : Key) {d : D} {v : V} (h : RepK κ T G l vs) (r : Rep κ T G d v) : RepK κ T G (putKD l k d) (putK vs k v) := by
  have go : ∀ {l : List (Key × D)} {vs : List (Key × V)}, RepK κ T G l vs → RepK κ T G (l.map fun kv => if kv.1 = k then (kv.1, d) else kv) (vs.map fun kv => if kv.1 = k then (kv.1, v) else kv) := by
    intro l
    induction l with
    | nil =>
      intro vs h
      rw [show vs = [] from h]
      exact rfl
    | cons p l ih =>
      intro vs h
      obtain ⟨c, e⟩ := p
      obtain ⟨w, ws, rfl, h1, h2⟩ := h
      rw [List.map_cons]
      rw [List.map_cons]
      by_cases z : c = k
      · rw [if_pos z, if_pos z]
        exact ⟨v, _, rfl, r, ih h2⟩
      · rw [if_neg z, if_neg z]
        exact ⟨w, _, rfl, h1, ih h2⟩
  unfold putKD putK
  rw [h.any k]
  split
  · exact go h
  · exact h.append ⟨v, [], rfl, r, rfl⟩
theorem RepK.drop (k : Key) : ∀ {l : List (Key × D)} {vs : List (Key × V)}, RepK κ T G l vs → RepK κ T G (dropKD l k) (dropK vs k)
  | [], vs, h => by
    rw [show vs = [] from h]
    exact rfl
  | (c, d) :: l, vs, h => by
    obtain ⟨w, ws, rfl, h1, h2⟩ := h
    have ih := RepK.drop k h2
    unfold dropKD dropK at ih ⊢
    rw [List.filter_cons]
    rw [List.filter_cons]
    by_cases z : c ≠ k
    · rw [if_pos (decide_eq_true z), if_pos (decide_eq_true z)]
      exact ⟨w, _, rfl, h1, ih⟩
    · rw [if_neg (by simpa using z), if_neg (by simpa using z)]
      exact ih
theorem RepK.keys : ∀ {l : List (Key × D)} {vs : List (Key × V)}, RepK κ T G l vs → vs.map (·.1) = l.map (·.1)
  | [], vs, h => by rw [show vs = [] from h] <;> rfl
  | (c, d) :: l, vs, h => by
    obtain ⟨w, ws, rfl, h1, h2⟩ := h
    rw [List.map_cons, List.map_cons, h2.keys]
theorem RepK.length {l : List (Key × D)} {vs : List (Key × V)} (h : RepK κ T G l vs) : vs.length = l.length := by
  have e := congrArg List.length h.keys
  repeat rw [List.length_map] at e
  exact e
theorem Rep.dkR {b : Bool} {l : List (Key × D)} {v : V} (s : Same G H) (h : Rep κ T G (.dk b l) v) : ∃ a vs, v = .ref a ∧ Rd H a (.dK vs) ∧ RepK κ T G l vs := by
  obtain ⟨a, vs, rfl, ⟨h1, _⟩, h2⟩ := h
  exact ⟨a, vs, rfl, Rd.mono s h1.rd, h2⟩
end
/-! ### d[k] -/
def ix3D (d k : D) : Option SD := match d with
  | .dk _ l => (keyOf k).bind fun k => (getK l k).map SD.va
  | d => ixD d k
abbrev rIx3 (K : PySem.W.Frag) : R2 := fun x y H Q => rIx K x y H Q ∨ ∃ a v, x = .ref a ∧ DGet H a y (some v) ∧ Q v H
section
variable {κ : Ctx} {X : Cx}
theorem ix_dict (hu : X.A.units + 1 < cLine) : IxR X (fun x y H Q => ∃ a v, x = .ref a ∧ DGet H a y (some v) ∧ Q v H) := by
  rintro value slice pins s σ H x y v u Q I rx ry h hs
  obtain ⟨a, z, rfl, g, q⟩ := h
  obtain rfl : v = .ref a := rx
  exact tail_any (dict_typeIs I g) PySem.F.slot_dict_getitem.lookup (d_getItem hu I g ry fun w' s3 I3 rw' => ⟨z, H, I3, rw', q⟩) hs
theorem ix_3 (hu : X.A.units + 1 < cLine) : IxR X (rIx3 X.K) := ix_seq.or (ix_dict hu)
theorem od_ix3 : OpD κ (rIx3 κ.K) ix3D := by
  intro B ρ σ H G d e x y z Q o r1 r2 hz q
  cases d with
  | dk b l =>
    obtain ⟨k, hk, hz⟩ := Option.bind_eq_some_iff.mp hz
    obtain ⟨c, hc, rfl⟩ := Option.map_eq_some_iff.mp hz
    obtain ⟨a, vs, rfl, h1, h2⟩ := r1.dkR o.fr.gh
    obtain ⟨v, hv, rv⟩ := (h2.val k).1 c hc
    refine .inr ⟨a, v, rfl, ?_, q v H G o (Same.refl G) rv⟩
    rw [key_rep r2 hk, ← hv]
    exact .inl ⟨vs, k, h1, rfl, rfl⟩
  | _ => exact .inl (od_ix B ρ σ H G _ e x y z Q o r1 r2 hz q)
def at3S (i : Nat) (e : D) : M SD := fun ρ => match ρ[i]? with
  | some (.va d) => match ix3D d e with
    | some z => .ok z ρ
    | none => .no
  | some (.ow (.lst b l)) => match ixD (.lst b l) e with
    | some z => .ok z ρ
    | none => .no
  | some (.ow (.dk _ l)) => match (keyOf e).bind (getK l) with
    | some d => .ok (.va d) ρ
    | none => .no
  | _ => .no
def mSub3 (i : Nat) (m : M SD) : M SD := guardS i ((fE m).bind (at3S i))
variable {W : WX} {σ : L2.St} {H : Hp} {Q : VK}
theorem sub3_ok {i : Nat} {m : M SD} (h : tE κ W (mSub3 i m) σ H Q) : tOp (rIx3 κ.K) (tVar i) (tE κ W m) σ H Q := by
  obtain ⟨B, ρ, G, o, q⟩ := h
  obtain ⟨⟨v, hv⟩, q⟩ := guard_ok o q
  refine ⟨v, hv, tE_fz o (Pst.bind q) fun e ρ1 H1 G1 o1 s1 q1 y r1 => ?_⟩
  unfold at3S at q1
  cases h1 : ρ1[i]? with
  | none =>
    rw [h1] at q1
    exact q1.elim
  | some x =>
    rw [h1] at q1
    cases x with
    | un => exact q1.elim
    | va d =>
      dsimp only at q1
      obtain ⟨w', e1, e2⟩ := o1.val i d h1
      rw [hv] at e1
      cases e1
      cases hz : ix3D d e with
      | none =>
        rw [hz] at q1
        exact q1.elim
      | some z =>
        rw [hz] at q1
        exact od_ix3 B ρ1 σ H1 G1 d e _ _ z Q o1 e2 r1 hz fun v' H' G' o' s' rv => q1 H' G' o' s' v' rv
    | ow d =>
      obtain ⟨p, e1, e2, e3, e4⟩ := o1.own i d h1
      rw [hv] at e1
      cases e1
      cases d with
      | lst b l =>
        dsimp only at q1
        cases hz : ixD (.lst b l) e with
        | none =>
          rw [hz] at q1
          exact q1.elim
        | some z =>
          rw [hz] at q1
          cases e with
          | int j =>
            obtain ⟨c, h2, rfl⟩ := Option.map_eq_some_iff.mp (show (atI l j).map SD.va = some z from hz)
            obtain ⟨vs, h3, h4⟩ := e4
            obtain ⟨v', h5, h6⟩ := atI_rep h4 h2
            exact .inl (.inl ⟨p, vs, j, v', rfl, r1, SqL.of h3, h5, q1 H1 G1 o1 (Same.refl G1) v' h6⟩)
          | _ => cases hz
      | dk b l =>
        dsimp only at q1
        cases hz : (keyOf e).bind (getK l) with
        | none =>
          rw [hz] at q1
          exact q1.elim
        | some c =>
          rw [hz] at q1
          obtain ⟨k, hk, hc⟩ := Option.bind_eq_some_iff.mp hz
          obtain ⟨vs, h3, h4⟩ := e4
          obtain ⟨v', hv', rv⟩ := (h4.val k).1 c hc
          refine .inr ⟨p, v', rfl, ?_, q1 H1 G1 o1 (Same.refl G1) v' rv⟩
          rw [key_rep r1 hk, ← hv']
          exact DGet.k h3
      | _ => exact q1.elim
theorem e_sub3 {i : Nat} {x : Str} {b : Expr} {m : M SD} {p pos : Pos} (hK : X.K = κ.K) (hu : X.A.units + 65 < cLine) (h : PE X (.Name x p) (tVar i)) (hb : PE X b (tE κ W m)) (hs : PlainIx b) : PE X (.Subscript (.Name x p) b pos) (tE κ W (mSub3 i m)) :=
  PE.imp (pe_ix (ix_3 (by omega)) h hb hs) fun _ _ _ q => by
    rw [hK]
    exact sub3_ok q
theorem e_ix3 {a b : Expr} {ma mb : M SD} {pos : Pos} (hK : X.K = κ.K) (hu : X.A.units + 65 < cLine) (h : PE X a (tE κ W ma)) (hb : PE X b (tE κ W mb)) (hs : PlainIx b) : PE X (.Subscript a b pos) (tE κ W (mOp ix3D ma mb)) :=
  PE.imp (pe_ix (ix_3 (by omega)) h hb hs) fun _ _ _ q => op_ok (hK ▸ od_ix3) q
end
/-! ### k in d -/
def flatD : D → Bool
  | .non => true
  | .bl _ => true
  | .int _ => true
  | .str _ => true
  | _ => false
def eqF : D → D → Bool
  | .non, .non => true
  | .bl a, .bl b => a == b
  | .bl p, .int q => (if p then 1 else 0) == q
  | .int p, .bl q => p == (if q then 1 else 0)
  | .int a, .int b => a == b
  | .str a, .str b => a == b
  | _, _ => false
def in3B (d e : D) : Option Bool := match e with
  | .dk _ l => (keyOf d).map fun k => (getK l k).isSome
  | .tup l => if flatD d && l.all flatD then some (l.any fun y => eqF y d) else none
  | e => inB d e
def in3D (d e : D) : Option SD := (in3B d e).map fun b => .va (.bl b)
def nin3D (d e : D) : Option SD := (in3B d e).map fun b => .va (.bl (!b))
abbrev rIn3 (K : PySem.W.Frag) : R2 := fun x y H Q => rIn2 K x y H Q ∨ rIn K false x y H Q ∨ ∃ a o, y = .ref a ∧ DGet H a x o ∧ Q (.bl o.isSome) H
abbrev rNin3 (K : PySem.W.Frag) : R2 := fun x y H Q => rNin2 K x y H Q ∨ rIn K true x y H Q ∨ ∃ a o, y = .ref a ∧ DGet H a x o ∧ Q (.bl (!o.isSome)) H
section
variable {κ : Ctx} {X : Cx}
theorem op_inDk (hu : X.A.units + 1 < cLine) : OpR X (compareOp .In) (fun x y H Q => ∃ a o, y = .ref a ∧ DGet H a x o ∧ Q (.bl o.isSome) H) := by
  rintro pins s σ H x y v u Q I rx ry h
  obtain ⟨a, o, rfl, g, q⟩ := h
  obtain rfl : u = .ref a := ry
  exact d_in hu I g rx fun s3 I3 => ⟨.bl o.isSome, H, I3, rfl, q⟩
theorem op_ninDk (hu : X.A.units + 1 < cLine) : OpR X (compareOp .NotIn) (fun x y H Q => ∃ a o, y = .ref a ∧ DGet H a x o ∧ Q (.bl (!o.isSome)) H) := by
  rintro pins s σ H x y v u Q I rx ry h
  obtain ⟨a, o, rfl, g, q⟩ := h
  obtain rfl : u = .ref a := ry
  exact d_notIn hu I g rx fun s3 I3 => ⟨.bl (!o.isSome), H, I3, rfl, q⟩
theorem op_in3 (hu : X.A.units + 65 < cLine) : OpR X (compareOp .In) (rIn3 X.K) := (op_in2 hu).or (op_in_seq.or (op_inDk (by omega)))
theorem op_nin3 (hu : X.A.units + 65 < cLine) : OpR X (compareOp .NotIn) (rNin3 X.K) := (op_nin2 hu).or (op_notIn_seq.or (op_ninDk (by omega)))
theorem flat_rep {T : Pd} {G : Hp} {d : D} {v : V} (h : flatD d = true) (r : Rep κ T G d v) : flatV v = true := by
  cases d with
  | non => cases (show v = V.non from r); rfl
  | bl b => cases (show v = V.bl b from r); rfl
  | int b => cases (show v = V.int b from r); rfl
  | str b => cases (show v = V.str b from r); rfl
  | _ => cases h
theorem eqF_rep {T : Pd} {G : Hp} {d e : D} {v w : V} (h : flatD d = true) (g : flatD e = true) (r : Rep κ T G d v) (q : Rep κ T G e w) : eqV v w = eqF d e := by
  cases d with
  | non =>
    cases (show v = V.non from r)
    cases e with
    | non => cases (show w = V.non from q); rfl
    | bl b => cases (show w = V.bl b from q); rfl
    | int b => cases (show w = V.int b from q); rfl
    | str b => cases (show w = V.str b from q); rfl
    | _ => cases g
  | bl b =>
    cases (show v = V.bl b from r)
    cases e with
    | non => cases (show w = V.non from q); rfl
    | bl b => cases (show w = V.bl b from q); rfl
    | int b => cases (show w = V.int b from q); rfl
    | str b => cases (show w = V.str b from q); rfl
    | _ => cases g
  | int b =>
    cases (show v = V.int b from r)
    cases e with
    | non => cases (show w = V.non from q); rfl
    | bl b => cases (show w = V.bl b from q); rfl
    | int b => cases (show w = V.int b from q); rfl
    | str b => cases (show w = V.str b from q); rfl
    | _ => cases g
  | str b =>
    cases (show v = V.str b from r)
    cases e with
    | non => cases (show w = V.non from q); rfl
    | bl b => cases (show w = V.bl b from q); rfl
    | int b => cases (show w = V.int b from q); rfl
    | str b => cases (show w = V.str b from q); rfl
    | _ => cases g
  | _ => cases h
theorem flats_rep {T : Pd} {G : Hp} {d : D} {v : V} (h : flatD d = true) (r : Rep κ T G d v) : ∀ {l : List D} {vs : List V}, l.all flatD = true → RepL κ T G l vs → vs.all flatV = true ∧ inV v vs = l.any fun y => eqF y d
  | [], vs, _, q => by
    rw [show vs = [] from q]
    exact ⟨rfl, rfl⟩
  | e :: l, vs, g, q => by
    obtain ⟨w, ws, rfl, q1, q2⟩ := q
    rw [List.all_cons, Bool.and_eq_true] at g
    obtain ⟨i1, i2⟩ := flats_rep h r g.2 q2
    refine ⟨by rw [List.all_cons, flat_rep g.1 q1, i1] <;> rfl, ?_⟩
    show (eqV w v || inV v ws) = _
    rw [List.any_cons, i2, eqF_rep g.1 h q1 r]
theorem in3_cases {B : Bas} {ρ : List SD} {σ : L2.St} {H G : Hp} {d e : D} {x y : V} {b : Bool} (o : Ok κ B ρ σ H G) (r1 : Rep κ B.T G d x) (r2 : Rep κ B.T G e y) (hb : in3B d e = some b) :
    inB d e = some b ∨ (∃ p xs, y = .ref p ∧ (SqL κ.K H p xs ∨ SqT κ.K H p xs) ∧ flatV x = true ∧ xs.all flatV = true ∧ b = inV x xs) ∨ ∃ a ov, y = .ref a ∧ DGet H a x ov ∧ b = ov.isSome := by
  cases e with
  | dk c l =>
    obtain ⟨k, hk, rfl⟩ := Option.map_eq_some_iff.mp hb
    obtain ⟨a, vs, rfl, h1, h2⟩ := r2.dkR o.fr.gh
    refine .inr (.inr ⟨a, valV vs k, rfl, ?_, (h2.val k).2⟩)
    rw [key_rep r1 hk]
    exact .inl ⟨vs, k, h1, rfl, rfl⟩
  | tup l =>
    have hb : (if flatD d && l.all flatD then some (l.any fun y => eqF y d) else none) = some b := hb
    split at hb
    · rename_i c
      cases hb
      rw [Bool.and_eq_true] at c
      obtain ⟨a, vs, rfl, h1, h2⟩ := r2
      obtain ⟨f1, f2⟩ := flats_rep c.1 r1 c.2 h2
      exact .inr (.inl ⟨a, vs, rfl, .inr (h1.sq o.fr.gh), flat_rep c.1 r1, f1, f2.symm⟩)
    · cases hb
  | _ => exact .inl hb
theorem od_in3 : OpD κ (rIn3 κ.K) in3D := by
  intro B ρ σ H G d e x y z Q o r1 r2 hz q
  obtain ⟨b, hb, rfl⟩ := Option.map_eq_some_iff.mp hz
  have fin := q (.bl b) H G o (Same.refl G) rfl
  rcases in3_cases o r1 r2 hb with h | ⟨p, xs, rfl, h1, h2, h3, rfl⟩ | ⟨a, ov, rfl, g, rfl⟩
  · exact .inl (od_in B ρ σ H G d e x y _ Q o r1 r2 (by unfold inD; rw [h] <;> rfl) q)
  · exact .inr (.inl ⟨p, xs, rfl, h1, h2, h3, fin⟩)
  · exact .inr (.inr ⟨a, ov, rfl, g, fin⟩)
theorem od_nin3 : OpD κ (rNin3 κ.K) nin3D := by
  intro B ρ σ H G d e x y z Q o r1 r2 hz q
  obtain ⟨b, hb, rfl⟩ := Option.map_eq_some_iff.mp hz
  have fin := q (.bl (!b)) H G o (Same.refl G) rfl
  rcases in3_cases o r1 r2 hb with h | ⟨p, xs, rfl, h1, h2, h3, rfl⟩ | ⟨a, ov, rfl, g, rfl⟩
  · exact .inl (od_nin B ρ σ H G d e x y _ Q o r1 r2 (by unfold ninD; rw [h] <;> rfl) q)
  · exact .inr (.inl ⟨p, xs, rfl, h1, h2, h3, fin⟩)
  · exact .inr (.inr ⟨a, ov, rfl, g, fin⟩)
end
/-! ### {}, x[k] = e, len, dict, sorted -/
def mDnew : M SD := M.ret (.ow (.dk false []))
def put3S (i : Nat) (v k : D) : S := fun ρ => match ρ[i]? with
  | some (.ow (.lst b l)) => match k with
    | .int j => match ixN l.length j with
      | some n => .ok .nx (ρ.set i (.ow (.lst b (l.set n v))))
      | none => .no
    | _ => .no
  | some (.ow (.dk b l)) => match keyOf k with
    | some j => if l.length < 1000000 then .ok .nx (ρ.set i (.ow (.dk b (putKD l j v)))) else .no
    | none => .no
  | _ => .no
def sPut3 (i : Nat) (mk me : M SD) : S := (fE me).bind fun v => guardS i ((fE mk).bind fun k => put3S i v k)
def len3D : List D → Option SD
  | [.dk _ l] => some (.va (.int l.length))
  | l => lenD l
def dictD : List D → Option SD
  | [.dk _ l] => some (.ow (.dk false l))
  | _ => none
def strsK : List (Key × D) → Option (List Str)
  | [] => some []
  | (.inr s, _) :: l => (strsK l).map (s :: ·)
  | (.inl _, _) :: _ => none
def ssort (l : List Str) : List Str := l.mergeSort fun a b => decide (a.cps.toList ≤ b.cps.toList)
def sort3D : List D → Option SD
  | [.dk _ l] => (strsK l).bind fun ks => if ks.length < 64 then some (.ow (.lst false ((ssort ks).map D.str))) else none
  | l => sortD l
section
variable {κ : Ctx} {X : Cx} {W : WX} {A : List Nat}
theorem e_dnew {pos : Pos} : PE X (.Dict [] [] pos) (tE κ W mDnew) := PE.imp pe_dnewK fun σ H Q ⟨B, ρ, G, o, q⟩ p hp => q _ G (o.allocOwn hp) (Same.refl G) _ (o.newOwn hp ⟨[], upd_same, rfl⟩)
abbrev rSet3 : TSet := fun o i v H Q => rSetL o i v H Q ∨ rSetD o i v H Q
theorem set_3 (hu : X.A.units + 1 < cLine) : PSet X rSet3 := by
  rintro pins s σ H o i v ov iv u Q I ro ri rv h
  rcases h with h | h
  · exact set_list pins s σ H o i v ov iv u Q I ro ri rv h
  · exact set_dict hu pins s σ H o i v ov iv u Q I ro ri rv h
theorem s_put3 {i : Nat} {x : Str} {k e : Expr} {mk me : M SD} {p p2 pos : Pos} (hu : X.A.units + 65 < cLine) (h : PE X (.Name x p) (tVar i)) (hk : PE X k (tE κ W mk)) (he : PE X e (tE κ W me))
    (ha : ∀ v, assign (.Subscript (.Name x p) k p2) X.env v = (do
      let ov ← holding [v] (eval (.Name x p) X.env)
      let iv ← holding [v, ov] (eval k X.env)
      standAt p2; holding [v, ov, iv] (setItem ov iv v); release [v, ov, iv] []) := by intro _; rfl)
    (hs : swapsWithSole [.Subscript (.Name x p) k p2] e pos.line X.env = pure false := by rfl) (hw : swappedStores [.Subscript (.Name x p) k p2] e X.env = pure none := by rfl)
    (h1 : (assignEach [.Subscript (.Name x p) k p2] X.env).map (·.2) = [assign (.Subscript (.Name x p) k p2) X.env] := by rfl) : PS X (.Assign [.Subscript (.Name x p) k p2] e pos) (tS κ A W (sPut3 i mk me)) := by
  refine PS.imp (ps_asg he (pg_sub h hk (set_3 (by omega)) ha) hs hw h1) fun D σ H ⟨B, ρ, G, a, o, q⟩ => ?_
  refine tE_fz o (PstS.bind q) fun v ρ1 H1 G1 o1 s1 q1 v1 r1 => ?_
  obtain ⟨⟨u, hu⟩, q1⟩ := guard_okS o1 q1
  refine ⟨u, hu, tE_fz o1 (PstS.bind q1) fun k ρ2 H2 G2 o2 s2 q2 v2 r2 => ?_⟩
  unfold put3S at q2
  cases h2 : ρ2[i]? with
  | none =>
    rw [h2] at q2
    exact q2.elim
  | some x =>
    rw [h2] at q2
    cases x with
    | un => exact q2.elim
    | va d => exact q2.elim
    | ow d =>
      cases d with
      | lst b l =>
        cases k with
        | int j =>
          dsimp only at q2
          cases hj : ixN l.length j with
          | none =>
            rw [hj] at q2
            exact q2.elim
          | some n =>
            rw [hj] at q2
            obtain ⟨p, e1, e2, e3, vs, e4, e5⟩ := o2.own i _ h2
            rw [hu] at e1
            cases e1
            refine .inl ⟨p, vs, j, n, rfl, r2, e4, by rw [e5.length]; exact hj, ?_⟩
            refine q2 σ _ G2 (o2.write h2 hu (fun ps z => by cases z) ⟨_, upd_same, e5.set n (Rep.mono (.of s2) v r1)⟩) (Same.refl G2)
        | _ => exact q2.elim
      | dk b l =>
        dsimp only at q2
        cases hj : keyOf k with
        | none =>
          rw [hj] at q2
          exact q2.elim
        | some j =>
          rw [hj] at q2
          dsimp only at q2
          by_cases hl : l.length < 1000000
          · rw [if_pos hl] at q2
            obtain ⟨p, e1, e2, e3, vs, e4, e5⟩ := o2.own i _ h2
            rw [hu] at e1
            cases e1
            refine .inr ⟨p, upd H2 p (.dK (putK vs j v1)), rfl, ?_, ?_⟩
            · rw [key_rep r2 hj]
              exact DPut.k e4 (by rw [e5.length, sizeLine_eq]; omega)
            · exact q2 σ _ G2 (o2.write h2 hu (fun ps z => by cases z) ⟨_, upd_same, e5.put j (Rep.mono (.of s2) v r1)⟩) (Same.refl G2)
          · rw [if_neg hl] at q2
            exact q2.elim
      | _ => exact q2.elim
abbrev rLen3 (K : PySem.W.Frag) : List V → Hp → VK → Prop := fun xs H Q => (∃ x n, xs = [x] ∧ LenV K x H n ∧ Q (.int n) H) ∨ ∃ a kvs, xs = [V.ref a] ∧ Rd H a (.dK kvs) ∧ Q (.int kvs.length) H
theorem call_lenR : CallR X (.builtin "len") (fun xs H Q => ∃ a kvs, xs = [V.ref a] ∧ Rd H a (.dK kvs) ∧ Q (.int kvs.length) H) := by
  rintro pins s σ H xs us Q I r h
  obtain ⟨a, kvs, rfl, ha, q⟩ := (h)
  obtain ⟨u, rfl, ru⟩ := (vals1 r)
  cases ru
  exact d_len I ha fun t s' I' => ⟨.int kvs.length, H, I', ⟨t, rfl⟩, q⟩
theorem call_len3 : CallR X (.builtin "len") (rLen3 X.K) := by
  rintro pins s σ H xs us Q I r q
  rcases q with q | q
  · exact call_len pins s σ H xs us Q I r q
  · exact call_lenR pins s σ H xs us Q I r q
theorem cd_len3 : CallD κ (rLen3 κ.K) len3D := by
  intro B ρ σ H G ds xs z Q o r hz q
  unfold len3D at hz
  split at hz
  · rename_i b l
    cases hz
    obtain ⟨v, ws, rfl, r1, rfl⟩ := r
    obtain ⟨a, vs, rfl, h1, h2⟩ := r1.dkR o.fr.gh
    refine .inr ⟨a, vs, rfl, h1, ?_⟩
    rw [h2.length]
    exact q _ H G o (Same.refl G) rfl
  · exact .inl (cd_len B ρ σ H G ds xs z Q o r hz q)
theorem cd_dict : CallD κ (fun xs H Q => ∃ (a : Addr) (kvs : List (Key × V)), xs = [.ref a] ∧ Rd H a (.dK kvs) ∧ ∀ p, H p = none → Q (.ref p) (upd H p (.dK kvs))) dictD := by
  intro B ρ σ H G ds xs z Q o r hz q
  unfold dictD at hz
  split at hz
  · rename_i b l
    cases hz
    obtain ⟨v, ws, rfl, r1, rfl⟩ := r
    obtain ⟨a, vs, rfl, h1, h2⟩ := r1.dkR o.fr.gh
    exact ⟨a, vs, rfl, h1, fun p hp => q _ _ G (o.allocOwn hp) (Same.refl G) (o.newOwn hp ⟨vs, upd_same, h2⟩)⟩
  · cases hz
theorem strsK_eq : ∀ {l : List (Key × D)} {ks : List Str}, strsK l = some ks → l.map (·.1) = ks.map Sum.inr
  | [], ks, h => by cases h; rfl
  | (.inr s, d) :: l, ks, h => by
    obtain ⟨ms, h1, rfl⟩ := Option.map_eq_some_iff.mp (show (strsK l).map (s :: ·) = some ks from h)
    rw [List.map_cons, List.map_cons, strsK_eq h1]
  | (.inl _, d) :: l, ks, h => by cases h
end
/-- texts, sorted, are one list -/
theorem cps_le_total (a b : List Nat) : a ≤ b ∨ b ≤ a := List.le_total a b
theorem ssort_perm (l : List Str) : (ssort l).Perm l := List.mergeSort_perm ..
theorem ssort_ord (l : List Str) : (ssort l).Pairwise fun a b => a.cps.toList ≤ b.cps.toList := by
  have h := List.pairwise_mergeSort (le := fun a b : Str => decide (a.cps.toList ≤ b.cps.toList)) (fun a b c h1 h2 => by
    simp only [decide_eq_true_eq] at h1 h2 ⊢
    exact List.le_trans h1 h2) (fun a b => by
    rcases cps_le_total a.cps.toList b.cps.toList with h | h
    · simp [h]
    · simp [h]) l
  exact h.imp fun {a b} z => of_decide_eq_true z
theorem str_eq {a b : Str} (h : a.cps.toList = b.cps.toList) : a = b := by
  obtain ⟨a⟩ := a
  obtain ⟨b⟩ := b
  exact congrArg Str.mk (Array.toList_inj.mp h)
theorem sorted_one {l m : List Str} (p : l.Perm m) (h1 : l.Pairwise fun a b => a.cps.toList ≤ b.cps.toList) (h2 : m.Pairwise fun a b => a.cps.toList ≤ b.cps.toList) : l = m :=
  List.Perm.eq_of_pairwise (fun a b _ _ h1 h2 => str_eq (List.le_antisymm h1 h2)) h1 h2 p
theorem rising_pair : ∀ {l : List Str} {p : Str}, risingS p l = true → (p :: l).Pairwise fun a b => a.cps.toList ≤ b.cps.toList
  | [], p, _ => List.pairwise_singleton ..
  | x :: l, p, h => by
    have h' : (!ltCps x.cps.toList p.cps.toList && risingS x l) = true := h
    rw [Bool.and_eq_true, Bool.not_eq_true', ltCps_eq] at h'
    obtain ⟨h1, h2⟩ := h'
    have h1 : p.cps.toList ≤ x.cps.toList := List.not_lt.mp (of_decide_eq_false h1)
    have ih := rising_pair h2
    refine List.pairwise_cons.mpr ⟨fun y hy => ?_, ih⟩
    rcases inC hy with rfl | hy
    · exact h1
    · exact List.le_trans h1 ((List.pairwise_cons.mp ih).1 y hy)
theorem sortedS_pair : ∀ {l : List Str}, sortedS l = true → l.Pairwise fun a b => a.cps.toList ≤ b.cps.toList
  | [], _ => .nil
  | x :: l, h => rising_pair h
section
variable {κ : Ctx} {X : Cx}
abbrev rSort3 (κ : Ctx) : List V → Hp → VK → Prop := fun xs H Q => rSortD κ xs H Q ∨ ∃ (a : Addr) (kvs : List (Key × V)) (ks : List Str), xs = [.ref a] ∧ Rd H a (.dK kvs) ∧ kvs.map (·.1) = ks.map Sum.inr ∧ ks.length < 64 ∧ ∀ ys p, ys.Perm ks → sortedS ys = true → H p = none → Q (.ref p) (upd H p (.lst (ys.map V.str)))
theorem cr_sort3 (hK : X.K = κ.K) (hc : X.calm = true) (hu : X.A.units + 65 < cLine) : CallR X (.builtin "sorted") (rSort3 κ) := by
  rintro pins s σ H xs us Q I r q
  rcases q with q | q
  · exact cr_sortD hK hu pins s σ H xs us Q I r q
  · exact call_sortedD hc pins s σ H xs us Q I r q
theorem rep_strs {T : Pd} {G : Hp} : ∀ l : List Str, RepL κ T G (l.map D.str) (l.map V.str)
  | [] => rfl
  | s :: l => ⟨.str s, _, rfl, rfl, rep_strs l⟩
theorem cd_sort3 : CallD κ (rSort3 κ) sort3D := by
  intro B ρ σ H G ds xs z Q o r hz q
  unfold sort3D at hz
  split at hz
  · rename_i b l
    obtain ⟨ks, h1, hz⟩ := Option.bind_eq_some_iff.mp hz
    split at hz
    · rename_i hl
      cases hz
      obtain ⟨v, ws, rfl, r1, rfl⟩ := r
      obtain ⟨a, vs, rfl, h2, h3⟩ := r1.dkR o.fr.gh
      refine .inr ⟨a, vs, ks, rfl, h2, by rw [h3.keys, strsK_eq h1], hl, fun ys p hy hs hp => ?_⟩
      rw [sorted_one (hy.trans (ssort_perm ks).symm) (sortedS_pair hs) (ssort_ord ks)]
      exact q _ _ G (o.allocOwn hp) (Same.refl G) (o.newOwn hp ⟨_, upd_same, rep_strs _⟩)
    · cases hz
  · exact .inl (cd_sortD B ρ σ H G ds xs z Q o r hz q)
end
/-! ### the calculus -/
section
variable {ρ : List SD} {E : Exn → List SD → Prop} {p : SD → List SD → Prop} {s : Fl → List SD → Prop} {q : SD → Prop}
theorem w_dnew (h : p (.ow (.dk false [])) ρ) : Wp mDnew ρ p E := ⟨h⟩
theorem w_sub3V {i : Nat} {m : M SD} {d0 : D} (e : ρ[i]? = some (.va d0)) (h : Wp (fE m) ρ (fun k ρ' => ∃ d, ρ'[i]? = some (.va d) ∧ Ow (ix3D d k) fun z => p z ρ') E) : Wp (mSub3 i m) ρ p E := by
  have g : isSet ρ[i]? = true := by
    rw [e]
    rfl
  show Wp (guardS i ((fE m).bind (at3S i))) ρ p E
  refine ⟨?_⟩
  unfold guardS
  rw [if_pos g]
  refine Wp.run (E := E) (p := p) ?_
  refine w_bind (p := p) (h.mono (fun k ρ' h => ?_) fun _ _ z => z)
  obtain ⟨d, e1, z, e2, h⟩ := h
  refine ⟨?_⟩
  unfold at3S
  simp only [e1, e2]
  exact h
theorem w_sub3L {i : Nat} {m : M SD} {b0 : Bool} {l0 : List D} (e : ρ[i]? = some (.ow (.lst b0 l0))) (h : Wp (fE m) ρ (fun k ρ' => ∃ b l, ρ'[i]? = some (.ow (.lst b l)) ∧ Ow (ix3D (.lst b l) k) fun z => p z ρ') E) : Wp (mSub3 i m) ρ p E := by
  have g : isSet ρ[i]? = true := by
    rw [e]
    rfl
  show Wp (guardS i ((fE m).bind (at3S i))) ρ p E
  refine ⟨?_⟩
  unfold guardS
  rw [if_pos g]
  refine Wp.run (E := E) (p := p) ?_
  refine w_bind (p := p) (h.mono (fun k ρ' h => ?_) fun _ _ z => z)
  obtain ⟨b, l, e1, z, e2, h⟩ := h
  refine ⟨?_⟩
  unfold at3S
  have e2 : ixD (.lst b l) k = some z := e2
  simp only [e1, e2]
  exact h
theorem w_put3L {i : Nat} {mk me : M SD} (h : Wp (fE me) ρ (fun v ρ1 => isSet ρ1[i]? = true ∧ Wp (fE mk) ρ1 (fun k ρ2 => ∃ b l j n, ρ2[i]? = some (.ow (.lst b l)) ∧ k = .int j ∧ ixN l.length j = some n ∧ s .nx (ρ2.set i (.ow (.lst b (l.set n v))))) E) E) : Wp (sPut3 i mk me) ρ s E := w_bind (h.mono (fun v ρ1 h => by
  refine ⟨?_⟩
  unfold guardS
  rw [if_pos h.1]
  refine Wp.run (E := E) (p := s) ?_
  refine w_bind (p := s) (h.2.mono (fun k ρ2 h => ?_) fun _ _ z => z)
  obtain ⟨b, l, j, n, e1, rfl, e2, h⟩ := h
  refine ⟨?_⟩
  unfold put3S
  simp only [e1, e2]
  exact h) fun _ _ z => z)
theorem w_put3D {i : Nat} {mk me : M SD} (h : Wp (fE me) ρ (fun v ρ1 => isSet ρ1[i]? = true ∧ Wp (fE mk) ρ1 (fun k ρ2 => ∃ b l j, ρ2[i]? = some (.ow (.dk b l)) ∧ keyOf k = some j ∧ l.length < 1000000 ∧ s .nx (ρ2.set i (.ow (.dk b (putKD l j v))))) E) E) : Wp (sPut3 i mk me) ρ s E := w_bind (h.mono (fun v ρ1 h => by
  refine ⟨?_⟩
  unfold guardS
  rw [if_pos h.1]
  refine Wp.run (E := E) (p := s) ?_
  refine w_bind (p := s) (h.2.mono (fun k ρ2 h => ?_) fun _ _ z => z)
  obtain ⟨b, l, j, e1, e2, hl, h⟩ := h
  refine ⟨?_⟩
  unfold put3S
  simp only [e1, e2, if_pos hl]
  exact h) fun _ _ z => z)
theorem o_ix3D {b : Bool} {l : List (Key × D)} {k : D} {d : D} (e : (keyOf k).bind (getK l) = some d) (h : q (.va d)) : Ow (ix3D (.dk b l) k) q := ⟨.va d, by
  show (keyOf k).bind (fun k => (getK l k).map SD.va) = _
  obtain ⟨j, e1, e2⟩ := Option.bind_eq_some_iff.mp e
  rw [e1]
  show (getK l j).map SD.va = _
  rw [e2]
  rfl, h⟩
theorem o_ix3T {a : Int} {l : List D} {d : D} (e : atI l a = some d) (h : q (.va d)) : Ow (ix3D (.tup l) (.int a)) q := o_ixT e h
theorem o_ix3L {a : Int} {c : Bool} {l : List D} {d : D} (e : atI l a = some d) (h : q (.va d)) : Ow (ix3D (.lst c l) (.int a)) q := o_ixL (c := c) e h
theorem o_ix3S {a : Str} {i : Int} {c : Nat} (h : q (.va (.str ⟨#[c]⟩))) (e : atI a.cps.toList i = some c) (g : a.length ≤ 1000000) : Ow (ix3D (.str a) (.int i)) q := o_ixStr h e g
theorem o_nin3D {b : Bool} {l : List (Key × D)} {d : D} {k : Key} (e : keyOf d = some k) (h : q (.va (.bl (!(getK l k).isSome)))) : Ow (nin3D d (.dk b l)) q := ⟨_, by
  unfold nin3D in3B
  dsimp only
  rw [e]
  rfl, h⟩
theorem o_in3S {c : Nat} {a : Str} (h : q (.va (.bl (decide (c ∈ a.cps.toList))))) : Ow (in3D (.str ⟨#[c]⟩) (.str a)) q := o_inS h
theorem in3_lst {x : Bool} {l : List D} {d : D} (g : (d.pl 60 && (D.lst false l).pl 60) = true) : in3B d (.lst x l) = some (l.any fun e => peq e d) := by
  cases d <;> exact if_pos g
theorem o_in3L {x : Bool} {l : List D} {d : D} (h : q (.va (.bl (l.any fun e => peq e d)))) (g : (d.pl 60 && (D.lst false l).pl 60) = true) : Ow (in3D d (.lst x l)) q := ⟨_, by
  unfold in3D
  rw [in3_lst g]
  rfl, h⟩
theorem o_nin3L {x : Bool} {l : List D} {d : D} (h : q (.va (.bl (!l.any fun e => peq e d)))) (g : (d.pl 60 && (D.lst false l).pl 60) = true) : Ow (nin3D d (.lst x l)) q := ⟨_, by
  unfold nin3D
  rw [in3_lst g]
  rfl, h⟩
theorem o_len3D {b : Bool} {l : List (Key × D)} (h : q (.va (.int l.length))) : Ow (len3D [.dk b l]) q := ⟨_, rfl, h⟩
theorem o_len3T {l : List D} (h : q (.va (.int l.length))) : Ow (len3D [.tup l]) q := ⟨_, rfl, h⟩
theorem o_len3L {b : Bool} {l : List D} (h : q (.va (.int l.length))) : Ow (len3D [.lst b l]) q := ⟨_, rfl, h⟩
theorem o_len3S {a : Str} (h : q (.va (.int a.length))) (g : a.length ≤ 1000000) : Ow (len3D [.str a]) q := ⟨_, if_pos g, h⟩
theorem o_sort3D {b : Bool} {l : List (Key × D)} {ks : List Str} (e : strsK l = some ks) (g : ks.length < 64) (h : q (.ow (.lst false ((ssort ks).map D.str)))) : Ow (sort3D [.dk b l]) q := ⟨_, by
  unfold sort3D
  dsimp only
  rw [e]
  exact if_pos g, h⟩
theorem o_sort3L {b : Bool} {l : List D} (h : q (.ow (.lst false (srtD l)))) (g : sortB l = true) : Ow (sort3D [.lst b l]) q := ⟨_, if_pos g, h⟩
end
end Fm

set_option maxHeartbeats 990000
/-! ### an instance of one's own, with lists and dicts of its own -/
namespace Fm
open L2 PySem PySem.Spec PyProof.Rows
def plus (G N : Hp) : Hp := fun a => match N a with
  | some o => some o
  | none => G a
def less_ (G N : Hp) : Hp := fun a => match N a with
  | some _ => none
  | none => G a
abbrev plT (T : Pd) (N : Hp) : Pd := fun a => T a ∨ N a ≠ none
/-- a list, a dict, an instance -/
def OwK : HO → Prop
  | .lst _ => True
  | .dK _ => True
  | .ins _ _ _ => True
  | _ => False
theorem plus_in {G N : Hp} {a : Addr} {o : HO} (h : N a = some o) : plus G N a = some o := by
  unfold plus
  rw [h]
theorem plus_out {G N : Hp} {a : Addr} (h : N a = none) : plus G N a = G a := by
  unfold plus
  rw [h]
theorem less_in {G N : Hp} {a : Addr} (h : N a ≠ none) : less_ G N a = none := by
  unfold less_
  cases e : N a with
  | none => exact absurd e h
  | some o => rfl
theorem less_out {G N : Hp} {a : Addr} (h : N a = none) : less_ G N a = G a := by
  unfold less_
  rw [h]
theorem OwK.tbl {o : HO} (h : OwK o) : ∀ ps, o ≠ .tbl ps := fun ps z => by
  rw [z] at h
  exact h
section
variable {κ : Ctx} {T : Pd} {G N : Hp}
theorem mono_in (gf : ∀ a, N a ≠ none → G a = none) : Mono T G (plT T N) (plus G N) := ⟨fun a o e => by
  have n : N a = none := Classical.byContradiction fun z => by
    rw [gf a z] at e
    cases e
  rw [plus_out n]
  exact e, fun a o b e l => by
  have n : N a = none := Classical.byContradiction fun z => by
    rw [gf a z] at e
    cases e
  exact ⟨fun z => l.mp (z.elim id fun y => absurd n y), fun z => .inl (l.mpr z)⟩⟩
theorem out_at {a : Addr} {o : HO} (e : plus G N a = some o) (n : N a = none) : G a = some o := by
  rw [plus_out n] at e
  exact e
theorem DkAt.out {a : Addr} {vs : List (Key × V)} {b : Bool} (h : DkAt (plus G N) a vs b) (n : N a = none) : DkAt G a vs b := by
  rcases h with h | ⟨hb, o, h⟩
  · exact .inl (out_at h n)
  · exact .inr ⟨hb, o, out_at h n⟩
mutual
theorem Rep.out (mu : ∀ a o, N a = some o → OwK o) : ∀ (d : D) {v : V}, d.nb = true → Rep κ (plT T N) (plus G N) d v → Rep κ T G d v
  | .non, _, _, h => h
  | .bl _, _, _, h => h
  | .int _, _, _, h => h
  | .str _, _, _, h => h
  | .tup l, v, n, h => by
    obtain ⟨a, vs, h1, h2, h3⟩ := h
    refine ⟨a, vs, h1, ?_, RepL.out mu l n h3⟩
    rcases h2 with h2 | h2
    · refine .inl (out_at h2 ?_)
      cases e : N a with
      | none => rfl
      | some o =>
        rw [plus_in e] at h2
        cases h2
        exact (mu a _ e).elim
    · exact .inr h2
  | .lst b l, v, n, h => by
    have n' : (!b && nbL l) = true := n
    rw [Bool.and_eq_true, Bool.not_eq_true'] at n'
    obtain ⟨rfl, n2⟩ := n'
    obtain ⟨a, vs, h1, ⟨h2, h4⟩, h3⟩ := h
    have na : N a = none := Classical.byContradiction fun z => Bool.noConfusion (h4.mp (.inr z))
    exact ⟨a, vs, h1, ⟨out_at h2 na, ⟨fun z => h4.mp (.inl z), fun z => Bool.noConfusion z⟩⟩, RepL.out mu l n2 h3⟩
  | .scr l, v, n, h => by
    obtain ⟨a, vs, h1, h2, h3⟩ := h
    refine ⟨a, vs, h1, ?_, RepL.out mu l n h3⟩
    rcases h2 with (⟨ob, h2⟩ | h2) | h2
    · refine .inl (.inl ⟨ob, out_at h2 ?_⟩)
      cases e : N a with
      | none => rfl
      | some o =>
        rw [plus_in e] at h2
        cases h2
        exact (mu a _ e).elim
    · exact .inl (.inr h2)
    · exact .inr h2
  | .dk b l, v, n, h => by
    have n' : (!b && nbK l) = true := n
    rw [Bool.and_eq_true, Bool.not_eq_true'] at n'
    obtain ⟨rfl, n2⟩ := n'
    obtain ⟨a, vs, h1, ⟨h2, h4⟩, h3⟩ := h
    have na : N a = none := Classical.byContradiction fun z => Bool.noConfusion (h4.mp (.inr z))
    exact ⟨a, vs, h1, ⟨h2.out na, ⟨fun z => h4.mp (.inl z), fun z => Bool.noConfusion z⟩⟩, RepK.out mu l n2 h3⟩
  | .ins b c l, v, n, h => by
    have n' : (!b && nbF l) = true := n
    rw [Bool.and_eq_true, Bool.not_eq_true'] at n'
    obtain ⟨rfl, n2⟩ := n'
    obtain ⟨a, dx, vs, h1, ⟨h2, h4⟩, h3⟩ := h
    have na : N a = none := Classical.byContradiction fun z => Bool.noConfusion (h4.mp (.inr z))
    exact ⟨a, dx, vs, h1, ⟨out_at h2 na, ⟨fun z => h4.mp (.inl z), fun z => Bool.noConfusion z⟩⟩, RepF.out mu l n2 h3⟩
  | .ty _, _, _, h => h
  | .adr _, _, _, h => h
theorem RepL.out (mu : ∀ a o, N a = some o → OwK o) : ∀ (l : List D) {vs : List V}, nbL l = true → RepL κ (plT T N) (plus G N) l vs → RepL κ T G l vs
  | [], _, _, h => h
  | d :: l, vs, n, h => by
    have n' : (D.nb d && nbL l) = true := n
    rw [Bool.and_eq_true] at n'
    obtain ⟨v, ws, h1, h2, h3⟩ := h
    exact ⟨v, ws, h1, Rep.out mu d n'.1 h2, RepL.out mu l n'.2 h3⟩
theorem RepK.out (mu : ∀ a o, N a = some o → OwK o) : ∀ (l : List (Key × D)) {vs : List (Key × V)}, nbK l = true → RepK κ (plT T N) (plus G N) l vs → RepK κ T G l vs
  | [], _, _, h => h
  | (k, d) :: l, vs, n, h => by
    have n' : (D.nb d && nbK l) = true := n
    rw [Bool.and_eq_true] at n'
    obtain ⟨v, ws, h1, h2, h3⟩ := h
    exact ⟨v, ws, h1, Rep.out mu d n'.1 h2, RepK.out mu l n'.2 h3⟩
theorem RepF.out (mu : ∀ a o, N a = some o → OwK o) : ∀ (l : List (Str × D)) {vs : List (Str × V)}, nbF l = true → RepF κ (plT T N) (plus G N) l vs → RepF κ T G l vs
  | [], _, _, h => h
  | (k, d) :: l, vs, n, h => by
    have n' : (D.nb d && nbF l) = true := n
    rw [Bool.and_eq_true] at n'
    obtain ⟨v, ws, h1, h2, h3⟩ := h
    exact ⟨v, ws, h1, Rep.out mu d n'.1 h2, RepF.out mu l n'.2 h3⟩
end
theorem OwnAt.out {H : Hp} {p : Addr} {d : D} (mu : ∀ a o, N a = some o → OwK o) (n : d.nbO = true) (h : OwnAt κ (plT T N) (plus G N) H p d) : OwnAt κ T G H p d := by
  cases d with
  | lst b l =>
    obtain ⟨vs, h1, h2⟩ := h
    exact ⟨vs, h1, RepL.out mu l n h2⟩
  | dk b l =>
    obtain ⟨vs, h1, h2⟩ := h
    exact ⟨vs, h1, RepK.out mu l n h2⟩
  | ins b c l =>
    obtain ⟨dx, vs, h1, h2⟩ := h
    exact ⟨dx, vs, h1, RepF.out mu l n h2⟩
  | scr l =>
    obtain ⟨vs, h1, h2⟩ := h
    exact ⟨vs, h1, RepL.out mu l n h2⟩
  | _ => exact h.elim
end

/-! ### its fields: plain data, or a list or dict of its own -/
def ownF : D → Bool
  | .lst true l => nbL l
  | .dk true l => nbK l
  | _ => false
def fldB (l : List (Str × D)) : Bool := l.all fun f => f.2.nb || ownF f.2
def ownAd : List (Str × D) → List (Str × V) → List Addr
  | (_, d) :: l, (_, .ref a) :: vs => if ownF d then a :: ownAd l vs else ownAd l vs
  | _ :: l, _ :: vs => ownAd l vs
  | _, _ => []
/-- the bases: the instance out of sight, or lent -/
def opB (B : Bas) (i : Nat) (p : Addr) (N : Hp) : Bas := ⟨plus B.H N, B.G, B.T, (i, p) :: B.an⟩
def lnB (B : Bas) (i : Nat) (p : Addr) (N : Hp) : Bas := ⟨plus B.H N, plus B.G N, plT B.T N, (i, p) :: B.an⟩
structure NOk (κ : Ctx) (B : Bas) (G : Hp) (p : Addr) (N : Hp) (c : String) (l : List (Str × D)) (dx : Addr) (vs : List (Str × V)) : Prop where
  free : ∀ a, N a ≠ none → B.H a = none
  gfree : ∀ a, N a ≠ none → G a = none
  bg : ∀ a, N a ≠ none → B.G a = none
  nt : ∀ a, N a ≠ none → ¬ B.T a
  mu : ∀ a o, N a = some o → OwK o
  here : N p = some (.ins (κ.cl c) dx vs)
  fld : RepF κ (plT B.T N) (plus G N) l vs
  okF : fldB l = true
  nd : (p :: ownAd l vs).Nodup
  inN : ∀ a ∈ ownAd l vs, N a ≠ none
/-- the state of a body whose slot i is an instance of its own -/
def OOk (κ : Ctx) (B : Bas) (i : Nat) (ρ : List SD) (σ : L2.St) (H G : Hp) : Prop := ∃ p N b c l dx vs, NOk κ B G p N c l dx vs ∧ ρ[i]? = some (.ow (.ins b c l)) ∧ Ok κ (opB B i p N) (ρ.set i .un) σ H G
section
variable {κ : Ctx} {B : Bas} {i : Nat} {ρ : List SD} {σ : L2.St} {H G : Hp} {p : Addr} {N : Hp} {c : String} {l : List (Str × D)} {dx : Addr} {vs : List (Str × V)}
theorem NOk.mono {G2 : Hp} (n : NOk κ B G p N c l dx vs) (s : Same G G2) (gf : ∀ a, N a ≠ none → G2 a = none) : NOk κ B G2 p N c l dx vs :=
  ⟨n.free, gf, n.bg, n.nt, n.mu, n.here, RepF.mono (.of fun a o e => by
    cases h : N a with
    | some u =>
      rw [plus_in h] at e ⊢
      exact e
    | none =>
      rw [plus_out h] at e ⊢
      exact s a o e) l n.fld, n.okF, n.nd, n.inN⟩
/-- what is out of sight stays -/
theorem op_keep (o : Ok κ (opB B i p N) ρ σ H G) (mu : ∀ a u, N a = some u → OwK u) {a : Addr} {u : HO} (h : N a = some u) : H a = some u := o.fr.keep a u (show plus B.H N a = some u from plus_in h) (mu a u h).tbl
theorem op_gfree (o : Ok κ (opB B i p N) ρ σ H G) (n : NOk κ B G p N c l dx vs) {H' G' : Hp} {ρ' : List SD} {σ' : L2.St} (o' : Ok κ (opB B i p N) ρ' σ' H' G') : ∀ a, N a ≠ none → G' a = none := fun a h => by
  have h1 : plus B.H N a ≠ none := by
    cases e : N a with
    | none => exact absurd e h
    | some u =>
      rw [plus_in e]
      exact fun z => nomatch z
  have e1 := o.fr.frz a h1
  have e2 := o'.fr.frz a h1
  rw [n.gfree a h] at e1
  rw [e2, ← e1]
/-- lent -/
theorem NOk.lend (n : NOk κ B G p N c l dx vs) (hi : i < ρ.length) (o : Ok κ (opB B i p N) (ρ.set i .un) σ H G) : Ok κ (lnB B i p N) (ρ.set i (.va (.ins true c l))) σ H (plus G N) := by
  have mo : Mono B.T G (plT B.T N) (plus G N) := mono_in n.gfree
  have old : ∀ {j : Nat} {x : SD}, j ≠ i → (ρ.set i (.va (.ins true c l)))[j]? = some x → (ρ.set i .un)[j]? = some x := fun {j x} hj z => by
    rw [List.getElem?_set_ne (Ne.symm hj)] at z ⊢
    exact z
  have hp : σ[i]? = some (some (V.ref p)) := o.anch i p (List.mem_cons_self ..)
  refine ⟨⟨o.fr.keep, o.fr.nt, fun a h => ?_, fun a u h => ?_, fun a u h => ?_, fun a ps h => ?_, o.fr.tabs, fun a h => ?_⟩, by rw [List.length_set]; have := o.len; rw [List.length_set] at this; exact this, fun j d z => ?_, fun j d z => ?_, fun j m q d e hjm z1 z2 z3 z4 => ?_, o.anch⟩
  · show plus G N a = plus B.G N a
    cases e : N a with
    | some u => rw [plus_in e, plus_in e]
    | none =>
      rw [plus_out e, plus_out e]
      exact o.fr.frz a h
  · have h : plus B.G N a = some u := h
    show plus G N a = some u
    cases e : N a with
    | some w =>
      rw [plus_in e] at h ⊢
      exact h
    | none =>
      rw [plus_out e] at h ⊢
      exact o.fr.sub a u h
  · have h : plus G N a = some u := h
    cases e : N a with
    | some w =>
      rw [plus_in e] at h
      cases h
      exact op_keep o n.mu e
    | none =>
      rw [plus_out e] at h
      exact o.fr.gh a u h
  · have h : plus G N a = some (.tbl ps) := h
    cases e : N a with
    | some w =>
      rw [plus_in e] at h
      cases h
      exact n.mu a _ e
    | none =>
      rw [plus_out e] at h
      exact o.fr.notb a ps h
  · rcases h with h | h
    · exact o.fr.lent a h
    · show plus B.H N a ≠ none
      cases e : N a with
      | some w =>
        rw [plus_in e]
        exact fun z => nomatch z
      | none => exact absurd e h
  · by_cases hj : j = i
    · subst hj
      rw [List.getElem?_set_self hi] at z
      cases z
      exact ⟨.ref p, hp, p, dx, vs, rfl, ⟨plus_in n.here, ⟨fun _ => rfl, fun _ => .inr (by rw [n.here]; exact fun z => nomatch z)⟩⟩, n.fld⟩
    · obtain ⟨v, h1, h2⟩ := o.val j d (old hj z)
      exact ⟨v, h1, Rep.mono mo d h2⟩
  · have hj : j ≠ i := fun y => by
      rw [y, List.getElem?_set_self hi] at z
      cases z
    obtain ⟨q, h1, h2, h3, h4⟩ := o.own j d (old hj z)
    have nq : N q = none := by
      cases e : N q with
      | none => rfl
      | some w =>
        have h3 : plus B.H N q = none := h3
        rw [plus_in e] at h3
        cases h3
    exact ⟨q, h1, by rw [plus_out nq]; exact h2, h3, h4.monoT mo rfl⟩
  · have hj : j ≠ i := fun y => by
      rw [y, List.getElem?_set_self hi] at z1
      cases z1
    have hm : m ≠ i := fun y => by
      rw [y, List.getElem?_set_self hi] at z2
      cases z2
    exact o.sep j m q d e hjm (old hj z1) (old hm z2) z3 z4
/-- .. and back -/
theorem NOk.back (n : NOk κ B G p N c l dx vs) {ρ1 : List SD} {σ1 : L2.St} {H1 G1 : Hp} (o1 : Ok κ (lnB B i p N) ρ1 σ1 H1 G1) (s : Same (plus G N) G1) (nb : (ρ1.set i .un).all SD.nbS = true) :
    ∃ G2, G1 = plus G2 N ∧ Same G G2 ∧ NOk κ B G2 p N c l dx vs ∧ Ok κ (opB B i p N) (ρ1.set i .un) σ1 H1 G2 := by
  have hN : ∀ a u, N a = some u → G1 a = some u := fun a u h => s a u (plus_in h)
  have e : G1 = plus (less_ G1 N) N := by
    funext a
    cases h : N a with
    | none => rw [plus_out h, less_out h]
    | some u => rw [plus_in h, hN a u h]
  have gs : Same G (less_ G1 N) := fun a u h => by
    have na : N a = none := Classical.byContradiction fun z => by
      rw [n.gfree a z] at h
      cases h
    rw [less_out na]
    exact s a u (by rw [plus_out na]; exact h)
  have nbj : ∀ {j : Nat} {x : SD}, j ≠ i → ρ1[j]? = some x → x.nbS = true := fun {j x} hj z => by
    refine List.all_eq_true.mp nb x (List.mem_of_getElem? (i := j) ?_)
    rw [List.getElem?_set_ne (Ne.symm hj)]
    exact z
  have old : ∀ {j : Nat} {x : SD}, (ρ1.set i .un)[j]? = some x → x ≠ .un → j ≠ i ∧ ρ1[j]? = some x := fun {j x} z nx => by
    by_cases hj : j = i
    · subst hj
      have hl : j < ρ1.length := by
        have y := (List.getElem?_eq_some_iff.mp z).1
        rw [List.length_set] at y
        exact y
      rw [List.getElem?_set_self hl] at z
      exact absurd (Option.some.inj z).symm nx
    · rw [List.getElem?_set_ne (Ne.symm hj)] at z
      exact ⟨hj, z⟩
  have out1 : ∀ {d : D} {v : V}, d.nb = true → Rep κ (plT B.T N) G1 d v → Rep κ B.T (less_ G1 N) d v := fun {d v} hn r => by
    rw [e] at r
    exact Rep.out n.mu d hn r
  refine ⟨less_ G1 N, e, gs, n.mono gs fun a h => less_in h, ⟨o1.fr.keep, o1.fr.nt, fun a h => ?_, fun a u h => ?_, fun a u h => ?_, fun a ps h => ?_, o1.fr.tabs, fun a h => ?_⟩, by rw [List.length_set]; exact o1.len, fun j d z => ?_, fun j d z => ?_, fun j m q d e' hjm z1 z2 z3 z4 => ?_, o1.anch⟩
  · have h : plus B.H N a ≠ none := h
    show less_ G1 N a = B.G a
    have z : G1 a = plus B.G N a := o1.fr.frz a h
    cases e2 : N a with
    | none =>
      rw [less_out e2, z, plus_out e2]
    | some u =>
      rw [less_in (by rw [e2]; exact fun z => nomatch z)]
      exact (n.bg a (by rw [e2]; exact fun z => nomatch z)).symm
  · have h : B.G a = some u := h
    have na : N a = none := Classical.byContradiction fun z => by
      rw [n.bg a z] at h
      cases h
    rw [less_out na]
    exact o1.fr.sub a u (show plus B.G N a = some u by rw [plus_out na]; exact h)
  · have na : N a = none := Classical.byContradiction fun z => by
      rw [less_in z] at h
      cases h
    rw [less_out na] at h
    exact o1.fr.gh a u h
  · have na : N a = none := Classical.byContradiction fun z => by
      rw [less_in z] at h
      cases h
    rw [less_out na] at h
    exact o1.fr.notb a ps h
  · exact o1.fr.lent a (.inl h)
  · obtain ⟨hj, z⟩ := old z (by simp)
    obtain ⟨v, h1, h2⟩ := o1.val j d z
    exact ⟨v, h1, out1 (nbj hj z) h2⟩
  · obtain ⟨hj, z⟩ := old z (by simp)
    obtain ⟨q, h1, h2, h3, h4⟩ := o1.own j d z
    have nq : N q = none := by
      cases e2 : N q with
      | none => rfl
      | some w =>
        rw [hN q w e2] at h2
        cases h2
    have h4 : OwnAt κ (plT B.T N) G1 H1 q d := h4
    rw [e] at h4
    exact ⟨q, h1, by rw [less_out nq]; exact h2, h3, OwnAt.out n.mu (nbj hj z) h4⟩
  · obtain ⟨hj, z1⟩ := old z1 (by simp)
    obtain ⟨hm, z2⟩ := old z2 (by simp)
    exact o1.sep j m q d e' hjm z1 z2 z3 z4
end
end Fm

set_option maxHeartbeats 990000
/-! ### a body whose slot i is an instance of its own -/
namespace Fm
open L2 PySem PySem.Spec PyProof.Rows
def OOkP (κ : Ctx) (B : Bas) (i : Nat) (p : Addr) (N : Hp) (ρ : List SD) (σ : L2.St) (H G : Hp) : Prop := ∃ b c l dx vs, NOk κ B G p N c l dx vs ∧ ρ[i]? = some (.ow (.ins b c l)) ∧ Ok κ (opB B i p N) (ρ.set i .un) σ H G
def PstG {α : Type} (κ : Ctx) (W : WX) (B : Bas) (i : Nat) (σ : L2.St) (G : Hp) (r : Rs α) (k : α → List SD → Addr → Hp → Hp → Hp → Prop) : Prop := match r with
  | .ok a ρ' => ∀ p N H' G', OOkP κ B i p N ρ' σ H' G' → Same G G' → k a ρ' p N H' G'
  | .ex x ρ' => ∀ cls d p N H' G', OOkP κ B i p N ρ' σ H' G' → Same G G' → RepX κ B.T H' G' x cls d → W cls d σ H'
  | .no => False
def tEO (κ : Ctx) (W : WX) (i : Nat) (m : M SD) : TE := fun σ H Q => ∃ B p N ρ G, OOkP κ B i p N ρ σ H G ∧ PstG κ W B i σ G (m ρ) fun r ρ' p N H' G' => ∀ v, RepR κ (opB B i p N) (ρ'.set i .un) σ H' G' r v → Q v H'
def tTO (κ : Ctx) (W : WX) (i : Nat) (m : M Bool) : TT := fun σ H Q => ∃ B p N ρ G, OOkP κ B i p N ρ σ H G ∧ PstG κ W B i σ G (m ρ) fun b ρ' p N H' G' => Q b H'
def tAO (κ : Ctx) (W : WX) (i : Nat) (m : M (List D)) : TA := fun σ H Q => ∃ B p N ρ G, OOkP κ B i p N ρ σ H G ∧ PstG κ W B i σ G (m ρ) fun ds ρ' p N H' G' => ∀ vs, RepL κ B.T G' ds vs → Q vs H'
/-- out of sight -/
def viewO {α : Type} (i : Nat) (m : M α) : M α := fun ρ => match ρ[i]? with
  | some (.ow (.ins b c l)) => match m (ρ.set i .un) with
    | .ok a ρ1 => .ok a (ρ1.set i (.ow (.ins b c l)))
    | .ex x ρ1 => .ex x (ρ1.set i (.ow (.ins b c l)))
    | .no => .no
  | _ => .no
/-- lent -/
def viewL {α : Type} (i : Nat) (nb : α → Bool) (m : M α) : M α := fun ρ => match ρ[i]? with
  | some (.ow (.ins b c l)) => match m (ρ.set i (.va (.ins true c l))) with
    | .ok a ρ1 => if ((ρ1.set i .un).all SD.nbS && nb a) = true then .ok a (ρ1.set i (.ow (.ins b c l))) else .no
    | .ex x ρ1 => if ((ρ1.set i .un).all SD.nbS && nbF x.fs) = true then .ex x (ρ1.set i (.ow (.ins b c l))) else .no
    | .no => .no
  | _ => .no
section
variable {κ : Ctx} {W : WX} {B : Bas} {i : Nat} {ρ ρ1 : List SD} {σ σ1 : L2.St} {H H1 G G1 : Hp} {p : Addr} {N : Hp} {b : Bool} {c : String} {l : List (Str × D)} {dx : Addr} {vs : List (Str × V)}
theorem anch_lt {B' : Bas} (o : Ok κ B' ρ σ H G) (h : (i, p) ∈ B'.an) : i < ρ.length := by
  have e := o.anch i p h
  rw [← o.len]
  obtain ⟨z, _⟩ := List.getElem?_eq_some_iff.mp e
  exact z
theorem lt_of {x : SD} (e : ρ[i]? = some x) : i < ρ.length := (List.getElem?_eq_some_iff.mp e).1
/-- the state again, behind what ran out of sight -/
theorem OOkP.op (n : NOk κ B G p N c l dx vs) (o : Ok κ (opB B i p N) ρ σ H G) (o1 : Ok κ (opB B i p N) ρ1 σ1 H1 G1) (s : Same G G1) : OOkP κ B i p N (ρ1.set i (.ow (.ins b c l))) σ1 H1 G1 := by
  have hi : i < ρ1.length := anch_lt o1 (List.mem_cons_self ..)
  refine ⟨b, c, l, dx, vs, n.mono s (op_gfree o n o1), List.getElem?_set_self hi, ?_⟩
  rw [List.set_set]
  exact o1.drop i
theorem OOkP.ln (n : NOk κ B G p N c l dx vs) (o1 : Ok κ (lnB B i p N) ρ1 σ1 H1 G1) (s : Same (plus G N) G1) (nb : (ρ1.set i .un).all SD.nbS = true) : ∃ G2, G1 = plus G2 N ∧ Same G G2 ∧ OOkP κ B i p N (ρ1.set i (.ow (.ins b c l))) σ1 H1 G2 ∧
    (∀ {d : D} {v : V}, d.nb = true → Rep κ (plT B.T N) G1 d v → Rep κ B.T G2 d v) ∧ (∀ {d : List D} {v : List V}, nbL d = true → RepL κ (plT B.T N) G1 d v → RepL κ B.T G2 d v) ∧ (∀ {d : List (Str × D)} {v : List (Str × V)}, nbF d = true → RepF κ (plT B.T N) G1 d v → RepF κ B.T G2 d v) ∧
    (∀ {r : SD} {v : V}, r.nbS = true → RepR κ (lnB B i p N) ρ1 σ1 H1 G1 r v → RepR κ (opB B i p N) ((ρ1.set i (.ow (.ins b c l))).set i .un) σ1 H1 G2 r v) := by
  have hi : i < ρ1.length := anch_lt o1 (List.mem_cons_self ..)
  obtain ⟨G2, e, gs, n2, o2⟩ := n.back o1 s nb
  subst e
  refine ⟨G2, rfl, gs, ⟨b, c, l, dx, vs, n2, List.getElem?_set_self hi, by rw [List.set_set]; exact o2⟩, fun hn r => Rep.out n.mu _ hn r, fun hn r => RepL.out n.mu _ hn r, fun hn r => RepF.out n.mu _ hn r, fun {r v} hn rr => ?_⟩
  cases r with
  | un => exact rr.elim
  | va d => exact Rep.out n.mu d hn rr
  | ow d =>
    obtain ⟨q, rfl, q1, q2, q3, q4⟩ := rr
    have nq : N q = none := by
      cases e2 : N q with
      | none => rfl
      | some w =>
        rw [plus_in e2] at q1
        cases q1
    refine ⟨q, rfl, by rw [plus_out nq] at q1; exact q1, q2, OwnAt.out n.mu hn q3, fun j e z => ?_⟩
    rw [List.set_set] at z
    by_cases hj : j = i
    · rw [hj, List.getElem?_set_self hi] at z
      cases z
    · rw [List.getElem?_set_ne (Ne.symm hj)] at z
      exact q4 j e z
/-- a part that runs out of sight -/
theorem PstG.op {α : Type} {m : M α} {k : α → List SD → Addr → Hp → Hp → Hp → Prop} (n : NOk κ B G p N c l dx vs) (e : ρ[i]? = some (.ow (.ins b c l))) (o : Ok κ (opB B i p N) (ρ.set i .un) σ H G) (q : PstG κ W B i σ G (viewO i m ρ) k) :
    Pst κ W (opB B i p N) σ G (m (ρ.set i .un)) fun a ρ1 H1 G1 => k a (ρ1.set i (.ow (.ins b c l))) p N H1 G1 ∧ Same G G1 := by
  unfold viewO at q
  rw [e] at q
  dsimp only at q
  cases em : m (ρ.set i .un) with
  | ok a ρ1 =>
    rw [em] at q
    exact fun H1 G1 o1 s1 => ⟨q p N H1 G1 (OOkP.op n o o1 s1) s1, s1⟩
  | ex x ρ1 =>
    rw [em] at q
    exact fun cls d H1 G1 o1 s1 rx => q cls d p N H1 G1 (OOkP.op n o o1 s1) s1 rx
  | no =>
    rw [em] at q
    exact q
/-- .. lent -/
theorem PstG.ln {α : Type} {m : M α} {nb : α → Bool} {k : α → List SD → Addr → Hp → Hp → Hp → Prop} (n : NOk κ B G p N c l dx vs) (e : ρ[i]? = some (.ow (.ins b c l))) (o : Ok κ (opB B i p N) (ρ.set i .un) σ H G) (q : PstG κ W B i σ G (viewL i nb m ρ) k) :
    Pst κ W (lnB B i p N) σ (plus G N) (m (ρ.set i (.va (.ins true c l)))) fun a ρ1 H1 G1 => nb a = true ∧ ∃ G2, G1 = plus G2 N ∧ Same G G2 ∧ k a (ρ1.set i (.ow (.ins b c l))) p N H1 G2 ∧ OOkP κ B i p N (ρ1.set i (.ow (.ins b c l))) σ H1 G2 ∧
      (∀ {d : D} {v : V}, d.nb = true → Rep κ (plT B.T N) G1 d v → Rep κ B.T G2 d v) ∧ (∀ {d : List D} {v : List V}, nbL d = true → RepL κ (plT B.T N) G1 d v → RepL κ B.T G2 d v) ∧
      (∀ {r : SD} {v : V}, r.nbS = true → RepR κ (lnB B i p N) ρ1 σ H1 G1 r v → RepR κ (opB B i p N) ((ρ1.set i (.ow (.ins b c l))).set i .un) σ H1 G2 r v) := by
  unfold viewL at q
  rw [e] at q
  dsimp only at q
  cases em : m (ρ.set i (.va (.ins true c l))) with
  | ok a ρ1 =>
    rw [em] at q
    intro H1 G1 o1 s1
    dsimp only at q
    by_cases z : ((ρ1.set i .un).all SD.nbS && nb a) = true
    · rw [if_pos z] at q
      rw [Bool.and_eq_true] at z
      obtain ⟨G2, e2, gs, ok2, r1, r2, r3, r4⟩ := OOkP.ln (b := b) n o1 s1 z.1
      exact ⟨z.2, G2, e2, gs, q p N H1 G2 ok2 gs, ok2, r1, r2, r4⟩
    · rw [if_neg z] at q
      exact q.elim
  | ex x ρ1 =>
    rw [em] at q
    intro cls d H1 G1 o1 s1 rx
    dsimp only at q
    by_cases z : ((ρ1.set i .un).all SD.nbS && nbF x.fs) = true
    · rw [if_pos z] at q
      rw [Bool.and_eq_true] at z
      obtain ⟨G2, e2, gs, ok2, r1, r2, r3, r4⟩ := OOkP.ln (b := b) n o1 s1 z.1
      obtain ⟨x1, dx', vs', x2, x3, x4⟩ := rx
      exact q cls d p N H1 G2 ok2 gs ⟨x1, dx', vs', x2, x3, r3 z.2 x4⟩
    · rw [if_neg z] at q
      exact q.elim
  | no =>
    rw [em] at q
    exact q
end
section
variable {κ : Ctx} {X : Cx} {W : WX} {i : Nat} {e : Expr} {es : List Expr}
theorem eo_op {m : M SD} (h : PE X e (tE κ W m)) : PE X e (tEO κ W i (viewO i m)) := PE.imp h fun σ H Q ⟨B, p, N, ρ, G, ⟨b, c, l, dx, vs, n, e, o⟩, q⟩ =>
  ⟨opB B i p N, ρ.set i .un, G, o, Pst.mono (PstG.op n e o q) fun r ρ1 H1 G1 o1 s1 z v rv => z.1 v (by
    rw [List.set_set]
    cases r with
    | un => exact rv.elim
    | va d => exact rv
    | ow d =>
      obtain ⟨a, q1, q2, q3, q4, q5⟩ := rv
      refine ⟨a, q1, q2, q3, q4, fun j e' z' => q5 j e' ?_⟩
      by_cases hj : j = i
      · rw [hj] at z'
        have hl := (List.getElem?_eq_some_iff.mp z').1
        rw [List.length_set] at hl
        rw [List.getElem?_set_self hl] at z'
        cases z'
      · rw [List.getElem?_set_ne (Ne.symm hj)] at z'
        exact z')⟩
theorem eo_ln {m : M SD} (h : PE X e (tE κ W m)) : PE X e (tEO κ W i (viewL i SD.nbS m)) := PE.imp h fun σ H Q ⟨B, p, N, ρ, G, ⟨b, c, l, dx, vs, n, e, o⟩, q⟩ =>
  ⟨lnB B i p N, ρ.set i (.va (.ins true c l)), plus G N, n.lend (lt_of e) o, Pst.mono (PstG.ln n e o q) fun r ρ1 H1 G1 o1 s1 ⟨nb, G2, e2, gs, z, ok2, r1, r2, r4⟩ v rv => z v (r4 nb rv)⟩
theorem to_ln {m : M Bool} (h : PT X e (tT κ W m)) : PT X e (tTO κ W i (viewL i (fun _ => true) m)) := PT.imp h fun σ H Q ⟨B, p, N, ρ, G, ⟨b, c, l, dx, vs, n, e, o⟩, q⟩ =>
  ⟨lnB B i p N, ρ.set i (.va (.ins true c l)), plus G N, n.lend (lt_of e) o, Pst.mono (PstG.ln n e o q) fun r ρ1 H1 G1 o1 s1 ⟨nb, G2, e2, gs, z, _⟩ => z⟩
end
/-! ### statements -/
def PstO (κ : Ctx) (W : WX) (B : Bas) (i : Nat) (G : Hp) (r : Rs Fl) (D : Ends) : Prop := match r with
  | .ok .nx ρ' => ∀ p N σ' H' G', OOkP κ B i p N ρ' σ' H' G' → Same G G' → D.nx σ' H'
  | .ok (.rt r) ρ' => ∀ v p N σ' H' G', OOkP κ B i p N ρ' σ' H' G' → Same G G' → RepR κ (opB B i p N) (ρ'.set i .un) σ' H' G' r v → D.rt v H'
  | .ok .bk ρ' => ∀ p N σ' H' G', OOkP κ B i p N ρ' σ' H' G' → Same G G' → D.bk σ' H'
  | .ok .ct ρ' => ∀ p N σ' H' G', OOkP κ B i p N ρ' σ' H' G' → Same G G' → D.ct σ' H'
  | .ex x ρ' => ∀ cls d p N σ' H' G', OOkP κ B i p N ρ' σ' H' G' → Same G G' → RepX κ B.T H' G' x cls d → W cls d σ' H'
  | .no => False
def tOb (κ : Ctx) (A : List Nat) (W : WX) (i : Nat) (s : S) : TS := fun D σ H => ∃ B p N ρ G, InA B A ∧ OOkP κ B i p N ρ σ H G ∧ PstO κ W B i G (s ρ) D
theorem PstO.mono {κ : Ctx} {W : WX} {B : Bas} {i : Nat} {G G1 : Hp} {r : Rs Fl} {D D' : Ends} (h : PstO κ W B i G r D) (s : Same G G1) (hn : ∀ σ H, D.nx σ H → D'.nx σ H) (hr : D.rt = D'.rt) (hb : D.bk = D'.bk) (hc : D.ct = D'.ct) : PstO κ W B i G1 r D' := by
  cases r with
  | ok f ρ' =>
    cases f with
    | nx => exact fun p N σ' H' G' o e => hn _ _ (h p N σ' H' G' o (s.trans e))
    | rt r => exact fun v p N σ' H' G' o e q => hr ▸ h v p N σ' H' G' o (s.trans e) q
    | bk => exact fun p N σ' H' G' o e => hb ▸ h p N σ' H' G' o (s.trans e)
    | ct => exact fun p N σ' H' G' o e => hc ▸ h p N σ' H' G' o (s.trans e)
  | ex x ρ' => exact fun cls d p N σ' H' G' o e q => h cls d p N σ' H' G' o (s.trans e) q
  | no => exact h
theorem PstO.bind {α : Type} {κ : Ctx} {W : WX} {B : Bas} {i : Nat} {σ : L2.St} {G : Hp} {m : M α} {f : α → S} {ρ : List SD} {D : Ends} (h : PstO κ W B i G (m.bind f ρ) D) :
    PstG κ W B i σ G (m ρ) fun a ρ' p N H' G' => PstO κ W B i G' (f a ρ') D := by
  unfold M.bind at h
  cases e : m ρ with
  | ok a ρ' =>
    rw [e] at h
    exact fun p N H' G' o s => PstO.mono h s (fun _ _ q => q) rfl rfl rfl
  | ex x ρ' =>
    rw [e] at h
    exact fun cls d p N H' G' o s r => h cls d p N σ H' G' o s r
  | no =>
    rw [e] at h
    exact h
theorem PstG.mono {α : Type} {κ : Ctx} {W : WX} {B : Bas} {i : Nat} {σ : L2.St} {G : Hp} {r : Rs α} {k k' : α → List SD → Addr → Hp → Hp → Hp → Prop} (h : PstG κ W B i σ G r k) (f : ∀ a ρ' p N H' G', OOkP κ B i p N ρ' σ H' G' → Same G G' → k a ρ' p N H' G' → k' a ρ' p N H' G') : PstG κ W B i σ G r k' := by
  cases r with
  | ok a ρ' => exact fun p N H' G' o s => f _ _ _ _ _ _ o s (h p N H' G' o s)
  | ex x ρ' => exact h
  | no => exact h
theorem PstG.bind {α β : Type} {κ : Ctx} {W : WX} {B : Bas} {i : Nat} {σ : L2.St} {G : Hp} {m : M α} {f : α → M β} {ρ : List SD} {k : β → List SD → Addr → Hp → Hp → Hp → Prop} (h : PstG κ W B i σ G (m.bind f ρ) k) :
    PstG κ W B i σ G (m ρ) fun a ρ' p N H' G' => PstG κ W B i σ G' (f a ρ') k := by
  unfold M.bind at h
  cases e : m ρ with
  | ok a ρ' =>
    rw [e] at h
    intro p N H' G' o s
    have h2 : PstG κ W B i σ G (f a ρ') k := h
    show PstG κ W B i σ G' (f a ρ') k
    cases e2 : f a ρ' with
    | ok b ρ2 =>
      rw [e2] at h2
      exact fun p2 N2 H2 G2 ok2 s2 => h2 p2 N2 H2 G2 ok2 (s.trans s2)
    | ex x ρ2 =>
      rw [e2] at h2
      exact fun cls d p2 N2 H2 G2 ok2 s2 r => h2 cls d p2 N2 H2 G2 ok2 (s.trans s2) r
    | no =>
      rw [e2] at h2
      exact h2
  | ex x ρ' =>
    rw [e] at h
    exact h
  | no =>
    rw [e] at h
    exact h
section
variable {κ : Ctx} {X : Cx} {A : List Nat} {W : WX} {i : Nat} {st : Stmt} {s : S} {pos : Pos}
theorem inA_op {B : Bas} {p : Addr} {N : Hp} (h : InA B A) : InA (opB B i p N) (i :: A) := fun q hq => by
  rcases List.mem_cons.mp hq with z | z
  · rw [z]
    exact List.mem_cons_self ..
  · exact List.mem_cons_of_mem _ (h q z)
/-- a statement that does not look at the instance -/
theorem o_op (h : PS X st (tS κ (i :: A) W s)) : PS X st (tOb κ A W i (viewO i s)) := by
  refine PS.imp h fun D σ H ⟨B, p, N, ρ, G, ia, ⟨b, c, l, dx, vs, n, e, o⟩, q⟩ => ⟨opB B i p N, ρ.set i .un, G, inA_op ia, o, ?_⟩
  unfold viewO at q
  rw [e] at q
  dsimp only at q
  cases em : s (ρ.set i .un) with
  | ok f ρ1 =>
    rw [em] at q
    cases f with
    | nx => exact fun σ' H' G' o' s' => q p N σ' H' G' (OOkP.op n o o' s') s'
    | bk => exact fun σ' H' G' o' s' => q p N σ' H' G' (OOkP.op n o o' s') s'
    | ct => exact fun σ' H' G' o' s' => q p N σ' H' G' (OOkP.op n o o' s') s'
    | rt r =>
      refine fun v σ' H' G' o' s' rv => q v p N σ' H' G' (OOkP.op n o o' s') s' ?_
      rw [List.set_set]
      cases r with
      | un => exact rv.elim
      | va d => exact rv
      | ow d =>
        obtain ⟨a, q1, q2, q3, q4, q5⟩ := rv
        refine ⟨a, q1, q2, q3, q4, fun j e' z' => q5 j e' ?_⟩
        by_cases hj : j = i
        · rw [hj] at z'
          have hl := (List.getElem?_eq_some_iff.mp z').1
          rw [List.length_set] at hl
          rw [List.getElem?_set_self hl] at z'
          cases z'
        · rw [List.getElem?_set_ne (Ne.symm hj)] at z'
          exact z'
  | ex x ρ1 =>
    rw [em] at q
    exact fun cls d σ' H' G' o' s' rx => q cls d p N σ' H' G' (OOkP.op n o o' s') s' rx
  | no =>
    rw [em] at q
    exact q
theorem o_nil : PSs X [] (tOb κ A W i sNx) := PSs.imp pss_nil fun D σ H ⟨B, p, N, ρ, G, _, o, q⟩ => q p N σ H G o (Same.refl G)
theorem o_one (h : PS X st (tOb κ A W i s)) : PSs X [st] (tOb κ A W i s) := pss_one h
theorem o_cons {rest : List Stmt} {t : S} (h : PS X st (tOb κ A W i s)) (h2 : PSs X rest (tOb κ A W i t)) : PSs X (st :: rest) (tOb κ A W i (sSeq s t)) := by
  refine PSs.imp (pss_cons h h2) fun D σ H ⟨B, p, N, ρ, G, a, o, q⟩ => ⟨B, p, N, ρ, G, a, o, ?_⟩
  have q' : PstO κ W B i G (match s ρ with | .ok .nx ρ' => t ρ' | r => r) D := q
  cases e : s ρ with
  | ok f ρ' =>
    rw [e] at q'
    cases f with
    | nx => exact fun p' N' σ' H' G' o' s' => ⟨B, p', N', ρ', G', a, o', PstO.mono q' s' (fun _ _ z => z) rfl rfl rfl⟩
    | rt r => exact q'
    | bk => exact q'
    | ct => exact q'
  | ex x ρ' =>
    rw [e] at q'
    exact q'
  | no =>
    rw [e] at q'
    exact q'
theorem o_if {c : Expr} {b1 b2 : List Stmt} {t : M Bool} {s1 s2 : S} (hc : PT X c (tTO κ W i t)) (h1 : PSs X b1 (tOb κ A W i s1)) (h2 : PSs X b2 (tOb κ A W i s2)) : PS X (.If c b1 b2 pos) (tOb κ A W i (sIf t s1 s2)) := by
  refine PS.imp (ps_if hc h1 h2) fun D σ H ⟨B, p, N, ρ, G, a, o, q⟩ => ⟨B, p, N, ρ, G, o, PstG.mono (PstO.bind q) fun b ρ' p' N' H' G' o' s q' => ?_⟩
  cases b with
  | true => exact iteT ⟨B, p', N', ρ', G', a, o', q'⟩
  | false => exact iteF ⟨B, p', N', ρ', G', a, o', q'⟩
end
end Fm

set_option maxHeartbeats 990000
namespace Fm
open L2 PySem PySem.Spec PyProof.Rows
/-! ### fields stored -/
def putFD (f : Str) (d : D) : List (Str × D) → List (Str × D)
  | [] => [(f, d)]
  | (g, x) :: r => if g = f then (g, d) :: r else (g, x) :: putFD f d r
section
variable {κ : Ctx} {T : Pd} {G N N2 : Hp}
theorem RepF.length : ∀ {l : List (Str × D)} {vs : List (Str × V)}, RepF κ T G l vs → vs.length = l.length
  | [], vs, h => by rw [show vs = [] from h] <;> rfl
  | (k, d) :: l, vs, h => by
    obtain ⟨v, ws, rfl, h1, h2⟩ := h
    rw [List.length_cons, List.length_cons, h2.length]
theorem RepF.put (f : Str) {d : D} {y : V} (r : Rep κ T G d y) : ∀ {l : List (Str × D)} {vs : List (Str × V)}, RepF κ T G l vs → RepF κ T G (putFD f d l) (putF f y vs)
  | [], vs, h => by
    rw [show vs = [] from h]
    exact ⟨y, [], rfl, r, rfl⟩
  | (k, e) :: l, vs, h => by
    obtain ⟨v, ws, rfl, h1, h2⟩ := h
    unfold putFD putF
    by_cases z : k = f
    · rw [if_pos z, if_pos z]
      exact ⟨y, ws, rfl, r, h2⟩
    · rw [if_neg z, if_neg z]
      exact ⟨v, _, rfl, h1, RepF.put f r h2⟩
theorem RepF.lkF {f : Str} : ∀ {l : List (Str × D)} {vs : List (Str × V)} {d : D}, RepF κ T G l vs → l.lookup f = some d → ∃ v, vs.lookup f = some v ∧ Rep κ T G d v
  | [], vs, d, h, e => by cases e
  | (k, c) :: l, vs, d, h, e => by
    obtain ⟨v, ws, rfl, h1, h2⟩ := h
    by_cases z : f = k
    · have hb : (f == k) = true := beq_iff_eq.mpr z
      simp only [List.lookup, hb] at e ⊢
      cases e
      exact ⟨v, rfl, h1⟩
    · have hb : (f == k) = false := beq_eq_false_iff_ne.mpr z
      simp only [List.lookup, hb] at e ⊢
      exact RepF.lkF h2 e
theorem RepF.lkNone {f : Str} : ∀ {l : List (Str × D)} {vs : List (Str × V)}, RepF κ T G l vs → l.lookup f = none → vs.lookup f = none
  | [], vs, h, e => by
    rw [show vs = [] from h]
    rfl
  | (k, c) :: l, vs, h, e => by
    obtain ⟨v, ws, rfl, h1, h2⟩ := h
    by_cases z : f = k
    · have hb : (f == k) = true := beq_iff_eq.mpr z
      simp only [List.lookup, hb] at e
      cases e
    · have hb : (f == k) = false := beq_eq_false_iff_ne.mpr z
      simp only [List.lookup, hb] at e ⊢
      exact RepF.lkNone h2 e
theorem ownF_nb {d : D} (h : ownF d = true) : d.nb = false := by
  cases d with
  | lst b l =>
    cases b with
    | true => rfl
    | false => cases h
  | dk b l =>
    cases b with
    | true => rfl
    | false => cases h
  | _ => cases h
/-- an own field's object -/
theorem ownF_at {d : D} {v : V} (h : ownF d = true) (r : Rep κ (plT T N) (plus G N) d v) : ∃ q, v = .ref q := by
  cases d with
  | lst b l =>
    obtain ⟨a, vs, rfl, _⟩ := r
    exact ⟨a, rfl⟩
  | dk b l =>
    obtain ⟨a, vs, rfl, _⟩ := r
    exact ⟨a, rfl⟩
  | _ => cases h
theorem ownAd_mem {f : Str} : ∀ {l : List (Str × D)} {vs : List (Str × V)} {d : D} {q : Addr}, RepF κ (plT T N) (plus G N) l vs → l.lookup f = some d → ownF d = true → vs.lookup f = some (.ref q) → q ∈ ownAd l vs
  | [], vs, d, q, h, e, _, _ => by cases e
  | (k, c) :: l, vs, d, q, h, e, od, ev => by
    obtain ⟨v, ws, rfl, h1, h2⟩ := h
    by_cases z : f = k
    · have hb : (f == k) = true := beq_iff_eq.mpr z
      simp only [List.lookup, hb] at e ev
      cases e
      cases ev
      unfold ownAd
      rw [if_pos od]
      exact List.mem_cons_self ..
    · have hb : (f == k) = false := beq_eq_false_iff_ne.mpr z
      simp only [List.lookup, hb] at e ev
      have ih := ownAd_mem h2 e od ev
      cases v with
      | ref a =>
        unfold ownAd
        split
        · exact List.mem_cons_of_mem _ ih
        · exact ih
      | _ =>
        unfold ownAd
        exact ih
/-- data of a field, the own objects being the same -/
theorem Rep.moveF (gf : ∀ a, N a ≠ none → G a = none) (gf2 : ∀ a, N2 a ≠ none → G a = none) (mu : ∀ a o, N a = some o → OwK o) {d : D} {v : V} (hd : (d.nb || ownF d) = true) (hT : ∀ q, v = .ref q → ownF d = true → N2 q = N q) (ht : ∀ q, ownF d = true → v = .ref q → T q → False) (r : Rep κ (plT T N) (plus G N) d v) : Rep κ (plT T N2) (plus G N2) d v := by
  rcases Bool.or_eq_true_iff.mp hd with h | h
  · exact Rep.mono (mono_in gf2) d (Rep.out mu d h r)
  · cases d with
    | lst b l =>
      cases b with
      | false => cases h
      | true =>
        obtain ⟨a, vs, rfl, ⟨h1, h2⟩, h3⟩ := r
        have na : N a ≠ none := (h2.mpr rfl).elim (fun z => (ht a h rfl z).elim) id
        obtain ⟨o, eo⟩ : ∃ o, N a = some o := by
          cases e : N a with
          | none => exact absurd e na
          | some o => exact ⟨o, rfl⟩
        have e1 := hT a rfl h
        rw [plus_in eo] at h1
        rw [eo] at e1
        exact ⟨a, vs, rfl, ⟨(plus_in e1).trans h1, ⟨fun _ => rfl, fun _ => .inr (by rw [e1]; exact fun z => nomatch z)⟩⟩, RepL.mono (mono_in gf2) l (RepL.out mu l h h3)⟩
    | dk b l =>
      cases b with
      | false => cases h
      | true =>
        obtain ⟨a, vs, rfl, ⟨h1, h2⟩, h3⟩ := r
        have h1 := h1.own
        have na : N a ≠ none := (h2.mpr rfl).elim (fun z => (ht a h rfl z).elim) id
        obtain ⟨o, eo⟩ : ∃ o, N a = some o := by
          cases e : N a with
          | none => exact absurd e na
          | some o => exact ⟨o, rfl⟩
        have e1 := hT a rfl h
        rw [plus_in eo] at h1
        rw [eo] at e1
        exact ⟨a, vs, rfl, ⟨.inl ((plus_in e1).trans h1), ⟨fun _ => rfl, fun _ => .inr (by rw [e1]; exact fun z => nomatch z)⟩⟩, RepK.mono (mono_in gf2) l (RepK.out mu l h h3)⟩
    | _ => cases h
theorem RepF.move (gf : ∀ a, N a ≠ none → G a = none) (gf2 : ∀ a, N2 a ≠ none → G a = none) (mu : ∀ a o, N a = some o → OwK o) (ht : ∀ a, N a ≠ none → ¬ T a) : ∀ {l : List (Str × D)} {vs : List (Str × V)}, fldB l = true → (∀ a ∈ ownAd l vs, N2 a = N a ∧ N a ≠ none) → RepF κ (plT T N) (plus G N) l vs → RepF κ (plT T N2) (plus G N2) l vs
  | [], vs, _, _, r => r
  | (k, d) :: l, vs, hf, hq, r => by
    obtain ⟨v, ws, rfl, h1, h2⟩ := r
    unfold fldB at hf
    replace hf := allC hf
    have tail : ∀ a ∈ ownAd l ws, N2 a = N a ∧ N a ≠ none := fun a ha => hq a (by
      cases v with
      | ref q =>
        unfold ownAd
        split
        · exact List.mem_cons_of_mem _ ha
        · exact ha
      | _ =>
        unfold ownAd
        exact ha)
    have here : ∀ q, v = .ref q → ownF d = true → N2 q = N q ∧ N q ≠ none := fun q e od => by
      subst e
      refine hq q ?_
      unfold ownAd
      rw [if_pos od]
      exact List.mem_cons_self ..
    exact ⟨v, ws, rfl, Rep.moveF gf gf2 mu hf.1 (fun q e od => (here q e od).1) (fun q od e t => ht q (here q e od).2 t) h1, RepF.move gf gf2 mu ht hf.2 tail h2⟩
theorem ownAd_put {f : Str} {d : D} {y : V} : ∀ {l : List (Str × D)} {vs : List (Str × V)}, RepF κ (plT T N) (plus G N) l vs → ∀ a ∈ ownAd (putFD f d l) (putF f y vs), a ∈ ownAd l vs ∨ (ownF d = true ∧ y = .ref a)
  | [], vs, r, a, h => by
    rw [show vs = [] from r] at h
    have h : a ∈ ownAd [(f, d)] [(f, y)] := h
    cases y with
    | ref q =>
      unfold ownAd at h
      split at h
      · rename_i od
        rcases inC h with rfl | h
        · exact .inr ⟨od, rfl⟩
        · cases h
      · cases h
    | _ =>
      unfold ownAd at h
      cases h
  | (k, c) :: l, vs, r, a, h => by
    obtain ⟨v, ws, rfl, h1, h2⟩ := r
    unfold putFD putF at h
    have cons_in : a ∈ ownAd l ws → a ∈ ownAd ((k, c) :: l) ((k, v) :: ws) := fun ha => by
      cases v with
      | ref q =>
        unfold ownAd
        split
        · exact List.mem_cons_of_mem _ ha
        · exact ha
      | _ =>
        unfold ownAd
        exact ha
    by_cases z : k = f
    · rw [if_pos z, if_pos z] at h
      cases y with
      | ref q =>
        unfold ownAd at h
        split at h
        · rename_i od
          rcases inC h with rfl | h
          · exact .inr ⟨od, rfl⟩
          · exact .inl (cons_in h)
        · exact .inl (cons_in h)
      | _ =>
        unfold ownAd at h
        exact .inl (cons_in h)
    · rw [if_neg z, if_neg z] at h
      cases v with
      | ref q =>
        unfold ownAd at h ⊢
        split at h
        · rename_i od
          rw [if_pos od]
          rcases inC h with rfl | h
          · exact .inl (List.mem_cons_self ..)
          · exact (ownAd_put h2 a h).elim (fun z => .inl (List.mem_cons_of_mem _ z)) .inr
        · rename_i od
          rw [if_neg od]
          exact ownAd_put h2 a h
      | _ =>
        unfold ownAd at h ⊢
        exact ownAd_put h2 a h
theorem ownAd_nd {f : Str} {d : D} {y : V} (hy : ∀ q, ownF d = true → y = .ref q → True) : ∀ {l : List (Str × D)} {vs : List (Str × V)}, RepF κ (plT T N) (plus G N) l vs → (ownAd l vs).Nodup → (∀ q, ownF d = true → y = .ref q → q ∉ ownAd l vs) → (ownAd (putFD f d l) (putF f y vs)).Nodup
  | [], vs, r, nd, hq => by
    rw [show vs = [] from r]
    show (ownAd [(f, d)] [(f, y)]).Nodup
    cases y with
    | ref q =>
      unfold ownAd
      split
      · exact List.nodup_cons.mpr ⟨(fun z => by cases z), List.nodup_nil⟩
      · exact List.nodup_nil
    | _ =>
      unfold ownAd
      exact List.nodup_nil
  | (k, c) :: l, vs, r, nd, hq => by
    obtain ⟨v, ws, rfl, h1, h2⟩ := r
    have sub : (ownAd l ws).Sublist (ownAd ((k, c) :: l) ((k, v) :: ws)) := by
      cases v with
      | ref q =>
        have e : ownAd ((k, c) :: l) ((k, V.ref q) :: ws) = if ownF c then q :: ownAd l ws else ownAd l ws := rfl
        rw [e]
        split
        · exact List.sublist_cons_self ..
        · exact List.Sublist.refl _
      | _ => exact List.Sublist.refl (ownAd l ws)
    have ndt := nd.sublist sub
    unfold putFD putF
    by_cases z : k = f
    · rw [if_pos z, if_pos z]
      cases y with
      | ref q =>
        unfold ownAd
        split
        · rename_i od
          exact List.nodup_cons.mpr ⟨fun m => hq q od rfl (sub.subset m), ndt⟩
        · exact ndt
      | _ =>
        unfold ownAd
        exact ndt
    · rw [if_neg z, if_neg z]
      have ih := ownAd_nd (f := f) (y := y) hy h2 ndt fun q od e m => hq q od e (sub.subset m)
      cases v with
      | ref q =>
        unfold ownAd at nd hq ⊢
        split
        · rename_i oc
          rw [if_pos oc] at nd hq
          refine List.nodup_cons.mpr ⟨fun m => ?_, ih⟩
          rcases ownAd_put h2 q m with m | ⟨od, e⟩
          · exact (List.nodup_cons.mp nd).1 m
          · exact hq q od e (List.mem_cons_self ..)
        · exact ih
      | _ =>
        unfold ownAd
        exact ih
theorem fldB_put {f : Str} {d : D} (hd : (d.nb || ownF d) = true) : ∀ {l : List (Str × D)}, fldB l = true → fldB (putFD f d l) = true
  | [], _ => by
    show ((d.nb || ownF d) && true) = true
    rw [hd] <;> rfl
  | (k, c) :: l, h => by
    unfold fldB at h
    replace h := allC h
    unfold putFD
    by_cases z : k = f
    · rw [if_pos z]
      show ((d.nb || ownF d) && _) = true
      rw [hd, Bool.true_and]
      exact h.2
    · rw [if_neg z]
      show ((c.nb || ownF c) && fldB (putFD f d l)) = true
      rw [fldB_put hd h.2, Bool.and_true]
      exact h.1
end

/-! ### the objects changed -/
section
variable {κ : Ctx} {B : Bas} {i : Nat} {ρ : List SD} {σ : L2.St} {H H2 G : Hp} {p : Addr} {N N2 : Hp} {c : String} {l : List (Str × D)} {dx : Addr} {vs : List (Str × V)}
theorem Ok.swap (o : Ok κ (opB B i p N) ρ σ H G) (h1 : ∀ a, N2 a ≠ none → B.H a = none ∧ G a = none) (h2 : ∀ a u, N2 a = some u → H2 a = some u ∧ OwK u) (h3 : ∀ a u, H a = some u → N2 a = none → H2 a = some u) (h4 : ∀ (j : Nat) d q, ρ[j]? = some (SD.ow d) → σ[j]? = some (some (V.ref q)) → N2 q = none)
    (h5 : ∀ a, N a ≠ none → N2 a ≠ none) (h6 : LamX.Tabs κ.tabs H2) : Ok κ (opB B i p N2) ρ σ H2 G := by
  have bN : ∀ {a : Addr} {u : HO}, B.H a = some u → N2 a = none := fun {a u} e => Classical.byContradiction fun z => by
    rw [(h1 a z).1] at e
    cases e
  have bO : ∀ {a : Addr} {u : HO}, B.H a = some u → plus B.H N a = some u := fun {a u} e => by
    have n2 := bN e
    have n : N a = none := Classical.byContradiction fun z => h5 a z n2
    rw [plus_out n]
    exact e
  refine ⟨⟨fun a u e nt => ?_, fun a ps e => ?_, fun a e => ?_, o.fr.sub, fun a u e => ?_, o.fr.notb, h6, fun a e => ?_⟩, o.len, o.val, fun j d e => ?_, o.sep, o.anch⟩
  · have e : plus B.H N2 a = some u := e
    cases z : N2 a with
    | some w =>
      rw [plus_in z] at e
      cases e
      exact (h2 a _ z).1
    | none =>
      rw [plus_out z] at e
      exact h3 a u (o.fr.keep a u (bO e) nt) z
  · have e : plus B.H N2 a = some (.tbl ps) := e
    cases z : N2 a with
    | some w =>
      rw [plus_in z] at e
      cases e
      exact (h2 a _ z).2
    | none =>
      rw [plus_out z] at e
      exact o.fr.nt a ps (bO e)
  · have e : plus B.H N2 a ≠ none := e
    show G a = B.G a
    cases z : N2 a with
    | some w =>
      have g := (h1 a (by rw [z]; exact fun y => nomatch y)).2
      cases y : B.G a with
      | none => exact g
      | some u =>
        have := o.fr.sub a u y
        rw [g] at this
        cases this
    | none =>
      rw [plus_out z] at e
      cases y : B.H a with
      | none => exact absurd y e
      | some u => exact o.fr.frz a (by show plus B.H N a ≠ none; rw [bO y]; exact fun q => nomatch q)
  · refine h3 a u (o.fr.gh a u e) ?_
    exact Classical.byContradiction fun z => by
      rw [(h1 a z).2] at e
      cases e
  · have y : plus B.H N a ≠ none := o.fr.lent a e
    show plus B.H N2 a ≠ none
    cases z : N2 a with
    | some w =>
      rw [plus_in z]
      exact fun q => nomatch q
    | none =>
      have n : N a = none := Classical.byContradiction fun q => h5 a q z
      rw [plus_out n] at y
      rw [plus_out z]
      exact y
  · obtain ⟨q, q1, q2, q3, q4⟩ := o.own j d e
    have nq := h4 j d q e q1
    have n : N q = none := Classical.byContradiction fun y => h5 q y nq
    obtain ⟨u, u1, _⟩ := q4.obj
    refine ⟨q, q1, q2, ?_, q4.mono (Same.refl _) ((h3 q u u1 nq).trans u1.symm)⟩
    have q3 : plus B.H N q = none := q3
    rw [plus_out n] at q3
    show plus B.H N2 q = none
    rw [plus_out nq]
    exact q3
/-- tables of code stand behind a write -/
theorem tabs_upd {tabs : List (Addr × Str)} {H : Hp} {p : Addr} {o u : HO} (h : LamX.Tabs tabs H) (hp : H p = some u) (hu : OwK u) : LamX.Tabs tabs (upd H p o) := fun t ht => by
  obtain ⟨ps, t1, t2, t3⟩ := h t ht
  have n1 : t.1 ≠ p := fun y => by
    rw [y, hp] at t1
    exact hu.tbl ps (Option.some.inj t1)
  refine ⟨ps, by rw [upd_ne n1]; exact t1, t2, fun pos cv hc => ?_⟩
  obtain ⟨c, c1, c2⟩ := t3 pos cv hc
  refine ⟨c, c1, ?_⟩
  have n2 : c ≠ p := fun y => by
    rw [y, hp] at c2
    unfold LamX.CodeO at c2
    cases Option.some.inj c2
    exact hu
  rw [upd_ne n2]
  exact c2
end
end Fm

set_option maxHeartbeats 990000
namespace Fm
open L2 PySem PySem.Spec PyProof.Rows
/-! ### self.f = e -/
/-- what a field holds -/
def ownD : SD → Option D
  | .va d => if d.nb then some d else none
  | .ow (.lst _ m) => if nbL m then some (.lst true m) else none
  | .ow (.dk _ m) => if nbK m then some (.dk true m) else none
  | _ => none
def setFS (i : Nat) (c0 : String) (f : Str) (r : SD) : S := fun ρ => match ρ[i]? with
  | some (.ow (.ins b c l)) => if c = c0 ∧ l.length < 1000 then match ownD r with
    | some d => .ok .nx (ρ.set i (.ow (.ins b c (putFD f d l))))
    | none => .no
    else .no
  | _ => .no
def oSet (i : Nat) (c0 : String) (f : Str) (m : M SD) : S := m.bind (setFS i c0 f)
section
variable {κ : Ctx} {B : Bas} {i : Nat} {ρ : List SD} {σ : L2.St} {H G : Hp} {p : Addr} {N : Hp} {b : Bool} {c : String} {l : List (Str × D)} {dx : Addr} {vs : List (Str × V)} {f : Str} {d : D} {y : V}
theorem nd_p {f : Str} (n : NOk κ B G p N c l dx vs) (hy : ∀ q, ownF d = true → y = .ref q → q ≠ p ∧ q ∉ ownAd l vs) : (p :: ownAd (putFD f d l) (putF f y vs)).Nodup := by
  obtain ⟨h1, h2⟩ := List.nodup_cons.mp n.nd
  refine List.nodup_cons.mpr ⟨fun m => ?_, ownAd_nd (fun _ _ _ => trivial) n.fld h2 fun q a b => (hy q a b).2⟩
  rcases ownAd_put n.fld p m with m | ⟨a, b⟩
  · exact h1 m
  · exact (hy p a b).1 rfl
theorem own_ne {j : Nat} {e : D} {q : Addr} (o : Ok κ (opB B i p N) ρ σ H G) (hj : ρ[j]? = some (SD.ow e)) (hs : σ[j]? = some (some (V.ref q))) : N q = none := by
  obtain ⟨q', q1, _, q3, _⟩ := o.own j e hj
  rw [hs] at q1
  cases q1
  have q3 : plus B.H N q = none := q3
  cases z : N q with
  | none => rfl
  | some w =>
    rw [plus_in z] at q3
    cases q3
theorem NOk.ne_p (n : NOk κ B G p N c l dx vs) {q : Addr} (h : N q = none) : q ≠ p := fun z => by
  rw [z, n.here] at h
  cases h
/-- plain data stored in a field -/
theorem set_va (n : NOk κ B G p N c l dx vs) (hi : i < ρ.length) (o : Ok κ (opB B i p N) (ρ.set i .un) σ H G) (hd : d.nb = true) (r : Rep κ B.T G d y) :
    OOkP κ B i p (upd N p (.ins (κ.cl c) dx (putF f y vs))) (ρ.set i (.ow (.ins b c (putFD f d l)))) σ (upd H p (.ins (κ.cl c) dx (putF f y vs))) G := by
  have n0 : N p ≠ none := by rw [n.here]; exact fun z => nomatch z
  have of_ : ∀ {a : Addr}, upd N p (.ins (κ.cl c) dx (putF f y vs)) a ≠ none → N a ≠ none := fun {a} h => by
    by_cases ha : a = p
    · rw [ha]
      exact n0
    · rw [upd_ne ha] at h
      exact h
  have nf : ownF d = false := by
    cases z : ownF d with
    | false => rfl
    | true =>
      rw [ownF_nb z] at hd
      cases hd
  have hp : H p = some (.ins (κ.cl c) dx vs) := op_keep o n.mu n.here
  have mu2 : ∀ a u, upd N p (.ins (κ.cl c) dx (putF f y vs)) a = some u → OwK u := fun a u h => by
    by_cases ha : a = p
    · rw [ha, upd_same] at h
      cases h
      exact True.intro
    · rw [upd_ne ha] at h
      exact n.mu a u h
  have pn : p ∉ ownAd l vs := (List.nodup_cons.mp n.nd).1
  refine ⟨b, c, putFD f d l, dx, putF f y vs, ⟨fun a h => n.free a (of_ h), fun a h => n.gfree a (of_ h), fun a h => n.bg a (of_ h), fun a h => n.nt a (of_ h), mu2, upd_same, ?_, fldB_put (by rw [hd] <;> rfl) n.okF, nd_p n fun q a => (by rw [nf] at a; cases a), fun a h => ?_⟩, List.getElem?_set_self hi, ?_⟩
  · refine RepF.put f (Rep.mono (mono_in fun a h => n.gfree a (of_ h)) d r) (RepF.move n.gfree (fun a h => n.gfree a (of_ h)) n.mu n.nt n.okF (fun a h => ⟨upd_ne fun z => pn (by rw [← z]; exact h), n.inN a h⟩) n.fld)
  · rcases ownAd_put n.fld a h with h | ⟨h, _⟩
    · rw [upd_ne fun z => pn (by rw [← z]; exact h)]
      exact n.inN a h
    · rw [nf] at h
      cases h
  · rw [List.set_set]
    refine o.swap (fun a h => ⟨n.free a (of_ h), n.gfree a (of_ h)⟩) (fun a u h => ⟨?_, mu2 a u h⟩) (fun a u h h2 => ?_) (fun j e q hj hs => ?_) (fun a h => ?_) (tabs_upd o.fr.tabs hp True.intro)
    · by_cases ha : a = p
      · rw [ha, upd_same] at h ⊢
        exact h
      · rw [upd_ne ha] at h ⊢
        exact op_keep o n.mu h
    · have ha : a ≠ p := fun z => by
        rw [z, upd_same] at h2
        cases h2
      rw [upd_ne ha]
      exact h
    · have nq := own_ne o hj hs
      rw [upd_ne (n.ne_p nq)]
      exact nq
    · by_cases ha : a = p
      · rw [ha, upd_same]
        exact fun z => nomatch z
      · rw [upd_ne ha]
        exact h
/-- a new list or dict stored in a field -/
theorem set_ow (n : NOk κ B G p N c l dx vs) (hi : i < ρ.length) (o : Ok κ (opB B i p N) (ρ.set i .un) σ H G) {q : Addr} {u : HO} (od : ownF d = true) (hg : G q = none) (hb : plus B.H N q = none) (hq : H q = some u) (ou : OwK u)
    (na : ∀ (j : Nat) e, (ρ.set i .un)[j]? = some (SD.ow e) → σ[j]? ≠ some (some (V.ref q))) (r : Rep κ (fun a => B.T a ∨ a = q) (upd G q u) d (.ref q)) :
    OOkP κ B i p (upd (upd N q u) p (.ins (κ.cl c) dx (putF f (.ref q) vs))) (ρ.set i (.ow (.ins b c (putFD f d l)))) σ (upd H p (.ins (κ.cl c) dx (putF f (.ref q) vs))) G := by
  have nq : N q = none := by
    cases z : N q with
    | none => rfl
    | some w =>
      rw [plus_in z] at hb
      cases hb
  rw [plus_out nq] at hb
  have qp : q ≠ p := n.ne_p nq
  have n0 : N p ≠ none := by rw [n.here]; exact fun z => nomatch z
  have tq : ¬ B.T q := o.nolend (show plus B.H N q = none by rw [plus_out nq]; exact hb)
  have bgq : B.G q = none := by
    cases z : B.G q with
    | none => rfl
    | some w =>
      have := o.fr.sub q w z
      rw [hg] at this
      cases this
  have of_ : ∀ {a : Addr}, upd (upd N q u) p (.ins (κ.cl c) dx (putF f (.ref q) vs)) a ≠ none → N a ≠ none ∨ a = q := fun {a} h => by
    by_cases ha : a = p
    · rw [ha]
      exact .inl n0
    · rw [upd_ne ha] at h
      by_cases hq : a = q
      · exact .inr hq
      · rw [upd_ne hq] at h
        exact .inl h
  have to_ : ∀ {a : Addr} {w : HO}, N a = some w → a ≠ p → upd (upd N q u) p (.ins (κ.cl c) dx (putF f (.ref q) vs)) a = some w := fun {a w} h ha => by
    have hq : a ≠ q := fun z => by
      rw [z, nq] at h
      cases h
    rw [upd_ne ha, upd_ne hq]
    exact h
  have atq : upd (upd N q u) p (.ins (κ.cl c) dx (putF f (.ref q) vs)) q = some u := by rw [upd_ne qp, upd_same]
  have hp : H p = some (.ins (κ.cl c) dx vs) := op_keep o n.mu n.here
  have mu2 : ∀ a w, upd (upd N q u) p (.ins (κ.cl c) dx (putF f (.ref q) vs)) a = some w → OwK w := fun a w h => by
    by_cases ha : a = p
    · rw [ha, upd_same] at h
      cases h
      exact True.intro
    · rw [upd_ne ha] at h
      by_cases hq : a = q
      · rw [hq, upd_same] at h
        cases h
        exact ou
      · rw [upd_ne hq] at h
        exact n.mu a w h
  have pn : p ∉ ownAd l vs := (List.nodup_cons.mp n.nd).1
  have gf2 : ∀ a, upd (upd N q u) p (.ins (κ.cl c) dx (putF f (.ref q) vs)) a ≠ none → G a = none := fun a h => by
    rcases of_ h with h | rfl
    · exact n.gfree a h
    · exact hg
  refine ⟨b, c, putFD f d l, dx, putF f (.ref q) vs, ⟨fun a h => ?_, gf2, fun a h => ?_, fun a h => ?_, mu2, upd_same, ?_, fldB_put (by rw [od, Bool.or_true]) n.okF, nd_p n fun q' a e => ?_, fun a h => ?_⟩, List.getElem?_set_self hi, ?_⟩
  · rcases of_ h with h | rfl
    · exact n.free a h
    · exact hb
  · rcases of_ h with h | rfl
    · exact n.bg a h
    · exact bgq
  · rcases of_ h with h | rfl
    · exact n.nt a h
    · exact tq
  · refine RepF.put f (Rep.mono ⟨fun a w h => ?_, fun a w k h ld => ?_⟩ d r) (RepF.move n.gfree gf2 n.mu n.nt n.okF (fun a h => ?_) n.fld)
    · by_cases ha : a = q
      · rw [ha, upd_same] at h
        cases h
        rw [ha]
        exact plus_in atq
      · rw [upd_ne ha] at h
        rw [plus_out]
        · exact h
        · exact Classical.byContradiction fun z => by
            rw [gf2 a z] at h
            cases h
    · by_cases ha : a = q
      · subst ha
        exact ⟨fun _ => ld.mp (.inr rfl), fun _ => .inr (by rw [atq]; exact fun z => nomatch z)⟩
      · rw [upd_ne ha] at h
        have nn : upd (upd N q u) p (.ins (κ.cl c) dx (putF f (.ref q) vs)) a = none := Classical.byContradiction fun z => by
          rw [gf2 a z] at h
          cases h
        exact ⟨fun z => ld.mp (.inl (z.elim id fun y => absurd nn y)), fun z => (ld.mpr z).elim .inl fun y => absurd y ha⟩
    · obtain ⟨w, hw⟩ : ∃ w, N a = some w := by
        cases z : N a with
        | none => exact absurd z (n.inN a h)
        | some w => exact ⟨w, rfl⟩
      exact ⟨(to_ hw fun z => pn (by rw [← z]; exact h)).trans hw.symm, n.inN a h⟩
  · cases e
    exact ⟨qp, fun m => n.inN q m nq⟩
  · rcases ownAd_put n.fld a h with h | ⟨_, e⟩
    · obtain ⟨w, hw⟩ : ∃ w, N a = some w := by
        cases z : N a with
        | none => exact absurd z (n.inN a h)
        | some w => exact ⟨w, rfl⟩
      rw [to_ hw fun z => pn (by rw [← z]; exact h)]
      exact fun z => nomatch z
    · cases e
      rw [atq]
      exact fun z => nomatch z
  · rw [List.set_set]
    refine o.swap (fun a h => ?_) (fun a w h => ⟨?_, mu2 a w h⟩) (fun a w h h2 => ?_) (fun j e q' hj hs => ?_) (fun a h => ?_) (tabs_upd o.fr.tabs hp True.intro)
    · rcases of_ h with h | rfl
      · exact ⟨n.free a h, n.gfree a h⟩
      · exact ⟨hb, hg⟩
    · by_cases ha : a = p
      · rw [ha, upd_same] at h ⊢
        exact h
      · rw [upd_ne ha] at h ⊢
        by_cases haq : a = q
        · rw [haq, upd_same] at h
          cases h
          rw [haq]
          exact hq
        · rw [upd_ne haq] at h
          exact op_keep o n.mu h
    · have ha : a ≠ p := fun z => by
        rw [z, upd_same] at h2
        cases h2
      rw [upd_ne ha]
      exact h
    · have n2 := own_ne o hj hs
      have e2 : q' ≠ q := fun z => na j e hj (by rw [← z]; exact hs)
      rw [upd_ne (n.ne_p n2), upd_ne e2]
      exact n2
    · obtain ⟨w, hw⟩ : ∃ w, N a = some w := by
        cases z : N a with
        | none => exact absurd z h
        | some w => exact ⟨w, rfl⟩
      by_cases ha : a = p
      · rw [ha, upd_same]
        exact fun z => nomatch z
      · rw [to_ hw ha]
        exact fun z => nomatch z
end
section
variable {κ : Ctx} {X : Cx} {A : List Nat} {W : WX} {i : Nat} {x : Str} {e : Expr} {f : Str} {m : M SD} {c0 : String} {p1 p2 pos : Pos}
theorem o_set (hK : X.K = κ.K) (hc : Cls κ.K (κ.cl c0)) (hn : NoAttr κ.K (κ.cl c0) f) (hv : PE X (.Name x p1) (tVar i)) (h : PE X e (tEO κ W i m))
    (hs : swapsWith e (some (.Attribute (.Name x p1) f p2)) pos.line X.env = pure false := by rfl) : PS X (.Assign [.Attribute (.Name x p1) f p2] e pos) (tOb κ A W i (oSet i c0 f m)) := by
  refine PS.imp (ps_fld hv h hs) fun D σ H ⟨B, p, N, ρ, G, a, o, q⟩ => ⟨B, p, N, ρ, G, o, PstG.mono (PstO.bind q) fun r ρ' p' N' H' G' o' s q' v rv => ?_⟩
  obtain ⟨b, c, l, dx, vs, n, e1, ok⟩ := o'
  unfold setFS at q'
  rw [e1] at q'
  dsimp only at q'
  by_cases hcl : c = c0 ∧ l.length < 1000
  · rw [if_pos hcl] at q'
    obtain ⟨rfl, hl⟩ := hcl
    cases hd : ownD r with
    | none =>
      rw [hd] at q'
      exact q'.elim
    | some d =>
      rw [hd] at q'
      have hi := lt_of e1
      have hp : H' p' = some (.ins (κ.cl c) dx vs) := op_keep ok n.mu n.here
      refine ⟨.ref p', ok.anch i p' (List.mem_cons_self ..), p', κ.cl c, dx, vs, rfl, hp, hK ▸ hc, hK ▸ hn, by rw [n.fld.length]; exact hl, ?_⟩
      cases r with
      | un => cases hd
      | va d' =>
        have hd : (if d'.nb then some d' else none) = some d := hd
        split at hd
        · rename_i nb
          cases hd
          exact q' _ _ σ _ G' (set_va n hi ok nb rv) (Same.refl G')
        · cases hd
      | ow d' =>
        obtain ⟨qa, rfl, q1, q2, q3, q4⟩ := rv
        cases d' with
        | lst b' m' =>
          have hd : (if nbL m' then some (Fm.D.lst true m') else none) = some d := hd
          split at hd
          · rename_i nb
            cases hd
            obtain ⟨ws, w1, w2⟩ := q3
            refine q' _ _ σ _ G' (set_ow n hi ok (d := _root_.Fm.D.lst true m') nb q1 q2 w1 True.intro q4 ?_) (Same.refl G')
            exact ⟨qa, ws, rfl, ⟨upd_same, ⟨fun _ => rfl, fun _ => .inr rfl⟩⟩, RepL.mono ⟨Same.upd q1, fun a u k ga ld => ⟨fun z => ld.mp (z.elim id fun y => by rw [y, q1] at ga; cases ga), fun z => .inl (ld.mpr z)⟩⟩ m' w2⟩
          · cases hd
        | dk b' m' =>
          have hd : (if nbK m' then some (Fm.D.dk true m') else none) = some d := hd
          split at hd
          · rename_i nb
            cases hd
            obtain ⟨ws, w1, w2⟩ := q3
            refine q' _ _ σ _ G' (set_ow n hi ok (d := _root_.Fm.D.dk true m') nb q1 q2 w1 True.intro q4 ?_) (Same.refl G')
            exact ⟨qa, ws, rfl, ⟨.inl upd_same, ⟨fun _ => rfl, fun _ => .inr rfl⟩⟩, RepK.mono ⟨Same.upd q1, fun a u k ga ld => ⟨fun z => ld.mp (z.elim id fun y => by rw [y, q1] at ga; cases ga), fun z => .inl (ld.mpr z)⟩⟩ m' w2⟩
          · cases hd
        | _ => cases hd
  · rw [if_neg hcl] at q'
    exact q'.elim
end
end Fm

set_option maxHeartbeats 990000
namespace Fm
open L2 PySem PySem.Spec PyProof.Rows
/-! ### a field's object changed -/
section
variable {κ : Ctx} {T : Pd} {G N N2 : Hp} {f : Str} {d d2 : D} {q : Addr}
theorem ownAd_cons {k k' : Str} {c : D} {a : Addr} {l : List (Str × D)} {vs : List (Str × V)} : ownAd ((k, c) :: l) ((k', .ref a) :: vs) = if ownF c then a :: ownAd l vs else ownAd l vs := rfl
theorem ownAd_same : ∀ {l : List (Str × D)} {vs : List (Str × V)}, RepF κ (plT T N) (plus G N) l vs → l.lookup f = some d → ownF d = true → ownF d2 = true → ownAd (putFD f d2 l) vs = ownAd l vs
  | [], vs, r, h, _, _ => by cases h
  | (k, c) :: l, vs, r, h, od, o2 => by
    obtain ⟨v, ws, rfl, h1, h2⟩ := r
    unfold putFD
    by_cases z : f = k
    · have hb : (f == k) = true := beq_iff_eq.mpr z
      simp only [List.lookup, hb] at h
      cases h
      rw [if_pos z.symm]
      obtain ⟨a, rfl⟩ := ownF_at od h1
      rw [ownAd_cons, ownAd_cons, if_pos od, if_pos o2]
    · have hb : (f == k) = false := beq_eq_false_iff_ne.mpr z
      simp only [List.lookup, hb] at h
      rw [if_neg (fun y => z y.symm)]
      have ih := ownAd_same h2 h od o2
      cases v with
      | ref a => rw [ownAd_cons, ownAd_cons, ih]
      | _ => exact ih
theorem RepF.chg (gf : ∀ a, N a ≠ none → G a = none) (gf2 : ∀ a, N2 a ≠ none → G a = none) (mu : ∀ a o, N a = some o → OwK o) (ht : ∀ a, N a ≠ none → ¬ T a) (o2 : ownF d2 = true) (r2 : Rep κ (plT T N2) (plus G N2) d2 (.ref q)) : ∀ {l : List (Str × D)} {vs : List (Str × V)}, fldB l = true → (ownAd l vs).Nodup → (∀ a ∈ ownAd l vs, (a ≠ q → N2 a = N a) ∧ N a ≠ none) →
    l.lookup f = some d → ownF d = true → vs.lookup f = some (.ref q) → RepF κ (plT T N) (plus G N) l vs → RepF κ (plT T N2) (plus G N2) (putFD f d2 l) vs
  | [], vs, _, _, _, h, _, _, _ => by cases h
  | (k, c) :: l, vs, hf, nd, hq, h, od, hv, r => by
    obtain ⟨v, ws, rfl, h1, h2⟩ := r
    unfold fldB at hf
    replace hf := allC hf
    have sub : (ownAd l ws).Sublist (ownAd ((k, c) :: l) ((k, v) :: ws)) := by
      cases v with
      | ref a =>
        rw [ownAd_cons]
        split
        · exact List.sublist_cons_self ..
        · exact List.Sublist.refl _
      | _ => exact List.Sublist.refl (ownAd l ws)
    have ndt := nd.sublist sub
    unfold putFD
    by_cases z : f = k
    · have hb : (f == k) = true := beq_iff_eq.mpr z
      simp only [List.lookup, hb] at h hv
      cases h
      cases hv
      rw [if_pos z.symm]
      rw [ownAd_cons, if_pos od] at nd
      have nq := (List.nodup_cons.mp nd).1
      exact ⟨.ref q, ws, rfl, r2, RepF.move gf gf2 mu ht hf.2 (fun a ha => ⟨(hq a (sub.subset ha)).1 fun y => nq (by rw [← y]; exact ha), (hq a (sub.subset ha)).2⟩) h2⟩
    · have hb : (f == k) = false := beq_eq_false_iff_ne.mpr z
      simp only [List.lookup, hb] at h hv
      rw [if_neg (fun y => z y.symm)]
      have mq : q ∈ ownAd l ws := ownAd_mem h2 h od hv
      refine ⟨v, ws, rfl, Rep.moveF gf gf2 mu hf.1 (fun a e oc => ?_) (fun a oc e t => ?_) h1, RepF.chg gf gf2 mu ht o2 r2 hf.2 ndt (fun a ha => hq a (sub.subset ha)) h od hv h2⟩
      · subst e
        rw [ownAd_cons, if_pos oc] at nd hq
        exact (hq a (List.mem_cons_self ..)).1 fun y => (List.nodup_cons.mp nd).1 (by rw [y]; exact mq)
      · subst e
        rw [ownAd_cons, if_pos oc] at hq
        exact ht a (hq a (List.mem_cons_self ..)).2 t
end
section
variable {κ : Ctx} {B : Bas} {i : Nat} {ρ : List SD} {σ : L2.St} {H G : Hp} {p : Addr} {N : Hp} {b : Bool} {c : String} {l : List (Str × D)} {dx : Addr} {vs : List (Str × V)} {f : Str} {d d2 : D} {q : Addr} {u : HO}
theorem set_ch (n : NOk κ B G p N c l dx vs) (hi : i < ρ.length) (o : Ok κ (opB B i p N) (ρ.set i .un) σ H G) (hl : l.lookup f = some d) (od : ownF d = true) (hv : vs.lookup f = some (.ref q)) (o2 : ownF d2 = true) (ou : OwK u)
    (r : Rep κ (fun a => B.T a ∨ a = q) (upd G q u) d2 (.ref q)) : OOkP κ B i p (upd N q u) (ρ.set i (.ow (.ins b c (putFD f d2 l)))) σ (upd H q u) G := by
  have mq : q ∈ ownAd l vs := ownAd_mem n.fld hl od hv
  have nq : N q ≠ none := n.inN q mq
  obtain ⟨w, hw⟩ : ∃ w, N q = some w := by
    cases z : N q with
    | none => exact absurd z nq
    | some w => exact ⟨w, rfl⟩
  have nd2 := (List.nodup_cons.mp n.nd).2
  have pn : p ∉ ownAd l vs := (List.nodup_cons.mp n.nd).1
  have pq : p ≠ q := fun z => pn (by rw [z]; exact mq)
  have of_ : ∀ {a : Addr}, upd N q u a ≠ none → N a ≠ none := fun {a} h => by
    by_cases ha : a = q
    · rw [ha]
      exact nq
    · rw [upd_ne ha] at h
      exact h
  have gf2 : ∀ a, upd N q u a ≠ none → G a = none := fun a h => n.gfree a (of_ h)
  have mu2 : ∀ a w, upd N q u a = some w → OwK w := fun a w h => by
    by_cases ha : a = q
    · rw [ha, upd_same] at h
      cases h
      exact ou
    · rw [upd_ne ha] at h
      exact n.mu a w h
  have hq : H q = some w := op_keep o n.mu hw
  have e := ownAd_same (d2 := d2) n.fld hl od o2
  refine ⟨b, c, putFD f d2 l, dx, vs, ⟨fun a h => n.free a (of_ h), gf2, fun a h => n.bg a (of_ h), fun a h => n.nt a (of_ h), mu2, by rw [upd_ne pq]; exact n.here, ?_, fldB_put (by rw [o2, Bool.or_true]) n.okF, by rw [e]; exact n.nd, fun a h => ?_⟩, List.getElem?_set_self hi, ?_⟩
  · refine RepF.chg n.gfree gf2 n.mu n.nt o2 (Rep.mono ⟨fun a w' h => ?_, fun a w' k h ld => ?_⟩ d2 r) n.okF nd2 (fun a h => ⟨fun ha => upd_ne ha, n.inN a h⟩) hl od hv n.fld
    · by_cases ha : a = q
      · rw [ha, upd_same] at h
        cases h
        rw [ha]
        exact plus_in upd_same
      · rw [upd_ne ha] at h
        rw [plus_out]
        · exact h
        · exact Classical.byContradiction fun z => by
            rw [gf2 a z] at h
            cases h
    · by_cases ha : a = q
      · subst ha
        exact ⟨fun _ => ld.mp (.inr rfl), fun _ => .inr (by rw [upd_same]; exact fun z => nomatch z)⟩
      · rw [upd_ne ha] at h
        have nn : upd N q u a = none := Classical.byContradiction fun z => by
          rw [gf2 a z] at h
          cases h
        exact ⟨fun z => ld.mp (.inl (z.elim id fun y => absurd nn y)), fun z => (ld.mpr z).elim .inl fun y => absurd y ha⟩
  · rw [e] at h
    by_cases ha : a = q
    · rw [ha, upd_same]
      exact fun z => nomatch z
    · rw [upd_ne ha]
      exact n.inN a h
  · rw [List.set_set]
    refine o.swap (fun a h => ⟨n.free a (of_ h), gf2 a h⟩) (fun a w' h => ⟨?_, mu2 a w' h⟩) (fun a w' h h2 => ?_) (fun j e' q' hj hs => ?_) (fun a h => ?_) (tabs_upd o.fr.tabs hq (n.mu q w hw))
    · by_cases ha : a = q
      · rw [ha, upd_same] at h ⊢
        exact h
      · rw [upd_ne ha] at h ⊢
        exact op_keep o n.mu h
    · have ha : a ≠ q := fun z => by
        rw [z, upd_same] at h2
        cases h2
      rw [upd_ne ha]
      exact h
    · have n2 := own_ne o hj hs
      have e2 : q' ≠ q := fun z => nq (by rw [← z]; exact n2)
      rw [upd_ne e2]
      exact n2
    · by_cases ha : a = q
      · rw [ha, upd_same]
        exact fun z => nomatch z
      · rw [upd_ne ha]
        exact h
/-- the field's object, seen -/
theorem NOk.fldObj (n : NOk κ B G p N c l dx vs) (hl : l.lookup f = some d) (od : ownF d = true) : ∃ q, vs.lookup f = some (.ref q) ∧ N q ≠ none ∧ Rep κ (plT B.T N) (plus G N) d (.ref q) := by
  obtain ⟨v, h1, h2⟩ := RepF.lkF n.fld hl
  obtain ⟨q, rfl⟩ := ownF_at od h2
  exact ⟨q, h1, n.inN q (ownAd_mem n.fld hl od h1), h2⟩
end
/-! ### self.f.append(e), self.f[k] = e -/
def appFS (i : Nat) (c0 : String) (f : Str) (ds : List D) : M SD := fun ρ => match ρ[i]? with
  | some (.ow (.ins b c l)) => match l.lookup f, ds with
    | some (.lst true m), [d] => if m.length < 1000000 ∧ nbL m = true ∧ d.nb = true then .ok (.va .non) (ρ.set i (.ow (.ins b c (putFD f (.lst true (m ++ [d])) l)))) else .no
    | _, _ => .no
  | _ => .no
/-- the field holds an object of its own -/
def guardF {α : Type} (i : Nat) (c0 : String) (f : Str) (k : D → Bool) (m : M α) : M α := fun ρ => match ρ[i]? with
  | some (.ow (.ins b c l)) => match l.lookup f with
    | some d => if c = c0 ∧ k d = true then m ρ else .no
    | none => .no
  | _ => .no
def isLt : D → Bool
  | .lst true l => nbL l
  | _ => false
def isDt : D → Bool
  | .dk true l => nbK l
  | _ => false
def oApp (i : Nat) (c0 : String) (f : Str) (n : M (List D)) : M SD := guardF i c0 f isLt (n.bind (appFS i c0 f))
def putFS (i : Nat) (c0 : String) (f : Str) (d k : D) : S := fun ρ => match ρ[i]? with
  | some (.ow (.ins b c l)) => match l.lookup f, keyOf k with
    | some (.dk true m), some j => if m.length < 1000000 ∧ nbK m = true ∧ d.nb = true then .ok .nx (ρ.set i (.ow (.ins b c (putFD f (.dk true (putKD m j d)) l)))) else .no
    | _, _ => .no
  | _ => .no
def fO (m : M SD) : M D := m.bind fzM
/-- the key is asked out of sight -/
def oPut (i : Nat) (c0 : String) (f : Str) (mk me : M SD) : S := (fO me).bind fun d => guardF i c0 f isDt ((viewO i (fE mk)).bind fun k => putFS i c0 f d k)
theorem nbL_app : ∀ {m : List D} {d : D}, nbL m = true → d.nb = true → nbL (m ++ [d]) = true
  | [], d, _, h => by
    show (d.nb && true) = true
    rw [h] <;> rfl
  | e :: m, d, hm, h => by
    have hm' : (e.nb && nbL m) = true := hm
    rw [Bool.and_eq_true] at hm'
    show (e.nb && nbL (m ++ [d])) = true
    rw [hm'.1, nbL_app hm'.2 h] <;> rfl
theorem nbK_put : ∀ {m : List (Key × D)} {k : Key} {d : D}, nbK m = true → d.nb = true → nbK (putKD m k d) = true := by
  have ap : ∀ {m : List (Key × D)} {k : Key} {d : D}, nbK m = true → d.nb = true → nbK (m ++ [(k, d)]) = true := by
    intro m
    induction m with
    | nil =>
      intro k d _ h
      show (d.nb && true) = true
      rw [h] <;> rfl
    | cons e m ih =>
      intro k d hm h
      have hm' : (e.2.nb && nbK m) = true := hm
      rw [Bool.and_eq_true] at hm'
      show (e.2.nb && nbK (m ++ [(k, d)])) = true
      rw [hm'.1, ih hm'.2 h] <;> rfl
  have mp : ∀ {m : List (Key × D)} {k : Key} {d : D}, nbK m = true → d.nb = true → nbK (m.map fun kv => if kv.1 = k then (kv.1, d) else kv) = true := by
    intro m
    induction m with
    | nil =>
      intro k d _ h
      rfl
    | cons e m ih =>
      intro k d hm h
      have hm' : (e.2.nb && nbK m) = true := hm
      rw [Bool.and_eq_true] at hm'
      rw [List.map_cons]
      by_cases z : e.1 = k
      · rw [if_pos z]
        show (d.nb && nbK (m.map fun kv => if kv.1 = k then (kv.1, d) else kv)) = true
        rw [h, ih hm'.2 h] <;> rfl
      · rw [if_neg z]
        show (e.2.nb && nbK (m.map fun kv => if kv.1 = k then (kv.1, d) else kv)) = true
        rw [hm'.1, ih hm'.2 h] <;> rfl
  intro m k d hm h
  unfold putKD
  split
  · exact mp hm h
  · exact ap hm h
section
variable {κ : Ctx} {W : WX} {B : Bas} {i : Nat} {ρ : List SD} {σ : L2.St} {H G : Hp} {p : Addr} {N : Hp}
theorem guardF_ok {α : Type} {c0 : String} {f : Str} {kk : D → Bool} {m : M α} {k : α → List SD → Addr → Hp → Hp → Hp → Prop} {b : Bool} {c : String} {l : List (Str × D)} (e : ρ[i]? = some (.ow (.ins b c l))) (q : PstG κ W B i σ G (guardF i c0 f kk m ρ) k) : ∃ d, l.lookup f = some d ∧ c = c0 ∧ kk d = true ∧ PstG κ W B i σ G (m ρ) k := by
  unfold guardF at q
  rw [e] at q
  dsimp only at q
  cases h : l.lookup f with
  | none =>
    rw [h] at q
    exact q.elim
  | some d =>
    rw [h] at q
    dsimp only at q
    by_cases z : c = c0 ∧ kk d = true
    · rw [if_pos z] at q
      exact ⟨d, rfl, z.1, z.2, q⟩
    · rw [if_neg z] at q
      exact q.elim
theorem guardF_okS {c0 : String} {f : Str} {kk : D → Bool} {m : S} {E : Ends} {b : Bool} {c : String} {l : List (Str × D)} (e : ρ[i]? = some (.ow (.ins b c l))) (q : PstO κ W B i G (guardF i c0 f kk m ρ) E) : ∃ d, l.lookup f = some d ∧ c = c0 ∧ kk d = true ∧ PstO κ W B i G (m ρ) E := by
  unfold guardF at q
  rw [e] at q
  dsimp only at q
  cases h : l.lookup f with
  | none =>
    rw [h] at q
    exact q.elim
  | some d =>
    rw [h] at q
    dsimp only at q
    by_cases z : c = c0 ∧ kk d = true
    · rw [if_pos z] at q
      exact ⟨d, rfl, z.1, z.2, q⟩
    · rw [if_neg z] at q
      exact q.elim
theorem tEO_fz {m : M SD} {Q : VK} {k : D → List SD → Addr → Hp → Hp → Hp → Prop} (o : OOkP κ B i p N ρ σ H G) (h : PstG κ W B i σ G (fO m ρ) k)
    (f : ∀ d ρ' p' N' H' G', OOkP κ B i p' N' ρ' σ H' G' → Same G G' → k d ρ' p' N' H' G' → ∀ v, Rep κ B.T G' d v → Q v H') : tEO κ W i m σ H Q := by
  refine ⟨B, p, N, ρ, G, o, PstG.mono (PstG.bind h) fun r ρ' p' N' H' G' o' s h' v rv => ?_⟩
  cases r with
  | va d => exact f d ρ' p' N' H' G' o' s (h' p' N' H' G' o' (Same.refl G')) v rv
  | ow d =>
    obtain ⟨b, c, l, dx, vs, n, e, ok⟩ := o'
    obtain ⟨G2, s2, o2, r2⟩ := ok.frzR rv
    have o3 : OOkP κ B i p' N' ρ' σ H' G2 := ⟨b, c, l, dx, vs, n.mono s2 (op_gfree ok n o2), e, o2⟩
    exact f _ ρ' p' N' H' G2 o3 (s.trans s2) (h' p' N' H' G2 o3 s2) v r2
  | un => exact rv.elim
/-- what is appended -/
theorem app_at {c0 : String} {f : Str} {b : Bool} {c : String} {l : List (Str × D)} {dx : Addr} {vs : List (Str × V)} {ds : List D} {xs : List V} {q : Addr} {Q : VK} (n0 : N p = some (.ins (κ.cl c) dx vs)) (o : OOkP κ B i p N ρ σ H G) (e : ρ[i]? = some (.ow (.ins b c l))) (hv : vs.lookup f = some (.ref q)) (r : RepL κ B.T G ds xs)
    (k : PstG κ W B i σ G (appFS i c0 f ds ρ) fun r ρ' p N H' G' => ∀ v, RepR κ (opB B i p N) (ρ'.set i .un) σ H' G' r v → Q v H') : rAppend (.ref q) xs H Q := by
  obtain ⟨b', c', l', dx', vs', n, e', ok⟩ := o
  rw [e] at e'
  cases e'
  have n1 := n.here
  rw [n0] at n1
  cases n1
  unfold appFS at k
  rw [e] at k
  dsimp only at k
  split at k
  · rename_i m d hl
    split at k
    · rename_i z
      obtain ⟨z1, z2, z3⟩ := z
      obtain ⟨y, ys, rfl, r1, rfl⟩ := r
      obtain ⟨q', g1, g2, g3⟩ := n.fldObj hl (show nbL m = true from z2)
      rw [hv] at g1
      cases g1
      obtain ⟨a, ws, ea, ⟨g4, g5⟩, g6⟩ := g3
      cases ea
      obtain ⟨w, hw⟩ : ∃ w, N q = some w := by
        cases z : N q with
        | none => exact absurd z g2
        | some w => exact ⟨w, rfl⟩
      rw [plus_in hw] at g4
      cases g4
      have g7 : RepL κ B.T G m ws := RepL.out n.mu m z2 g6
      have gq := n.gfree q g2
      have mo : Mono B.T G (fun a => B.T a ∨ a = q) (upd G q (.lst (ws ++ [y]))) := ⟨Same.upd gq, fun a u k ga ld => ⟨fun z => ld.mp (z.elim id fun y => by rw [y, gq] at ga; cases ga), fun z => .inl (ld.mpr z)⟩⟩
      refine ⟨q, ws, y, rfl, rfl, op_keep ok n.mu hw, by rw [g7.length, sizeLine_eq]; omega, ?_⟩
      refine k p _ _ G (set_ch n (lt_of e) ok hl (show nbL m = true from z2) hv (d2 := .lst true (m ++ [d])) (nbL_app z2 z3) (u := .lst (ws ++ [y])) True.intro ?_) (Same.refl G) .non rfl
      exact ⟨q, _, rfl, ⟨upd_same, ⟨fun _ => rfl, fun _ => .inr rfl⟩⟩, RepL.mono mo _ (g7.append (RepL.one r1))⟩
    · exact k.elim
  · exact k.elim
end
section
variable {κ : Ctx} {X : Cx} {A : List Nat} {W : WX} {i : Nat} {x : Str} {e : Expr} {f : Str} {c0 : String} {p1 p2 apos cpos pos : Pos}
theorem app_fld {κ : Ctx} {B : Bas} {ρ : List SD} {σ : L2.St} {H G : Hp} {p : Addr} {N : Hp} {c : String} {l : List (Str × D)} {dx : Addr} {vs : List (Str × V)} {Q : VK} (n : NOk κ B G p N c l dx vs) (ok : Ok κ (opB B i p N) (ρ.set i .un) σ H G) (hc : Cls κ.K (κ.cl c)) (hn : NoAttr κ.K (κ.cl c) f)
    {q : Addr} (hv : vs.lookup f = some (.ref q)) (h : Q (.ref q) H) : tFld κ.K (tVar i) f σ H Q :=
  ⟨.ref p, ok.anch i p (List.mem_cons_self ..), p, κ.cl c, dx, vs, .ref q, rfl, op_keep ok n.mu n.here, hc, hn, hv, h⟩
theorem isLt_own {d : D} (h : isLt d = true) : ∃ m, d = .lst true m ∧ nbL m = true := by
  cases d with
  | lst b m =>
    cases b with
    | true => exact ⟨m, rfl, h⟩
    | false => cases h
  | _ => cases h
theorem isDt_own {d : D} (h : isDt d = true) : ∃ m, d = .dk true m ∧ nbK m = true := by
  cases d with
  | dk b m =>
    cases b with
    | true => exact ⟨m, rfl, h⟩
    | false => cases h
  | _ => cases h
/-- self.f.append(e), e looks at self -/
theorem o_appL {n : M (List D)} (hK : X.K = κ.K) (hc : Cls κ.K (κ.cl c0)) (hn : NoAttr κ.K (κ.cl c0) f) (hv : PE X (.Name x p1) (tVar i)) (ha : PA X [e] (tA κ W n)) (hb : attributeBase (.Name x p1) f X.env (eval (.Name x p1) X.env) = eval (.Name x p1) X.env := by rfl)
    (hbase : attributeBase (.Attribute (.Name x p1) f p2) "append" X.env (eval (.Attribute (.Name x p1) f p2) X.env) = eval (.Attribute (.Name x p1) f p2) X.env := by rfl)
    (hfew : ((backTo cpos (starEach [e] X.env)).all (fun x => !x.1) && (backToKw cpos (keywordEach [] X.env)).all (fun x => x.1.isSome) && decide (([e] : List Expr).length + ([] : List Keyword).length + (if ([] : List Keyword).isEmpty then 0 else 1) < 30)) = true := by rfl)
    (hline : (apos.endLine == cpos.line) = true := by rfl) (hs : starEach [e] X.env = (false, eval e X.env) :: starEach [] X.env := by rfl) (hplain : (backTo cpos (starEach ([] : List Expr) X.env)).any (·.1) = false := by rfl)
    (hw : swapsWith (.Call (.Attribute (.Attribute (.Name x p1) f p2) "append" apos) [e] [] cpos) none pos.line X.env = pure false := by rfl) :
    PS X (.Expr (.Call (.Attribute (.Attribute (.Name x p1) f p2) "append" apos) [e] [] cpos) pos) (tOb κ A W i (sDrop (oApp i c0 f (viewL i nbL n)))) := by
  refine PS.imp (ps_expr (pe_bm PySem.F.plainAttrs_list PySem.F.slot_list_append PySem.F.type_list_append mt_append (pe_fld hv hb) ha hbase hfew hline hs hplain) hw) fun D σ H ⟨B, p, N, ρ, G, a, ⟨b, c, l, dx, vs, nk, e1, ok⟩, q⟩ => ?_
  obtain ⟨d, h1, rfl, h2, q2⟩ := guardF_ok e1 (PstO.bind (σ := σ) q)
  obtain ⟨m, rfl, h3⟩ := isLt_own h2
  obtain ⟨qa, g1, g2, g3⟩ := nk.fldObj h1 (show nbL m = true from h3)
  obtain ⟨aa, ws, ea, ⟨g4, g5⟩, g6⟩ := g3
  cases ea
  obtain ⟨w, hw⟩ : ∃ w, N qa = some w := by
    cases z : N qa with
    | none => exact absurd z g2
    | some w => exact ⟨w, rfl⟩
  rw [plus_in hw] at g4
  cases g4
  rw [hK]
  refine app_fld (Q := fun x H1 => tyV κ.K "list" x H1 ∧ tA κ W n σ H1 fun xs H2 => rAppend x xs H2 fun _ H' => D.nx σ H') nk ok hc hn g1 ?_
  refine ⟨.inl ⟨rfl, ws, SqL.of (op_keep ok nk.mu hw)⟩, ?_⟩
  refine ⟨lnB B i p N, ρ.set i (.va (.ins true c l)), plus G N, nk.lend (lt_of e1) ok, Pst.mono (PstG.ln nk e1 ok (PstG.bind q2)) fun ds ρ1 H1 G1 o1 s1 ⟨nb, G2, e2, gs, z, ok2, r1, r2, r4⟩ xs rs => ?_⟩
  exact app_at nk.here ok2 (List.getElem?_set_self (anch_lt o1 (List.mem_cons_self ..))) g1 (r2 nb rs) (PstG.mono z fun r ρ' p' N' H' G' o' s' k v rv => k p' N' σ H' G' o' (Same.refl G'))
/-- self.f[k] = e -/
theorem o_put {k : Expr} {mk me : M SD} {p3 : Pos} (hK : X.K = κ.K) (hu : X.A.units + 65 < cLine) (hc : Cls κ.K (κ.cl c0)) (hn : NoAttr κ.K (κ.cl c0) f) (hv : PE X (.Name x p1) (tVar i)) (hk : PE X k (tE κ W mk)) (he : PE X e (tEO κ W i me)) (hb : attributeBase (.Name x p1) f X.env (eval (.Name x p1) X.env) = eval (.Name x p1) X.env := by rfl)
    (ha : ∀ v, assign (.Subscript (.Attribute (.Name x p1) f p2) k p3) X.env v = (do
      let ov ← holding [v] (eval (.Attribute (.Name x p1) f p2) X.env)
      let iv ← holding [v, ov] (eval k X.env)
      standAt p3; holding [v, ov, iv] (setItem ov iv v); release [v, ov, iv] []) := by intro _; rfl)
    (hs : swapsWithSole [.Subscript (.Attribute (.Name x p1) f p2) k p3] e pos.line X.env = pure false := by rfl) (hw : swappedStores [.Subscript (.Attribute (.Name x p1) f p2) k p3] e X.env = pure none := by rfl)
    (h1 : (assignEach [.Subscript (.Attribute (.Name x p1) f p2) k p3] X.env).map (·.2) = [assign (.Subscript (.Attribute (.Name x p1) f p2) k p3) X.env] := by rfl) :
    PS X (.Assign [.Subscript (.Attribute (.Name x p1) f p2) k p3] e pos) (tOb κ A W i (oPut i c0 f mk me)) := by
  refine PS.imp (ps_asg he (pg_sub (pe_fld hv hb) hk (set_3 (by omega)) ha) hs hw h1) fun D σ H ⟨B, p, N, ρ, G, a, o, q⟩ => ?_
  refine tEO_fz o (PstO.bind q) fun d ρ1 p1' N1 H1 G1 o1 s1 q1 v1 r1 => ?_
  obtain ⟨b, c, l, dx, vs, nk, e1, ok⟩ := o1
  obtain ⟨dd, hl, rfl, h2, q2⟩ := guardF_okS e1 q1
  obtain ⟨m, rfl, h3⟩ := isDt_own h2
  obtain ⟨qa, g1, g2, g3⟩ := nk.fldObj hl (show nbK m = true from h3)
  obtain ⟨w, hw⟩ : ∃ w, N1 qa = some w := by
    cases z : N1 qa with
    | none => exact absurd z g2
    | some w => exact ⟨w, rfl⟩
  obtain ⟨aa, ws, ea, ⟨g4, g5⟩, g6⟩ := g3
  cases ea
  have g4 := g4.own
  rw [plus_in hw] at g4
  cases g4
  rw [hK]
  refine app_fld nk ok hc hn g1 ?_
  refine tE_fz ok (PstG.op nk e1 ok (PstO.bind q2)) fun kd ρ2 H2 G2 o2 s2 ⟨z, gs⟩ v2 r2 => ?_
  have ok2 := OOkP.op (b := b) nk ok o2 s2
  have e2 : (ρ2.set i (.ow (.ins b c l)))[i]? = some (.ow (.ins b c l)) := List.getElem?_set_self (anch_lt o2 (List.mem_cons_self ..))
  obtain ⟨b', c', l', dx', vs', n, e', okk⟩ := ok2
  rw [e2] at e'
  cases e'
  have n1 := n.here
  rw [nk.here] at n1
  cases n1
  unfold putFS at z
  rw [e2] at z
  dsimp only at z
  rw [hl] at z
  cases hj : keyOf kd with
  | none =>
    rw [hj] at z
    exact z.elim
  | some j =>
    rw [hj] at z
    dsimp only at z
    by_cases y : m.length < 1000000 ∧ nbK m = true ∧ d.nb = true
    · rw [if_pos y] at z
      obtain ⟨y1, y2, y3⟩ := y
      have g7 : RepK κ B.T G2 m ws := RepK.mono (.of s2) m (RepK.out nk.mu m y2 g6)
      have gq := n.gfree qa g2
      have mo : Mono B.T G2 (fun a => B.T a ∨ a = qa) (upd G2 qa (.dK (putK ws j v1))) := ⟨Same.upd gq, fun a u k ga ld => ⟨fun z => ld.mp (z.elim id fun y => by rw [y, gq] at ga; cases ga), fun z => .inl (ld.mpr z)⟩⟩
      refine .inr ⟨qa, upd H2 qa (.dK (putK ws j v1)), rfl, ?_, ?_⟩
      · rw [key_rep r2 hj]
        exact DPut.k (op_keep okk n.mu hw) (by rw [g7.length, sizeLine_eq]; omega)
      · refine z p1' _ σ _ G2 (set_ch n (lt_of e2) okk hl (show nbK m = true from y2) g1 (d2 := .dk true (putKD m j d)) (nbK_put y2 y3) (u := .dK (putK ws j v1)) True.intro ?_) (Same.refl G2)
        exact ⟨qa, _, rfl, ⟨.inl upd_same, ⟨fun _ => rfl, fun _ => .inr rfl⟩⟩, RepK.mono mo _ (g7.put j (Rep.mono (.of s2) d r1))⟩
    · rw [if_neg y] at z
      exact z.elim
end
end Fm

set_option maxHeartbeats 990000
namespace Fm
open L2 PySem PySem.Spec PyProof.Rows
/-! ### loops of such a body -/
def goI (i : Nat) (g : D → List SD → Option (List SD)) : D → List SD → Option (List SD) := fun d ρ => match ρ[i]? with
  | some x => (g d (ρ.set i .un)).map fun ρ' => ρ'.set i x
  | none => none
def tIO (κ : Ctx) (W : WX) (i : Nat) (m : M (List D)) : TI := fun σ H R => ∃ B p N ρ G, OOkP κ B i p N ρ σ H G ∧ PstG κ W B i σ G (m ρ) fun l ρ' p N H' G' => ∀ J, ItD κ B.T G' J l → R J H'
/-- walked, lent while it is found -/
def iSeqL (i : Nat) (m : M SD) : M (List D) := (viewL i D.nb (fE m)).bind seqM
section
variable {κ : Ctx} {X : Cx} {A vs : List Nat} {W : WX} {i : Nat} {e tg : Expr} {pos : Pos}
theorem io_op {m : M (List D)} (h : PI X tg e (tI κ W m)) : PI X tg e (tIO κ W i (viewO i m)) := PI.imp h fun σ H R ⟨B, p, N, ρ, G, ⟨b, c, l, dx, ws, n, e, o⟩, q⟩ =>
  ⟨opB B i p N, ρ.set i .un, G, o, Pst.mono (PstG.op n e o q) fun l ρ1 H1 G1 o1 s1 ⟨z, _⟩ J hJ => z J hJ⟩
theorem io_seq {m : M SD} (hK : X.K = κ.K) (h : PE X e (tE κ W m)) : PI X tg e (tIO κ W i (iSeqL i m)) := by
  refine PI.imp (PI.or (pi_list h) (PI.or (pi_tup h) (pi_str h))) fun σ H R ⟨B, p, N, ρ, G, ⟨b, c, l, dx, ws, n, e1, o⟩, q⟩ => ?_
  have q1 := PstG.ln n e1 o (PstG.bind q)
  have o1 := n.lend (lt_of e1) o
  cases em : fE m (ρ.set i (.va (.ins true c l))) with
  | ex x ρ' =>
    refine .inl (tE_fz (k := fun _ _ _ _ => False) o1 ?_ fun _ _ _ _ _ _ z => z.elim)
    rw [em]
    rw [em] at q1
    exact q1
  | no =>
    rw [em] at q1
    exact q1.elim
  | ok d ρ' =>
    rw [em] at q1
    cases d with
    | lst b' m' =>
      refine .inl (tE_fz (k := fun d ρ1 H1 G1 => d = .lst b' m' ∧ ∃ G2, nbL m' = true ∧ b' = false ∧ G1 = plus G2 N ∧ (∀ J, ItD κ B.T G2 J m' → R J H1) ∧ OOkP κ B i p N (ρ1.set i (.ow (.ins b c l))) σ H1 G2 ∧ ∀ {d : D} {v : V}, d.nb = true → Rep κ (plT B.T N) G1 d v → Rep κ B.T G2 d v) o1 ?_ fun d ρ1 H1 G1 o1 s1 z v r => ?_)
      · rw [em]
        intro H1 G1 o2 s2
        obtain ⟨nb, G2, e2, gs, z, ok2, r1, r2, r4⟩ := q1 H1 G1 o2 s2
        have nb' : (!b' && nbL m') = true := nb
        rw [Bool.and_eq_true, Bool.not_eq_true'] at nb'
        exact ⟨rfl, G2, nb'.2, nb'.1, e2, fun J hJ => z p N H1 G2 ok2 (Same.refl G2) J hJ, ok2, r1⟩
      · obtain ⟨rfl, G2, nb, rfl, rfl, z, ok2, r1⟩ := z
        have r3 := r1 (d := .lst false m') (by show (!false && nbL m') = true; rw [nb] <;> rfl) r
        obtain ⟨b2, c2, l2, dx2, vs2, n2, e3, ok3⟩ := ok2
        obtain ⟨a, us, rfl, h1, h2, h3⟩ := r3.seqL ok3.fr.gh
        refine ⟨a, rfl, ⟨us, hK ▸ h2⟩, ?_⟩
        rw [hK]
        exact z _ (itd_list h1 h3)
    | tup m' =>
      refine .inr (.inl (tE_fz (k := fun d ρ1 H1 G1 => d = .tup m' ∧ ∃ G2, nbL m' = true ∧ G1 = plus G2 N ∧ (∀ J, ItD κ B.T G2 J m' → R J H1) ∧ OOkP κ B i p N (ρ1.set i (.ow (.ins b c l))) σ H1 G2 ∧ ∀ {d : D} {v : V}, d.nb = true → Rep κ (plT B.T N) G1 d v → Rep κ B.T G2 d v) o1 ?_ fun d ρ1 H1 G1 o1 s1 z v r => ?_))
      · rw [em]
        intro H1 G1 o2 s2
        obtain ⟨nb, G2, e2, gs, z, ok2, r1, r2, r4⟩ := q1 H1 G1 o2 s2
        exact ⟨rfl, G2, nb, e2, fun J hJ => z p N H1 G2 ok2 (Same.refl G2) J hJ, ok2, r1⟩
      · obtain ⟨rfl, G2, nb, rfl, z, ok2, r1⟩ := z
        have r3 := r1 (d := .tup m') nb r
        obtain ⟨b2, c2, l2, dx2, vs2, n2, e3, ok3⟩ := ok2
        obtain ⟨a, us, rfl, h1, h3⟩ := r3
        refine ⟨a, rfl, ⟨us, hK ▸ h1.sq ok3.fr.gh⟩, ?_⟩
        rw [hK]
        exact z _ (itd_tup h1 h3)
    | str x =>
      refine .inr (.inr (tE_fz (k := fun d ρ1 H1 G1 => d = .str x ∧ ∃ G2, ∀ J, ItD κ B.T G2 J (x.cps.toList.map fun c => D.str ⟨#[c]⟩) → R J H1) o1 ?_ fun d ρ1 H1 G1 o1 s1 z v r => ?_))
      · rw [em]
        intro H1 G1 o2 s2
        obtain ⟨nb, G2, e2, gs, z, ok2, r1, r2, r4⟩ := q1 H1 G1 o2 s2
        exact ⟨rfl, G2, fun J hJ => z p N H1 G2 ok2 (Same.refl G2) J hJ⟩
      · obtain ⟨rfl, G2, z⟩ := z
        cases (show v = V.str x from r)
        exact ⟨x, rfl, z _ itd_str⟩
    | _ =>
      refine .inl (tE_fz (k := fun _ _ _ _ => False) o1 ?_ fun _ _ _ _ _ _ z => z.elim)
      rw [em]
      intro H1 G1 o2 s2
      obtain ⟨nb, G2, e2, gs, z, ok2, r1, r2, r4⟩ := q1 H1 G1 o2 s2
      exact z.elim
theorem o_for {m : M (List D)} {g : D → List SD → Option (List SD)} {b : S} {body : List Stmt} (hp : PassesOwn (model X.prog X.w) X.A X.env X.xe) (hc : X.calm = true) (hi : PI X tg e (tIO κ W i m)) (hg : PG X tg (tG κ (i :: A) vs g)) (hb : PSs X body (tOb κ A W i b))
    (hs : ∀ x, foldedSetIterable e X.env x = pure x := by intro _; rfl) : PS X (.For tg e body [] pos) (tOb κ A W i (sFor m (goI i g) b)) := by
  refine PS.imp (ps_for hp hc hi hg hb hs) fun D σ H ⟨B, p, N, ρ, G, a, o, q⟩ => ⟨B, p, N, ρ, G, o, PstG.mono (PstO.bind q) fun l ρ0 p0 N0 H0 G0 o0 s0 q0 J hJ => ?_⟩
  refine ⟨fun j n σ' H' => n = l.length - j ∧ j ≤ l.length ∧ ∃ p' N' ρ' G', OOkP κ B i p' N' ρ' σ' H' G' ∧ Same G0 G' ∧ PstO κ W B i G' (forL (goI i g) b (l.drop j) ρ') D, ⟨l.length, by simp, Nat.zero_le _, p0, N0, ρ0, G0, o0, Same.refl _, q0⟩, ?_⟩
  rintro j n σ1 H1 ⟨rfl, hj, p1, N1, ρ1, G1, o1, s1, q1⟩
  obtain ⟨bb, c, fl, dx, ws, nk, e1, ok⟩ := o1
  obtain ⟨j1, j2, j3⟩ := hJ j (opB B i p1 N1) (ρ1.set i .un) σ1 H1 G1 rfl ok s1
  by_cases hlt : j < l.length
  · refine .inr ⟨j1 hlt, fun σ' H' => j + 1 ≤ l.length ∧ ∃ p' N' ρ' G', OOkP κ B i p' N' ρ' σ' H' G' ∧ Same G0 G' ∧ PstO κ W B i G' (forL (goI i g) b (l.drop (j + 1)) ρ') D, fun σ' H' ⟨h1, h2⟩ => ⟨l.length - (j + 1), by omega, rfl, h1, h2⟩, fun x H2 y => ?_⟩
    obtain ⟨G2, o2, s2, _, r2⟩ := j3 l[j] (List.getElem?_eq_getElem hlt) x H2 y
    rw [List.drop_eq_getElem_cons hlt] at q1
    have q1' : PstO κ W B i G1 (match goI i g l[j] ρ1 with
      | none => .no
      | some ρ1 => match b ρ1 with
        | .ok .nx ρ2 => forL (goI i g) b (l.drop (j + 1)) ρ2
        | .ok .ct ρ2 => forL (goI i g) b (l.drop (j + 1)) ρ2
        | .ok .bk ρ2 => .ok .nx ρ2
        | r => r) D := q1
    have ego : goI i g l[j] ρ1 = (g l[j] (ρ1.set i .un)).map fun ρ' => ρ'.set i (.ow (.ins bb c fl)) := by
      unfold goI
      rw [e1]
    cases eg : g l[j] (ρ1.set i .un) with
    | none =>
      rw [ego, eg] at q1'
      exact q1'.elim
    | some ρ2 =>
      rw [ego, eg] at q1'
      dsimp only [Option.map_some] at q1'
      refine ⟨opB B i p1 N1, ρ1.set i .un, G2, l[j], ρ2, inA_op a, o2, r2, eg, fun σ3 H3 G3 o3 s3 _ => ?_⟩
      have s13 := s2.trans s3
      refine ⟨B, p1, N1, ρ2.set i (.ow (.ins bb c fl)), G3, a, OOkP.op nk ok o3 s13, ?_⟩
      cases eb : b (ρ2.set i (.ow (.ins bb c fl))) with
      | ok f ρ3 =>
        rw [eb] at q1'
        cases f with
        | nx => exact fun p4 N4 σ4 H4 G4 o4 s4 => ⟨hlt, p4, N4, ρ3, G4, o4, (s1.trans s13).trans s4, PstO.mono q1' (s13.trans s4) (fun _ _ z => z) rfl rfl rfl⟩
        | ct => exact fun p4 N4 σ4 H4 G4 o4 s4 => ⟨hlt, p4, N4, ρ3, G4, o4, (s1.trans s13).trans s4, PstO.mono q1' (s13.trans s4) (fun _ _ z => z) rfl rfl rfl⟩
        | bk => exact fun p4 N4 σ4 H4 G4 o4 s4 => q1' p4 N4 σ4 H4 G4 o4 (s13.trans s4)
        | rt r => exact fun v p4 N4 σ4 H4 G4 o4 s4 rv => q1' v p4 N4 σ4 H4 G4 o4 (s13.trans s4) rv
      | ex x ρ3 =>
        rw [eb] at q1'
        exact fun cls d p4 N4 σ4 H4 G4 o4 s4 rx => q1' cls d p4 N4 σ4 H4 G4 o4 (s13.trans s4) rx
      | no =>
        rw [eb] at q1'
        exact q1'.elim
  · have ei : l.drop j = [] := List.drop_eq_nil_iff.mpr (by omega)
    rw [ei] at q1
    exact .inl ⟨j2 (by omega), q1 p1 N1 σ1 H1 G1 ⟨bb, c, fl, dx, ws, nk, e1, ok⟩ (Same.refl _)⟩
end
end Fm

set_option maxHeartbeats 990000
namespace Fm
open L2 PySem PySem.Spec PyProof.Rows
/-! ### __init__: its promise by its body -/
def fzFl (l : List (Str × D)) : List (Str × D) := l.map fun f => (f.1, f.2.fz)
structure AftI (κ : Ctx) (G H : Hp) (x : Addr) (H' G' : Hp) : Prop where
  keep : ∀ a o, H a = some o → a ≠ x → (∀ ps, o ≠ .tbl ps) → H' a = some o
  frz : ∀ a, noT H a ≠ none → a ≠ x → G' a = G a
  sub : Same G G'
  gh : Same G' H'
  notb : ∀ a ps, G' a ≠ some (.tbl ps)
  tabs : LamX.Tabs κ.tabs H'
def spIn (κ : Ctx) (c : String) (n : Nat) (f : List D → FR) : Sp := fun vs H Q E => ∃ x dx ws T G as, vs = .ref x :: ws ∧ as.length = n ∧ RepL κ T G as ws ∧ H x = some (.ins (κ.cl c) dx []) ∧ G x = none ∧ ¬ T x ∧ Same G H ∧ (∀ a ps, G a ≠ some (.tbl ps)) ∧ LamX.Tabs κ.tabs H ∧ (∀ a, T a → noT H a ≠ none) ∧ match f as with
  | .ok (.va d) _ => ∀ H' G', AftI κ G H x H' G' → Rep κ T G' d (.ref x) → Q .non H'
  | .ex y _ => ∀ cls dd H' G', AftI κ G H x H' G' → RepX κ T H' G' y cls dd → E cls dd H'
  | _ => False
def endI (ρ' : List SD) : FR := match ρ'[0]? with
  | some (SD.ow (D.ins _ c l)) => FR.ok (SD.va (D.ins false c (fzFl l))) []
  | _ => .no
def runI (c : String) (N : Nat) (s : S) (as : List D) : FR := match s (.ow (.ins false c []) :: (as.map SD.va ++ List.replicate (N - 1 - as.length) SD.un)) with
  | .ok .nx ρ' => endI ρ'
  | .ok (.rt (.va .non)) ρ' => endI ρ'
  | .ex x _ => .ex x []
  | _ => .no
section
variable {κ : Ctx} {T : Pd} {G N : Hp}
/-- all of it frozen -/
theorem RepF.frz (gf : ∀ a, N a ≠ none → G a = none) (mu : ∀ a o, N a = some o → OwK o) (nt : ∀ a, N a ≠ none → ¬ T a) : ∀ {l : List (Str × D)} {vs : List (Str × V)}, fldB l = true → (∀ a ∈ ownAd l vs, N a ≠ none) → RepF κ (plT T N) (plus G N) l vs → RepF κ T (plus G N) (fzFl l) vs
  | [], vs, _, _, r => r
  | (k, d) :: l, vs, hf, hq, r => by
    obtain ⟨v, ws, rfl, h1, h2⟩ := r
    unfold fldB at hf
    replace hf := allC hf
    have sg : Same G (plus G N) := fun a o e => by
      have n : N a = none := Classical.byContradiction fun z => by
        rw [gf a z] at e
        cases e
      rw [plus_out n]
      exact e
    have tail : ∀ a ∈ ownAd l ws, N a ≠ none := fun a ha => hq a (by
      cases v with
      | ref q =>
        rw [ownAd_cons]
        split
        · exact List.mem_cons_of_mem _ ha
        · exact ha
      | _ => exact ha)
    refine ⟨v, ws, rfl, ?_, RepF.frz gf mu nt hf.2 tail h2⟩
    rcases Bool.or_eq_true_iff.mp hf.1 with h | h
    · by_cases hs : ∃ m, d = .scr m
      · obtain ⟨m, rfl⟩ := hs
        obtain ⟨a, us, e, _, g3⟩ := h1
        exact ⟨a, .non :: us, e, .inr rfl, ⟨.non, us, rfl, rfl, RepL.mono (.of sg) m (RepL.out mu m h g3)⟩⟩
      have e : d.fz = d := by
        cases d with
        | scr m => exact absurd ⟨m, rfl⟩ hs
        | lst b m =>
          cases b with
          | false => rfl
          | true => cases (show (!true && nbL m) = true from h)
        | dk b m =>
          cases b with
          | false => rfl
          | true => cases (show (!true && nbK m) = true from h)
        | ins b c m =>
          cases b with
          | false => rfl
          | true => cases (show (!true && nbF m) = true from h)
        | _ => rfl
      show Rep κ T (plus G N) d.fz v
      rw [e]
      exact Rep.mono (.of sg) d (Rep.out mu d h h1)
    · obtain ⟨q, rfl⟩ := ownF_at h h1
      rw [ownAd_cons, if_pos h] at hq
      have nq := hq q (List.mem_cons_self ..)
      cases d with
      | lst b m =>
        cases b with
        | false => cases h
        | true =>
          obtain ⟨a, us, e, ⟨g1, g2⟩, g3⟩ := h1
          cases e
          exact ⟨q, us, rfl, ⟨g1, ⟨fun z => (nt q nq z).elim, fun z => Bool.noConfusion z⟩⟩, RepL.mono (.of sg) m (RepL.out mu m h g3)⟩
      | dk b m =>
        cases b with
        | false => cases h
        | true =>
          obtain ⟨a, us, e, ⟨g1, g2⟩, g3⟩ := h1
          cases e
          exact ⟨q, us, rfl, ⟨.inl g1.own, ⟨fun z => (nt q nq z).elim, fun z => Bool.noConfusion z⟩⟩, RepK.mono (.of sg) m (RepK.out mu m h g3)⟩
      | _ => cases h
end
/-- the base of such a run -/
def basI (G H : Hp) (T : Pd) (x : Addr) : Bas := ⟨fun a => if a = x then none else noT H a, G, T, [(0, x)]⟩
section
variable {κ : Ctx} {T : Pd} {G H : Hp} {x dx : Addr} {c : String} {as : List D} {ws : List V} {N : List Str}
theorem init_in (hn : as.length + 1 ≤ N.length) (r : RepL κ T G as ws) (hx : H x = some (.ins (κ.cl c) dx [])) (gx : G x = none) (tx : ¬ T x) (gh : Same G H) (nb : ∀ a ps, G a ≠ some (.tbl ps)) (tb : LamX.Tabs κ.tabs H) (tl : ∀ a, T a → noT H a ≠ none) :
    OOkP κ (basI G H T x) 0 x (upd (fun _ => none) x (.ins (κ.cl c) dx [])) (.ow (.ins false c []) :: (as.map SD.va ++ List.replicate (N.length - 1 - as.length) SD.un)) (L2.start N (.ref x :: ws)) H G := by
  have hN : ∀ {a : Addr}, upd (fun _ => none : Hp) x (.ins (κ.cl c) dx []) a ≠ none → a = x := fun {a} h => Classical.byContradiction fun z => h (by rw [upd_ne z])
  have lw := r.length
  have sl0 : (L2.start N (.ref x :: ws))[0]? = some (some (V.ref x)) := by
    unfold L2.start
    rw [List.getElem?_append_left (by simp)]
    rfl
  have at_ : ∀ {i : Nat} {y : SD}, ((.ow (.ins false c []) :: (as.map SD.va ++ List.replicate (N.length - 1 - as.length) SD.un) : List SD).set 0 .un)[i]? = some y → y ≠ .un → ∃ j d, i = j + 1 ∧ as[j]? = some d ∧ y = .va d := fun {i y} e ny => by
    cases i with
    | zero =>
      rw [List.set_cons_zero] at e
      exact absurd (Option.some.inj e).symm ny
    | succ j =>
      rw [List.set_cons_zero, List.getElem?_cons_succ] at e
      by_cases hj : j < as.length
      · rw [List.getElem?_append_left (by rw [List.length_map]; exact hj), List.getElem?_map, List.getElem?_eq_getElem hj] at e
        exact ⟨j, as[j], rfl, List.getElem?_eq_getElem hj, (Option.some.inj e).symm⟩
      · rw [List.getElem?_append_right (by rw [List.length_map]; omega), List.getElem?_replicate] at e
        split at e
        · exact absurd (Option.some.inj e).symm ny
        · cases e
  refine ⟨false, c, [], dx, [], ⟨fun a h => if_pos (hN h), fun a h => by rw [hN h]; exact gx, fun a h => by rw [hN h]; exact gx, fun a h => by rw [hN h]; exact tx, fun a o h => ?_, upd_same, rfl, rfl, List.nodup_cons.mpr ⟨(fun z => by cases z), List.nodup_nil⟩, fun a h => by cases h⟩, rfl, ?_⟩
  · by_cases ha : a = x
    · rw [ha, upd_same] at h
      cases h
      exact True.intro
    · rw [upd_ne ha] at h
      cases h
  · refine ⟨⟨fun a o e n => ?_, fun a ps e => ?_, fun a e => rfl, Same.refl G, gh, nb, tb, fun a e => ?_⟩, ?_, fun i d e => ?_, fun i d e => ?_, fun i j q d e hij h1 h2 h3 h4 => ?_, fun i q hq => ?_⟩
    · have e : plus (fun a => if a = x then none else noT H a) (upd (fun _ => none) x (.ins (κ.cl c) dx [])) a = some o := e
      by_cases ha : a = x
      · rw [ha, plus_in upd_same] at e
        cases e
        rw [ha]
        exact hx
      · rw [plus_out (upd_ne ha), if_neg ha] at e
        exact (noT_some e).1
    · have e : plus (fun a => if a = x then none else noT H a) (upd (fun _ => none) x (.ins (κ.cl c) dx [])) a = some (.tbl ps) := e
      by_cases ha : a = x
      · rw [ha, plus_in upd_same] at e
        cases e
      · rw [plus_out (upd_ne ha), if_neg ha] at e
        exact noT_tbl e
    · show plus (fun a => if a = x then none else noT H a) (upd (fun _ => none) x (.ins (κ.cl c) dx [])) a ≠ none
      by_cases ha : a = x
      · rw [ha, plus_in upd_same]
        exact fun z => nomatch z
      · rw [plus_out (upd_ne ha), if_neg ha]
        exact tl a e
    · unfold L2.start
      simp only [List.length_append, List.length_map, List.length_replicate, List.length_cons, List.length_set]
      omega
    · obtain ⟨j, d', rfl, e1, e2⟩ := at_ e (by simp)
      cases e2
      obtain ⟨v, h1, h2⟩ := r.get e1
      refine ⟨v, ?_, h2⟩
      have hj := (List.getElem?_eq_some_iff.mp h1).1
      unfold L2.start
      rw [List.getElem?_append_left (by simp; exact hj)]
      simp [h1]
    · obtain ⟨j, d', rfl, e1, e2⟩ := at_ e (by simp)
      cases e2
    · obtain ⟨j, d', rfl, e1, e2⟩ := at_ h1 (by simp)
      cases e2
    · have hq : (i, q) ∈ [(0, x), (0, x)] := hq
      have hq : (i, q) = (0, x) := by
        rcases inC hq with z | z
        · exact z
        · exact List.mem_singleton.mp z
      cases hq
      exact sl0
theorem init_out {p : Addr} {M : Hp} {ρ' : List SD} {σ' : L2.St} {H' G' : Hp} (gx : G x = none) (nb : ∀ a ps, G a ≠ some (.tbl ps)) (o : OOkP κ (basI G H T x) 0 p M ρ' σ' H' G') (s : Same G G') : p = x ∧ AftI κ G H x H' (plus G' M) ∧ AftI κ G H x H' G' ∧
    ∀ b c l, ρ'[0]? = some (.ow (.ins b c l)) → Rep κ T (plus G' M) (.ins false c (fzFl l)) (.ref x) := by
  obtain ⟨b, c, l, dx, vs, n, e, ok⟩ := o
  have px : p = x := by
    have h1 := ok.anch 0 p (List.mem_cons_self ..)
    have h2 := ok.anch 0 x (List.mem_cons_of_mem _ (List.mem_cons_self ..))
    rw [h1] at h2
    cases h2
    rfl
  subst px
  have bH : ∀ {a : Addr}, noT H a ≠ none → a ≠ p → M a = none ∧ plus (basI G H T p).H M a = noT H a := fun {a} h na => by
    have e1 : (basI G H T p).H a = noT H a := if_neg na
    have m : M a = none := Classical.byContradiction fun z => by
      have := n.free a z
      rw [e1] at this
      exact h this
    exact ⟨m, by rw [plus_out m, e1]⟩
  have sg : Same G' (plus G' M) := fun a o e => by
    have m : M a = none := Classical.byContradiction fun z => by
      rw [n.gfree a z] at e
      cases e
    rw [plus_out m]
    exact e
  have keep : ∀ a o, H a = some o → a ≠ p → (∀ ps, o ≠ .tbl ps) → H' a = some o := fun a o h na nt => by
    have h1 := noT_of h nt
    obtain ⟨m, e1⟩ := bH (a := a) (by rw [h1]; exact fun z => nomatch z) na
    exact ok.fr.keep a o (e1.trans h1) nt
  have frz : ∀ a, noT H a ≠ none → a ≠ p → G' a = G a := fun a h na => by
    obtain ⟨m, e1⟩ := bH h na
    exact ok.fr.frz a (by show plus (basI G H T p).H M a ≠ none; rw [e1]; exact h)
  refine ⟨rfl, ⟨keep, fun a h na => ?_, s.trans sg, fun a o h => ?_, fun a ps h => ?_, ok.fr.tabs⟩, ⟨keep, frz, s, ok.fr.gh, ok.fr.notb, ok.fr.tabs⟩, fun b' c' l' e' => ?_⟩
  · rw [plus_out (bH h na).1]
    exact frz a h na
  · cases m : M a with
    | some w =>
      rw [plus_in m] at h
      cases h
      exact op_keep ok n.mu m
    | none =>
      rw [plus_out m] at h
      exact ok.fr.gh a o h
  · cases m : M a with
    | some w =>
      rw [plus_in m] at h
      cases h
      exact n.mu a _ m
    | none =>
      rw [plus_out m] at h
      exact ok.fr.notb a ps h
  · rw [e] at e'
    cases e'
    have tp : ¬ T p := n.nt p (by rw [n.here]; exact fun z => nomatch z)
    exact ⟨p, dx, vs, rfl, ⟨plus_in n.here, ⟨fun z => (tp z).elim, fun z => Bool.noConfusion z⟩⟩, RepF.frz n.gfree n.mu n.nt n.okF n.inN n.fld⟩
end
section
variable {P : Program} {w : World} {K : PySem.W.Frag} {f : Addr} {fd : FuncData} {mg : Str → Option Value} {base : Heap} {x qual : Str} {params : Arguments} {body : List Stmt} {scope : Scope} {dvs : List V} {kws : List (Str × V)}
theorem initD_ok {κ : Ctx} {N ps : List Str} {k n : Nat} {s : S} {c : String} (F : FunD K x qual params body scope dvs kws f fd) (Sc : FnScope N ps scope) (hn : ps.length = n + 1)
    (hbody : ∀ (cdv : Value) (Ar : Around) (outer : List Env) (s0 : Shared) (H : Hp) (E : XK), Room k (Ar.deeper (envOfC qual scope s0.heap.objs.size f cdv)) →
      PSs (cxOf (L2.CX P w) P w K mg base N qual scope f cdv Ar outer s0 H E) body (tOb κ [0] (fun cls d _ H => E cls d H) 0 s)) : FnOk P w K mg base (L2.CX P w) (k + 1) f fd ps (spIn κ c n (runI c N.length s)) := by
  refine FunD.okC F Sc (fun vs H Q E h => ?_) (fun cdv Ar outer s0 H vs Q E hcd hr h => ⟨_, hbody cdv Ar outer s0 H E hr, ?_⟩)
  · obtain ⟨x, dx, ws, T, G, as, rfl, hl, r, _⟩ := h
    rw [List.length_cons, r.length, hl, hn]
  · obtain ⟨x, dx, ws, T, G, as, rfl, hl, r, hx, gx, tx, gh, nb, tb, tl, q⟩ := h
    have hN : as.length + 1 ≤ N.length := by
      have z := congrArg List.length Sc.pre
      rw [List.length_take] at z
      omega
    refine ⟨basI G H T x, x, _, _, G, fun z hz => ?_, init_in hN r hx gx tx gh nb tb tl, ?_⟩
    · obtain rfl : z = (0, x) := List.mem_singleton.mp hz
      exact .head _
    · unfold runI at q
      have fin : ∀ {ρ' : List SD} {p : Addr} {M : Hp} {σ' : L2.St} {H' G' : Hp}, (match endI ρ' with
          | .ok (.va d) _ => ∀ H' G', AftI κ G H x H' G' → Rep κ T G' d (.ref x) → Q .non H'
          | .ex y _ => ∀ cls dd H' G', AftI κ G H x H' G' → RepX κ T H' G' y cls dd → E cls dd H'
          | _ => False) → OOkP κ (basI G H T x) 0 p M ρ' σ' H' G' → Same G G' → Q .non H' := fun {ρ' p M σ' H' G'} q o s => by
        obtain ⟨rfl, a1, a2, a3⟩ := init_out gx nb o s
        obtain ⟨b, c', l, dx', vs', n', e, ok⟩ := o
        unfold endI at q
        rw [e] at q
        exact q H' _ a1 (a3 b c' l e)
      cases e : s (.ow (.ins false c []) :: (as.map SD.va ++ List.replicate (N.length - 1 - as.length) SD.un)) with
      | ok fl ρ' =>
        rw [e] at q
        cases fl with
        | nx => exact fun p M σ' H' G' o s => fin q o s
        | rt r =>
          cases r with
          | va d =>
            cases d with
            | non =>
              intro v p M σ' H' G' o s rv
              cases (show v = V.non from rv)
              exact fin q o s
            | _ => exact q.elim
          | _ => exact q.elim
        | bk => exact q.elim
        | ct => exact q.elim
      | ex y ρ' =>
        rw [e] at q
        intro cls d p M σ' H' G' o s rx
        obtain ⟨rfl, a1, a2, a3⟩ := init_out gx nb o s
        exact q cls d H' G' a2 rx
      | no =>
        rw [e] at q
        exact q.elim
end
end Fm

set_option maxHeartbeats 990000
namespace Fm
open L2 PySem PySem.Spec PyProof.Rows
/-! ### C(..), e.f, e.m(..) -/
def mMake (f : List D → FR) (n : M (List D)) : M SD := n.bind fun ds => fun ρ => match f ds with
  | .ok (.va d) _ => .ok (.va d) ρ
  | .ex x _ => .ex x ρ
  | _ => .no
def mFld (c0 : String) (f : Str) (m : M SD) : M SD := (fE m).bind fun d => match d with
  | .ins _ c l => if c = c0 then M.opt ((l.lookup f).map SD.va) else M.no
  | _ => M.no
def methK (c0 : String) (mt : Str) (fn : List SD → FR) (n : M (List D)) (d : D) : M SD := match d with
  | .ins b c l => if c = c0 ∧ l.lookup mt = none then n.bind fun ds => fun ρ => match fn (.va (.ins b c l) :: ds.map SD.va) with
    | .ok r _ => .ok r ρ
    | .ex x _ => .ex x ρ
    | .no => .no
    else M.no
  | _ => M.no
def mMeth (c0 : String) (mt : Str) (fn : List SD → FR) (m : M SD) (n : M (List D)) : M SD := (fE m).bind (methK c0 mt fn n)
section
variable {X : Cx} {CX : CXT} {k : Nat} {f C : Addr} {fd : FuncData} {ps : List Str} {sp : Sp} {dvs : List V} {ds : List Value} {E : L2.St → XK} {x m : Str} {p pos apos : Pos} {e o : Expr} {es : List Expr} {ta : TE} {t : TA}
def tMakeS (C : Addr) (sp : Sp) (E : L2.St → XK) (t : TA) : TE := fun σ H Q => t σ H fun vs H1 => ∀ x dx, H1 x = none → H1 dx = none → dx ≠ x →
  sp (.ref x :: vs) (upd (upd H1 dx (.own x)) x (.ins C dx [])) (fun v H2 => v = .non ∧ Q (.ref x) H2) (E σ)
/-- a method's call, as it is read -/
abbrev callM (X : Cx) (pl : Sem Bool) (o : Expr) (m : Str) (apos pos : Pos) (es : List Expr) : Sem Value := do
  let ov ← eval o X.env; standAt apos.atName; let (f, first) ← holding [ov] (getMethod ov m pl); callWith pos f first (backTo pos (starEach es X.env)) (backToKw pos (keywordEach [] X.env))
/-- a first argument that is written plainly -/
abbrev Pln (X : Cx) (e : Expr) (es : List Expr) : Prop := starEach (e :: es) X.env = (false, eval e X.env) :: starEach es X.env
abbrev PlnR (X : Cx) (pos : Pos) (es : List Expr) : Prop := (backTo pos (starEach es X.env)).any (·.1) = false
theorem run_makeS {pins : List (Addr × Obj)} {σ : L2.St} {H : Hp} {s : Shared} {Q : VK} {us : List Value} {vs : List V} (M : Mk X.K C f) (F : FnOk X.prog X.w X.K X.mg X.base CX k f fd ps sp) (hr : Room (k + 1) X.A) (hb : Binds X.K fd ps [])
    (hx : PassesAt CX X σ (E σ)) (I : L2.Inv X pins σ H s) (r : Vals vs us)
    (h : ∀ x dx, H x = none → H dx = none → dx ≠ x → sp (.ref x :: vs) (upd (upd H dx (.own x)) x (.ins C dx [])) (fun v H2 => v = .non ∧ Q (.ref x) H2) (E σ)) : wpAny (model X.prog X.w) X.A (call (.ref C) us) (EP X pins σ Q) X.xe s := by
  have fr : ∀ j, s.heap.objs.size ≤ j → H j = none := fun j hj => I.hok.fresh hj
  have want := h (s.heap.objs.size + 1) s.heap.objs.size (fr _ (Nat.le_succ _)) (fr _ (Nat.le_refl _)) (Nat.ne_of_lt (Nat.lt_succ_self _))
  have I2 := L2.Inv.made (C := C) I
  have vals : Vals (.ref (s.heap.objs.size + 1) :: vs) (Value.ref (s.heap.objs.size + 1) :: us) := .cons rfl r
  have hl : (Value.ref (s.heap.objs.size + 1) :: us).length = ps.length := vals.length.symm.trans (F.len _ _ _ _ want)
  have b := hb _ (Value.ref (s.heap.objs.size + 1) :: us) I2.kIn (by rw [List.append_nil]; exact hl)
  rw [List.append_nil] at b
  have body := F.run _ X.stack _ _ ⟨Value.ref (s.heap.objs.size + 1) :: us, []⟩ (Value.ref (s.heap.objs.size + 1) :: us) _ _ (E σ) (hr.make C us []) (I2.env0.make C us []) b vals want
  refine wpAny_call (make_map (f := f) I.kIn M.makes M.init (beq_iff_eq.mp M.fn) (codeAny_mono body fun res s' out => ?_))
  match res, out with
  | .error e, out => exact hx pins _ _ e s' I2 out
  | .ok (.ret u), out =>
    obtain ⟨v, H', I3, rv, rfl, q3⟩ := I2.after out
    exact ⟨rv, .ref (s.heap.objs.size + 1), H', I3, rfl, q3⟩
  | .ok .next, out => exact out.elim
  | .ok .brk, out => exact out.elim
  | .ok .cont, out => exact out.elim
theorem pe_makeS (M : Mk X.K C f) (F : FnOk X.prog X.w X.K X.mg X.base CX k f fd ps sp) (hr : Room (k + 1) X.A) (hg : Gl X x) (hm : X.mg x = some (.ref C)) (hb : Binds X.K fd ps []) (hx : ∀ σ, PassesAt CX X σ (E σ))
    (ha : PA X (e :: es) t) (hdb : (x == ("__debug__" : Str)) = false := by decide) (he : Pln X e es := by rfl) (hpl : PlnR X pos es := by rfl) : PE X (.Call (.Name x p) (e :: es) [] pos) (tMakeS C sp E t) :=
  ⟨fun pins s σ H Q I h => wpAny_Call_Name_kw (ld_glob I hg hm (PySem.W.callWith_K (h₀ := X.base) I.ok.mod.kin M.kp (thn (ha.run pos pins s σ H _ I h) fun us s1 ⟨vs, H1, I1, r, q⟩ => ⟨I1.kIn, run_makeS M F hr hb (hx σ) I1 r q⟩) he hpl) hdb)⟩
def tMethE (C : Addr) (m : Str) (sp : Sp) (E : L2.St → XK) (ta : TE) (t : TA) : TE := fun σ H Q => ta σ H fun x H1 => ∃ a dx fs, x = .ref a ∧ H1 a = some (.ins C dx fs) ∧ fs.lookup m = none ∧
  t σ H1 fun vs H2 => sp (x :: vs) H2 Q (E σ)
theorem pe_methE {pl : Sem Bool} (he : PE X o ta) (c : Cls X.K C) (hm : Meth X.K C m f) (F : FnOk X.prog X.w X.K X.mg X.base CX k f fd ps sp) (hr : Room k X.A) (hb : Binds X.K fd ps []) (hx : ∀ σ, PassesAt CX X σ (E σ)) (ha : PA X (e :: es) t)
    (hst : Pln X e es := by rfl) (hpl : PlnR X pos es := by rfl) (ht : eval (.Call (.Attribute o m apos) (e :: es) [] pos) X.env = callM X pl o m apos pos (e :: es) := by rfl) : PE X (.Call (.Attribute o m apos) (e :: es) [] pos) (tMethE C m sp E ta t) := by
  constructor
  intro pins s σ H Q I h
  refine PySem.W.methodCall_KW (pl := pl) (thn (he.run pins s σ H _ I h) fun u s1 got => ?_) ht
  obtain ⟨_, H1, I1, rx, a, dx, fs, rfl, ea, l, q⟩ := got
  obtain rfl : u = .ref a := rx
  exact getmeth_ok I1 ea c hm l (PySem.W.callWith_K (first := [.ref a]) (h₀ := X.base) I.ok.mod.kin hm.kp (thn (ha.run pos pins s1 σ H1 _ I1 q) fun us s2 ⟨vs, H2, I2, r, q2⟩ => ⟨I2.kIn, run_fnS (us := .ref a :: us) (vs := .ref a :: vs) F hr hb (hx σ) I2 (.cons rfl r) q2⟩) hst hpl)
theorem pe_methE0 {pl : Sem Bool} (he : PE X o ta) (c : Cls X.K C) (hm : Meth X.K C m f) (F : FnOk X.prog X.w X.K X.mg X.base CX k f fd ps sp) (hr : Room k X.A) (hb : Binds X.K fd ps []) (hx : ∀ σ, PassesAt CX X σ (E σ))
    (ht : eval (.Call (.Attribute o m apos) [] [] pos) X.env = callM X pl o m apos pos [] := by rfl) : PE X (.Call (.Attribute o m apos) [] [] pos) (tMethE C m sp E ta tNil) := by
  constructor
  intro pins s σ H Q I h
  refine PySem.W.methodCall_KW (pl := pl) (thn (he.run pins s σ H _ I h) fun u s1 got => ?_) ht
  obtain ⟨_, H1, I1, rx, a, dx, fs, rfl, ea, l, q⟩ := got
  obtain rfl : u = .ref a := rx
  exact getmeth_ok I1 ea c hm l (PySem.W.callWith_K0 (first := [.ref a]) I1.kIn hm.kp (run_fnS (us := [.ref a]) (vs := [.ref a]) F hr hb (hx σ) I1 (.cons rfl .nil) q))
end
/-- a class: what is asked of it -/
structure ClsD (K : PySem.W.Frag) (κ : Ctx) (c : String) : Prop where
  cls : Cls K (κ.cl c)
structure InitD (P : Program) (w : World) (K : PySem.W.Frag) (mg : Str → Option Value) (base : Heap) (κ : Ctx) (c : String) (x : Str) (k n : Nat) (ps : List Str) (fn : List D → FR) (f : Addr) (fd : FuncData) : Prop where
  ok : FnOk P w K mg base (L2.CX P w) k f fd ps (spIn κ c n fn)
  gl : mg x = some (.ref (κ.cl c))
  mak : Mk K (κ.cl c) f
structure MethD (P : Program) (w : World) (K : PySem.W.Frag) (mg : Str → Option Value) (base : Heap) (κ : Ctx) (c : String) (m : Str) (k : Nat) (ps : List Str) (fn : List SD → FR) (f : Addr) (fd : FuncData) : Prop where
  ok : FnOk P w K mg base (L2.CX P w) k f fd ps (spF κ ps.length fn)
  cls : Cls K (κ.cl c)
  at_ : Meth K (κ.cl c) m f
section
variable {κ : Ctx} {B : Bas} {ρ : List SD} {σ : L2.St} {H G : Hp} {x dx : Addr} {c : String}
/-- behind a making -/
theorem make_back (o : Ok κ B ρ σ H G) (hx : H x = none) (hd : H dx = none) (ne : dx ≠ x) {H' G' : Hp} (af : AftI κ G (upd (upd H dx (.own x)) x (.ins (κ.cl c) dx [])) x H' G') : Ok κ B ρ σ H' G' := by
  have old : ∀ {a : Addr} {u : HO}, H a = some u → upd (upd H dx (.own x)) x (.ins (κ.cl c) dx []) a = some u ∧ a ≠ x := fun {a u} e => by
    have h1 : a ≠ x := ne_of_none e hx
    have h2 : a ≠ dx := ne_of_none e hd
    exact ⟨by rw [upd_ne h1, upd_ne h2]; exact e, h1⟩
  refine ⟨⟨fun a u e n => ?_, o.fr.nt, fun a e => ?_, o.fr.sub.trans af.sub, af.gh, af.notb, af.tabs, o.fr.lent⟩, o.len, fun j d e => ?_, fun j d e => ?_, o.sep, o.anch⟩
  · obtain ⟨h1, h2⟩ := old (o.fr.keep a u e n)
    exact af.keep a u h1 h2 n
  · obtain ⟨u, _, n, e2⟩ := o.fr.obj e
    obtain ⟨h1, h2⟩ := old e2
    exact (af.frz a (by rw [noT_of h1 n]; exact fun z => nomatch z) h2).trans (o.fr.frz a e)
  · obtain ⟨v, h1, h2⟩ := o.val j d e
    exact ⟨v, h1, Rep.mono (.of af.sub) d h2⟩
  · obtain ⟨q, q1, q2, q3, q4⟩ := o.own j d e
    obtain ⟨u, u1, u2, _⟩ := q4.obj
    obtain ⟨h1, h2⟩ := old u1
    exact ⟨q, q1, (af.frz q (by rw [noT_of h1 u2]; exact fun z => nomatch z) h2).trans q2, q3, q4.mono af.sub ((af.keep q u h1 h2 u2).trans u1.symm)⟩
end
section
variable {X : Cx} {κ : Ctx} {W : WX} {k k' n : Nat} {f : Addr} {fd : FuncData} {ps : List Str} {fn : List D → FR} {fs : List SD → FR} {x m fl : Str} {p pos apos : Pos} {e o : Expr} {es : List Expr} {a : M (List D)} {mo : M SD} {c : String}
theorem e_make (I : InitD X.prog X.w X.K X.mg X.base κ c x k n ps fn f fd) (hb : Binds X.K fd ps []) (hr : Room k' X.A) (hk : k + 1 ≤ k') (hg : Gl X x) (hx : PassW X W) (ha : PA X (e :: es) (tA κ W a)) (hl : ∀ ρ ds ρ', a ρ = .ok ds ρ' → ds.length = n) (hdb : (x == ("__debug__" : Str)) = false := by decide)
    (he : starEach (e :: es) X.env = (false, eval e X.env) :: starEach es X.env := by rfl) (hpl : (backTo pos (starEach es X.env)).any (·.1) = false := by rfl) : PE X (.Call (.Name x p) (e :: es) [] pos) (tE κ W (mMake fn a)) := by
  refine PE.imp (pe_makeS (E := fun σ cls d H => W cls d σ H) I.mak I.ok (hr.mono hk) hg I.gl hb hx ha hdb he hpl) fun σ H Q ⟨B, ρ, G, ok, q⟩ => ⟨B, ρ, G, ok, ?_⟩
  have q1 := Pst.bind q
  cases en : a ρ with
  | ex y ρ' =>
    rw [en] at q1
    exact q1
  | no =>
    rw [en] at q1
    exact q1
  | ok ds ρ' =>
    rw [en] at q1
    intro H1 G1 o1 s1 vs rs x dx hx hd ne
    have q2 : Pst κ W B σ G1 (match fn ds with
      | .ok (.va d) _ => .ok (.va d) ρ'
      | .ex x _ => .ex x ρ'
      | _ => .no : Rs SD) fun r ρ' H' G' => ∀ (v : V), RepR κ B ρ' σ H' G' r v → Q v H' := q1 H1 G1 o1 s1
    have gx := o1.gnone hx
    have gd := o1.gnone hd
    have sg : Same G1 (upd (upd H1 dx (.own x)) x (.ins (κ.cl c) dx [])) := fun b u e => by
      have h1 : b ≠ x := ne_of_none e gx
      have h2 : b ≠ dx := ne_of_none e gd
      rw [upd_ne h1, upd_ne h2]
      exact o1.fr.gh b u e
    have old : ∀ {b : Addr} {u : HO}, H1 b = some u → upd (upd H1 dx (.own x)) x (.ins (κ.cl c) dx []) b = some u := fun {b u} e => by
      rw [upd_ne (ne_of_none e hx), upd_ne (ne_of_none e hd)]
      exact e
    refine ⟨x, dx, vs, B.T, G1, ds, rfl, hl ρ ds ρ' en, rs, upd_same, gx, o1.nolend (o1.bnone hx), sg, o1.fr.notb, fun t ht => ?_, fun b hb => ?_, ?_⟩
    · obtain ⟨pp, t1, t2, t3⟩ := o1.fr.tabs t ht
      refine ⟨pp, old t1, t2, fun pos cv hc => ?_⟩
      obtain ⟨cc, c1, c2⟩ := t3 pos cv hc
      exact ⟨cc, c1, old c2⟩
    · obtain ⟨u, _, n, e2⟩ := o1.fr.obj (o1.fr.lent b hb)
      rw [noT_of (old e2) n]
      exact fun z => nomatch z
    · cases ef : fn ds with
      | ok r outs =>
        rw [ef] at q2
        cases r with
        | va d => exact fun H' G' af rv => ⟨rfl, q2 H' G' (make_back o1 hx hd ne af) af.sub _ rv⟩
        | _ => exact q2.elim
      | ex y outs =>
        rw [ef] at q2
        exact fun cls dd H' G' af rx => q2 cls dd H' G' (make_back o1 hx hd ne af) af.sub rx
      | no =>
        rw [ef] at q2
        exact q2.elim
theorem e_fld (hK : X.K = κ.K) (hc : Cls κ.K (κ.cl c)) (hn : NoAttr κ.K (κ.cl c) fl) (h : PE X o (tE κ W mo)) (hb : attributeBase o fl X.env (eval o X.env) = eval o X.env := by rfl) : PE X (.Attribute o fl pos) (tE κ W (mFld c fl mo)) := by
  refine PE.imp (pe_fld h hb) fun σ H Q ⟨B, ρ, G, ok, q⟩ => ?_
  refine tE_fz ok (Pst.bind q) fun d ρ1 H1 G1 o1 s1 q1 v r => ?_
  cases d with
  | ins b c' l =>
    dsimp only at q1
    by_cases hcc : c' = c
    · rw [if_pos hcc] at q1
      subst hcc
      obtain ⟨z, hz, q2⟩ := Pst.opt q1
      obtain ⟨d, hd, rfl⟩ := Option.map_eq_some_iff.mp hz
      obtain ⟨a, dx, vs, rfl, ⟨h1, _⟩, h2⟩ := r
      obtain ⟨w, w1, w2⟩ := RepF.lkF h2 hd
      exact ⟨a, κ.cl c', dx, vs, w, rfl, o1.fr.gh _ _ h1, hK ▸ hc, hK ▸ hn, w1, q2 H1 G1 o1 (Same.refl G1) w w2⟩
    · rw [if_neg hcc] at q1
      exact q1.elim
  | _ => exact q1.elim
theorem reps_va {T : Pd} {σ : L2.St} {G : Hp} : ∀ {ds : List D} {vs : List V}, RepL κ T G ds vs → RepAs κ T σ G (ds.map Ar.va) vs
  | [], vs, r => r
  | d :: ds, vs, r => by
    obtain ⟨v, ws, e, r1, r2⟩ := r
    exact ⟨v, ws, e, r1, reps_va r2⟩
theorem getAs_va (ρ : List SD) : ∀ ds : List D, getAs ρ (ds.map Ar.va) = some (ds.map SD.va)
  | [] => rfl
  | d :: ds => by
    show (getA ρ (.va d)).bind (fun x => (getAs ρ (ds.map Ar.va)).bind fun xs => some (x :: xs)) = _
    rw [getAs_va ρ ds]
    rfl
theorem slots_va : ∀ ds : List D, slots (ds.map Ar.va) = []
  | [] => rfl
  | d :: ds => slots_va ds
theorem putAs_va (ρ : List SD) : ∀ (ds : List D) (os : List SD), putAs ρ (ds.map Ar.va) os = ρ
  | [], os => rfl
  | d :: ds, os => putAs_va ρ ds os.tail
theorem meth_at {B : Bas} {ρ : List SD} {σ : L2.St} {H G : Hp} {Q : VK} {ds : List D} {vs : List V} {N : Nat} (o : Ok κ B ρ σ H G) (r : RepL κ B.T G ds vs) (hl : ds.length = N)
    (q : Pst κ W B σ G ((fun ρ => match fs (ds.map SD.va) with
      | .ok r _ => .ok r ρ
      | .ex x _ => .ex x ρ
      | .no => .no : M SD) ρ) fun r ρ' H' G' => ∀ v, RepR κ B ρ' σ H' G' r v → Q v H') : spF κ N fs vs H Q (fun cls d H => W cls d σ H) := by
  obtain ⟨pre, back⟩ := call_back o (as := ds.map Ar.va) (dd := []) (by rw [slots_va]; exact List.nodup_nil) (getAs_va ρ ds) (reps_va r) (show RepL κ B.T G [] [] from rfl)
  simp only [List.map_nil, List.append_nil] at pre back
  refine ⟨B.T, G, ds.map SD.va, by rw [List.length_map]; exact hl, pre, ?_⟩
  cases ef : fs (ds.map SD.va) with
  | ok r outs =>
    simp only [ef] at q
    intro v H' G' af rv
    obtain ⟨b1, b2⟩ := back af
    rw [putAs_va] at b1
    have b3 := b2 rv
    rw [putAs_va] at b3
    exact q H' G' b1 af.sub v b3
  | ex y outs =>
    simp only [ef] at q
    intro cls d H' G' af rx
    obtain ⟨b1, b2⟩ := back af
    rw [putAs_va] at b1
    exact q cls d H' G' b1 af.sub rx
  | no =>
    simp only [ef] at q
    exact q.elim
theorem e_meth {pl : Sem Bool} (I : MethD X.prog X.w X.K X.mg X.base κ c m k ps fs f fd) (hb : Binds X.K fd ps []) (hr : Room k' X.A) (hk : k ≤ k') (hx : PassW X W) (h : PE X o (tE κ W mo)) (ha : PA X (e :: es) (tA κ W a)) (hl : ∀ ρ ds ρ', a ρ = .ok ds ρ' → ds.length + 1 = ps.length)
    (hst : Pln X e es := by rfl) (hpl : PlnR X pos es := by rfl)
    (ht : eval (.Call (.Attribute o m apos) (e :: es) [] pos) X.env = callM X pl o m apos pos (e :: es) := by rfl) : PE X (.Call (.Attribute o m apos) (e :: es) [] pos) (tE κ W (mMeth c m fs mo a)) := by
  refine PE.imp (pe_methE (E := fun σ cls d H => W cls d σ H) h I.cls I.at_ I.ok (hr.mono hk) hb hx ha hst hpl ht) fun σ H Q ⟨B, ρ, G, ok, q⟩ => ?_
  refine tE_fz ok (Pst.bind q) fun d ρ1 H1 G1 o1 s1 q1 v r => ?_
  unfold methK at q1
  cases d with
  | ins b c' l =>
    dsimp only at q1
    by_cases hcc : c' = c ∧ l.lookup m = none
    · rw [if_pos hcc] at q1
      obtain ⟨rfl, hno⟩ := hcc
      obtain ⟨ad, dx, vs, rfl, ⟨h1, h0⟩, h2⟩ := r
      refine ⟨ad, dx, vs, rfl, o1.fr.gh _ _ h1, RepF.lkNone h2 hno, B, ρ1, G1, o1, ?_⟩
      have q2 := Pst.bind q1
      cases ea : a ρ1 with
      | ex y ρ' =>
        rw [ea] at q2
        exact q2
      | no =>
        rw [ea] at q2
        exact q2
      | ok ds ρ2 =>
        rw [ea] at q2
        intro H2 G2 o2 s2 ws rs
        exact meth_at (ds := .ins b c' l :: ds) o2 ⟨_, ws, rfl, Rep.mono (.of s2) (.ins b c' l) ⟨ad, dx, vs, rfl, ⟨h1, h0⟩, h2⟩, rs⟩ (by rw [List.length_cons]; exact hl ρ1 ds ρ2 ea) (q2 H2 G2 o2 s2)
    · rw [if_neg hcc] at q1
      exact q1.elim
  | _ => exact q1.elim
theorem e_meth0 {pl : Sem Bool} (I : MethD X.prog X.w X.K X.mg X.base κ c m k ps fs f fd) (hb : Binds X.K fd ps []) (hr : Room k' X.A) (hk : k ≤ k') (hx : PassW X W) (h : PE X o (tE κ W mo)) (hl : ps.length = 1)
    (ht : eval (.Call (.Attribute o m apos) [] [] pos) X.env = callM X pl o m apos pos [] := by rfl) : PE X (.Call (.Attribute o m apos) [] [] pos) (tE κ W (mMeth c m fs mo mNil)) := by
  refine PE.imp (pe_methE0 (E := fun σ cls d H => W cls d σ H) h I.cls I.at_ I.ok (hr.mono hk) hb hx ht) fun σ H Q ⟨B, ρ, G, ok, q⟩ => ?_
  refine tE_fz ok (Pst.bind q) fun d ρ1 H1 G1 o1 s1 q1 v r => ?_
  unfold methK at q1
  cases d with
  | ins b c' l =>
    dsimp only at q1
    by_cases hcc : c' = c ∧ l.lookup m = none
    · rw [if_pos hcc] at q1
      obtain ⟨rfl, hno⟩ := hcc
      obtain ⟨ad, dx, vs, rfl, ⟨h1, h0⟩, h2⟩ := r
      refine ⟨ad, dx, vs, rfl, o1.fr.gh _ _ h1, RepF.lkNone h2 hno, ?_⟩
      exact meth_at (ds := [.ins b c' l]) o1 ⟨_, [], rfl, ⟨ad, dx, vs, rfl, ⟨h1, h0⟩, h2⟩, rfl⟩ hl.symm q1
    · rw [if_neg hcc] at q1
      exact q1.elim
  | _ => exact q1.elim
/-- how many arguments -/
def DLen (n : M (List D)) (k : Nat) : Prop := ∀ ρ ds ρ', n ρ = .ok ds ρ' → ds.length = k
theorem dlen_nil : DLen mNil 0 := fun ρ as ρ' h => by cases h; rfl
theorem dlen_cons {m : M SD} {n : M (List D)} {k : Nat} (h : DLen n k) : DLen (mCons m n) (k + 1) := fun ρ as ρ' e => by
  unfold mCons M.bind at e
  cases e1 : fE m ρ with
  | ok d ρ1 =>
    rw [e1] at e
    cases e2 : n ρ1 with
    | ok ds ρ2 =>
      simp only [e2] at e
      cases e
      rw [List.length_cons, h _ _ _ e2]
    | ex x ρ2 => simp only [e2] at e; cases e
    | no => simp only [e2] at e; cases e
  | ex x ρ1 => rw [e1] at e; cases e
  | no => rw [e1] at e; cases e
end
end Fm

set_option maxHeartbeats 990000
namespace PySem
open Sem (wp)
section
variable {prog : Program} {w : World} {A : Around} {s : Shared} {E : Value → Shared → Prop}
end
end PySem
namespace Fm
open L2 PySem PySem.Spec PyProof.Rows
/-! ### sum(xs, start=0) -/
def rSumS (K : PySem.W.Frag) : List V → List V → Hp → VK → Prop := fun vs zs H Q => ∃ (a : Addr) (ns : List Int), vs = [V.ref a] ∧ zs = [V.int 0] ∧ SqL K H a (ns.map V.int) ∧ Q (.int ns.sum) H
def mSumS (n m : M (List D)) : M SD := n.bind fun ds => m.bind fun zs => M.opt (match zs with
  | [.int 0] => sumD ds
  | _ => none)
/-! ### reversed(range(n)) -/
def rvrM : List D → M (List D)
  | [.int j] => if -(2 ^ 62) ≤ j ∧ j < 2 ^ 62 then M.ret (rngD 0 j.toNat).reverse else M.no
  | _ => M.no
def iRvr (n : M (List D)) : M (List D) := n.bind rvrM
/-! ### what is asked of classes, as tests -/
def clsB (K : PySem.W.Frag) (C : Addr) : Bool := PySem.W.plainGet K C Str.empty && (PySem.W.hasDictIn K C && (PySem.W.plainOver K C && decide (PySem.W.findIn K (.ref C) "__setattr__" = some (some (.builtin "object.__setattr__")))))
def noaB (K : PySem.W.Frag) (C : Addr) (f : Str) : Bool := decide (PySem.W.findIn K (.ref C) f = some none)
def metB (K : PySem.W.Frag) (C : Addr) (m : Str) (f : Addr) : Bool := decide (PySem.W.findIn K (.ref C) m = some (some (.ref f)))
def makB (K : PySem.W.Frag) (C f : Addr) : Bool := PySem.W.makesIn K C && (decide (PySem.W.findIn K (.ref C) "__init__" = some (some (.ref f))) && PySem.W.keepIn K (.ref C))
end Fm

set_option maxHeartbeats 990000
namespace Fm
open L2 PySem PySem.Spec PyProof.Rows
/-! ### () + u -/
def rCat0 (K : PySem.W.Frag) : R2 := fun x y H Q => ∃ a b ys, x = .ref a ∧ y = .ref b ∧ SqT K H a [] ∧ SqT K H b ys ∧ Q (.ref b) H
theorem op_cat0 {X : Cx} : OpR X (binaryOp .Add) (rCat0 X.K) := by
  rintro pins s σ H x y v u Q I rx ry ⟨a, b, ys, rfl, rfl, ha, hb, q⟩
  cases rx
  cases ry
  obtain ⟨its, r1, ht, _⟩ := I.tuple ha
  obtain ⟨its2, r2, hb2, _⟩ := I.tuple hb
  obtain rfl := r1.nil_iff.mpr rfl
  obtain ⟨⟨_, d1, _, l1⟩, o1, rfl, n1, rfl⟩ := ht
  obtain ⟨⟨_, d2, _, l2⟩, o2, rfl, n2, rfl⟩ := hb2
  have same := tuple_addW0 a b #[] its2.toArray n1 n2 d1 d2 l1 l2 (by simp)
  exact concat_meets ⟨_, o1, rfl⟩ ⟨_, o2, rfl⟩ noFill_tuple_add seq_tuple_add F.slot_tuple_add F.entry_tuple_add (F.args_tuple_add_2 _ _) same ⟨o1, o2, .ref b, H, I, rfl, q⟩
def add3D : D → D → Option SD
  | .tup [], .tup m => some (.va (.tup m))
  | d, e => addD d e
abbrev rAdd3 (K : PySem.W.Frag) : R2 := fun x y H Q => (rI0 (fun i j => .int (i + j)) x y H Q ∨ ((fun x y H Q => ∃ i j, x = .str i ∧ y = .str j ∧ i.length + j.length ≤ sizeLine ∧ Q (.str (i ++ j)) H) x y H Q ∨ (rCatT K x y H Q ∨ rCat x y H Q))) ∨ rCat0 K x y H Q
theorem op_add3 {X : Cx} : OpR X (binaryOp .Add) (rAdd3 X.K) := op_addX.or op_cat0
theorem od_add3 {κ : Ctx} : OpD κ (rAdd3 κ.K) add3D := by
  intro B ρ σ H G d e x y z Q o r1 r2 hz q
  unfold add3D at hz
  split at hz
  · rename_i m
    cases hz
    obtain ⟨p, vs, rfl, h1, h2⟩ := r1
    obtain ⟨p', ws, rfl, h3, h4⟩ := r2
    cases (show vs = [] from h2)
    exact .inr ⟨p, p', ws, rfl, rfl, h1.sq o.fr.gh, h3.sq o.fr.gh, q _ H G o (Same.refl G) ⟨p', ws, rfl, h3, h4⟩⟩
  · exact .inl (od_add B ρ σ H G d e x y z Q o r1 r2 hz q)
section
variable {p : SD → Prop}
theorem o_add3I {a b : Int} (h : p (.va (.int (a + b)))) : Ow (add3D (.int a) (.int b)) p := ⟨_, rfl, h⟩
theorem o_add3S {a b : Str} (h : p (.va (.str (a ++ b)))) (g : a.length + b.length ≤ 1000000) : Ow (add3D (.str a) (.str b)) p := ⟨_, if_pos g, h⟩
theorem o_add3L {x y : Bool} {l m : List D} (h : p (.ow (.lst false (l ++ m)))) (g : l.length + m.length ≤ 1000000) : Ow (add3D (.lst x l) (.lst y m)) p := ⟨_, if_pos g, h⟩
end
/-! ### calls of methods by counted arguments -/
section
variable {X : Cx} {κ : Ctx} {W : WX} {k k' n : Nat} {f : Addr} {fd : FuncData} {ps : List Str} {fn : List D → FR} {fs : List SD → FR} {x m fl : Str} {p pos apos : Pos} {e o : Expr} {es : List Expr} {a : M (List D)} {mo : M SD} {c : String}
theorem e_methD {pl : Sem Bool} (I : MethD X.prog X.w X.K X.mg X.base κ c m k ps fs f fd) (hb : Binds X.K fd ps []) (hr : Room k' X.A) (hk : k ≤ k') (hx : PassW X W) (h : PE X o (tE κ W mo)) (ha : PA X (e :: es) (tA κ W a)) (hl : DLen a n) (hn : n + 1 = ps.length)
    (hst : Pln X e es := by rfl) (hpl : PlnR X pos es := by rfl)
    (ht : eval (.Call (.Attribute o m apos) (e :: es) [] pos) X.env = callM X pl o m apos pos (e :: es) := by rfl) : PE X (.Call (.Attribute o m apos) (e :: es) [] pos) (tE κ W (mMeth c m fs mo a)) :=
  e_meth I hb hr hk hx h ha (fun ρ ds ρ' e => by rw [hl ρ ds ρ' e]; exact hn) hst hpl ht
end
/-! ### the calculus of these -/
section
variable {α β γ : Type} {ρ : List SD} {E : Exn → List SD → Prop} {p : SD → List SD → Prop} {pl : List D → List SD → Prop} {s : Fl → List SD → Prop} {c0 : String} {f mt : Str} {i : Nat}
theorem w_make {fn : List D → FR} {n : M (List D)} (h : Wp n ρ (fun ds ρ' => Fw (fn ds) (fun r _ => ∃ d, r = .va d ∧ p (.va d) ρ') fun x _ => E x ρ') E) : Wp (mMake fn n) ρ p E := w_bind (h.mono (fun ds ρ' h => by
  refine ⟨?_⟩
  have h := h.run
  cases e : fn ds with
  | ok r o =>
    rw [e] at h
    obtain ⟨d, rfl, h⟩ := h
    exact h
  | ex x o =>
    rw [e] at h
    exact h
  | no =>
    rw [e] at h
    exact h) fun _ _ z => z)
theorem w_fld {m : M SD} (h : Wp (fE m) ρ (fun d ρ' => ∃ b l z, d = .ins b c0 l ∧ l.lookup f = some z ∧ p (.va z) ρ') E) : Wp (mFld c0 f m) ρ p E := w_bind (h.mono (fun d ρ' h => by
  obtain ⟨b, l, z, rfl, e, h⟩ := h
  refine ⟨?_⟩
  simp only [if_true, e]
  exact h) fun _ _ z => z)
theorem w_meth {fn : List SD → FR} {m : M SD} {n : M (List D)} (h : Wp (fE m) ρ (fun d ρ1 => ∃ b l, d = .ins b c0 l ∧ l.lookup mt = none ∧ Wp n ρ1 (fun ds ρ2 => Fw (fn (.va (.ins b c0 l) :: ds.map SD.va)) (fun r _ => p r ρ2) fun x _ => E x ρ2) E) E) : Wp (mMeth c0 mt fn m n) ρ p E := w_bind (h.mono (fun d ρ' h => by
  obtain ⟨b, l, rfl, e, h⟩ := h
  show Wp (if c0 = c0 ∧ l.lookup mt = none then _ else _) ρ' p E
  rw [if_pos ⟨rfl, e⟩]
  refine w_bind (h.mono (fun ds ρ2 h => ?_) fun _ _ z => z)
  refine ⟨?_⟩
  have h := h.run
  cases e : fn (.va (.ins b c0 l) :: ds.map SD.va) with
  | ok r o =>
    rw [e] at h
    exact h
  | ex x o =>
    rw [e] at h
    exact h
  | no =>
    rw [e] at h
    exact h) fun _ _ z => z)
/-- an object's body: slot i at work -/
theorem w_viewO {m : M α} {q : α → List SD → Prop} {b : Bool} {c : String} {l : List (Str × D)} (e : ρ[i]? = some (.ow (.ins b c l))) (h : Wp m (ρ.set i .un) (fun a ρ' => q a (ρ'.set i (.ow (.ins b c l)))) fun x ρ' => E x (ρ'.set i (.ow (.ins b c l)))) : Wp (viewO i m) ρ q E := by
  refine ⟨?_⟩
  unfold viewO
  rw [e]
  dsimp only
  have h := h.run
  cases e2 : m (ρ.set i .un) with
  | ok a ρ' =>
    rw [e2] at h
    exact h
  | ex x ρ' =>
    rw [e2] at h
    exact h
  | no =>
    rw [e2] at h
    exact h
theorem w_viewL {m : M α} {nb : α → Bool} {q : α → List SD → Prop} {b : Bool} {c : String} {l : List (Str × D)} (e : ρ[i]? = some (.ow (.ins b c l))) (h : Wp m (ρ.set i (.va (.ins true c l))) (fun a ρ' => ((ρ'.set i .un).all SD.nbS && nb a) = true ∧ q a (ρ'.set i (.ow (.ins b c l)))) fun x ρ' => ((ρ'.set i .un).all SD.nbS && nbF x.fs) = true ∧ E x (ρ'.set i (.ow (.ins b c l)))) : Wp (viewL i nb m) ρ q E := by
  refine ⟨?_⟩
  unfold viewL
  rw [e]
  dsimp only
  have h := h.run
  cases e2 : m (ρ.set i (.va (.ins true c l))) with
  | ok a ρ' =>
    rw [e2] at h
    simp only [if_pos h.1]
    exact h.2
  | ex x ρ' =>
    rw [e2] at h
    simp only [if_pos h.1]
    exact h.2
  | no =>
    rw [e2] at h
    exact h
theorem w_oset {m : M SD} (h : Wp m ρ (fun r ρ' => ∃ b l d, ρ'[i]? = some (.ow (.ins b c0 l)) ∧ l.length < 1000 ∧ ownD r = some d ∧ s .nx (ρ'.set i (.ow (.ins b c0 (putFD f d l))))) E) : Wp (oSet i c0 f m) ρ s E := w_bind (h.mono (fun r ρ' h => by
  obtain ⟨b, l, d, e1, hl, e2, h⟩ := h
  refine ⟨?_⟩
  unfold setFS
  simp only [e1, true_and, if_pos hl, e2]
  exact h) fun _ _ z => z)
theorem w_oapp {n : M (List D)} {b : Bool} {l : List (Str × D)} {m0 : List D} (e : ρ[i]? = some (.ow (.ins b c0 l))) (e2 : l.lookup f = some (.lst true m0)) (e3 : nbL m0 = true) (h : Wp n ρ (fun ds ρ' => ∃ b l m d, ρ'[i]? = some (.ow (.ins b c0 l)) ∧ l.lookup f = some (.lst true m) ∧ ds = [d] ∧ (m.length < 1000000 ∧ nbL m = true ∧ d.nb = true) ∧ p (.va .non) (ρ'.set i (.ow (.ins b c0 (putFD f (.lst true (m ++ [d])) l))))) E) : Wp (oApp i c0 f n) ρ p E := by
  refine ⟨?_⟩
  unfold oApp guardF
  simp only [e, e2]
  rw [if_pos ⟨trivial, e3⟩]
  refine Wp.run (E := E) (p := p) ?_
  refine w_bind (p := p) (h.mono (fun ds ρ' h => ?_) fun _ _ z => z)
  obtain ⟨b, l, m, d, h1, h2, rfl, h3, h⟩ := h
  refine ⟨?_⟩
  unfold appFS
  simp only [h1, h2, if_pos h3]
  exact h
theorem w_oput {mk me : M SD} (h : Wp (fE me) ρ (fun d ρ1 => ∃ b l m, ρ1[i]? = some (.ow (.ins b c0 l)) ∧ l.lookup f = some (.dk true m) ∧ nbK m = true ∧ Wp (viewO i (fE mk)) ρ1 (fun k ρ2 => ∃ b l m j, ρ2[i]? = some (.ow (.ins b c0 l)) ∧ l.lookup f = some (.dk true m) ∧ keyOf k = some j ∧ (m.length < 1000000 ∧ nbK m = true ∧ d.nb = true) ∧ s .nx (ρ2.set i (.ow (.ins b c0 (putFD f (.dk true (putKD m j d)) l))))) E) E) : Wp (oPut i c0 f mk me) ρ s E := by
  unfold oPut fO
  refine w_bind (p := s) (Wp.mono (show Wp (me.bind fzM) ρ _ E from h) (fun d ρ1 h => ?_) fun _ _ z => z)
  obtain ⟨b, l, m, h1, h2, h3, h⟩ := h
  refine ⟨?_⟩
  unfold guardF
  simp only [h1, h2]
  rw [if_pos ⟨trivial, h3⟩]
  refine Wp.run (E := E) (p := s) ?_
  refine w_bind (p := s) (h.mono (fun k ρ2 h => ?_) fun _ _ z => z)
  obtain ⟨b, l, m, j, g1, g2, g3, g4, h⟩ := h
  refine ⟨?_⟩
  unfold putFS
  simp only [g1, g2, g3, if_pos g4]
  exact h
theorem w_iseqL {m : M SD} (h : Wp (viewL i D.nb (fE m)) ρ (fun d ρ' => ∃ b l, d.seq = some (b, l) ∧ pl l ρ') E) : Wp (iSeqL i m) ρ pl E := w_bind (h.mono (fun d ρ' h => by
  obtain ⟨b, l, e, h⟩ := h
  cases d with
  | lst b' l' =>
    cases e
    exact ⟨h⟩
  | tup l' =>
    cases e
    exact ⟨h⟩
  | _ => cases e) fun _ _ z => z)
/-- the body of an __init__ -/
theorem fw_init {c : String} {N : Nat} {b : S} {as : List D} {q : SD → List SD → Prop} {Ex : Exn → List SD → Prop} (h : Wp b (.ow (.ins false c []) :: (as.map SD.va ++ List.replicate (N - 1 - as.length) SD.un)) (fun f ρ' => (f = .nx ∨ f = .rt (.va .non)) ∧ ∃ b c l, ρ'[0]? = some (.ow (.ins b c l)) ∧ q (.va (.ins false c (fzFl l))) []) fun x _ => Ex x []) : Fw (runI c N b as) q Ex := by
  refine ⟨?_⟩
  unfold runI
  have h := h.run
  cases e : b (.ow (.ins false c []) :: (as.map SD.va ++ List.replicate (N - 1 - as.length) SD.un)) with
  | ok f ρ' =>
    rw [e] at h
    obtain ⟨hf, b', c', l, e1, hq⟩ := h
    have ee : endI ρ' = .ok (.va (.ins false c' (fzFl l))) [] := by
      unfold endI
      rw [e1]
    rcases hf with rfl | rfl
    · dsimp only
      rw [ee]
      exact hq
    · dsimp only
      rw [ee]
      exact hq
  | ex x ρ' =>
    rw [e] at h
    exact h
  | no =>
    rw [e] at h
    exact h.elim
end
end Fm

set_option maxHeartbeats 990000
namespace Fm
open L2 PySem PySem.Spec PyProof.Rows
/-! ### dicts in the calculus -/
section
variable {ρ : List SD} {E : Exn → List SD → Prop} {p : SD → List SD → Prop} {q : D → List SD → Prop}
theorem w_varD {i : Nat} {b : Bool} {l : List (Key × D)} (e : ρ[i]? = some (.ow (.dk b l))) (h : p (.va (.dk false l)) (ρ.set i (.va (.dk false l)))) : Wp (mVar i) ρ p E := by
  refine ⟨?_⟩
  unfold mVar
  rw [e]
  exact h
theorem w_fzD {b : Bool} {l : List (Key × D)} (h : q (.dk false l) ρ) : Wp (fzM (.ow (.dk b l))) ρ q E := ⟨h⟩
end
theorem getK_map (l : List (Key × D)) (k : Key) (d : D) (k' : Key) : getK (l.map fun kv => if kv.1 = k then (kv.1, d) else kv) k' = if k' = k then (if (l.any fun kv => decide (kv.1 = k)) = true then some d else none) else getK l k' := by
  induction l with
  | nil =>
    split
    · rfl
    · rfl
  | cons p l ih =>
    rw [List.map_cons, getK_cons, ih, List.any_cons, getK_cons]
    by_cases h : p.1 = k
    · rw [if_pos h]
      by_cases g : k' = k
      · rw [if_pos g, if_pos g, if_pos (by rw [h, g]), if_pos (by rw [decide_eq_true h]; rfl)]
      · rw [if_neg g, if_neg g, if_neg (fun z : p.1 = k' => g (z ▸ h)), if_neg (fun z : p.1 = k' => g (z ▸ h))]
    · rw [if_neg h, decide_eq_false h, Bool.false_or]
      by_cases g : k' = k
      · rw [if_pos g, if_neg (fun z : p.1 = k' => h (z.trans g)), if_pos g]
      · rw [if_neg g, if_neg g]
theorem getK_app (l : List (Key × D)) (k : Key) (d : D) (k' : Key) (h : (l.any fun kv => decide (kv.1 = k)) = false) : getK (l ++ [(k, d)]) k' = if k' = k then some d else getK l k' := by
  induction l with
  | nil =>
    rw [List.nil_append, getK_cons]
    by_cases g : k' = k
    · rw [if_pos g, if_pos g.symm]
    · rw [if_neg g, if_neg fun z => g z.symm]
  | cons p l ih =>
    rw [List.any_cons, Bool.or_eq_false_iff] at h
    rw [List.cons_append, getK_cons, ih h.2, getK_cons]
    by_cases g : k' = k
    · rw [if_pos g, if_pos g, if_neg (by rw [g]; exact of_decide_eq_false h.1)]
    · rw [if_neg g, if_neg g]
theorem getK_put (l : List (Key × D)) (k : Key) (d : D) (k' : Key) : getK (putKD l k d) k' = if k' = k then some d else getK l k' := by
  unfold putKD
  split
  · rename_i h
    rw [getK_map, if_pos h]
  · rename_i h
    exact getK_app l k d k' (Bool.eq_false_iff.mpr h)
theorem putKD_len (l : List (Key × D)) (k : Key) (d : D) : (putKD l k d).length ≤ l.length + 1 := by
  unfold putKD
  split
  · rw [List.length_map]
    omega
  · rw [List.length_append]
    exact Nat.le_refl _
theorem putKD_mem {l : List (Key × D)} {k : Key} {d : D} {p : Key × D} (h : p ∈ putKD l k d) : p ∈ l ∨ p = (k, d) := by
  unfold putKD at h
  split at h
  · obtain ⟨q, h1, h2⟩ := List.mem_map.mp h
    by_cases z : q.1 = k
    · rw [if_pos z] at h2
      rw [← h2, z]
      exact .inr rfl
    · rw [if_neg z] at h2
      rw [← h2]
      exact .inl h1
  · rcases List.mem_append.mp h with z | z
    · exact .inl z
    · exact .inr (List.mem_singleton.mp z)
theorem getK_mem {l : List (Key × D)} {k : Key} {d : D} (h : getK l k = some d) : (k, d) ∈ l := by
  induction l with
  | nil => cases h
  | cons p l ih =>
    rw [getK_cons] at h
    by_cases z : p.1 = k
    · rw [if_pos z] at h
      cases h
      rw [← z]
      exact List.mem_cons_self ..
    · rw [if_neg z] at h
      exact .tail _ (ih h)
theorem mem_getK {l : List (Key × D)} {k : Key} {d : D} (h : (k, d) ∈ l) : (getK l k).isSome = true := by
  induction l with
  | nil => cases h
  | cons p l ih =>
    rw [getK_cons]
    by_cases z : p.1 = k
    · rw [if_pos z]
      rfl
    · rw [if_neg z]
      rcases inC h with e | h
      · rw [← e] at z
        exact absurd rfl z
      · exact ih h
/-- a dict of texts -/
theorem strsK_of : ∀ {l : List (Key × D)}, (∀ p ∈ l, ∃ s, p.1 = .inr s) → ∃ ks, strsK l = some ks ∧ ks.length = l.length ∧ ∀ s, s ∈ ks ↔ ∃ d, ((.inr s : Key), d) ∈ l
  | [], _ => ⟨[], rfl, rfl, fun s => ⟨(fun h => by cases h), fun ⟨d, h⟩ => by cases h⟩⟩
  | (k, d) :: l, h => by
    obtain ⟨s, e⟩ := h (k, d) (List.mem_cons_self ..)
    cases (show k = .inr s from e)
    obtain ⟨ks, h1, h2, h3⟩ := strsK_of fun p hp => h p (List.mem_cons_of_mem _ hp)
    refine ⟨s :: ks, ?_, by rw [List.length_cons, List.length_cons, h2], fun s' => ?_⟩
    · show (strsK l).map (s :: ·) = _
      rw [h1]
      rfl
    · rw [List.mem_cons, h3]
      constructor
      · rintro (rfl | ⟨d', h⟩)
        · exact ⟨d, List.mem_cons_self ..⟩
        · exact ⟨d', List.mem_cons_of_mem _ h⟩
      · rintro ⟨d', h⟩
        rcases inC h with e | h
        · cases e
          exact .inl rfl
        · exact .inr ⟨d', h⟩
theorem ssort_mem {l : List Str} {s : Str} : s ∈ ssort l ↔ s ∈ l := (ssort_perm l).mem_iff
theorem ssort_len (l : List Str) : (ssort l).length = l.length := (ssort_perm l).length_eq
end Fm

set_option maxHeartbeats 390000
namespace Fm
open PySem PySem.W PySem.Calls PyProof.Rows PySem.HandSPX

/-! ### own exception classes over KeyError -/
section
open Builtin.ObjectAttr Builtin
variable {prog : Program} {w : World} {Ar : Around} {Er : Value → Shared → Prop} {Re : Result → Shared → Prop} {hp : Heap} {gs : Array GenState} {dr : Drawn} {tk : Nat} {os : OsState}
variable {nm qn : Str} {C NS : Addr} {bs bm : List Value} {hd : Bool} {sn : List Str} {sub : List Value} {ab : Bool} {col : Option Bool} {dd : Option Addr} {k0 k1 k2 k3 k5 : Option Value}
abbrev keObj (nm qn : Str) (C NS : Addr) (bs bm : List Value) (hd : Bool) (sn : List Str) (sub : List Value) (ab : Bool) (col : Option Bool) (dd : Option Addr) (k0 k1 k2 k3 k5 : Option Value) : Obj :=
  excClassObj nm qn C NS bs bm hd sn sub ab col dd k0 k1 k2 k3 k5 "LookupError.__new__"
end
end Fm

set_option maxHeartbeats 390000
namespace Fm
open PySem PySem.W PySem.Calls PyProof.Rows PySem.HandSPX
section
open Builtin.ObjectAttr Builtin
variable {prog : Program} {w : World} {Ar : Around} {Er : Value → Shared → Prop} {Re : Result → Shared → Prop} {hp : Heap} {gs : Array GenState} {dr : Drawn} {tk : Nat} {os : OsState}
end
end Fm

set_option maxHeartbeats 390000
namespace Fm
open L2 PySem PySem.Spec PyProof.Rows

/-- what the written part says of a class over KeyError -/
structure OexK (K : PySem.W.Frag) (C : Addr) : Prop where
  cls : ∃ nm q N bs bm sn sub ab col dd k0 k1 k2 k3 k5, K.lookup C = some (keObj nm q C N bs bm true sn sub ab col dd k0 k1 k2 k3 k5) ∧ refsKE bm = true
  (sa : PySem.W.findIn K (.ref C) "__setattr__" = some (some (.builtin "object.__setattr__"))) (exC : PySem.W.subIn K (.ref C) (.type "BaseException") = some true) (tyC : PySem.W.typeIn K (.ref C) = some (.type "type")) (kC : PySem.W.keepIn K (.ref C) = true)
def clsDat (nm q : Str) (C N : Addr) (bs bm : List Value) (sn : List Str) (sub : List Value) (ab : Bool) (col : Option Bool) : ClassData := { name := nm, bases := bs, mro := .ref C :: bm, ns := N, qualname := q, hasDict := true, slotNames := sn, subclasses := sub, abstract := ab, collection := col, hasDel := false }
section
variable {X : Cx} {pins : List (Addr × Obj)} {σ : L2.St} {H : Hp} {s : Shared} {a C dx : Addr} {f : Str} {y : V} {u : Value} {fs : List (Str × V)} {Q : Unit → Shared → Prop} {E : Value → Shared → Prop} {Ar : Around}
end
/-- self.f = e, on such a one -/
def tOsK (K : PySem.W.Frag) (f : Str) (to te : TE) : TS := fun D σ H => te σ H fun y H1 => to σ H1 fun x H2 => ∃ a C : Addr, x = .ref a ∧ OexK K C ∧ PySem.W.findIn K (.ref C) f = some none ∧
  ((H2 a = some (exo a C none) ∧ ∀ d, H2 d = none → d ≠ a → D.nx σ (upd (upd H2 d (exd d [(f, y)])) a (exo a C (some d)))) ∨
    ∃ (dx : Addr) (fs : List (Str × V)), (H2 a = some (exo a C (some dx)) ∧ H2 dx = some (exd dx fs)) ∧ fs.length ≤ 900 ∧ D.nx σ (upd H2 dx (exd dx ((f, y) :: fs))))
section
variable {X : Cx} {o e : Expr} {es : List Expr} {to te : TE} {ta : TA} {f : Str} {p p' pos : Pos}
end
/-- its __init__: a text in the field f, the value in the field g -/
def spK2 (K : PySem.W.Frag) (f z g : Str) : Sp := fun vs H Q E => ∃ (a C : Addr) (y : V), vs = [.ref a, y] ∧ OexK K C ∧ PySem.W.findIn K (.ref C) f = some none ∧ PySem.W.findIn K (.ref C) g = some none ∧ H a = some (exo a C none) ∧
  ∀ dx, H dx = none → dx ≠ a → Q .non (upd (upd (upd H dx (exd dx [(f, .str z)])) a (exo a C (some dx))) dx (exd dx [(g, y), (f, .str z)]))
structure ExK2 (P : Program) (w : World) (K : PySem.W.Frag) (mg : Str → Option Value) (base : Heap) (κ : Ctx) (x : Str) (c : String) (f z g n : Str) (fI : Addr) (fd : FuncData) : Prop where
  T : OexK K (κ.cl c)
  no : PySem.W.findIn K (.ref (κ.cl c)) f = some none
  no2 : PySem.W.findIn K (.ref (κ.cl c)) g = some none
  iC : PySem.W.findIn K (.ref (κ.cl c)) "__init__" = some (some (.ref fI))
  tI : PySem.W.typeIn K (.ref fI) = some (.type "function")
  ok : FnOk P w K mg base (L2.CX P w) 1 fI fd ["self", n] (spK2 K f z g)
  bd : Binds K fd ["self", n] []
  gl : mg x = some (.ref (κ.cl c))
section
variable {X : Cx} {κ : Ctx} {A : List Nat} {W : WX} {x : Str} {c : String} {f z g n : Str} {fI : Addr} {fd : FuncData} {e : Expr} {m : M SD} {p p2 pos : Pos}
end
end Fm

set_option maxHeartbeats 390000
namespace Fm
open L2 PySem PySem.Spec PyProof.Rows

/-! ### try: b, several clauses except C as e: x = (.., ..), of fields of e and of numbers -/
def ptD (x : Exn) : Pt → Option D
  | .fld f => x.fs.lookup f
  | .neg k => some (.int (-k))
def sTryP (b : S) (i j : Nat) (pick : String → Option (Pt × Pt)) : S := fun ρ => match b ρ with
  | .ex x ρ' => match pick x.c with
    | some w => if i < ρ'.length then match ptD x w.1, ptD x w.2 with
      | some d, some e => .ok .nx (((ρ'.set i .un).set j (.va (.tup [d, e]))).set i .un)
      | _, _ => .no
      else .no
    | none => .no
  | r => r
def tPt (K : PySem.W.Frag) (i : Nat) (a : Addr) (cls : Value) (d : Option Addr) : Pt → TE
  | .fld f => fun σ H Q => ∃ C, XfC K C ∧ PySem.W.findIn K (.ref C) f = some none ∧ tXf a cls d C f (tVar i) σ H Q
  | .neg k => tUn (rU fun i => .int (-i)) (tC (.int k))
inductive PtEx (X : Cx) (n : Str) : Expr → Pt → Prop
  | fld {f : Str} {p q : Pos} (h : attributeBase (.Name n p) f X.env (eval (.Name n p) X.env) = eval (.Name n p) X.env) : PtEx X n (.Attribute (.Name n p) f q) (.fld f)
  | neg {k : Int} {jn : Nat} {p q : Pos} : PtEx X n (.UnaryOp .USub (.Constant (.int k) jn p) q) (.neg k)
def tPair2 (K : PySem.W.Frag) (i j : Nat) (w : Pt × Pt) (a : Addr) (cls : Value) (d : Option Addr) : TS := tAsg (tTup (tCons (tPt K i a cls d w.1) (tCons (tPt K i a cls d w.2) tNil))) (gName j)
def Cp.cl (K : PySem.W.Frag) (i j : Nat) (q : Cp) : Cl := ⟨.ref q.1, i, tPair2 K i j q.2⟩
inductive ClPs (X : Cx) (i j : Nat) (n nw : Str) : List ExceptHandler → List Cp → Prop
  | nil : ClPs X i j n nw [] []
  | cons {xm : Str} {CM : Addr} {e1 e2 : Expr} {w1 w2 : Pt} {jt : Nat} {q1 q2 q3 q4 q5 : Pos} {hds : List ExceptHandler} {l : List Cp} (gm : Gl X xm) (dm : (xm == ("__debug__" : Str)) = false) (hm : X.mg xm = some (.ref CM))
      (h1 : PtEx X n e1 w1) (h2 : PtEx X n e2 w2) (hsw : swapsWith (.Tuple [e1, e2] jt q4) (some (.Name nw q3)) q5.line X.env = pure false) (r : ClPs X i j n nw hds l) :
      ClPs X i j n nw (.ExceptHandler (some (.Name xm q1)) (some n) [.Assign [.Name nw q3] (.Tuple [e1, e2] jt q4) q5] q2 :: hds) ((CM, w1, w2) :: l)
structure TryPK (K : PySem.W.Frag) (κ : Ctx) (l : List Cp) (pick : String → Option (Pt × Pt)) : Prop where
  on : ∀ c w, pick c = some w → pickW K (.ref (κ.cl c)) l = some w ∧ ptF K (κ.cl c) w.1 = true ∧ ptF K (κ.cl c) w.2 = true
section
variable {X : Cx} {κ : Ctx} {A : List Nat} {Wout : WX} {i j : Nat} {nw n : Str} {body : List Stmt} {b : S} {pick : String → Option (Pt × Pt)} {pos : Pos} {l : List Cp} {hds : List ExceptHandler}
end
def pickL (l : List (String × Pt × Pt)) : String → Option (Pt × Pt) := fun c => l.lookup c
end Fm

set_option maxHeartbeats 390000
namespace Fm
open L2 PySem PySem.Spec PyProof.Rows

/-! ### x.upper() -/
def upD : D → Option SD
  | .str a => if a.length ≤ 1000000 then some (.va (.str (Txt.upper a))) else none
  | _ => none
section
variable {X : Cx} {κ : Ctx} {W : WX}
end
/-! the calculus: a try of pairs -/
end Fm
namespace Fm
open L2 PySem PySem.Spec PyProof.Rows
end Fm

set_option maxHeartbeats 990000
namespace Fm
open L2 PySem PySem.Spec PyProof.Rows

/-! ### a lambda handed on: told(lambda: e, ..), told calls tried(ask) first of all -/
section
variable {X : Cx} {pins pinsZ pn : List (Addr × Obj)} {σ σZ : L2.St} {H H0 HZ : Hp} {s s0 sZ : Shared} {CXg : CXT} {E Eg : XK} {Ng : List Str} {qg : Str} {sg scope : Scope} {g f c' : Addr} {cdg pm ctv : Value} {params : Arguments} {body : Expr} {k : Nat} {xe : Value → Shared → Prop} {tb : TE} {tc : XK → TE} {Q : VK} {Az : Around} {oz : List Env}
/-- a frame somewhere above -/
abbrev cxZ (X : Cx) (CXg : CXT) (Ng : List Str) (qg : Str) (sg : Scope) (g : Addr) (cdg : Value) (Az : Around) (oz : List Env) (s0 : Shared) (H0 : Hp) (Eg : XK) (pn : List (Addr × Obj)) (xe : Value → Shared → Prop) : Cx := (cxOf CXg X.prog X.w X.K X.mg X.base Ng qg sg g cdg Az oz s0 H0 Eg).tr pn xe
end
/-! what is known of one more object -/
def Bas.knows (B : Bas) (H G : Hp) (c : Addr) : Bas := { B with H := fun a => if a = c then H c else B.H a, G := fun a => if a = c then G c else B.G a }
section
variable {κ : Ctx} {B : Bas} {ρ ρ' : List SD} {σ σ' : L2.St} {H H' G G' : Hp} {c : Addr} {u : HO}
end
end Fm

set_option maxHeartbeats 1990000
namespace Fm
open L2 PySem PySem.Spec PyProof.Rows

/-- the def that is handed the lambda: its slot 0 is the lambda's; t: what the trying gave -/
def runT (g : D → List SD → Option (List SD)) (N : Nat) (s : S) (t : D) (ds : List D) : FR := match g t (SD.un :: (ds.map SD.va ++ List.replicate (N - ds.length) SD.un)) with
  | some ρ => match s ρ with
    | .ok .nx _ => .ok (.va .non) []
    | .ok (.rt (.va d)) _ => .ok (.va d) []
    | .ex x _ => .ex x []
    | _ => .no
  | none => .no
def toldK (fn : D → List D → FR) (ds : List D) (r : SD) : M SD := fun ρ => match r with
  | .va t => match fn t ds with
    | .ok (.va d) _ => .ok (.va d) ρ
    | .ex x _ => .ex x ρ
    | _ => .no
  | _ => .no
def mTold (hit : String → Bool) (f : Str) (fn : D → List D → FR) (m : M SD) (n : M (List D)) : M SD := n.bind fun ds => (mTried hit f m).bind (toldK fn ds)
section
variable {κ : Ctx} {W : WX} {B : Bas} {ρ : List SD} {σ : L2.St} {H G : Hp} {g : D → List SD → Option (List SD)} {s : S} {t : D} {ds : List D} {v fl : V} {vs : List V} {N : List Str} {a : Str} {Q : VK} {l : List Nat}
end
end Fm

set_option maxHeartbeats 1990000
namespace Fm
open L2 PySem PySem.Spec PyProof.Rows

/-- the rest of a def that is handed a lambda -/
def RestOk (P : Program) (w : World) (K : PySem.W.Frag) (mg : Str → Option Value) (base : Heap) (κ : Ctx) (x : Str) (k : Nat) (N : List Str) (sc : Scope) (f : Addr) (fd : FuncData) (tg : Expr) (rest : List Stmt) (vs : List Nat) (g : D → List SD → Option (List SD)) (s : S) : Prop :=
  ∀ (cdv : Value) (Ar : Around) (outer : List Env) (s0 : Shared) (H : Hp) (E : XK), fd.code = cdv → Room k (Ar.deeper (envOfC x sc s0.heap.objs.size f cdv)) →
    PG (cxOf (L2.CX P w) P w K mg base N x sc f cdv Ar outer s0 H E) tg (tG κ [] vs g) ∧ PSs (cxOf (L2.CX P w) P w K mg base N x sc f cdv Ar outer s0 H E) rest (tS κ [] (fun cls d _ H => E cls d H) s)
theorem RestOk.mono {P : Program} {w : World} {K : PySem.W.Frag} {mg : Str → Option Value} {base : Heap} {κ : Ctx} {x : Str} {j k : Nat} {N : List Str} {sc : Scope} {f : Addr} {fd : FuncData} {tg : Expr} {rest : List Stmt} {vs : List Nat} {g : D → List SD → Option (List SD)} {s : S}
    (h : RestOk P w K mg base κ x j N sc f fd tg rest vs g s) (l : j ≤ k) : RestOk P w K mg base κ x k N sc f fd tg rest vs g s := fun cdv Ar outer s0 H E hc hr => h cdv Ar outer s0 H E hc (hr.mono l)
/-- the target of a body's first statement -/
def tgtOf : List Stmt → Expr
  | .Assign [t] _ _ :: _ => t
  | _ => .Constant .none 0 ⟨0, 0, 0, 0⟩
section
variable {X : Cx} {κ : Ctx} {W : WX} {x xt a at_ nf nw n xm xk f : Str} {g gt CM CK : Addr} {sg sgt scope : Scope} {pg pgt params : Arguments} {fd fdt : FuncData} {body : Expr} {m : M SD} {ml : M (List D)} {hit : String → Bool} {c P : Addr} {k kt j : Nat} {es : List Expr} {tgT : Expr} {rest : List Stmt} {Nt pst : List Str} {sT : S} {gT : D → List SD → Option (List SD)} {vsT : List Nat} {p pt pos lpos p1 p2 p3 p4 p5 p6 p7 p8 p9 q1 q2 q3 q4 q5 q6 q7 q8 q9 r1 r2 r3 r4 r5 o1 o2 o3 o4 u1 u2 u3 u4 : Pos} {j1 j2 j3 : Nat}
end
end Fm

set_option maxHeartbeats 990000
namespace Fm
open PySem.W PyProof.Rows PySem
section
variable {prog : Program} {w : World} {Ar : Around} {Er : Value → Shared → Prop} {s : Shared} {K : Frag} {x C L f : Addr} {h₀ : Heap} {m : Str → Option Value} {ox : Obj} {od : Option Obj} {b tb : Value}
end
end Fm

set_option maxHeartbeats 990000
namespace Fm
open L2 PySem PySem.Spec PyProof.Rows

/-! ### isinstance(x, C), C an own class -/
structure InsF (K : PySem.W.Frag) (C : Addr) : Prop where
  ha : (PySem.W.findIn K (.ref C) "__class__" = some (some (.builtin "object.__class__")))
  hn : (PySem.W.specialIn K (.builtin "object.__class__") "__get__" = some (some (.builtin "getset_descriptor.__get__")))
  htk : (PySem.W.takesIn K (.builtin "object.__class__") = some true)
  hm : (PySem.W.mroIn K C (.type "object") = some true)
  own : PySem.W.kitOne K (.ref C) (.ref C) = some true
  no : ∀ t ∈ ["NoneType", "bool", "int", "str", "tuple", "list", "dict"], PySem.W.kitOne K (.type t) (.ref C) = some false
def isCD (c : String) (d : D) : Option SD := match d with
  | .ins _ c1 _ => if c1 = c then some (.va (.bl true)) else none
  | d => if d.kind.isSome then some (.va (.bl false)) else none
section
variable {X : Cx} {κ : Ctx} {W : WX} {c : String}
end
/-! ### x == y, x != y by an own == -/
def eqID (c : String) (pol : Bool → Bool) (fs : List SD → FR) (d e : D) : Option SD := match d, e with
  | .ins b c1 l, .ins b2 c2 l2 => if c1 = c ∧ c2 = c then match fs [.va (.ins b c1 l), .va (.ins b2 c2 l2)] with
    | .ok (.va (.bl r)) _ => some (.va (.bl (pol r)))
    | _ => none
    else none
  | _, _ => none
def rEqI (C : Addr) (sp : Sp) (pol : Bool → Bool) : R2 := fun x y H Q => ∃ a b dx dy fs gs, x = .ref a ∧ y = .ref b ∧ H a = some (.ins C dx fs) ∧ H b = some (.ins C dy gs) ∧ sp [x, y] H (fun v H' => ∃ r, v = .bl r ∧ Q (.bl (pol r)) H') fun _ _ _ => False
section
variable {X : Cx} {κ : Ctx} {c : String} {k : Nat} {ps : List Str} {fs : List SD → FR} {f : Addr} {fd : FuncData}
end
/-! ### == of dicts that are equal -/
def sameF : D → D → Bool
  | .int a, .int b => a == b
  | .bl a, .bl b => a == b
  | .str a, .str b => a == b
  | _, _ => false
def eqKB (l m : List (Key × D)) : Bool := decide (l.length = m.length) && l.all fun p => match getK m p.1 with
  | some d => sameF p.2 d
  | none => false
def eq3D (d e : D) : Option SD := match d, e with
  | .dk _ l, .dk _ m => if eqKB l m then some (.va (.bl true)) else none
  | d, e => eqD d e
section
variable {X : Cx} {κ : Ctx}
def rEqDR : R2 := fun x y H Q => ∃ a b ks ls, x = .ref a ∧ y = .ref b ∧ Rd H a (.dK ks) ∧ Rd H b (.dK ls) ∧ ks.length = ls.length ∧ (∀ p ∈ ks, valV ls p.1 = some p.2 ∧ flatB p.2 = true) ∧ Q (.bl true) H
end
end Fm

set_option maxHeartbeats 1990000
namespace Fm
open L2 PySem PySem.Spec PyProof.Rows

/-! ### all([f(x[k], y[k]) for k in y]), x and y dicts of flat values -/
def sameB (fn : List SD → FR) (d e : D) : Option Bool := match fn [.va d, .va e] with
  | .ok (.va (.bl r)) _ => some r
  | _ => none
def allS (fn : List SD → FR) (l m : List (Key × D)) : List (Key × D) → Option (List Bool)
  | [] => some []
  | p :: r => match getK l p.1, getK m p.1 with
    | some d, some e => if (flatD d && flatD e) = true then (sameB fn d e).bind fun b => (allS fn l m r).map (b :: ·) else none
    | _, _ => none
def mAllS (fn : List SD → FR) (i j : Nat) : M SD := fun ρ => match ρ[i]?, ρ[j]? with
  | some (.va (.dk _ l)), some (.va (.dk _ m)) => if m.length ≤ 1000000 then match allS fn l m m with
    | some bs => .ok (.va (.bl (bs.all id))) ρ
    | none => .no
    else .no
  | _, _ => .no
theorem allS_len {fn : List SD → FR} {l m : List (Key × D)} : ∀ {r : List (Key × D)} {bs : List Bool}, allS fn l m r = some bs → bs.length = r.length
  | [], bs, h => by cases h; rfl
  | p :: r, bs, h => by
    unfold allS at h
    split at h
    · split at h
      · obtain ⟨b, _, h⟩ := Option.bind_eq_some_iff.mp h
        obtain ⟨cs, h2, rfl⟩ := Option.map_eq_some_iff.mp h
        rw [List.length_cons, List.length_cons, allS_len h2]
      · cases h
    · cases h
theorem allS_at {fn : List SD → FR} {l m : List (Key × D)} : ∀ {r : List (Key × D)} {bs : List Bool} {i : Nat} {p : Key × D}, allS fn l m r = some bs → r[i]? = some p → ∃ d e b, getK l p.1 = some d ∧ getK m p.1 = some e ∧ flatD d = true ∧ flatD e = true ∧ sameB fn d e = some b ∧ bs[i]? = some b
  | [], bs, i, p, h, hp => by simp at hp
  | q :: r, bs, i, p, h, hp => by
    unfold allS at h
    split at h
    · rename_i d e h1 h2
      split at h
      · rename_i hf
        obtain ⟨f1, f2⟩ := and2 hf
        obtain ⟨b, hb, h⟩ := Option.bind_eq_some_iff.mp h
        obtain ⟨cs, h3, rfl⟩ := Option.map_eq_some_iff.mp h
        cases i with
        | zero =>
          cases hp
          exact ⟨d, e, b, h1, h2, f1, f2, hb, rfl⟩
        | succ i =>
          have hp : r[i]? = some p := hp
          exact allS_at (r := r) (bs := cs) (i := i) h3 hp
      · cases h
    · cases h
theorem flat_any {κ : Ctx} {T T' : Pd} {G G' : Hp} {d : D} {v : V} (h : flatD d = true) (r : Rep κ T G d v) : Rep κ T' G' d v := by
  cases d <;> first
    | exact r
    | exact Bool.noConfusion (show false = true from h)
theorem repK_at {κ : Ctx} {T : Pd} {G : Hp} : ∀ {l : List (Key × D)} {vs : List (Key × V)} {i : Nat} {k : Key} {v : V}, RepK κ T G l vs → vs[i]? = some (k, v) → ∃ d, l[i]? = some (k, d)
  | [], vs, i, k, v, h, e => by
    rw [show vs = [] from h] at e
    simp at e
  | (k0, d) :: l, vs, i, k, v, h, e => by
    obtain ⟨v0, ws, rfl, h1, h2⟩ := h
    cases i with
    | zero =>
      cases e
      exact ⟨d, rfl⟩
    | succ i => exact repK_at (l := l) h2 e
/-- the reading of f(x[k], y[k]) -/
abbrev tEltS (K : PySem.W.Frag) (sp : Sp) (i j p : Nat) : TE := tCallS sp (fun _ _ _ _ => False) (tCons (tOp (rIx3 K) (tVar i) (tVar p)) (tCons (tOp (rIx3 K) (tVar j) (tVar p)) tNil))
section
variable {X : Cx} {κ : Ctx} {W : WX} {f_ x1 x2 xp : Str} {k k' i j p : Nat} {fn : List SD → FR} {fa : Addr} {fd : FuncData} {ps : List Str} {q1 q2 q3 q4 q5 q6 q7 q8 q9 pos : Pos}
theorem elt_s (C : Callee X.prog X.w X.K X.mg X.base κ f_ k ps fn fa fd) (hb : Binds X.K fd ps []) (hl : ps.length = 2) (hr : Room k' X.A) (hk : k ≤ k') (hu : X.A.units + 65 < cLine) (hg : Gl X f_) (hx : PassW X fun _ _ _ _ => False) (h1 : PE X (.Name x1 q1) (tVar i)) (h2 : PE X (.Name x2 q2) (tVar j)) (h3 : PE X (.Name xp q3) (tVar p)) (h4 : PE X (.Name xp q4) (tVar p))
    (s1 : PlainIx (.Name xp q3)) (s2 : PlainIx (.Name xp q4)) (hdb : (f_ == ("__debug__" : Str)) = false := by decide) : PE X (.Call (.Name f_ q5) [.Subscript (.Name x1 q1) (.Name xp q3) q6, .Subscript (.Name x2 q2) (.Name xp q4) q7] [] q8) (tEltS X.K (spF κ 2 fn) i j p) :=
  pe_callS (E := fun _ _ _ _ => False) (hl ▸ C.ok) (hr.mono hk) hg C.gl C.kp hb hx (pa_cons (pe_ix (ix_3 (by omega)) h1 h3 s1) (pa_cons (pe_ix (ix_3 (by omega)) h2 h4 s2) pa_nil)) hdb
theorem e_allsame {elt : Expr} {scope : Scope} {pa : Pos} (hK : X.K = κ.K) (hc : X.calm = true) (hN : X.N.Nodup) (hgl : Gl X "all") (hm : X.mg "all" = none) (hv : bootBuiltins "all" = some (.builtin "all")) (ok : BlkOk X.N X.env.scope scope [(xp, p)])
    (hy : PE X (.Name x2 q1) (tVar j)) (hg : ∀ (s : Shared) (H : Hp) (C : Addr) (cl : List (Str × Addr)) (fp : List Addr), PG (X.blk s H scope (compEnvC scope cl C X.env) fp) (.Name xp q2) (gName p))
    (he : ∀ (s : Shared) (H : Hp) (C : Addr) (cl : List (Str × Addr)) (fp : List Addr), PE (X.blk s H scope (compEnvC scope cl C X.env) fp) elt (tEltS X.K (spF κ 2 fn) i j p)) (hip : i ≠ p) (hjp : j ≠ p)
    (hs : ∀ x, foldedSetIterable (.Name x2 q1) X.env x = pure x := by intro _; rfl) (h1 : starEach [.ListComp elt [⟨.Name xp q2, .Name x2 q1, [], 0⟩] scope q3] X.env = (false, eval (.ListComp elt [⟨.Name xp q2, .Name x2 q1, [], 0⟩] scope q3) X.env) :: starEach [] X.env := by rfl) :
    PE X (.Call (.Name "all" pa) [.ListComp elt [⟨.Name xp q2, .Name x2 q1, [], 0⟩] scope q3] [] pos) (tE κ W (mAllS fn i j)) := by
  have inner := pe_callB (p := pa) (pos := pos) (cr_all (X := X) hc) hgl hm hv (pa_cons (pe_lc (pos := q3) hc hN (pi_keys (tg := .Name xp q2) hy) ok hg (fun _ _ _ _ _ => pts_nil) he hs) pa_nil h1) (by decide) (by decide) h1 rfl
  refine ⟨fun pins s σ H Q I ⟨B, ρ, G, o, q⟩ => ?_⟩
  have q0 : Pst κ W B σ G (match ρ[i]?, ρ[j]? with
    | some (.va (.dk _ l)), some (.va (.dk _ m)) => if m.length ≤ 1000000 then match allS fn l m m with
      | some bs => .ok (.va (.bl (bs.all id))) ρ
      | none => .no
      else .no
    | _, _ => .no : Rs SD) fun r ρ' H' G' => ∀ (v : V), RepR κ B ρ' σ H' G' r v → Q v H' := q
  split at q0
  case h_2 => exact q0.elim
  rename_i b1 l b2 m ei ej
  split at q0
  case isFalse => exact q0.elim
  rename_i hlen
  split at q0
  case h_2 => exact q0.elim
  rename_i bs hbs
  obtain ⟨v1, s1, r1⟩ := o.val i _ ei
  obtain ⟨v2, s2, r2⟩ := o.val j _ ej
  obtain ⟨a1, vs, rfl, ⟨g1, _⟩, rl⟩ := r1
  obtain ⟨a2, ws, rfl, ⟨g2, _⟩, rm⟩ := r2
  have H1 : Rd H a1 (.dK vs) := Rd.mono o.fr.gh g1.rd
  have one : a1 = a2 → vs = ws := fun z => by
    subst z
    rcases g1 with g1 | ⟨_, o1, g1⟩ <;> rcases g2 with g2 | ⟨_, o2, g2⟩ <;> (rw [g1] at g2; cases g2; try rfl)
  obtain ⟨od, IL, h2t, h2c, ulk⟩ : ∃ od, Inv X pins σ (upd H a2 (.frz od (.dK ws))) s ∧ (∀ ps, H a2 ≠ some (.tbl ps)) ∧ (∀ (c : Addr) (q : Str), H a2 ≠ some (LamX.CodeO c q)) ∧
      ∀ {H' : Hp} {s' : Shared}, Inv X pins σ H' s' → H' a2 = some (.frz od (.dK ws)) → ∃ H'', Inv X pins σ H'' s' ∧ H'' a2 = H a2 ∧ ∀ b, b ≠ a2 → H'' b = H' b := by
    rcases g2 with g2 | ⟨_, o2, g2⟩
    · have H2 := o.fr.gh _ _ g2
      obtain ⟨od, IL⟩ := I.lock H2 True.intro
      have nf := I.nofrz H2 True.intro
      refine ⟨od, IL, (fun ps z => by rw [H2] at z; cases z), (fun c q z => by rw [H2] at z; unfold LamX.CodeO at z; cases z), fun {H' s'} I' hl => ⟨upd H' a2 (.dK ws), I'.unlock hl nf, by rw [upd_same, H2], fun b hb => upd_ne hb⟩⟩
    · have H2 := o.fr.gh _ _ g2
      have e : upd H a2 (.frz o2 (.dK ws)) = H := funext fun b => by
        by_cases z : b = a2
        · rw [z, upd_same, H2]
        · rw [upd_ne z]
      exact ⟨o2, (by rw [e]; exact I), (fun ps z => by rw [H2] at z; cases z), (fun c q z => by rw [H2] at z; unfold LamX.CodeO at z; cases z), fun {H' s'} I' hl => ⟨H', I', by rw [hl, H2], fun b _ => rfl⟩⟩
  have wl : ws.length = m.length := rm.length
  have bl : bs.length = ws.length := by rw [allS_len hbs, wl]
  have eL : LamX.ExtN H (upd H a2 (.frz od (.dK ws))) → True := fun _ => trivial
  have ti : (tVar i : TE) = tVar i := rfl
  refine wpAny_mono (inner.run pins s σ (upd H a2 (.frz od (.dK ws))) (fun v H' => v = .bl (bs.all id) ∧ H' a2 = some (.frz od (.dK ws)) ∧ LamX.ExtN (upd H a2 (.frz od (.dK ws))) H' ∧ LamX.Tabs κ.tabs H') IL ?_) (fun v s' ⟨v', H', I', rv, ev, hl, ex, tb⟩ => ?_) fun _ _ z => z
  · have tabL : LamX.Tabs κ.tabs (upd H a2 (.frz od (.dK ws))) := fun t ht => by
      obtain ⟨pp, t1, t2, t3⟩ := o.fr.tabs t ht
      have np : t.1 ≠ a2 := fun z => by
        rw [z] at t1
        exact h2t _ t1
      refine ⟨pp, by rw [upd_ne np]; exact t1, t2, fun pos cv hc => ?_⟩
      obtain ⟨cc, c1, c2⟩ := t3 pos cv hc
      have nc : cc ≠ a2 := fun z => by
        rw [z] at c2
        exact h2c _ _ c2
      exact ⟨cc, c1, by rw [upd_ne nc]; exact c2⟩
    refine ⟨.ref a2, s2, a2, od, rfl, .inl ⟨ws, upd_same, fun Dp hD => ?_⟩⟩
    have nD : Dp ≠ a2 := fun z => by
      rw [z, upd_same] at hD
      cases hD
    refine ⟨fun n c Hc => c = ws.length - n ∧ n ≤ ws.length ∧ Hc Dp = some (.lst ((bs.take n).map V.bl)) ∧ LamX.ExtN (upd H a2 (.frz od (.dK ws))) Hc ∧ LamX.Tabs κ.tabs Hc, ⟨ws.length, rfl, Nat.zero_le _, upd_same, fun b u e n => ?_, ?_⟩, ?_⟩
    · rw [upd_ne (ne_of_none e hD)]
      exact e
    · intro t ht
      obtain ⟨pp, t1, t2, t3⟩ := tabL t ht
      refine ⟨pp, by rw [upd_ne (ne_of_none t1 hD)]; exact t1, t2, fun pos cv hc => ?_⟩
      obtain ⟨cc, c1, c2⟩ := t3 pos cv hc
      exact ⟨cc, c1, by rw [upd_ne (ne_of_none c2 hD)]; exact c2⟩
    · rintro n c Hc ⟨rfl, hn, hDc, ex, tb⟩
      have lock : Hc a2 = some (.frz od (.dK ws)) := ex _ _ upd_same fun ps z => by cases z
      rcases Nat.lt_or_ge n ws.length with hlt | hge
      · refine .inr ⟨⟨lock, hlt⟩, fun H' => H' Dp = some (.lst ((bs.take (n + 1)).map V.bl)) ∧ LamX.ExtN (upd H a2 (.frz od (.dK ws))) H' ∧ LamX.Tabs κ.tabs H', fun H' z => ⟨ws.length - (n + 1), by omega, rfl, hlt, z⟩, ?_⟩
        rintro x H' ⟨rfl, k0, v0, ek, rfl⟩
        refine ⟨(wipe_set (vs := [p]) (List.mem_singleton.mpr rfl)).trans (wipe_wipe σ [p]), ?_⟩
        unfold tYes
        dsimp only
        rw [if_pos rfl]
        obtain ⟨d0, ed⟩ := repK_at rm ek
        obtain ⟨d, e, b, k1, k2, f1, f2, sb, eb⟩ := allS_at hbs ed
        obtain ⟨w1, y1, r3⟩ := (rl.val k0).1 d k1
        obtain ⟨w2, y2, r4⟩ := (rm.val k0).1 e k2
        have sp : ((wipe σ [p]).set p (some (kV k0)))[p]? = some (some (kV k0)) := by
          refine List.getElem?_set_self ?_
          rw [wipe_length]
          have z := ok.ix _ (List.mem_singleton.mpr rfl)
          have z2 := (List.getElem?_eq_some_iff.mp z).1
          have z3 := I.len
          omega
        have so : ∀ {a : Nat} {v : V}, a ≠ p → σ[a]? = some (some v) → ((wipe σ [p]).set p (some (kV k0)))[a]? = some (some v) := fun {a v} na e => by
          rw [List.getElem?_set_ne (Ne.symm na), wipe_out (by simpa using na)]
          exact e
        have rd1 : Rd H' a1 (.dK vs) := by
          by_cases z : a1 = a2
          · rw [one z, z]
            exact .inr ⟨od, lock⟩
          · rcases H1 with H1 | ⟨o1, H1⟩
            · exact .inl (ex _ _ (by rw [upd_ne z]; exact H1) fun ps z => by cases z)
            · exact .inr ⟨o1, ex _ _ (by rw [upd_ne z]; exact H1) fun ps z => by cases z⟩
        refine ⟨.ref a1, so hip s1, kV k0, sp, .inr ⟨a1, w1, rfl, .inl ⟨vs, k0, rd1, rfl, y1.symm⟩, ?_⟩⟩
        refine ⟨.ref a2, so hjp s2, kV k0, sp, .inr ⟨a2, w2, rfl, .inl ⟨ws, k0, .inr ⟨od, lock⟩, rfl, y2.symm⟩, ?_⟩⟩
        show spF κ 2 fn [w1, w2] H' _ _
        refine ⟨fun _ => False, fun _ => none, [.va d, .va e], rfl, ⟨⟨w1, [w2], rfl, flat_any f1 r3, w2, [], rfl, flat_any f2 r4, rfl⟩, List.nodup_nil, (fun _ _ z => nomatch z), (fun _ _ z => nomatch z), tb, fun _ z => z.elim⟩, ?_⟩
        unfold sameB at sb
        split at sb
        · rename_i r outs ef
          cases sb
          rw [ef]
          intro v Hn Gn af rv
          cases (show v = V.bl _ from rv)
          have keep : LamX.ExtN H' Hn := fun a u e n => af.keep a u e (by simp [ownP]) n
          refine ⟨(bs.take n).map V.bl, keep _ _ hDc fun ps z => (by cases z), ?_, ?_, ?_, ?_⟩
          · (rw [List.length_map, List.length_take])
            have : sizeLine = 16777216 := sizeLine_eq
            omega
          · rw [upd_same, List.take_add_one, eb, List.map_append]
            rfl
          · intro a u e n2
            have na : a ≠ Dp := ne_of_none e hD
            rw [upd_ne na]
            exact keep _ _ (ex _ _ e n2) n2
          · intro t ht
            obtain ⟨pp, t1, t2, t3⟩ := af.tabs t ht
            have hDn : Hn Dp = some (.lst ((bs.take n).map V.bl)) := keep _ _ hDc fun ps z => by cases z
            have np : t.1 ≠ Dp := fun z => by
              rw [z, hDn] at t1
              cases t1
            refine ⟨pp, by rw [upd_ne np]; exact t1, t2, fun pos cv hc => ?_⟩
            obtain ⟨cc, c1, c2⟩ := t3 pos cv hc
            have nc : cc ≠ Dp := fun z => by
              rw [z, hDn] at c2
              unfold LamX.CodeO at c2
              cases c2
            exact ⟨cc, c1, by rw [upd_ne nc]; exact c2⟩
        · cases sb
      · refine .inl ⟨⟨lock, hge⟩, ⟨Dp, bs, rfl, .inl (.inl ?_), rfl, lock, ex, tb⟩⟩
        rw [hDc, List.take_of_length_le (by omega)]
  · subst ev
    obtain ⟨H'', I'', u1, u2⟩ := ulk I' hl
    refine ⟨.bl (bs.all id), H'', I'', rv, ?_⟩
    have ex2 : LamX.ExtN H H'' := fun b u e n => by
      by_cases z : b = a2
      · rw [z, u1, ← z]
        exact e
      · rw [u2 b z]
        exact ex b u (by rw [upd_ne z]; exact e) n
    have tb2 : LamX.Tabs κ.tabs H'' := fun t ht => by
      obtain ⟨pp, t1, t2, t3⟩ := tb t ht
      have np : t.1 ≠ a2 := fun z => by
        rw [z, hl] at t1
        cases t1
      refine ⟨pp, by rw [u2 _ np]; exact t1, t2, fun pos cv hc => ?_⟩
      obtain ⟨cc, c1, c2⟩ := t3 pos cv hc
      have nc : cc ≠ a2 := fun z => by
        rw [z, hl] at c2
        unfold LamX.CodeO at c2
        cases c2
      exact ⟨cc, c1, by rw [u2 _ nc]; exact c2⟩
    exact q0 _ G (o.ext ex2 tb2) (Same.refl G) _ rfl
end
end Fm

set_option maxHeartbeats 390000
namespace Fm
open L2 PySem PySem.Spec PyProof.Rows

/-! ### try: clauses with a name and without -/
structure Cm where
  c : Value
  i : Option Nat
  ts : Addr → Value → Option Addr → TS
def endsM (D : Ends) : Option Nat → Ends
  | none => D
  | some i => Ends.less D i
def slotM (σ : L2.St) (a : Addr) : Option Nat → L2.St
  | none => σ
  | some i => σ.set i (some (.ref a))
def wMix (K : PySem.W.Frag) (Wout : WX) (D : Ends) : List Cm → WX
  | [] => Wout
  | q :: r => fun cls d σ H => ∃ b, PySem.W.exmOne K cls q.c = some b ∧ (b = true → ∀ a, H a = none → q.ts a cls d (endsM D q.i) (slotM σ a q.i) H) ∧ (b = false → wMix K Wout D r cls d σ H)
inductive MixOk (X : Cx) : List ExceptHandler → List Cm → Prop
  | nil : MixOk X [] []
  | named {x n : Str} {c : Value} {i : Nat} {ts : Addr → Value → Option Addr → TS} {b₀ : Stmt} {suite : List Stmt} {np pos : Pos} {hds : List ExceptHandler} {l : List Cm} (hc : Names X x c) (hi : X.N[i]? = some n) (hl : X.env.kindOf n = some .local)
      (go : ∀ (a : Addr) (oe : Obj) (cls : Value) (d : Option Addr) (pn : List (Addr × Obj)), Zc cls d oe → (∃ vs, oe.data = .fields vs) → PSs (X.suite a ((a, oe) :: pn)) (b₀ :: suite) (ts a cls d)) (r : MixOk X hds l) :
      MixOk X (.ExceptHandler (some (.Name x np)) (some n) (b₀ :: suite) pos :: hds) (⟨c, some i, ts⟩ :: l)
  | plain {x : Str} {c : Value} {ts : Addr → Value → Option Addr → TS} {b₀ : Stmt} {suite : List Stmt} {np pos : Pos} {hds : List ExceptHandler} {l : List Cm} (hc : Names X x c)
      (go : ∀ (a : Addr) (oe : Obj) (cls : Value) (d : Option Addr) (pn : List (Addr × Obj)), Zc cls d oe → (∃ vs, oe.data = .fields vs) → PSs (X.suite a ((a, oe) :: pn)) (b₀ :: suite) (ts a cls d)) (r : MixOk X hds l) :
      MixOk X (.ExceptHandler (some (.Name x np)) none (b₀ :: suite) pos :: hds) (⟨c, none, ts⟩ :: l)
section
variable {X : Cx} {pins : List (Addr × Obj)} {Wout : WX} {D : Ends}
end
end Fm

set_option maxHeartbeats 390000
namespace Fm
open L2 PySem PySem.Spec PyProof.Rows

/-! ### lost(lambda: e): no word, or a field of the exception -/
def mLost (pick : String → Option Bool) (f : Str) (m : M SD) : M SD := fun ρ => match fE m ρ with
  | .ok _ ρ' => .ok (.va (.str "")) ρ'
  | .ex x ρ' => match pick x.c with
    | some true => .ok (.va (.str "")) ρ'
    | some false => match x.fs.lookup f with
      | some w => .ok (.va w) ρ'
      | none => .no
    | none => .no
  | .no => .no
/-- of the classes: CM catches those for which pick says so, CK the others -/
structure LostK (K : PySem.W.Frag) (κ : Ctx) (CM CK : Value) (f : Str) (pick : String → Option Bool) : Prop where
  on : ∀ c b, pick c = some b → PySem.W.exmOne K (.ref (κ.cl c)) CM = some b ∧ (b = false → PySem.W.exmOne K (.ref (κ.cl c)) CK = some true ∧ XfC K (κ.cl c) ∧ PySem.W.findIn K (.ref (κ.cl c)) f = some none)
def TLost (K : PySem.W.Frag) (CM CK : Value) (f : Str) : (XK → Hp → VK → Prop) → Hp → VK → Prop := fun tl H Q =>
  tl (fun cls d H' => ∃ b, PySem.W.exmOne K cls CM = some b ∧ (b = true → Q (.str "") H') ∧ (b = false → PySem.W.exmOne K cls CK = some true ∧
    ∃ (C dd : Addr) (fs : List (Str × V)) (w : V), cls = .ref C ∧ XfC K C ∧ PySem.W.findIn K (.ref C) f = some none ∧ d = some dd ∧ H' dd = some (.xd fs) ∧ fs.lookup f = some w ∧ Q w H')) H fun _ H' => Q (.str "") H'
def tLWord (K : PySem.W.Frag) (f : Str) (a : Addr) (cls : Value) (d : Option Addr) : TS := fun D σ H => ∃ C, XfC K C ∧ PySem.W.findIn K (.ref C) f = some none ∧ tAsg (tXf a cls d C f (tVar 2)) (gName 1) D σ H
def tLNone (a : Addr) (cls : Value) (d : Option Addr) : TS := tAsg (tC (.str "")) (gName 1)
section
variable {X : Cx} {x a nf n xm xk f : Str} {g CM CK : Addr} {sg : Scope} {cdg : Value} {p1 p2 p3 p4 p5 p6 p7 p8 p9 q1 q2 q3 q4 q5 q6 q7 q8 q9 r1 r2 r3 r4 r5 o1 o2 : Pos} {j1 j2 : Nat}
end
end Fm

set_option maxHeartbeats 390000
namespace Fm
open L2 PySem PySem.Spec PyProof.Rows
section
variable {X : Cx} {κ : Ctx} {W : WX} {x a nf n xm xk f : Str} {g CM CK : Addr} {sg scope : Scope} {pg params : Arguments} {fd : FuncData} {body : Expr} {m : M SD} {pick : String → Option Bool} {c P : Addr} {k : Nat} {p pos lpos p1 p2 p3 p4 p5 q1 q2 q3 q4 q6 q7 q8 q9 r1 r2 r3 r4 r5 o1 o2 : Pos} {j1 j2 : Nat}
end
end Fm

set_option maxHeartbeats 390000
namespace Fm
open L2 PySem PySem.Spec PyProof.Rows

/-! ### x[k] as a target among others, x a name that owns its list -/
def gPut (i : Nat) (mk : M SD) : D → List SD → Option (List SD) := fun v ρ => match ρ[i]? with
  | some (.ow _) => match fE mk ρ with
    | .ok (.int j) ρ2 => match ρ2[i]? with
      | some (.ow (.lst b l)) => (ixN l.length j).map fun n => ρ2.set i (.ow (.lst b (l.set n v)))
      | _ => none
    | _ => none
  | _ => none
section
variable {X : Cx} {κ : Ctx} {W : WX} {A vs : List Nat} {i : Nat} {x : Str} {k : Expr} {mk : M SD} {p p2 : Pos}
end
end Fm

set_option maxHeartbeats 390000
namespace Fm
open L2 PySem PySem.Spec PyProof.Rows
/-! ### len(x), x a name that owns its list and goes on owning it -/
def SD.nOw : SD → Bool
  | .ow _ => false
  | _ => true
end Fm

set_option maxHeartbeats 1990000
namespace Fm
open L2 PySem PySem.Spec PyProof.Rows NdefX LamX Sj

/-! ### sorted(xs, key=lambda p: abs(p[0][y])) -/
section
variable {pins : List (Addr × Obj)} {X : Cx} {σ : L2.St} {H : Hp} {s : Shared}
/-- what holds while the keys are asked -/
def KeyJ (X : Cx) (pins : List (Addr × Obj)) (σ : L2.St) (H : Hp) (f : Addr) (o : Obj) : Shared → Prop := fun s' => L2.Inv X pins σ H s' ∧ s'.heap.get? f = some o
end
section
variable {X : Cx} {κ : Ctx} {W : WX} {e body : Expr} {m : M SD} {c P : Addr} {params : Arguments} {scope : Scope} {pn y : Str} {j k : Nat} {p pos lpos kpos : Pos}
end
end Fm

set_option maxHeartbeats 990000
namespace Fm
open L2 PySem PySem.Spec PyProof.Rows
/-! ### x.insert(i, y), x a name that owns its list -/
def insS (i : Nat) (ds : List D) : M SD := fun ρ => match ρ[i]?, ds with
  | some (.ow (.lst b l)), [.int k, v] => if l.length < 1000000 ∧ 0 ≤ k ∧ k < 2 ^ 62 then .ok (.va .non) (ρ.set i (.ow (.lst b (l.take k.toNat ++ [v] ++ l.drop k.toNat)))) else .no
  | _, _ => .no
def mIns (i : Nat) (n : M (List D)) : M SD := fun ρ => if isOwL ρ[i]? then (n.bind (insS i)) ρ else .no
section
variable {X : Cx} {κ : Ctx} {W : WX} {σ : L2.St} {H : Hp} {Q : VK}
abbrev rInsert : V → List V → Hp → VK → Prop := fun x vs H Q => ∃ (l : Addr) (xs : List V) (i : Int) (y : V), x = .ref l ∧ vs = [.int i, y] ∧ H l = some (.lst xs) ∧ xs.length < sizeLine ∧ 0 ≤ i ∧ i < 2 ^ 63 ∧
    Q .non (upd H l (.lst (xs.take i.toNat ++ [y] ++ xs.drop i.toNat)))
end
end Fm

set_option maxHeartbeats 390000
namespace Fm
open L2 PySem PySem.Spec PyProof.Rows Zs Zn

/-! ### enumerate(a tuple) -/
def IteT (K : PySem.W.Frag) (a : Addr) : It :=
  ⟨fun i H => ∃ xs x, SqT K H a xs ∧ xs[i]? = some x, fun i H v H' => ∃ t u, v = .ref t ∧ H t = none ∧ H' = upd H t (.tup [.int (i : Nat), u]) ∧ ∀ ys, SqT K H a ys → ys[i]? = some u, fun i H => ∃ xs, SqT K H a xs ∧ xs.length ≤ i⟩
/-- a tuple's iterator that stands behind the last item -/
theorem drawsEnd {prog : Program} {w : World} {A : Around} (hh : A.handled = none) {it t : Addr} {i : Nat} {items : Array Value} (hi : items[i]? = none) :
    Draws prog w A it [it, t] i (fun _ _ => True) (fun j h => j = i ∧ h.IsTupleIter it t i ∧ h.IsTuple t items) where
  live := fun _ _ ⟨_, ⟨o, ho, _⟩, _⟩ => ⟨o, ho⟩
  frame := fun _ _ _ ⟨e, y, z⟩ hk => ⟨e, y.at fun o q => hk it (by simp) o q, z.at fun o q => hk t (by simp) o q⟩
  item := fun j s Q E hj ⟨e, _⟩ _ => by omega
  done := fun s Q E ⟨_, y, z⟩ hE => wpAny_nextOf_tuple_end hh y z hi hE
theorem turn_enT {P : Program} {w : World} {K : PySem.W.Frag} {elts : List Expr} {kk : Nat} {tpos : Pos} (a e it : Addr) :
    Turn P w K (.Tuple elts kk tpos) (IteT K a) [e, it] e (fun i h => (∃ old, IsEnum h e it ((i : Nat) : Int) old) ∧ h.IsTupleIter it a i ∧ e ≠ it) where
  mem := by simp
  obj := fun i h ⟨⟨old, he⟩, ⟨o, ho, hc, hd⟩, _⟩ b hb => by
    rcases (show b = e ∨ b = it by simpa using hb) with z | z <;> subst z
    · exact ⟨_, he, fun v q => nomatch q⟩
    · exact ⟨o, ho, fun v q => by rw [hd] at q; cases q⟩
  keep := fun i h h' ⟨⟨old, he⟩, hi, hne⟩ k => ⟨⟨old, k e (by simp) _ he⟩, hi.at fun o q => k it (by simp) o q, hne⟩
  item := fun X e1 e2 e3 calm i pins s σ H E I hf ⟨⟨old, he⟩, hit, hne⟩ ⟨xs, x, hq, hx⟩ => by
    subst e1 e2 e3
    obtain ⟨its, rv, p, hz⟩ := (I.tuple hq)
    obtain ⟨u, hu, ru⟩ := (rv.get hx)
    have p' : s.heap.IsTuple a its.toArray := p
    have hel : (e < s.heap.objs.size) := (Heap.lt_size he)
    have hil : it < s.heap.objs.size := by
      obtain ⟨_, q, _⟩ := id hit
      exact Heap.lt_size q
    have hia : a ≠ it := fun z => by
      obtain ⟨o, q1, q2, _⟩ := id hit
      obtain ⟨o', r1, r2, _⟩ := id p'
      rw [z, q1] at r1
      cases r1
      rw [q2] at r2
      exact absurd r2 (by decide)
    have hea : e ≠ a := fun z => by
      obtain ⟨o', r1, r2, _⟩ := id p'
      rw [← z, he] at r1
      cases r1
      exact absurd (show Value.type "enumerate" = Value.type "tuple" from r2) (by decide)
    have hi : i < its.toArray.size := by
      have := (List.getElem?_eq_some_iff.mp hu).1
      simpa using this
    refine wpAny_pyNext_enum_itemD (Draws.tuple (A := X.A.in1) (show X.A.in1.handled = none from I.ok.hd calm) it a hia its.toArray) he ⟨hit, p'⟩ hi hne (by simp; exact ⟨hne, hea⟩) fun y h' tk hy ho hs hT hsz hk => ?_
    have ey : y = u := by
      have e1 : its.toArray[i]? = some y := hy
      rw [List.getElem?_toArray, hu] at e1
      exact (Option.some.inj e1).symm
    subst ey
    refine ⟨_, rfl, wpAny_letOwnedTupleGo_enum (s := { s with heap := h', toks := tk + 1 }) ho fun g he' sb => ?_⟩
    have hT2 : g.get? s.heap.objs.size = some { cls := .type "tuple", data := .seq #[.int i tk, y] } := (sb.2 _ (Nat.ne_of_gt hel)).trans hT
    have new : ObjOk X.prog X.w (upd H s.heap.objs.size (.tup [.int (i : Nat), x])) g s.heap.objs.size (.tup [.int (i : Nat), x]) :=
      ⟨Nat.le_trans (Nat.le_of_eq (show [V.int (i : Nat), x].length = 2 from rfl)) (by decide), [.int i tk, y], .cons ⟨_, rfl⟩ (.cons ru .nil), ⟨_, hT2, rfl, _, rfl⟩⟩
    refine ⟨.ref s.heap.objs.size, _, I.turnedNew (ch := [e, it]) (t' := tk + 1) (fun b ob hb q => (sb.2 b (fun z => hb (by simp [z]))).trans (hk b ob (fun z => hb (by simp [z])) (fun z => hb (by simp [z])) q)) hf (Nat.le_refl _) new, rfl,
      ⟨_, x, rfl, I.hok.fresh (Nat.le_refl _), rfl, fun ys hy => by rw [I.tuple_inj hy hq]; exact hx⟩, ⟨⟨y, ?_⟩, hs.1.at fun o q => (sb.2 it (Ne.symm hne)).trans q, hne⟩, fun b hb => ?_⟩
    · rw [show ((i + 1 : Nat) : Int) = (i : Int) + 1 by omega]
      exact he'
    · have hb' : (b < s.heap.objs.size) := by
        rcases (show b = e ∨ b = it by simpa using hb) with z | z <;> rw [z]
        · exact hel
        · exact hil
      (rw [upd_ne (Nat.ne_of_lt hb')])
      exact (hf b hb).1
  done := fun X e1 e2 e3 calm i pins s σ H E I hf ⟨⟨old, he⟩, hit, hne⟩ ⟨xs, hq, hx⟩ => by
    subst e1 e2 e3
    obtain ⟨its, rv, p, hz⟩ := (I.tuple hq)
    obtain ⟨f0, f1, f2, f3, f4, f5⟩ := (hf it (by simp))
    have hl := rv.length
    exact wpAny_pyNext_enum_endD (drawsEnd (A := X.A.in1) (show X.A.in1.handled = none from I.ok.hd calm) (it := it) (t := a) (i := i) (items := its.toArray) (by simp; omega)) he ⟨rfl, hit, p⟩ fun h' eb => ⟨rfl, I.turned (t' := s.toks) (fun b o hb q => eb b o hb q) f0 f1 f3 f4 f5⟩
  self := fun A i s Q E ⟨⟨_, he⟩, _⟩ h => wpAny_pyIter_enum he h
theorem meets_en1 {v : Value} {o : Obj} {H : Heap → Prop} (B : Begins v o H) :
    Meets (Builtin.«enumerate.__new__» ⟨[.type "enumerate", v], []⟩) (fun _ R s => H s.heap ∧
      R (.ok (.ret (.ref (s.heap.push o).objs.size))) { s with heap := (s.heap.push o).push { cls := .type "enumerate", data := .fields #[.none, .bool false, .ref s.heap.objs.size, rawInt 0, .none, .none] } }) :=
  Meets.of_wp fun prog w A R s h => by
    obtain ⟨hp, g, d, tk, os⟩ := (s)
    obtain ⟨h1, h⟩ := h
    have hsub := sub_enumerate
    have qq : ∀ {A' : Around} {E : Value → Shared → Prop} {Q : Value → Shared → Prop}, Q (.ref hp.objs.size) ⟨hp.push o, g, d, tk, os⟩ → wpAny (model prog w) A' (pyIter v) Q E ⟨hp, g, d, tk, os⟩ :=
      fun z => B.iter prog w _ _ ⟨hp, g, d, tk, os⟩ _ h1 z
    wp_walk using qq
    refine (wpAny_stack_any fun st => wpAny_pure ?_)
    split
    · rename_i c _ _ _ _ _
      cases (c == Value.type "enumerate") <;> (wp_walk using qq) <;> exact ⟨_, rfl, h⟩
    · wp_walk using qq
      exact ⟨_, rfl, h⟩
theorem call_en1 {prog : Program} {w : World} {A : Around} {E : Value → Shared → Prop} {s : Shared} {v : Value} {o : Obj} {H : Heap → Prop} {Q : Value → Shared → Prop} (B : Begins v o H) (h1 : H s.heap)
    (h : ∀ h', IsEnum h' (s.heap.objs.size + 1) s.heap.objs.size 0 .none → h'.get? s.heap.objs.size = some o → (∀ b o, s.heap.get? b = some o → h'.get? b = some o) → Q (.ref (s.heap.objs.size + 1)) { s with heap := h' }) :
    wpAny (model prog w) A (call (.type "enumerate") [v]) Q E s := by
  refine callType_new F.called_enumerate (by decide) (F.typeCall_enumerate_1 _) (F.newCall_enumerate_1 _) (fun obj => F.args_object_init_2 obj _) F.entry_enumerate_new (meets_en1 B) ⟨h1, ?_⟩
  have hz : ((s.heap.push o).objs.size = s.heap.objs.size + 1) := Heap.size_push ..
  show _ ∧ _
  rw [hz]
  have he : IsEnum ((s.heap.push o).push { cls := .type "enumerate", data := .fields #[.none, .bool false, .ref s.heap.objs.size, rawInt 0, .none, .none] }) (s.heap.objs.size + 1) s.heap.objs.size 0 .none := by
    have z := Heap.get?_push_size (s.heap.push o) (o := { cls := .type "enumerate", data := .fields #[.none, .bool false, .ref s.heap.objs.size, rawInt 0, .none, .none] }) rfl
    rw [hz] at z
    exact z
  exact ⟨⟨_, he, rfl⟩, h _ he (Heap.get?_push_of_some _ (Heap.get?_push_size _ B.free)) fun b o x => Heap.get?_push_of_some _ (Heap.get?_push_of_some _ x)⟩
def iEnuT (K : PySem.W.Frag) (ta : TA) : TI := fun σ H R => ta σ H fun vs H1 => ∃ a xs, vs = [.ref a] ∧ SqT K H1 a xs ∧ R (IteT K a) H1
theorem pi_enT {X : Cx} {e : Expr} {ta : TA} {p pos tpos : Pos} {elts : List Expr} {kk : Nat} (hg : Gl X "enumerate") (hm : X.mg "enumerate" = none) (ha : PA X [e] ta) (hs : starEach [e] X.env = [(false, eval e X.env)] := by rfl) :
    PI X (.Tuple elts kk tpos) (.Call (.Name "enumerate" p) [e] [] pos) (iEnuT X.K ta) := by
  refine (⟨fun pins s σ H R I h => ?_⟩)
  refine (Call_ (ld_blt I hg hm boot_enumerate (PyProof.Rows.callWith_type1 (thn (ha.run pos pins s σ H _ I h) fun us s1 ⟨vs, H1, I1, r1, q1⟩ => ?_) hs rfl)))
  obtain ⟨a, xs, ex, hq, q⟩ := (q1)
  subst ex
  obtain ⟨w1, rfl, e1⟩ := vals1 r1
  cases e1
  obtain ⟨its, rv, p', hz⟩ := I1.tuple hq
  refine call_en1 (begins_tuple a its.toArray) (show s1.heap.IsTuple a its.toArray from p') fun h' he hit hk => wpAny_pyIter_enum he ?_
  have I2 : (Inv X pins σ H1 { s1 with heap := h' }) := I1.kept (t' := s1.toks) hk
  refine ⟨s1.heap.objs.size + 1, [s1.heap.objs.size + 1, s1.heap.objs.size], _, _, H1, rfl, I2, turn_enT a (s1.heap.objs.size + 1) s1.heap.objs.size, ⟨⟨.none, he⟩, ⟨_, hit, rfl, rfl⟩, Nat.succ_ne_self _⟩, fun b hb => ?_, q⟩
  have hle : (s1.heap.objs.size ≤ b) := by
    rcases (show b = s1.heap.objs.size + 1 ∨ b = s1.heap.objs.size by simpa using hb) with z | z <;> rw [z]
    · exact Nat.le_add_right _ _
    · exact Nat.le_refl _
  exact (I1.fpOk hle (I1.hok.fresh hle))
theorem itd_enT {κ : Ctx} {T : Pd} {G0 : Hp} {a : Addr} {l : List D} {vs : List V} (hs : TupAt κ.K G0 a vs) (r : RepL κ T G0 l vs) : ItD κ T G0 (IteT κ.K a) (enP 0 l) := by
  intro i B ρ σ H G hT o s
  have q : SqT κ.K H a vs := hs.sq (s.trans o.fr.gh)
  have hl := r.length
  refine ⟨fun hi => ?_, fun hi => ⟨vs, q, by rw [enP_len] at hi; omega⟩, fun d hd x H' y => ?_⟩
  · rw [enP_len] at hi
    exact ⟨vs, vs[i]'(by omega), q, List.getElem?_eq_getElem _⟩
  · rw [enP_at, Nat.zero_add] at hd
    obtain ⟨c, hc, rfl⟩ := Option.map_eq_some_iff.mp hd
    obtain ⟨t, u, rfl, ht, rfl, f⟩ := y
    obtain ⟨v, h1, h2⟩ := r.get hc
    have g1 := f _ q
    rw [h1] at g1
    cases g1
    have sU : Same G (upd G t (.tup [.int (i : Nat), u])) := Same.upd (o.gnone ht)
    exact ⟨upd G t (.tup [.int (i : Nat), u]), o.alloc ht (fun _ z => by cases z), sU, Same.upd ht, t, [.int (i : Nat), u], rfl, .inl upd_same, .int (i : Nat), [u], rfl, rfl, u, [], rfl, Rep.mono (.of (s.trans sU)) c h2, rfl⟩
/-! ### enumerate(a list or a tuple) -/
def enM2 : D → M (List D)
  | .lst _ l => M.ret (enP 0 l)
  | .tup l => M.ret (enP 0 l)
  | _ => M.no
def iEn2 (m : M SD) : M (List D) := (fE m).bind enM2
theorem en_one {κ : Ctx} {W : WX} {B : Bas} {σ : L2.St} {G : Hp} {ρ : List SD} {m : M SD} {f : D → M (List D)} {R : It → Hp → Prop} (q : Pst κ W B σ G ((fE m).bind f ρ) fun l ρ' H' G' => ∀ J, ItD κ B.T G' J l → R J H') :
    Pst κ W B σ G (mCons m mNil ρ) fun ds ρ' H' G' => ∃ d, ds = [d] ∧ Pst κ W B σ G' (f d ρ') fun l ρ' H' G' => ∀ J, ItD κ B.T G' J l → R J H' := by
  have q := Pst.bind q
  cases e1 : fE m ρ with
  | ok d ρ' =>
    have e2 : mCons m mNil ρ = .ok [d] ρ' := by
      unfold mCons M.bind
      rw [e1] <;> rfl
    rw [e1] at q
    rw [e2]
    exact fun H' G' o' s => ⟨_, rfl, q H' G' o' s⟩
  | ex x ρ' =>
    have e2 : mCons m mNil ρ = .ex x ρ' := by
      unfold mCons M.bind
      rw [e1] <;> rfl
    rw [e1] at q
    rw [e2]
    exact q
  | no =>
    rw [e1] at q
    exact q.elim
theorem i_enum2 {X : Cx} {κ : Ctx} {W : WX} {e : Expr} {m : M SD} {p pos tpos : Pos} {elts : List Expr} {kk : Nat} (hK : X.K = κ.K) (hg : Gl X "enumerate") (hm : X.mg "enumerate" = none) (ha : PE X e (tE κ W m)) (hs : starEach [e] X.env = [(false, eval e X.env)] := by rfl) :
    PI X (.Tuple elts kk tpos) (.Call (.Name "enumerate" p) [e] [] pos) (tI κ W (iEn2 m)) := by
  refine PI.imp (PI.or (pi_enum hg hm (a_cons ha a_nil hs) hs) (pi_enT hg hm (a_cons ha a_nil hs) hs)) fun σ H R ⟨B, ρ, G, o, q⟩ => ?_
  have q1 := en_one q
  by_cases hd : ∃ b l ρ', fE m ρ = .ok (.lst b l) ρ'
  · obtain ⟨b, l, ρ1, e1⟩ := hd
    refine .inl ⟨B, ρ, G, o, ?_⟩
    have q2 : Pst κ W B σ G (mCons m mNil ρ) fun ds ρ' H' G' => ds = [.lst b l] ∧ ∃ d, ds = [d] ∧ Pst κ W B σ G' (enM2 d ρ') fun l ρ' H' G' => ∀ J, ItD κ B.T G' J l → R J H' := by
      have e2 : mCons m mNil ρ = .ok [.lst b l] ρ1 := by
        unfold mCons M.bind
        rw [e1] <;> rfl
      rw [e2] at q1 ⊢
      exact fun H' G' o' s => ⟨rfl, q1 H' G' o' s⟩
    refine Pst.mono q2 fun ds ρ' H' G' o' s ⟨e1, d, e2, z⟩ vs rs => ?_
    subst e1
    cases e2
    obtain ⟨v, us, rfl, r1, rfl⟩ := rs
    obtain ⟨a, ws, rfl, h1, h2, h3⟩ := r1.seqL o'.fr.gh
    refine ⟨a, ws, rfl, hK ▸ h2, ?_⟩
    rw [hK]
    exact Pst.ret z o' _ (itd_enum h1 h3)
  · refine .inr ⟨B, ρ, G, o, ?_⟩
    have q2 : Pst κ W B σ G (mCons m mNil ρ) fun ds ρ' H' G' => (∀ b l, ds ≠ [.lst b l]) ∧ ∃ d, ds = [d] ∧ Pst κ W B σ G' (enM2 d ρ') fun l ρ' H' G' => ∀ J, ItD κ B.T G' J l → R J H' := by
      cases e1 : fE m ρ with
      | ok d ρ' =>
        have e2 : mCons m mNil ρ = .ok [d] ρ' := by
          unfold mCons M.bind
          rw [e1] <;> rfl
        rw [e2] at q1 ⊢
        refine fun H' G' o' s => ⟨fun b l z => hd ⟨b, l, ρ', ?_⟩, q1 H' G' o' s⟩
        cases z
        exact e1
      | ex x ρ' =>
        have e2 : mCons m mNil ρ = .ex x ρ' := by
          unfold mCons M.bind
          rw [e1] <;> rfl
        rw [e2] at q1 ⊢
        exact q1
      | no =>
        have e2 : mCons m mNil ρ = .no := by
          unfold mCons M.bind
          rw [e1] <;> rfl
        rw [e2] at q1
        exact q1.elim
    refine Pst.mono q2 fun ds ρ' H' G' o' s ⟨n1, d, e2, z⟩ vs rs => ?_
    subst e2
    obtain ⟨v, us, rfl, r1, rfl⟩ := rs
    cases d with
    | lst b l => exact absurd rfl (n1 b l)
    | tup l =>
      obtain ⟨a, ws, rfl, h1, h3⟩ := r1
      refine ⟨a, ws, rfl, hK ▸ h1.sq o'.fr.gh, ?_⟩
      rw [hK]
      exact Pst.ret z o' _ (itd_enT h1 h3)
    | _ => exact z.elim

/-! ### reversed(a list) -/
def rvlM : D → M (List D)
  | .lst _ l => M.ret l.reverse
  | _ => M.no
def iRvl (m : M SD) : M (List D) := (fE m).bind rvlM
section
variable {ρ : List SD} {E : Exn → List SD → Prop} {pl : List D → List SD → Prop}
theorem w_en2 {m : M SD} (h : Wp (fE m) ρ (fun d ρ' => ∃ l, ((∃ b, d = .lst b l) ∨ d = .tup l) ∧ pl (enP 0 l) ρ') E) : Wp (iEn2 m) ρ pl E := w_bind (h.mono (fun d ρ' h => by
  obtain ⟨l, ⟨b, rfl⟩ | rfl, h⟩ := h <;> exact ⟨h⟩) fun _ _ z => z)
end
end Fm

set_option maxHeartbeats 390000
namespace Fm
open L2 PySem PySem.Spec PyProof.Rows Zs Zn
end Fm

set_option maxHeartbeats 390000
namespace Fm
open L2 PySem PySem.Spec PyProof.Rows Zs Zn
def EnP (d : D) (p : List D → Prop) : Prop := ∃ l, ((∃ b, d = .lst b l) ∨ d = .tup l) ∧ p (enP 0 l)
def RvP (d : D) (p : List D → Prop) : Prop := ∃ b l, d = .lst b l ∧ p l.reverse
section
variable {ρ : List SD} {E : Exn → List SD → Prop} {pl : List D → List SD → Prop} {p : List D → Prop} {l : List D} {b : Bool}
theorem w_en3 {m : M SD} (h : Wp (fE m) ρ (fun d ρ' => EnP d fun l => pl l ρ') E) : Wp (iEn2 m) ρ pl E := w_en2 h
theorem o_enL (h : p (enP 0 l)) : EnP (.lst b l) p := ⟨l, .inl ⟨b, rfl⟩, h⟩
end
end Fm

set_option maxHeartbeats 390000
namespace Fm
open L2 PySem PySem.Spec PyProof.Rows
end Fm

set_option maxHeartbeats 390000
namespace Fm
open L2 PySem PySem.Spec PyProof.Rows
/-! ### max of two numbers -/
def max2D : List D → Option SD
  | [.int i, .int j] => some (.va (.int (if j > i then j else i)))
  | _ => none
end Fm

set_option maxHeartbeats 390000
namespace Fm
open L2 PySem PySem.Spec PyProof.Rows
/-! ### l.index(x), a list's method -/
def tIdx (K : PySem.W.Frag) (to te : TE) : TE := fun σ H Q => to σ H fun x H1 => tyV K "list" x H1 ∧ te σ H1 fun y H2 => rIndexD K x [y] H2 Q
def idxD (b : Bool) (l : List D) (e : D) : Option SD := if e.pl 60 && (D.lst b l).pl 60 then (l.findIdx? fun x => peq x e).map fun (j : Nat) => SD.va (.int (j : Int)) else none
def mIdx (ma mb : M SD) : M SD := (fE ma).bind fun d => match d with
  | .lst b l => (fE mb).bind fun e => M.opt (idxD b l e)
  | _ => M.no
section
variable {ρ : List SD} {E : Exn → List SD → Prop} {p : SD → List SD → Prop}
end
end Fm

set_option maxHeartbeats 990000
namespace Fm
open L2 PySem PySem.Spec PyProof.Rows
/-! ### {k: v}, one pair: the new dict stands empty while the pair is found -/
def mD1 (mk mv : M SD) : M SD := (fE mk).bind fun k => (fE mv).bind fun v => M.opt ((keyOf k).map fun j => .ow (.dk false [(j, v)]))
section
variable {κ : Ctx} {W : WX} {B : Bas} {ρ : List SD} {σ : L2.St} {H G : Hp} {p : Addr}
abbrev sideB (B : Bas) (p : Addr) : Bas := ⟨upd B.H p (.dK []), B.G, B.T, B.an⟩
theorem side_in (o : Ok κ B ρ σ H G) (hp : H p = none) : Ok κ (sideB B p) ρ σ (upd H p (.dK [])) G := by
  have hg := o.gnone hp
  have hb := o.bnone hp
  have bg : B.G p = none := by
    cases z : B.G p with
    | none => rfl
    | some u =>
      have := o.fr.sub p u z
      rw [hg] at this
      cases this
  have o' : Ok κ B ρ σ (upd H p (.dK [])) G := o.allocOwn hp
  refine ⟨⟨fun a u h n => ?_, fun a ps h => ?_, fun a h => ?_, o.fr.sub, o'.fr.gh, o.fr.notb, o'.fr.tabs, fun a h => ?_⟩, o.len, o.val, fun j d z => ?_, o.sep, o.anch⟩
  · have h : upd B.H p (.dK []) a = some u := h
    by_cases ha : a = p
    · rw [ha, upd_same] at h ⊢
      exact h
    · rw [upd_ne ha] at h
      exact o'.fr.keep a u h n
  · have h : upd B.H p (.dK []) a = some (.tbl ps) := h
    by_cases ha : a = p
    · rw [ha, upd_same] at h
      cases h
    · rw [upd_ne ha] at h
      exact o.fr.nt a ps h
  · have h : upd B.H p (.dK []) a ≠ none := h
    show G a = B.G a
    by_cases ha : a = p
    · rw [ha, hg, bg]
    · rw [upd_ne ha] at h
      exact o.fr.frz a h
  · show upd B.H p (.dK []) a ≠ none
    by_cases ha : a = p
    · rw [ha, upd_same]
      exact fun z => nomatch z
    · rw [upd_ne ha]
      exact o.fr.lent a h
  · obtain ⟨q, h1, h2, h3, h4⟩ := o'.own j d z
    obtain ⟨q', k1, k2, k3, k4⟩ := o.own j d z
    rw [h1] at k1
    cases k1
    obtain ⟨u, k5, _⟩ := k4.obj
    have nq : q ≠ p := ne_of_none k5 hp
    exact ⟨q, h1, h2, by show upd B.H p _ q = none; rw [upd_ne nq]; exact h3, h4⟩
theorem side_out (o : Ok κ (sideB B p) ρ σ H G) (hb : B.H p = none) (tb : ¬ B.T p) : Ok κ B ρ σ H G := by
  refine ⟨⟨fun a u h n => ?_, fun a ps h => ?_, fun a h => ?_, o.fr.sub, o.fr.gh, o.fr.notb, o.fr.tabs, fun a h => ?_⟩, o.len, o.val, fun j d z => ?_, o.sep, o.anch⟩
  · refine o.fr.keep a u ?_ n
    show upd B.H p _ a = some u
    rw [upd_ne (fun z => by rw [z, hb] at h; cases h)]
    exact h
  · refine o.fr.nt a ps ?_
    show upd B.H p _ a = some _
    rw [upd_ne (fun z => by rw [z, hb] at h; cases h)]
    exact h
  · refine o.fr.frz a ?_
    show upd B.H p _ a ≠ none
    rw [upd_ne (fun z => by rw [z, hb] at h; exact h rfl)]
    exact h
  · have := o.fr.lent a h
    have na : a ≠ p := fun z => tb (by rw [← z]; exact h)
    have h2 : upd B.H p (.dK []) a ≠ none := this
    rw [upd_ne na] at h2
    exact h2
  · obtain ⟨q, h1, h2, h3, h4⟩ := o.own j d z
    have h3 : upd B.H p (.dK []) q = none := h3
    have nq : q ≠ p := fun y => by rw [y, upd_same] at h3; cases h3
    rw [upd_ne nq] at h3
    exact ⟨q, h1, h2, h3, h4⟩
theorem side_at (o : Ok κ (sideB B p) ρ σ H G) : H p = some (.dK []) := o.fr.keep p _ (show upd B.H p _ p = _ from upd_same) fun ps z => by cases z
theorem side_g (o : Ok κ (sideB B p) ρ σ H G) (bg : B.G p = none) : G p = none := (o.fr.frz p (by show upd B.H p _ p ≠ none; rw [upd_same]; exact fun z => nomatch z)).trans bg
theorem side_ow (o : Ok κ (sideB B p) ρ σ H G) (j : Nat) (e : D) (h : ρ[j]? = some (SD.ow e)) : σ[j]? ≠ some (some (V.ref p)) := fun z => by
  obtain ⟨q, h1, h2, h3, h4⟩ := o.own j e h
  rw [z] at h1
  cases h1
  have h3 : upd B.H p (.dK []) p = none := h3
  rw [upd_same] at h3
  cases h3
theorem Pst.side {α : Type} {r : Rs α} {k : α → List SD → Hp → Hp → Prop} (hb : B.H p = none) (tb : ¬ B.T p) (h : Pst κ W B σ G r k) : Pst κ W (sideB B p) σ G r k := by
  cases r with
  | ok a ρ' => exact fun H' G' o s => h H' G' (side_out o hb tb) s
  | ex x ρ' => exact fun cls d H' G' o s q => h cls d H' G' (side_out o hb tb) s q
  | no => exact h
end
section
variable {X : Cx} {κ : Ctx} {W : WX} {a b k v e f : Expr} {ma mb mk mv : M SD} {pos : Pos}
/-! ### a value or another one, by truth -/
def truD : D → Option Bool
  | .non => some false
  | .bl b => some b
  | .int i => some (i != 0)
  | .str s => if s.length ≤ 1000000 then some ((s.length : Int) != 0) else none
  | .lst _ l => some (!l.isEmpty)
  | .tup l => some (!l.isEmpty)
  | .dk true l => some (!l.isEmpty)
  | _ => none
def mOrD (m n : M SD) : M SD := (fE m).bind fun d => (M.opt (truD d)).bind fun b => if b then M.ret (.va d) else n
/-- a comparison that reads a slot's own object; the slot owns it afterwards -/
theorem t_cmpL {op : CmpOp} {r : R2} {g : D → D → Option SD} (i : Nat) (ho : OpR X (compareOp op) r) (hr : OpD κ r g) (ha : PE X a (tE κ W ma)) (hb : PE X b (tE κ W mb)) (hm : behindInMarks op b = false) : PT X (.Compare a [op] [b] pos) (tT κ W (mTst (mLend i (mOp g ma mb)))) := by
  refine PT.imp (pt_cmpR ho ha hb hm) fun σ H Q q => op_ok hr ?_
  exact lend_ok (tst_ok q)
end
/-! ### x.pop(k), x.extend(e), x a name that owns its list; x.update(e), x a name that owns its dict -/
def popS (i : Nat) (ds : List D) : M SD := fun ρ => match ρ[i]?, ds with
  | some (.ow (.lst b l)), [.int k] => match l[k.toNat]? with
    | some d => if 0 ≤ k ∧ k < 2 ^ 62 then .ok (.va d) (ρ.set i (.ow (.lst b (l.eraseIdx k.toNat)))) else .no
    | none => .no
  | _, _ => .no
def mPop (i : Nat) (n : M (List D)) : M SD := fun ρ => if isOwL ρ[i]? then (n.bind (popS i)) ρ else .no
def extS (i : Nat) (ds : List D) : M SD := fun ρ => match ρ[i]?, ds with
  | some (.ow (.lst b l)), [.lst _ m] => if l.length + m.length ≤ 1000000 then .ok (.va .non) (ρ.set i (.ow (.lst b (l ++ m)))) else .no
  | _, _ => .no
def mExt (i : Nat) (n : M (List D)) : M SD := fun ρ => if isOwL ρ[i]? then (n.bind (extS i)) ρ else .no
def mergeKD (l m : List (Key × D)) : List (Key × D) := m.foldl (fun acc kv => putKD acc kv.1 kv.2) l
def updS (i : Nat) (d : D) : M SD := fun ρ => match ρ[i]?, d with
  | some (.ow (.dk b l)), .dk _ m => if l.length + m.length ≤ 1000000 then .ok (.va .non) (ρ.set i (.ow (.dk b (mergeKD l m)))) else .no
  | _, _ => .no
def isOwD : Option SD → Bool
  | some (.ow (.dk _ _)) => true
  | _ => false
def mUpd (i : Nat) (m : M SD) : M SD := fun ρ => if isOwD ρ[i]? then ((fE m).bind (updS i)) ρ else .no
theorem RepK.merge {κ : Ctx} {T : Pd} {G : Hp} : ∀ {m : List (Key × D)} {ws : List (Key × V)} {l : List (Key × D)} {vs : List (Key × V)}, RepK κ T G l vs → RepK κ T G m ws → RepK κ T G (mergeKD l m) (mergeK vs ws)
  | [], ws, l, vs, h, g => by
    rw [show ws = [] from g]
    exact h
  | (k, d) :: m, ws, l, vs, h, g => by
    obtain ⟨v, us, rfl, g1, g2⟩ := g
    exact RepK.merge (l := putKD l k d) (vs := putK vs k v) (RepK.put k h g1) g2
section
variable {X : Cx} {td ty : TE} {e o : Expr} {apos cpos : Pos}
def tDUpd (td ty : TE) : TE := fun σ H Q => td σ H fun x H1 => ∃ a, x = .ref a ∧ IsD H1 a ∧ ty σ H1 fun y H2 => ∃ (kvs : List (Key × V)) (b : Addr) (more : List (Key × V)), y = .ref b ∧ a ≠ b ∧ H2 a = some (.dK kvs) ∧ Rd H2 b (.dK more) ∧ kvs.length + more.length ≤ 1000000 ∧ Q .non (upd H2 a (.dK (mergeK kvs more)))
end
section
variable {X : Cx} {κ : Ctx} {W : WX} {σ : L2.St} {H : Hp} {Q : VK}
end
/-! ### the calculus -/
section
variable {ρ : List SD} {E : Exn → List SD → Prop} {p : SD → List SD → Prop}
theorem mixL_self : ∀ {l : List SD}, (l.all fun x => match x with | .ow c => c.nbO | _ => true) = true → mixL l l = some l
  | [], _ => rfl
  | .ow c :: l, h => by
    (rw [List.all_cons, Bool.and_eq_true] at h)
    show (if SD.nbS (.ow c) then (mixL l l).map (SD.ow c :: ·) else none) = _
    rw [mixL_self h.2, if_pos (show SD.nbS (.ow c) = true from h.1)]
    rfl
  | .va c :: l, h => by
    (rw [List.all_cons, Bool.and_eq_true] at h)
    show (mixL l l).map (SD.va c :: ·) = _
    rw [mixL_self h.2]
    rfl
  | .un :: l, h => by
    (rw [List.all_cons, Bool.and_eq_true] at h)
    show (mixL l l).map (SD.un :: ·) = _
    rw [mixL_self h.2]
    rfl
/-- what reads a slot's own object; other slots may own theirs -/
theorem w_lendY {i : Nat} {d : D} {m : M SD} (e : ρ[i]? = some (.ow d)) (hs : ((ρ.set i .un).all fun x => match x with | .ow c => c.nbO | _ => true) = true)
    (h : Wp m (ρ.set i (.va d.ln)) (fun r ρ1 => ρ1 = ρ.set i (.va d.ln) ∧ r.nbS = true ∧ p r ρ) NoX) : Wp (mLend i m) ρ p E := by
  have hi := (List.getElem?_eq_some_iff.mp e).1
  obtain ⟨h⟩ := h
  refine ⟨?_⟩
  have el : lendB i d ρ (ρ.set i (.va d.ln)) = some ρ := by
    have gen : ∀ (l : List SD) (k : Nat) (x : SD), mixL (l.set k .un) (l.set k .un) = some (l.set k .un) → mixL (l.set k .un) (l.set k x) = some (l.set k .un) := by
      intro l
      induction l with
      | nil => intro k x h; exact h
      | cons y l ih =>
        intro k x h
        cases k with
        | zero =>
          have h' : (mixL l l).map (SD.un :: ·) = some (SD.un :: l) := h
          exact h'
        | succ k =>
          cases y with
          | ow c =>
            have h' : (if SD.nbS (.ow c) then (mixL (l.set k .un) (l.set k .un)).map (SD.ow c :: ·) else none) = some (SD.ow c :: l.set k .un) := h
            show (if SD.nbS (.ow c) then (mixL (l.set k .un) (l.set k x)).map (SD.ow c :: ·) else none) = some (SD.ow c :: l.set k .un)
            split at h'
            · rename_i hc
              rw [if_pos hc]
              obtain ⟨o, o1, o2⟩ := Option.map_eq_some_iff.mp h'
              cases o2
              rw [ih k x o1]
              rfl
            · cases h'
          | va c =>
            have h' : (mixL (l.set k .un) (l.set k .un)).map (SD.va c :: ·) = some (SD.va c :: l.set k .un) := h
            show (mixL (l.set k .un) (l.set k x)).map (SD.va c :: ·) = some (SD.va c :: l.set k .un)
            obtain ⟨o, o1, o2⟩ := Option.map_eq_some_iff.mp h'
            cases o2
            rw [ih k x o1]
            rfl
          | un =>
            have h' : (mixL (l.set k .un) (l.set k .un)).map (SD.un :: ·) = some (SD.un :: l.set k .un) := h
            show (mixL (l.set k .un) (l.set k x)).map (SD.un :: ·) = some (SD.un :: l.set k .un)
            obtain ⟨o, o1, o2⟩ := Option.map_eq_some_iff.mp h'
            cases o2
            rw [ih k x o1]
            rfl
    unfold lendB
    rw [gen ρ i _ (mixL_self hs)]
    show some ((ρ.set i .un).set i (.ow d)) = _
    rw [List.set_set]
    congr 1
    refine (List.ext_getElem? fun j => ?_)
    by_cases hj : i = j
    · subst hj
      rw [List.getElem?_set_self hi, e]
    · rw [List.getElem?_set_ne hj]
  unfold mLend
  rw [e]
  dsimp only
  cases em : m (ρ.set i (.va d.ln)) with
  | ok r ρ1 =>
    rw [em] at h
    obtain ⟨h1, h2, h3⟩ := h
    subst h1
    dsimp only
    rw [if_pos h2, el]
    exact h3
  | ex x ρ1 =>
    rw [em] at h
    exact h.elim
  | no =>
    rw [em] at h
    exact h.elim
end
end Fm

set_option maxHeartbeats 990000
namespace Fm
open L2 PySem PySem.Spec PyProof.Rows
/-! ### range(i, j, -1) -/
def rngN (i : Int) (n : Nat) : List D := (List.range n).map fun k : Nat => D.int (i - (k : Int))
def rng3M : List D → M (List D)
  | [.int i, .int j, .int c] => if c = -1 ∧ -(2 ^ 62) ≤ i ∧ i < 2 ^ 62 ∧ -(2 ^ 62) ≤ j ∧ j < 2 ^ 62 then M.ret (rngN i (i - j).toNat) else M.no
  | _ => M.no
def iRg3 (n : M (List D)) : M (List D) := n.bind rng3M
section
variable {X : Cx} {κ : Ctx} {W : WX} {tg a b c : Expr}
end
end Fm

set_option maxHeartbeats 1990000
namespace Fm
open L2 PySem PySem.Spec PyProof.Rows
/-! ### != of dicts of plain data that are equal -/
def eqKP (l m : List (Key × D)) : Bool := decide (l.length = m.length) && l.all fun p => match getK m p.1 with
  | some d => (p.2.pl 60 && d.pl 60) && peq p.2 d
  | none => false
def ne4D (d e : D) : Option SD := match d, e with
  | .dk _ l, .dk _ m => if eqKP l m then some (.va (.bl false)) else none
  | d, e => neD d e
section
variable {X : Cx} {κ : Ctx}
def rNeDP (K : PySem.W.Frag) : R2 := fun x y H Q => ∃ a b ks ls, x = .ref a ∧ y = .ref b ∧ Rd H a (.dK ks) ∧ Rd H b (.dK ls) ∧ ks.length = ls.length ∧
  (∀ p ∈ ks, ∃ u d e, valV ls p.1 = some u ∧ Dp K H p.2 d ∧ Dp K H u e ∧ SeqAt.shaped d = true ∧ SeqAt.shaped e = true ∧ PyData.eqv d e = true) ∧ Q (.bl false) H
end
/-! ### for k in d: v = d[k]; .. while d is locked: what else is told must not be d -/
/-- entries that are not l -/
def dif : List (Key × D) → List (Key × D) → Bool
  | [], _ :: _ => true
  | _ :: _, [] => true
  | (_, .int _) :: _, (_, .tup _) :: _ => true
  | _, _ => false
mutual
/-- no dict within that is l -/
def D.nk (l : List (Key × D)) : D → Bool
  | .non => true
  | .bl _ => true
  | .int _ => true
  | .str _ => true
  | .ty _ => true
  | .tup xs => nkL l xs
  | .lst _ xs => nkL l xs
  | .dk _ m => dif m l && nkK l m
  | _ => false
def nkL (l : List (Key × D)) : List D → Bool
  | [] => true
  | d :: r => D.nk l d && nkL l r
def nkK (l : List (Key × D)) : List (Key × D) → Bool
  | [] => true
  | (_, d) :: r => D.nk l d && nkK l r
end
def SD.nk (l : List (Key × D)) : SD → Bool
  | .un => true
  | .va d => d.nk l
  | .ow (.lst _ xs) => nkL l xs
  | .ow (.dk _ m) => nkK l m
  | .ow _ => false
/-! ### a dict locked while it is walked -/
section
variable {κ : Ctx} {T : Pd} {G : Hp} {p : Addr} {od : Obj} {ws : List (Key × V)}
theorem tupAt_upd {u u' : HO} {a : Addr} {xs : List V} (gp : G p = some u) (n : ∀ ys, u ≠ .tup ys) (h : TupAt κ.K G a xs) : TupAt κ.K (upd G p u') a xs := by
  rcases h with h | h
  · have na : a ≠ p := fun z => by
      rw [z, gp] at h
      exact n xs (Option.some.inj h)
    exact .inl (by rw [upd_ne na]; exact h)
  · exact .inr h
theorem scrAt_upd {u u' : HO} {a : Addr} {xs : List V} (gp : G p = some u) (n : ∀ o ys, u ≠ .frz o (.lst ys)) (h : ScrAt κ.K G a xs) : ScrAt κ.K (upd G p u') a xs := by
  rcases h with ⟨o, h⟩ | h
  · have na : a ≠ p := fun z => by
      rw [z, gp] at h
      exact n o xs (Option.some.inj h)
    exact .inl ⟨o, by rw [upd_ne na]; exact h⟩
  · exact .inr h
mutual
theorem Rep.lk (gp : G p = some (.dK ws)) (nt : ¬ T p) : ∀ (d : D) {v : V}, Rep κ T G d v → Rep κ T (upd G p (.frz od (.dK ws))) d v
  | .non, _, h => h
  | .bl _, _, h => h
  | .int _, _, h => h
  | .str _, _, h => h
  | .ty _, _, h => h
  | .adr _, _, h => h
  | .tup xs, v, h => by
    obtain ⟨a, vs, h1, h2, h3⟩ := h
    exact ⟨a, vs, h1, tupAt_upd gp (fun _ z => nomatch z) h2, RepL.lk gp nt xs h3⟩
  | .lst b xs, v, h => by
    obtain ⟨a, vs, h1, ⟨h2, h4⟩, h3⟩ := h
    have na : a ≠ p := fun z => by
      rw [z, gp] at h2
      cases h2
    exact ⟨a, vs, h1, ⟨(upd_ne na).trans h2, h4⟩, RepL.lk gp nt xs h3⟩
  | .scr xs, v, h => by
    obtain ⟨a, vs, h1, h2, h3⟩ := h
    exact ⟨a, vs, h1, h2.imp (fun y => scrAt_upd gp (fun _ _ z => nomatch z) y) id, RepL.lk gp nt xs h3⟩
  | .dk b m, v, h => by
    obtain ⟨a, vs, h1, ⟨h2, h4⟩, h3⟩ := h
    refine ⟨a, vs, h1, ⟨?_, h4⟩, RepK.lk gp nt m h3⟩
    by_cases na : a = p
    · subst na
      have hb : b = false := by
        cases b with
        | false => rfl
        | true => exact absurd (h4.mpr rfl) nt
      rcases h2 with h2 | ⟨_, o, h2⟩
      · rw [gp] at h2
        cases h2
        exact .inr ⟨hb, od, upd_same⟩
      · rw [gp] at h2
        cases h2
    · rcases h2 with h2 | ⟨hb, o, h2⟩
      · exact .inl ((upd_ne na).trans h2)
      · exact .inr ⟨hb, o, (upd_ne na).trans h2⟩
  | .ins b c m, v, h => by
    obtain ⟨a, dx, vs, h1, ⟨h2, h4⟩, h3⟩ := h
    have na : a ≠ p := fun z => by
      rw [z, gp] at h2
      cases h2
    exact ⟨a, dx, vs, h1, ⟨(upd_ne na).trans h2, h4⟩, RepF.lk gp nt m h3⟩
theorem RepL.lk (gp : G p = some (.dK ws)) (nt : ¬ T p) : ∀ (xs : List D) {vs : List V}, RepL κ T G xs vs → RepL κ T (upd G p (.frz od (.dK ws))) xs vs
  | [], _, h => h
  | d :: r, vs, h => by
    obtain ⟨v, us, e, h1, h2⟩ := h
    exact ⟨v, us, e, Rep.lk gp nt d h1, RepL.lk gp nt r h2⟩
theorem RepK.lk (gp : G p = some (.dK ws)) (nt : ¬ T p) : ∀ (m : List (Key × D)) {vs : List (Key × V)}, RepK κ T G m vs → RepK κ T (upd G p (.frz od (.dK ws))) m vs
  | [], _, h => h
  | (k, d) :: r, vs, h => by
    obtain ⟨v, us, e, h1, h2⟩ := h
    exact ⟨v, us, e, Rep.lk gp nt d h1, RepK.lk gp nt r h2⟩
theorem RepF.lk (gp : G p = some (.dK ws)) (nt : ¬ T p) : ∀ (m : List (Str × D)) {vs : List (Str × V)}, RepF κ T G m vs → RepF κ T (upd G p (.frz od (.dK ws))) m vs
  | [], _, h => h
  | (k, d) :: r, vs, h => by
    obtain ⟨v, us, e, h1, h2⟩ := h
    exact ⟨v, us, e, Rep.lk gp nt d h1, RepF.lk gp nt r h2⟩
end
mutual
theorem Rep.ulk (gp : G p = some (.frz od (.dK ws))) : ∀ (d : D) {v : V}, Rep κ T G d v → Rep κ T (upd G p (.dK ws)) d v
  | .non, _, h => h
  | .bl _, _, h => h
  | .int _, _, h => h
  | .str _, _, h => h
  | .ty _, _, h => h
  | .adr _, _, h => h
  | .tup xs, v, h => by
    obtain ⟨a, vs, h1, h2, h3⟩ := h
    exact ⟨a, vs, h1, tupAt_upd gp (fun _ z => nomatch z) h2, RepL.ulk gp xs h3⟩
  | .lst b xs, v, h => by
    obtain ⟨a, vs, h1, ⟨h2, h4⟩, h3⟩ := h
    have na : a ≠ p := fun z => by
      rw [z, gp] at h2
      cases h2
    exact ⟨a, vs, h1, ⟨(upd_ne na).trans h2, h4⟩, RepL.ulk gp xs h3⟩
  | .scr xs, v, h => by
    obtain ⟨a, vs, h1, h2, h3⟩ := h
    exact ⟨a, vs, h1, h2.imp (fun y => scrAt_upd gp (fun o ys z => by cases z) y) id, RepL.ulk gp xs h3⟩
  | .dk b m, v, h => by
    obtain ⟨a, vs, h1, ⟨h2, h4⟩, h3⟩ := h
    refine ⟨a, vs, h1, ⟨?_, h4⟩, RepK.ulk gp m h3⟩
    by_cases na : a = p
    · subst na
      rcases h2 with h2 | ⟨_, o, h2⟩
      · rw [gp] at h2
        cases h2
      · rw [gp] at h2
        cases h2
        exact .inl upd_same
    · rcases h2 with h2 | ⟨hb, o, h2⟩
      · exact .inl ((upd_ne na).trans h2)
      · exact .inr ⟨hb, o, (upd_ne na).trans h2⟩
  | .ins b c m, v, h => by
    obtain ⟨a, dx, vs, h1, ⟨h2, h4⟩, h3⟩ := h
    have na : a ≠ p := fun z => by
      rw [z, gp] at h2
      cases h2
    exact ⟨a, dx, vs, h1, ⟨(upd_ne na).trans h2, h4⟩, RepF.ulk gp m h3⟩
theorem RepL.ulk (gp : G p = some (.frz od (.dK ws))) : ∀ (xs : List D) {vs : List V}, RepL κ T G xs vs → RepL κ T (upd G p (.dK ws)) xs vs
  | [], _, h => h
  | d :: r, vs, h => by
    obtain ⟨v, us, e, h1, h2⟩ := h
    exact ⟨v, us, e, Rep.ulk gp d h1, RepL.ulk gp r h2⟩
theorem RepK.ulk (gp : G p = some (.frz od (.dK ws))) : ∀ (m : List (Key × D)) {vs : List (Key × V)}, RepK κ T G m vs → RepK κ T (upd G p (.dK ws)) m vs
  | [], _, h => h
  | (k, d) :: r, vs, h => by
    obtain ⟨v, us, e, h1, h2⟩ := h
    exact ⟨v, us, e, Rep.ulk gp d h1, RepK.ulk gp r h2⟩
theorem RepF.ulk (gp : G p = some (.frz od (.dK ws))) : ∀ (m : List (Str × D)) {vs : List (Str × V)}, RepF κ T G m vs → RepF κ T (upd G p (.dK ws)) m vs
  | [], _, h => h
  | (k, d) :: r, vs, h => by
    obtain ⟨v, us, e, h1, h2⟩ := h
    exact ⟨v, us, e, Rep.ulk gp d h1, RepF.ulk gp r h2⟩
end
theorem OwnAt.lk {H H' : Hp} {q : Addr} {d : D} (gp : G p = some (.dK ws)) (nt : ¬ T p) (e : H' q = H q) (h : OwnAt κ T G H q d) : OwnAt κ T (upd G p (.frz od (.dK ws))) H' q d := by
  cases d with
  | lst b xs =>
    obtain ⟨vs, h1, h2⟩ := h
    exact ⟨vs, e.trans h1, RepL.lk gp nt xs h2⟩
  | dk b m =>
    obtain ⟨vs, h1, h2⟩ := h
    exact ⟨vs, e.trans h1, RepK.lk gp nt m h2⟩
  | ins b c m =>
    obtain ⟨dx, vs, h1, h2⟩ := h
    exact ⟨dx, vs, e.trans h1, RepF.lk gp nt m h2⟩
  | scr m =>
    obtain ⟨vs, h1, h2⟩ := h
    exact ⟨vs, h1.at e, RepL.lk gp nt m h2⟩
  | _ => exact h.elim
theorem OwnAt.ulk {H H' : Hp} {q : Addr} {d : D} (gp : G p = some (.frz od (.dK ws))) (e : H' q = H q) (h : OwnAt κ T G H q d) : OwnAt κ T (upd G p (.dK ws)) H' q d := by
  cases d with
  | lst b xs =>
    obtain ⟨vs, h1, h2⟩ := h
    exact ⟨vs, e.trans h1, RepL.ulk gp xs h2⟩
  | dk b m =>
    obtain ⟨vs, h1, h2⟩ := h
    exact ⟨vs, e.trans h1, RepK.ulk gp m h2⟩
  | ins b c m =>
    obtain ⟨dx, vs, h1, h2⟩ := h
    exact ⟨dx, vs, e.trans h1, RepF.ulk gp m h2⟩
  | scr m =>
    obtain ⟨vs, h1, h2⟩ := h
    exact ⟨vs, h1.at e, RepL.ulk gp m h2⟩
  | _ => exact h.elim
end
def kyD : Key → D
  | .inl a => .int a
  | .inr s => .str s
abbrev kysD (l : List (Key × D)) : List D := l.map fun kv => kyD kv.1
section
variable {κ : Ctx} {B : Bas} {ρ ρ' : List SD} {σ σ' : L2.St} {H H' G G' : Hp} {i : Nat} {p : Addr} {c : Bool} {l : List (Key × D)} {ws : List (Key × V)} {od : Obj}
abbrev lkB (B : Bas) (p : Addr) (od : Obj) (ws : List (Key × V)) : Bas := ⟨upd B.H p (.frz od (.dK ws)), upd B.G p (.frz od (.dK ws)), B.T, B.an⟩
/-- what stands behind it -/
structure LockO (κ : Ctx) (B : Bas) (p : Addr) (ws : List (Key × V)) (G : Hp) : Prop where
  gp : G p = some (.dK ws)
  nt : ¬ B.T p
  bh : ∀ u, B.H p = some u → u = .dK ws
  fz : B.H p ≠ none → B.G p = some (.dK ws)
  sb : ∀ u, B.G p = some u → u = .dK ws
  lent : ∀ a, B.T a → B.H a ≠ none
theorem LockO.of (o : Ok κ B ρ σ H G) (gp : G p = some (.dK ws)) (nt : ¬ B.T p) : LockO κ B p ws G := by
  have hp := o.fr.gh _ _ gp
  refine ⟨gp, nt, fun u e => ?_, fun e => ?_, fun u e => ?_, o.fr.lent⟩
  · have n : ∀ ps, u ≠ .tbl ps := fun ps z => o.fr.nt p ps (by rw [e, z])
    have := o.fr.keep p u e n
    rw [hp] at this
    exact Eq.symm (Option.some.inj this)
  · rw [← o.fr.frz p e]
    exact gp
  · have := o.fr.sub p u e
    rw [gp] at this
    exact Eq.symm (Option.some.inj this)
theorem LockO.same (f : LockO κ B p ws G) (s : Same (upd G p (.frz od (.dK ws))) G') : Same G (upd G' p (.dK ws)) := fun a u h => by
  by_cases na : a = p
  · rw [na, f.gp] at h
    rw [na, upd_same]
    exact h
  · rw [upd_ne na]
    exact s a u (by rw [upd_ne na]; exact h)
/-! ### for k in x, x a name of a told dict -/
def iKy (i : Nat) : M (List D) := fun ρ => match ρ[i]? with
  | some (.va (.dk false l)) => .ok (kysD l) ρ
  | _ => .no
/-- a slot's told dict stands locked while the expression runs -/
def mLk (i : Nat) (m : M SD) : M SD := fun ρ => match ρ[i]? with
  | some (.va (.dk false _)) => match m ρ with
    | .ok r ρ' => .ok r ρ'
    | _ => .no
  | _ => .no
end
section
variable {X : Cx} {κ : Ctx} {A : List Nat} {W : WX} {elt tg : Expr} {xd : Str} {q1 : Pos} {ifs : List Expr} {scope : Scope} {own : List (Str × Nat)} {pos : Pos} {i : Nat} {g : D → List SD → Option (List SD)} {tt : M Bool} {te : M SD}
end
/-! ### for k in x: .. -/
section
variable {X : Cx} {κ : Ctx} {A vs : List Nat} {W : WX} {tg e : Expr} {pos : Pos}
/-- a statement while a slot's told dict stands locked; no exception leaves it -/
def sLk (i : Nat) (s : S) : S := fun ρ => match ρ[i]? with
  | some (.va (.dk false _)) => match s ρ with
    | .ok f ρ' => .ok f ρ'
    | _ => .no
  | _ => .no
end
/-! ### the calculus -/
section
variable {ρ : List SD} {E : Exn → List SD → Prop}
end
end Fm

namespace Fm
open L2 PySem PySem.Spec PyProof.Rows
/-! ### which kind of thing is asked (for the walk's tactic: fewer rules are tried in vain) -/
section
variable {ρ : List SD} {E : Exn → List SD → Prop}
theorem kS {m : M Fl} {p : Fl → List SD → Prop} (h : Wp m ρ p E) : Wp m ρ p E := h
theorem kE {m : M SD} {p : SD → List SD → Prop} (h : Wp m ρ p E) : Wp m ρ p E := h
theorem kD {m : M D} {p : D → List SD → Prop} (h : Wp m ρ p E) : Wp m ρ p E := h
theorem kL {m : M (List D)} {p : List D → List SD → Prop} (h : Wp m ρ p E) : Wp m ρ p E := h
theorem kA {m : M (List Ar)} {p : List Ar → List SD → Prop} (h : Wp m ρ p E) : Wp m ρ p E := h
theorem kB {m : M Bool} {p : Bool → List SD → Prop} (h : Wp m ρ p E) : Wp m ρ p E := h
end
section
variable {p : SD → Prop} {a b : D}
theorem kO {o : Option SD} (h : Ow o p) : Ow o p := h
theorem kEq (h : Ow (eqD a b) p) : Ow (eqD a b) p := h
theorem kNe (h : Ow (neD a b) p) : Ow (neD a b) p := h
theorem kIs (h : Ow (isnD a b) p) : Ow (isnD a b) p := h
theorem kNt (h : Ow (ntnD a b) p) : Ow (ntnD a b) p := h
theorem kAd (h : Ow (add3D a b) p) : Ow (add3D a b) p := h
theorem kLn {l : List D} (h : Ow (len3D l) p) : Ow (len3D l) p := h
theorem kAn {a b : Prop} (h : a ∧ b) : a ∧ b := h
theorem kEx {α : Type} {q : α → Prop} (h : ∃ a, q a) : ∃ a, q a := h
end
end Fm

set_option maxHeartbeats 1990000
namespace Fm
open L2 PySem PySem.Spec PyProof.Rows
/-! ### x.pop(k, None), x a name that owns its dict -/
def dpopS (i : Nat) (d : D) : M SD := fun ρ => match ρ[i]?, keyOf d with
  | some (.ow (.dk b l)), some k => match getK l k with
    | some v => .ok (.va v) (ρ.set i (.ow (.dk b (dropKD l k))))
    | none => .ok (.va .non) ρ
  | _, _ => .no
def mDPop (i : Nat) (m : M SD) : M SD := fun ρ => if isOwD ρ[i]? then ((fE m).bind (dpopS i)) ρ else .no
/-- x.get(k, e) -/
def isDk : D → Bool
  | .dk _ _ => true
  | _ => false
def getD2 (d k v : D) : Option SD := match d with
  | .dk _ l => (keyOf k).map fun j => .va ((getK l j).getD v)
  | _ => none
def mGet2 (ma mk mv : M SD) : M SD := (fE ma).bind fun d => if isDk d then (fE mk).bind fun k => (fE mv).bind fun v => M.opt (getD2 d k v) else M.no
section
variable {X : Cx} {κ : Ctx} {W : WX} {σ : L2.St} {H : Hp} {Q : VK}
end
section
variable {ρ : List SD} {E : Exn → List SD → Prop} {p : SD → List SD → Prop}
end
/-! ### dict(l), l a list of pairs -/
def prK : D → Option (Key × D)
  | .tup [k, v] => (keyOf k).map fun j => (j, v)
  | _ => none
def prsK : List D → Option (List (Key × D))
  | [] => some []
  | d :: l => (prK d).bind fun p => (prsK l).map (p :: ·)
def dictD3 : List D → Option SD
  | [.lst _ l] => (prsK l).map fun m => .ow (.dk false (mergeKD [] m))
  | l => dictD l
def rDict3 (κ : Ctx) : List V → Hp → VK → Prop := fun xs H Q => (∃ (a : Addr) (kvs : List (Key × V)), xs = [.ref a] ∧ Rd H a (.dK kvs) ∧ ∀ p, H p = none → Q (.ref p) (upd H p (.dK kvs))) ∨
  ∃ (a : Addr) (ps : List Addr) (kvs : List (Key × V)), xs = [.ref a] ∧ SqL κ.K H a (ps.map V.ref) ∧ Paired (fun p kv => SqT κ.K H p [kV kv.1, kv.2]) ps kvs ∧ ∀ p, H p = none → Q (.ref p) (upd H p (.dK (mergeK [] kvs)))
theorem cr_dict3 {X : Cx} {κ : Ctx} (hK : X.K = κ.K) (hc : X.calm = true) : CallR X (.type "dict") (rDict3 κ) := by
  rintro pins s σ H xs us Q I r q
  rcases q with q | q
  · exact call_dictD pins s σ H xs us Q I r q
  · rw [← hK] at q
    exact call_dictP hc pins s σ H xs us Q I r q
theorem prs_rep {κ : Ctx} {T : Pd} {G H : Hp} (s : Same G H) : ∀ {l : List D} {m : List (Key × D)} {vs : List V}, prsK l = some m → RepL κ T G l vs → ∃ (ps : List Addr) (kvs : List (Key × V)), vs = ps.map V.ref ∧ Paired (fun p kv => SqT κ.K H p [kV kv.1, kv.2]) ps kvs ∧ RepK κ T G m kvs
  | [], m, vs, e, r => by
    cases e
    exact ⟨[], [], r, .nil, rfl⟩
  | d :: l, m, vs, e, r => by
    obtain ⟨v, ws, rfl, r1, r2⟩ := r
    obtain ⟨q, e1, e2⟩ := Option.bind_eq_some_iff.mp (show (prK d).bind _ = some m from e)
    obtain ⟨m', e3, rfl⟩ := Option.map_eq_some_iff.mp e2
    obtain ⟨ps, kvs, rfl, h2, h3⟩ := prs_rep s e3 r2
    unfold prK at e1
    split at e1
    · rename_i k x
      obtain ⟨j, hj, rfl⟩ := Option.map_eq_some_iff.mp e1
      obtain ⟨a, us, rfl, t1, u, us2, rfl, t2, x', us3, rfl, t3, rfl⟩ := r1
      have ek : u = kV j := key_rep t2 hj
      subst ek
      exact ⟨a :: ps, (j, x') :: kvs, rfl, .cons (t1.sq s) h2, x', kvs, rfl, t3, h3⟩
    · cases e1
theorem cd_dict3 {κ : Ctx} : CallD κ (rDict3 κ) dictD3 := by
  intro B ρ σ H G ds xs z Q o r hz q
  unfold dictD3 at hz
  split at hz
  · rename_i b l
    obtain ⟨m, e, rfl⟩ := Option.map_eq_some_iff.mp hz
    obtain ⟨v, ws, rfl, ⟨a, vs, rfl, ⟨h1, _⟩, h2⟩, rfl⟩ := r
    obtain ⟨ps, kvs, rfl, p2, p3⟩ := prs_rep o.fr.gh e h2
    exact .inr ⟨a, ps, kvs, rfl, SqL.of (o.fr.gh _ _ h1), p2, fun p hp => q _ _ G (o.allocOwn hp) (Same.refl G) (o.newOwn hp ⟨_, upd_same, RepK.merge (l := []) (vs := []) rfl p3⟩)⟩
  · exact .inl (cd_dict B ρ σ H G ds xs z Q o r hz q)
theorem o_dict3D {q : SD → Prop} {b : Bool} {l : List (Key × D)} (h : q (.ow (.dk false l))) : Ow (dictD3 [.dk b l]) q := ⟨_, rfl, h⟩
end Fm

set_option maxHeartbeats 1990000
namespace Fm
open L2 PySem PySem.Spec PyProof.Rows
/-! ### x.pop(k), x a name that owns its dict, k there -/
def dpop1S (i : Nat) (d : D) : M SD := fun ρ => match ρ[i]?, keyOf d with
  | some (.ow (.dk b l)), some k => match getK l k with
    | some v => .ok (.va v) (ρ.set i (.ow (.dk b (dropKD l k))))
    | none => .no
  | _, _ => .no
def mDPop1 (i : Nat) (m : M SD) : M SD := fun ρ => if isOwD ρ[i]? then ((fE m).bind (dpop1S i)) ρ else .no
section
variable {X : Cx} {κ : Ctx} {W : WX} {σ : L2.St} {H : Hp} {Q : VK}
end
end Fm

set_option maxHeartbeats 1990000
namespace Fm
open L2 PySem PySem.Spec PyProof.Rows
/-! ### f"{a}: {b}" -/
def fmtD : D → Option Str
  | .str s => if s.length ≤ 1000000 then some s else none
  | .int i => if i.natAbs.log2 < 1920 ∧ (Str.ofString (toString i)).length ≤ 1000000 then some (Str.ofString (toString i)) else none
  | _ => none
def fmt1D (d : D) (c : Str) : Option Str := (fmtD d).bind fun x => if c.length ≤ 1000 then some x else none
def fs3D (x c : Str) (b : D) : Option SD := (fmtD b).map fun y => .va (.str (x ++ c ++ y))
def mFs3 (m1 : M SD) (c : Str) (m3 : M SD) : M SD := (fE m1).bind fun a => (M.opt (fmt1D a c)).bind fun x => (fE m3).bind fun b => M.opt (fs3D x c b)
section
variable {X : Cx} {κ : Ctx} {W : WX} {σ : L2.St} {H : Hp} {Q : VK}
end
/-! ### min(d), max(d), d a dict with texts as keys -/
section
variable {X : Cx}
def rMinS : List V → Hp → VK → Prop := fun xs H Q => ∃ (a : Addr) (kvs : List (Key × V)) (ks : List Str), xs = [.ref a] ∧ Rd H a (.dK kvs) ∧ kvs.map (·.1) = ks.map Sum.inr ∧ ks ≠ [] ∧ ∀ m, m ∈ ks → (∀ j ∈ ks, m.cps.toList ≤ j.cps.toList) → Q (.str m) H
def rMaxS : List V → Hp → VK → Prop := fun xs H Q => ∃ (a : Addr) (kvs : List (Key × V)) (ks : List Str), xs = [.ref a] ∧ Rd H a (.dK kvs) ∧ kvs.map (·.1) = ks.map Sum.inr ∧ ks ≠ [] ∧ ∀ m, m ∈ ks → (∀ j ∈ ks, j.cps.toList ≤ m.cps.toList) → Q (.str m) H
end
def minKD : List D → Option SD
  | [.dk _ l] => (strsK l).bind fun ks => (ssort ks).head?.map fun s => .va (.str s)
  | _ => none
def maxKD : List D → Option SD
  | [.dk _ l] => (strsK l).bind fun ks => (ssort ks).getLast?.map fun s => .va (.str s)
  | _ => none
section
variable {κ : Ctx}
end
section
variable {ρ : List SD} {E : Exn → List SD → Prop} {p : SD → List SD → Prop} {q : SD → Prop}
end
end Fm

set_option maxHeartbeats 1990000
namespace Fm
open L2 PySem PySem.Spec PyProof.Rows
/-! ### x is True, x is not False: both sides truths -/
def isbD : D → D → Option SD
  | .bl a, .bl b => some (.va (.bl (decide (a = b))))
  | _, _ => none
def ntbD : D → D → Option SD
  | .bl a, .bl b => some (.va (.bl (!decide (a = b))))
  | _, _ => none
section
variable {X : Cx} {κ : Ctx}
end
end Fm

set_option maxHeartbeats 3900000
namespace Fm
open L2 PySem PySem.Spec PyProof.Rows

/-! # dicts whose keys are nested tuples -/
/-- the value v is the key k, in each heap that H tells of -/
def Ky (X : Cx) (H : Hp) (k : NestedKey) (v : V) : Prop := ∀ (pins : List (Addr × Obj)) (σ : L2.St) (s : Shared) (u : Value), Inv X pins σ H s → RelV v u → NestedIs s.heap k u
section
variable {X : Cx} {κ : Ctx} {T : Pd} {G H : Hp}
mutual
theorem key_is (hK : X.K = κ.K) (sm : Same G H) : ∀ (d : D) {n : Nat} {v : V}, keyN n d = true → Rep κ T G d v → Ky X H (nk d) v
  | .int i, _, _, _, r => fun _ _ _ u _ q => by
    rw [show _ = V.int i from r] at q
    obtain ⟨t, rfl⟩ := q
    exact .int _ _
  | .str x, _, _, _, r => fun _ _ _ u _ q => by
    rw [show _ = V.str x from r] at q
    obtain ⟨t, rfl⟩ := q
    exact .text _ _
  | .tup l, n + 1, v, h, r => fun pins σ s u I q => by
    obtain ⟨a, vs, rfl, h1, h2⟩ := r
    obtain rfl : u = .ref a := q
    obtain ⟨its, r1, ⟨o, e1, e2, m, e3⟩, _⟩ := I.tuple (hK ▸ h1.sq sm)
    exact .tup e1 e2 e3 (by simpa using keys_are hK sm l (n := n) h h2 pins σ s its I r1)
  | .tup _, 0, _, h, _ => by cases h
  | .non, n, _, h, _ => by cases n <;> cases h
  | .bl _, n, _, h, _ => by cases n <;> cases h
  | .lst _ _, n, _, h, _ => by cases n <;> cases h
  | .dk _ _, n, _, h, _ => by cases n <;> cases h
  | .ins _ _ _, n, _, h, _ => by cases n <;> cases h
  | .ty _, n, _, h, _ => by cases n <;> cases h
  | .adr _, n, _, h, _ => by cases n <;> cases h
  | .scr _, n, _, h, _ => by cases n <;> cases h
theorem keys_are (hK : X.K = κ.K) (sm : Same G H) : ∀ (l : List D) {n : Nat} {vs : List V}, keyNL n l = true → RepL κ T G l vs →
    ∀ (pins : List (Addr × Obj)) (σ : L2.St) (s : Shared) (us : List Value), Inv X pins σ H s → Vals vs us → NestedAll s.heap (nkS l) us
  | [], _, _, _, r, _, _, _, _, _, q => by
    rw [show _ = [] from r] at q
    cases q
    exact .nil
  | d :: l, n, _, h, r, pins, σ, s, us, I, q => by
    obtain ⟨v, ws, rfl, h1, h2⟩ := r
    have h' : (keyN n d && keyNL n l) = true := h
    rw [Bool.and_eq_true] at h'
    cases q with
    | cons q1 q2 => exact .cons (key_is hK sm d (n := n) h'.1 h1 pins σ s _ I q1) (keys_are hK sm l (n := n) h'.2 h2 pins σ s _ I q2)
end
end
mutual
theorem nk_dp : ∀ (d : D) {n : Nat}, keyN n d = true → (nk d).depth ≤ n
  | .int i, _, _ => Nat.zero_le _
  | .str x, _, _ => Nat.zero_le _
  | .tup l, n + 1, h => Nat.succ_le_succ (nkS_dp l (n := n) h)
  | .tup _, 0, h => by cases h
  | .non, n, h => by cases n <;> cases h
  | .bl _, n, h => by cases n <;> cases h
  | .lst _ _, n, h => by cases n <;> cases h
  | .dk _ _, n, h => by cases n <;> cases h
  | .ins _ _ _, n, h => by cases n <;> cases h
  | .ty _, n, h => by cases n <;> cases h
  | .adr _, n, h => by cases n <;> cases h
  | .scr _, n, h => by cases n <;> cases h
theorem nkS_dp : ∀ (l : List D) {n : Nat}, keyNL n l = true → NestedKey.depthAll (nkS l) ≤ n
  | [], _, _ => Nat.zero_le _
  | d :: l, n, h => by
    have h' : (keyN n d && keyNL n l) = true := h
    rw [Bool.and_eq_true] at h'
    exact Nat.max_le.mpr ⟨nk_dp d h'.1, nkS_dp l h'.2⟩
end
mutual
theorem nk_beq : ∀ (d e : D) {n m : Nat}, keyN n d = true → keyN m e = true → NestedKey.beq (nk d) (nk e) = PyData.eqv d.py e.py
  | .int i, .int j, _, _, _, _ => rfl
  | .int i, .str x, _, _, _, _ => rfl
  | .int i, .tup l, _, _, _, _ => rfl
  | .str x, .int j, _, _, _, _ => rfl
  | .str x, .str y, _, _, _, _ => rfl
  | .str x, .tup l, _, _, _, _ => rfl
  | .tup l, .int j, _, _, _, _ => rfl
  | .tup l, .str y, _, _, _, _ => rfl
  | .tup l, .tup k, n + 1, m + 1, h, g => nkS_beq l k (n := n) (m := m) h g
  | .tup _, .tup _, 0, _, h, _ => by cases h
  | .tup _, .tup _, _ + 1, 0, _, h => by cases h
  | .non, _, n, _, h, _ => by cases n <;> cases h
  | .bl _, _, n, _, h, _ => by cases n <;> cases h
  | .lst _ _, _, n, _, h, _ => by cases n <;> cases h
  | .dk _ _, _, n, _, h, _ => by cases n <;> cases h
  | .ins _ _ _, _, n, _, h, _ => by cases n <;> cases h
  | .ty _, _, n, _, h, _ => by cases n <;> cases h
  | .adr _, _, n, _, h, _ => by cases n <;> cases h
  | .scr _, _, n, _, h, _ => by cases n <;> cases h
  | .int _, .non, _, n, _, h => by cases n <;> cases h
  | .int _, .bl _, _, n, _, h => by cases n <;> cases h
  | .int _, .lst _ _, _, n, _, h => by cases n <;> cases h
  | .int _, .dk _ _, _, n, _, h => by cases n <;> cases h
  | .int _, .ins _ _ _, _, n, _, h => by cases n <;> cases h
  | .int _, .ty _, _, n, _, h => by cases n <;> cases h
  | .int _, .adr _, _, n, _, h => by cases n <;> cases h
  | .int _, .scr _, _, n, _, h => by cases n <;> cases h
  | .str _, .non, _, n, _, h => by cases n <;> cases h
  | .str _, .bl _, _, n, _, h => by cases n <;> cases h
  | .str _, .lst _ _, _, n, _, h => by cases n <;> cases h
  | .str _, .dk _ _, _, n, _, h => by cases n <;> cases h
  | .str _, .ins _ _ _, _, n, _, h => by cases n <;> cases h
  | .str _, .ty _, _, n, _, h => by cases n <;> cases h
  | .str _, .adr _, _, n, _, h => by cases n <;> cases h
  | .str _, .scr _, _, n, _, h => by cases n <;> cases h
  | .tup _, .non, _, n, _, h => by cases n <;> cases h
  | .tup _, .bl _, _, n, _, h => by cases n <;> cases h
  | .tup _, .lst _ _, _, n, _, h => by cases n <;> cases h
  | .tup _, .dk _ _, _, n, _, h => by cases n <;> cases h
  | .tup _, .ins _ _ _, _, n, _, h => by cases n <;> cases h
  | .tup _, .ty _, _, n, _, h => by cases n <;> cases h
  | .tup _, .adr _, _, n, _, h => by cases n <;> cases h
  | .tup _, .scr _, _, n, _, h => by cases n <;> cases h
theorem nkS_beq : ∀ (l k : List D) {n m : Nat}, keyNL n l = true → keyNL m k = true → NestedKey.beqAll (nkS l) (nkS k) = PyData.eqvAll (pyL l) (pyL k)
  | [], [], _, _, _, _ => rfl
  | [], _ :: _, _, _, _, _ => rfl
  | _ :: _, [], _, _, _, _ => rfl
  | d :: l, e :: k, n, m, h, g => by
    have h' : (keyN n d && keyNL n l) = true := h
    have g' : (keyN m e && keyNL m k) = true := g
    rw [Bool.and_eq_true] at h' g'
    show (NestedKey.beq (nk d) (nk e) && NestedKey.beqAll (nkS l) (nkS k)) = (PyData.eqv d.py e.py && PyData.eqvAll (pyL l) (pyL k))
    rw [nk_beq d e h'.1 g'.1, nkS_beq l k h'.2 g'.2]
end
theorem nk_peq {d e : D} (h : keyN 8 d = true) (g : keyN 8 e = true) : decide (nk d = nk e) = peq d e := by
  rw [NestedKey.decide_eq]
  exact nk_beq d e h g
/-- d is a key that may be put -/
def kyB (d : D) : Bool := isTup d && keyN 8 d
section
variable {X : Cx} {κ : Ctx} {T : Pd} {G H : Hp}
theorem kyB_at {d : D} {v : V} (h : kyB d = true) (hK : X.K = κ.K) (sm : Same G H) (r : Rep κ T G d v) : ∃ a, v = .ref a ∧ ∀ (pins : List (Addr × Obj)) (σ : L2.St) (s : Shared), Inv X pins σ H s → (nestedKind X.prog X.w).is s.heap (nk d) a := by
  obtain ⟨h1, h2⟩ := Bool.and_eq_true_iff.mp (show (isTup d && keyN 8 d) = true from h)
  have k := key_is (X := X) (H := H) hK sm d h2 r
  cases d with
  | tup l =>
    obtain ⟨a, vs, rfl, _⟩ := r
    exact ⟨a, rfl, fun pins σ s I => ⟨k pins σ s _ I rfl, nk_dp _ h2⟩⟩
  | _ => cases h1
/-- the keys of a dict -/
theorem keys_in (hK : X.K = κ.K) (sm : Same G H) : ∀ {l : List D} {vs : List V} {ks : List (NestedKey × Addr)}, (l.all fun d => isTup d && keyN 8 d) = true → vs = ks.map (fun x => V.ref x.2) → l.map nk = ks.map (·.1) → RepL κ T G l vs →
    ∀ (pins : List (Addr × Obj)) (σ : L2.St) (s : Shared), Inv X pins σ H s → ∀ z ∈ ks, (nestedKind X.prog X.w).is s.heap z.1 z.2
  | [], _, [], _, _, _, _, _, _, _, _, _, hz => by cases hz
  | [], _, _ :: _, _, _, e, _, _, _, _, _, _, _ => by cases e
  | _ :: _, _, [], _, _, e, _, _, _, _, _, _, _ => by cases e
  | d :: l, vs, k :: ks, ha, ev, e, r, pins, σ, s, I, z, hz => by
    (rw [List.all_cons, Bool.and_eq_true] at ha)
    rw [List.map_cons, List.map_cons, List.cons.injEq] at e
    obtain ⟨v, ws, e1, r1, r2⟩ := r
    rw [e1, List.map_cons, List.cons.injEq] at ev
    obtain ⟨a, ea, ka⟩ := kyB_at (X := X) (H := H) (show kyB d = true from ha.1) hK sm r1
    rcases List.mem_cons.mp hz with hz | hz
    · subst hz
      have : a = z.2 := by
        have := ea.symm.trans ev.1
        injection this
      rw [← e.1, ← this]
      exact ka pins σ s I
    · exact keys_in hK sm ha.2 ev.2 e.2 r2 pins σ s I z hz
end
theorem any_keys : ∀ {l : List D} {ks : List (NestedKey × Addr)} {d : D}, (l.all fun d => isTup d && keyN 8 d) = true → kyB d = true → l.map nk = ks.map (·.1) → (ks.any fun z => decide (z.1 = nk d)) = l.any fun e => peq e d
  | [], [], _, _, _, _ => rfl
  | [], _ :: _, _, _, _, e => by cases e
  | _ :: _, [], _, _, _, e => by cases e
  | c :: l, k :: ks, d, ha, hd, e => by
    (rw [List.all_cons, Bool.and_eq_true] at ha)
    rw [List.map_cons, List.map_cons, List.cons.injEq] at e
    rw [List.any_cons, List.any_cons, any_keys ha.2 hd e.2, ← e.1, nk_peq (Bool.and_eq_true_iff.mp ha.1).2 (Bool.and_eq_true_iff.mp hd).2]
theorem atKey_any {K : Type} [DecidableEq K] (k : K) : ∀ xs : List (K × Addr × Value), (atKey xs k).isSome = (xs.map fun x => (x.1, x.2.1)).any fun z => decide (z.1 = k)
  | [] => rfl
  | x :: xs => by
    have ih := atKey_any k xs
    unfold atKey at ih ⊢
    rw [List.map_cons, List.any_cons, List.find?_cons]
    by_cases e : x.1 = k
    · rw [decide_eq_true e]
      rfl
    · rw [decide_eq_false e]
      exact ih

/-- what is known where the dict y is asked for the key x -/
def NdR (X : Cx) (H : Hp) (x y : V) (p a : Addr) (ks : List (NestedKey × Addr)) (k : NestedKey) : Prop :=
  y = .ref p ∧ x = .ref a ∧ H p = some (.ext (NdO X.w p ks)) ∧ ∀ (pins : List (Addr × Obj)) (σ : L2.St) (s : Shared), Inv X pins σ H s → (nestedKind X.prog X.w).is s.heap k a ∧ ∀ z ∈ ks, (nestedKind X.prog X.w).is s.heap z.1 z.2
section
variable {X : Cx} {κ : Ctx} {W : WX}
theorem nd_of {pins : List (Addr × Obj)} {σ : L2.St} {H : Hp} {s : Shared} {p : Addr} {ks : List (NestedKey × Addr)} (I : Inv X pins σ H s) (h : H p = some (.ext (NdO X.w p ks))) (hk : ∀ z ∈ ks, (nestedKind X.prog X.w).is s.heap z.1 z.2) :
    (p == sysModules) = false ∧ ks.length ≤ sizeLine ∧ ∃ xs : List (NestedKey × Addr × Value), xs.map (fun x => (x.1, x.2.1)) = ks ∧ s.heap.DictOfH (nestedKind X.prog X.w) p xs := by
  obtain ⟨⟨z, hl, xs, e, o, es, ep, h1, h2, h3, h4, h5⟩, _⟩ := (show ObjOk X.prog X.w H s.heap p (.ext (NdO X.w p ks)) from I.hok p _ h)
  refine ⟨z, hl, xs, e, o, es, ep, h1, h2, h3, h4, fun x hx => ?_, h5⟩
  exact hk (x.1, x.2.1) (by rw [← e]; exact List.mem_map.mpr ⟨x, hx, rfl⟩)
theorem nd_ok {H : Hp} {h : Heap} {p : Addr} {ks : List (NestedKey × Addr)} (x : NdO X.w p ks h) : ObjOk X.prog X.w H h p (.ext (NdO X.w p ks)) := by
  refine ⟨x, ?_, fun h1 h2 y st => ?_⟩
  · obtain ⟨_, _, xs, _, o, es, ep, h1, _⟩ := x
    exact ⟨o, h1⟩
  · obtain ⟨z, hl, xs, e, o, es, ep, h1, h2⟩ := y
    exact ⟨z, hl, xs, e, o, es, ep, st o h1, h2⟩
abbrev rNdN (X : Cx) : R2 := fun x y H Q => ∃ p a ks k, NdR X H x y p a ks k ∧ Q (.bl (!(ks.any fun z => decide (z.1 = k)))) H
theorem op_ndN (hu : X.A.units + 65 < cLine) : OpR X (compareOp .NotIn) (rNdN X) := by
  rintro pins s σ H x y v u Q I rx ry ⟨p, a, ks, k, ⟨rfl, rfl, hp, hk⟩, q⟩
  obtain rfl : u = .ref p := ry
  obtain rfl : v = .ref a := rx
  obtain ⟨k1, k2⟩ := hk pins σ s I
  obtain ⟨hd, hl, xs, ex, dd⟩ := nd_of I hp k2
  refine wpAny_notIn_heap (knd := nestedKind X.prog X.w) (k := k) (show X.A.in1.units + 8 < cLine by rw [Around.in1_units]; omega) k1 hd dd ?_
  rw [atKey_any, ex]
  exact ⟨.bl _, H, I.tok _, rfl, q⟩
abbrev rNdP (X : Cx) : TSet := fun y x v H Q => ∃ p a ks k, NdR X H x y p a ks k ∧ ks.length < sizeLine ∧ (ks.any fun z => decide (z.1 = k)) = false ∧ ((∃ h, NdO X.w p (ks ++ [(k, a)]) h) → Q (upd H p (.ext (NdO X.w p (ks ++ [(k, a)])))))
theorem set_nd (hu : X.A.units + 65 < cLine) : PSet X (rNdP X) := by
  rintro pins s σ H o i v ov iv u Q I ro ri rv ⟨p, a, ks, k, ⟨rfl, rfl, hp, hk⟩, hl1, hn, q⟩
  obtain rfl : ov = .ref p := ro
  obtain rfl : iv = .ref a := ri
  obtain ⟨k1, k2⟩ := hk pins σ s I
  obtain ⟨hd, hl, xs, ex, dd⟩ := nd_of I hp k2
  have hz : xs.length ≤ sizeLine := by
    have := congrArg List.length ex
    rw [List.length_map] at this
    omega
  have hnone : atKey xs k = none := by
    have := atKey_any k xs
    rw [ex, hn] at this
    cases e : atKey xs k with
    | none => rfl
    | some z =>
      rw [e] at this
      cases this
  refine wpAny_setItem_heap (knd := nestedKind X.prog X.w) (k := k) (hsz := hz) (show X.A.in1.units + 8 < cLine by rw [Around.in1_units]; omega) k1 dd fun h' dd' hs => ?_
  rw [storedH_new hnone] at dd'
  obtain ⟨o, es, ep, h1, h2, h3, h4, _, h5⟩ := dd'
  have nd : NdO X.w p (ks ++ [(k, a)]) h' := ⟨hd, by rw [List.length_append]; exact hl1, xs ++ [(k, a, u)], by rw [List.map_append, ex]; rfl, o, es, ep, h1, h2, h3, h4, h5⟩
  exact ⟨_, d_write I (by rw [hp]; exact True.intro) hs ⟨o, h1⟩ (nd_ok nd), q ⟨h', nd⟩⟩
end

/-! ### the three forms: {k: v}, k not in d, d[k] = v -/
def mNd1 (mk mv : M SD) : M SD := (fE mk).bind fun k => (fE mv).bind fun v => if kyB k then M.ret (.ow (.scr [k])) else M.no
def ndT (i : Nat) (k : D) : M Bool := fun ρ => match ρ[i]? with
  | some (.ow (.scr l)) => if kyB k then .ok (!l.any fun e => peq e k) ρ else .no
  | _ => .no
def mNdN (i : Nat) (mk : M SD) : M Bool := guardS i ((fE mk).bind (ndT i))
def ndP (i : Nat) (k : D) : S := fun ρ => match ρ[i]? with
  | some (.ow (.scr l)) => if kyB k && decide (l.length < 1000000) && !(l.any fun e => peq e k) then .ok .nx (ρ.set i (.ow (.scr (l ++ [k])))) else .no
  | _ => .no
def sNdP (i : Nat) (mk me : M SD) : S := (fE me).bind fun _ => guardS i ((fE mk).bind fun k => ndP i k)
section
variable {X : Cx} {κ : Ctx} {W : WX} {A : List Nat}
theorem t_ndN {i : Nat} {x : Str} {a : Expr} {ma : M SD} {p pos : Pos} (hK : X.K = κ.K) (hw : X.w = κ.w) (hu : X.A.units + 65 < cLine) (h : PE X (.Name x p) (tVar i)) (ha : PE X a (tE κ W ma)) (hm : behindInMarks .NotIn (.Name x p) = false) :
    PT X (.Compare a [.NotIn] [.Name x p] pos) (tT κ W (mNdN i ma)) := by
  refine PT.imp (pt_cmpR (op_ndN hu) ha h hm) fun σ H Q ⟨B, ρ, G, o, q⟩ => ?_
  obtain ⟨⟨v, hv⟩, q⟩ := guard_ok o q
  refine tE_fz o (Pst.bind q) fun d ρ1 H1 G1 o1 s1 q1 v1 r1 => ?_
  refine ⟨v, hv, ?_⟩
  unfold ndT at q1
  cases h1 : ρ1[i]? with
  | none =>
    rw [h1] at q1
    exact q1.elim
  | some x =>
    rw [h1] at q1
    cases x with
    | un => exact q1.elim
    | va d => exact q1.elim
    | ow c =>
      cases c with
      | scr l =>
        dsimp only at q1
        by_cases hk : kyB d = true
        · rw [if_pos hk] at q1
          obtain ⟨pp, e1, e2, e3, vs, ⟨ks, n1, n2, n3, n4, n5⟩, e5⟩ := o1.own i _ h1
          rw [hv] at e1
          cases e1
          obtain ⟨a, rfl, ka⟩ := kyB_at (X := X) (H := H1) hk hK o1.fr.gh r1
          refine ⟨pp, a, ks, nk d, ⟨rfl, rfl, by rw [hw]; exact n1, fun pins σ s I => ⟨ka pins σ s I, keys_in hK o1.fr.gh n5 n3 n4 e5 pins σ s I⟩⟩, _, rfl, ?_⟩
          rw [any_keys n5 hk n4]
          exact q1 H1 G1 o1 (Same.refl G1)
        · rw [if_neg hk] at q1
          exact q1.elim
      | _ => exact q1.elim
theorem s_ndP {i : Nat} {x : Str} {k e : Expr} {mk me : M SD} {p p2 pos : Pos} (hK : X.K = κ.K) (hw : X.w = κ.w) (hu : X.A.units + 65 < cLine) (h : PE X (.Name x p) (tVar i)) (hk : PE X k (tE κ W mk)) (he : PE X e (tE κ W me))
    (ha : ∀ v, assign (.Subscript (.Name x p) k p2) X.env v = (do
      let ov ← holding [v] (eval (.Name x p) X.env)
      let iv ← holding [v, ov] (eval k X.env)
      standAt p2; holding [v, ov, iv] (setItem ov iv v); release [v, ov, iv] []) := by intro _; rfl)
    (hs : swapsWithSole [.Subscript (.Name x p) k p2] e pos.line X.env = pure false := by rfl) (hw2 : swappedStores [.Subscript (.Name x p) k p2] e X.env = pure none := by rfl)
    (h1 : (assignEach [.Subscript (.Name x p) k p2] X.env).map (·.2) = [assign (.Subscript (.Name x p) k p2) X.env] := by rfl) : PS X (.Assign [.Subscript (.Name x p) k p2] e pos) (tS κ A W (sNdP i mk me)) := by
  refine PS.imp (ps_asg he (pg_sub h hk (set_nd hu) ha) hs hw2 h1) fun D σ H ⟨B, ρ, G, a, o, q⟩ => ?_
  refine tE_fz o (PstS.bind q) fun v ρ1 H1 G1 o1 s1 q1 v1 r1 => ?_
  obtain ⟨⟨u, hu⟩, q1⟩ := guard_okS o1 q1
  refine ⟨u, hu, tE_fz o1 (PstS.bind q1) fun d ρ2 H2 G2 o2 s2 q2 v2 r2 => ?_⟩
  unfold ndP at q2
  cases h2 : ρ2[i]? with
  | none =>
    rw [h2] at q2
    exact q2.elim
  | some x =>
    rw [h2] at q2
    cases x with
    | un => exact q2.elim
    | va d => exact q2.elim
    | ow c =>
      cases c with
      | scr l =>
        dsimp only at q2
        by_cases hc : (kyB d && decide (l.length < 1000000) && !(l.any fun e => peq e d)) = true
        · rw [if_pos hc] at q2
          rw [Bool.and_eq_true, Bool.and_eq_true, decide_eq_true_eq, Bool.not_eq_true'] at hc
          obtain ⟨⟨hk2, hl⟩, hn⟩ := hc
          obtain ⟨pp, e1, e2, e3, vs, ⟨ks, n1, n2, n3, n4, n5⟩, e5⟩ := o2.own i _ h2
          rw [hu] at e1
          cases e1
          obtain ⟨a, rfl, ka⟩ := kyB_at (X := X) (H := H2) hk2 hK o2.fr.gh r2
          have hlen : l.length = ks.length := by
            have := congrArg List.length n4
            rwa [List.length_map, List.length_map] at this
          refine ⟨pp, a, ks, nk d, ⟨rfl, rfl, by rw [hw]; exact n1, fun pins σ s I => ⟨ka pins σ s I, keys_in hK o2.fr.gh n5 n3 n4 e5 pins σ s I⟩⟩, by rw [sizeLine_eq, ← hlen]; omega, by rw [any_keys n5 hk2 n4]; exact hn, fun hx => ?_⟩
          rw [hw] at hx ⊢
          refine q2 σ _ G2 (o2.write h2 hu (fun ps z => by cases z) ⟨vs ++ [.ref a], ⟨ks ++ [(nk d, a)], upd_same, hx, by rw [n3, List.map_append]; rfl, by rw [List.map_append, n4, List.map_append]; rfl, by
            rw [List.all_append, n5]
            show (true && (kyB d && true)) = true
            rw [hk2]
            rfl⟩, e5.append (RepL.one r2)⟩) (Same.refl G2)
        · rw [if_neg hc] at q2
          exact q2.elim
      | _ => exact q2.elim
end

/-! ### {k: v} -/
/-- {k: v} with a nested key; the new dict stands empty while both are made -/
def tNd1 (X : Cx) (tk tv : TE) : TE := fun σ H Q => ∀ p, H p = none → tPairs [(tk, tv)] σ (upd H p (.dK [])) fun ps H2 => H2 p = some (.dK []) ∧ ∃ x y a k, ps = [(x, y)] ∧ x = .ref a ∧
  (∀ (pins : List (Addr × Obj)) (σ : L2.St) (s : Shared), Inv X pins σ H2 s → (nestedKind X.prog X.w).is s.heap k a) ∧ ((∃ h, NdO X.w p [(k, a)] h) → Q (.ref p) (upd H2 p (.ext (NdO X.w p [(k, a)]))))
theorem nopairs {K : Type} [DecidableEq K] {P : Program} {w : World} {knd : KeyKind P w K} : ∀ {es : List DictEntry}, Pairs knd es [] → es = []
  | [], _ => rfl
  | _ :: _, h => by cases h
theorem pe_nd1 {X : Cx} {pos : Pos} {ke ve : Expr} {tk tv : TE} (hu : X.A.units + 65 < cLine) (hk : PE X ke tk) (hv : PE X ve tv) : PE X (.Dict [some ke] [ve] pos) (tNd1 X tk tv) := by
  refine (⟨fun pins s σ H Q I q => ?_⟩)
  have hn := (I.hok.fresh (Nat.le_refl s.heap.objs.size))
  have I1 := I.laid (o := .dK []) (a := s.heap.objs.size) (h' := s.heap.push { cls := .type "dict", data := .dict #[] }) (t' := s.toks) (fun _ _ q => Heap.get?_push_of_some _ q) (Nat.le_refl _) (dk_empty s.heap I.big)
  have pp : PPs X pos [some ke] [ve] [(tk, tv)] := pps_cons hk hv pps_nil
  have hsh := zip_pairTrees [some ke] [ve] X.env pos rfl rfl
  have hl1 : (pairTrees [some ke] [ve] X.env pos).length = 1 := pairTrees_length [some ke] [ve] X.env pos rfl rfl
  rw [arm_eval_Dict, hsh, dictDisplay_pairs (pairTrees [some ke] [ve] X.env pos) (fun z => by rw [z] at hl1; cases hl1) (by omega)]
  refine wpAny_bind (wpAny_standAt (wpAny_bind (wpAny_subDictH (knd := nestedKind X.prog X.w) (show X.A.units + 8 < cLine by omega) (by omega) (thn (pp.run pins _ σ _ _ I1 (q _ hn)) fun ws s2 ⟨ps, H2, I2, rel, e, x, y, a, k, ep, ex, ka, q2⟩ => ?_))))
  subst ep ex
  cases rel with
  | @cons _ b _ bs h t =>
    cases t
    obtain ⟨b1, b2⟩ := b
    obtain ⟨z, hd, vs0, r0, o, es, ep, d1, d2, d3, d4, d5, _⟩ := dk_of I2.hok e
    cases r0
    obtain ⟨h1, h2⟩ := h
    obtain rfl : b1 = .ref a := h1
    refine ⟨[(k, a, b2)], ⟨rfl, rfl, ka pins σ s2 I2, True.intro⟩, ⟨o, es, ep, d1, d2, d3, nopairs d5, (fun x hx => by cases hx), List.nodup_nil⟩, fun h' tk' dd' hs => wpAny_pure ?_⟩
    have dd2 : h'.DictOfH (nestedKind X.prog X.w) s.heap.objs.size [(k, a, b2)] := dd'
    obtain ⟨o', es', ep', f1, f2, f3, f4, _, f5⟩ := dd2
    have nd : NdO X.w s.heap.objs.size [(k, a)] h' := ⟨hd, by rw [sizeLine_eq]; exact Nat.le_of_ble_eq_true rfl, [(k, a, b2)], rfl, o', es', ep', f1, f2, f3, f4, f5⟩
    exact ⟨.ref s.heap.objs.size, _, d_write I2 (by rw [e]; exact True.intro) hs ⟨o', f1⟩ (nd_ok nd), rfl, q2 ⟨h', nd⟩⟩
section
variable {κ : Ctx} {B : Bas} {ρ : List SD} {σ : L2.St} {H G : Hp} {p : Addr}
/-- the dict is another thing now -/
theorem side_putU {u : HO} (o : Ok κ (sideB B p) ρ σ H G) (hb : B.H p = none) (tb : ¬ B.T p) (bg : B.G p = none) : Ok κ B ρ σ (upd H p u) G := by
  have k := side_out o hb tb
  have at_ := side_at o
  have gp := side_g o bg
  refine ⟨⟨fun a w h n => ?_, k.fr.nt, k.fr.frz, k.fr.sub, fun a w h => ?_, k.fr.notb, fun t ht => ?_, k.fr.lent⟩, k.len, k.val, fun j d z => ?_, k.sep, k.anch⟩
  · rw [upd_ne (fun z => by rw [z, hb] at h; cases h)]
    exact k.fr.keep a w h n
  · rw [upd_ne (fun z => by rw [z, gp] at h; cases h)]
    exact k.fr.gh a w h
  · obtain ⟨ps, t1, t2, t3⟩ := k.fr.tabs t ht
    have n1 : t.1 ≠ p := fun y => by
      rw [y, at_] at t1
      cases t1
    refine ⟨ps, by rw [upd_ne n1]; exact t1, t2, fun pos cv hc => ?_⟩
    obtain ⟨c, c1, c2⟩ := t3 pos cv hc
    refine ⟨c, c1, ?_⟩
    have n2 : c ≠ p := fun y => by
      rw [y, at_] at c2
      unfold LamX.CodeO at c2
      cases c2
    rw [upd_ne n2]
    exact c2
  · obtain ⟨q, h1, h2, h3, h4⟩ := k.own j d z
    have nq : q ≠ p := fun y => side_ow o j d z (by rw [← y]; exact h1)
    exact ⟨q, h1, h2, h3, h4.mono (Same.refl _) (upd_ne nq)⟩
end
section
variable {X : Cx} {κ : Ctx} {W : WX} {k v : Expr} {mk mv : M SD} {pos : Pos}
theorem e_nd1 (hK : X.K = κ.K) (hw : X.w = κ.w) (hu : X.A.units + 65 < cLine) (hk : PE X k (tE κ W mk)) (hv : PE X v (tE κ W mv)) : PE X (.Dict [some k] [v] pos) (tE κ W (mNd1 mk mv)) := by
  refine PE.imp (pe_nd1 hu hk hv) fun σ H Q ⟨B, ρ, G, o, q⟩ p hp => ?_
  have hb := o.bnone hp
  have tb := o.nolend hb
  have bg : B.G p = none := by
    cases z : B.G p with
    | none => rfl
    | some u =>
      have := o.fr.sub p u z
      rw [o.gnone hp] at this
      cases this
  refine tE_fz (side_in o hp) (Pst.side hb tb (Pst.bind q)) fun d1 ρ1 H1 G1 o1 s1 q1 x r1 => ?_
  refine tE_fz o1 (Pst.side hb tb (Pst.bind q1)) fun d2 ρ2 H2 G2 o2 s2 q2 y r2 => ?_
  refine ⟨side_at o2, ?_⟩
  by_cases hc : kyB d1 = true
  · rw [if_pos hc] at q2
    have r3 := Rep.mono (.of s2) d1 r1
    obtain ⟨a, rfl, ka⟩ := kyB_at (X := X) (H := H2) hc hK o2.fr.gh r3
    refine ⟨_, _, a, nk d1, rfl, rfl, ka, fun hx => ?_⟩
    rw [hw] at hx ⊢
    refine q2 _ G2 (side_putU o2 hb tb bg) (Same.refl G2) _ ⟨p, rfl, side_g o2 bg, hb, ⟨[.ref a], ⟨[(nk d1, a)], upd_same, hx, rfl, rfl, ?_⟩, RepL.one r3⟩, side_ow o2⟩
    show (kyB d1 && true) = true
    rw [hc]
    rfl
  · rw [if_neg hc] at q2
    exact q2.elim
end
/-! ### the calculus -/
section
variable {ρ : List SD} {E : Exn → List SD → Prop} {p : SD → List SD → Prop} {t : Bool → List SD → Prop} {s : Fl → List SD → Prop}
theorem w_nd1 {mk mv : M SD} (h : Wp (fE mk) ρ (fun k ρ1 => Wp (fE mv) ρ1 (fun v ρ2 => kyB k = true ∧ p (.ow (.scr [k])) ρ2) E) E) : Wp (mNd1 mk mv) ρ p E :=
  w_bind (h.mono (fun k ρ1 h => w_bind (h.mono (fun v ρ2 ⟨e, h⟩ => by
    rw [if_pos e]
    exact w_pure h) fun _ _ z => z)) fun _ _ z => z)
theorem w_ndN {i : Nat} {mk : M SD} (e : isSet ρ[i]? = true) (h : Wp (fE mk) ρ (fun k ρ1 => ∃ l, ρ1[i]? = some (.ow (.scr l)) ∧ kyB k = true ∧ t (!l.any fun e => peq e k) ρ1) E) : Wp (mNdN i mk) ρ t E := by
  refine ⟨?_⟩
  unfold mNdN guardS
  rw [if_pos e]
  refine Wp.run (E := E) (p := t) ?_
  refine w_bind (h.mono (fun k ρ1 h => ?_) fun _ _ z => z)
  obtain ⟨l, e1, e2, h⟩ := h
  refine ⟨?_⟩
  unfold ndT
  simp only [e1, e2, if_true]
  exact h
theorem w_ndP {i : Nat} {mk me : M SD} (h : Wp (fE me) ρ (fun v ρ1 => isSet ρ1[i]? = true ∧ Wp (fE mk) ρ1 (fun k ρ2 => ∃ l, ρ2[i]? = some (.ow (.scr l)) ∧ kyB k = true ∧ l.length < 1000000 ∧ (l.any fun e => peq e k) = false ∧ s .nx (ρ2.set i (.ow (.scr (l ++ [k]))))) E) E) : Wp (sNdP i mk me) ρ s E := w_bind (h.mono (fun v ρ1 h => by
  refine ⟨?_⟩
  unfold guardS
  rw [if_pos h.1]
  refine Wp.run (E := E) (p := s) ?_
  refine w_bind (p := s) (h.2.mono (fun k ρ2 h => ?_) fun _ _ z => z)
  obtain ⟨l, e1, e2, e3, e4, h⟩ := h
  refine ⟨?_⟩
  unfold ndP
  simp only [e1, e2, e4, decide_eq_true e3, Bool.and_self, Bool.not_false, if_true]
  exact h) fun _ _ z => z)
end
end Fm

set_option maxHeartbeats 4000007
namespace Lw
open L2 PySem PySem.Spec PyProof.Rows Fm
abbrev kx (w : World) (K : PySem.W.Frag) (cl : String → Addr) (tabs : List (Addr × Str)) : Fm.Ctx := ⟨K, cl, tabs, w⟩
@[reducible] def c_MOST_WAYS : D := .int 3
@[reducible] def c_MOST_KNOTS : D := .int 12
@[reducible] def c_MOST_TIES : D := .int 24
@[reducible] def c_MOST_DYE : D := .int 9
@[reducible] def c_FARTHEST : D := .int 1000000
@[reducible] def c_LONGEST : D := .int 8
@[reducible] def c_LETTERS : D := .str "abcdefghijklmnopqrstuvwxyz"
@[reducible] def c_MOST_FAR : D := .int 4
theorem sc_Pattern_need : FnScope ["self", "name"] ["self", "name"] (defScope t_Pattern_need) := ⟨rfl, rfl, rfl, by decide +kernel, rfl, by decide +kernel, by decide +kernel⟩
@[reducible] def s_Pattern_need : S := sIf (mTst (mOp nin3D (mVar 1) (mFld "Pattern" "dyes" (mVar 0)))) (M.no) (sNx)
@[reducible] def f_Pattern_need : List SD → FR := Fm.runN [] 2 s_Pattern_need
theorem ok_Pattern_need {P : Program} {w : World} {K : PySem.W.Frag} {mg : Str → Option Value} {base : Heap} {cl : String → Addr} {tabs : List (Addr × Str)} {f : Addr} {fd : FuncData} (F : FunD K "need" "Pattern.need" (defArgs t_Pattern_need) (defBody t_Pattern_need) (defScope t_Pattern_need) [] [] f fd) (cls_Pattern : Cls K (cl "Pattern")) (na_Pattern_dyes : NoAttr K (cl "Pattern") "dyes") : FnOk P w K mg base (L2.CX P w) 1 f fd ["self", "name"] (spF (kx w K cl tabs) 2 f_Pattern_need) :=
  def_okN (k := 0) (A := []) (N := ["self", "name"]) F sc_Pattern_need fun cdv Ar outer s0 H E hr => by
    exact (s_one (s_if (t_cmp (op_nin3 (room65 hr)) od_nin3 (e_var (pv 1)) (e_fld rfl cls_Pattern na_Pattern_dyes (e_var (pv 0))) rfl) (s_one s_no) s_nil))
theorem sc_Pattern_need_shift : FnScope ["self", "shift"] ["self", "shift"] (defScope t_Pattern_need_shift) := ⟨rfl, rfl, rfl, by decide +kernel, rfl, by decide +kernel, by decide +kernel⟩
@[reducible] def s_Pattern_need_shift : S := sIf (mTst (mOp neD (mCB len3D (mCons (mVar 1) (mNil))) (mFld "Pattern" "ways" (mVar 0)))) (M.no) (sNx)
@[reducible] def f_Pattern_need_shift : List SD → FR := Fm.runN [] 2 s_Pattern_need_shift
theorem ok_Pattern_need_shift {P : Program} {w : World} {K : PySem.W.Frag} {mg : Str → Option Value} {base : Heap} {cl : String → Addr} {tabs : List (Addr × Str)} {f : Addr} {fd : FuncData} (F : FunD K "need_shift" "Pattern.need_shift" (defArgs t_Pattern_need_shift) (defBody t_Pattern_need_shift) (defScope t_Pattern_need_shift) [] [] f fd) (m_len : mg "len" = none) (cls_Pattern : Cls K (cl "Pattern")) (na_Pattern_ways : NoAttr K (cl "Pattern") "ways") : FnOk P w K mg base (L2.CX P w) 1 f fd ["self", "shift"] (spF (kx w K cl tabs) 2 f_Pattern_need_shift) :=
  def_okN (k := 0) (A := []) (N := ["self", "shift"]) F sc_Pattern_need_shift fun cdv Ar outer s0 H E hr => by
    exact (s_one (s_if (t_cmp (op_neD hr.units) od_ne (e_callB call_len3 cd_len3 rfl m_len (by decide +kernel) (a_cons (e_var (pv 1)) a_nil)) (e_fld rfl cls_Pattern na_Pattern_ways (e_var (pv 0))) (nomark _)) (s_one s_no) s_nil))
theorem sc_Pattern_need_knot : FnScope ["self", "knot"] ["self", "knot"] (defScope t_Pattern_need_knot) := ⟨rfl, rfl, rfl, by decide +kernel, rfl, by decide +kernel, by decide +kernel⟩
@[reducible] def s_Pattern_need_knot : S := sSeq (sDrop (mMeth "Pattern" "need" f_Pattern_need (mVar 0) (mCons (mSub3 1 (mC (.int 0))) (mNil)))) (sDrop (mMeth "Pattern" "need_shift" f_Pattern_need_shift (mVar 0) (mCons (mSub3 1 (mC (.int 1))) (mNil))))
@[reducible] def f_Pattern_need_knot : List SD → FR := Fm.runN [] 2 s_Pattern_need_knot
theorem ok_Pattern_need_knot {P : Program} {w : World} {K : PySem.W.Frag} {mg : Str → Option Value} {base : Heap} {cl : String → Addr} {tabs : List (Addr × Str)} {f : Addr} {fd : FuncData} (F : FunD K "need_knot" "Pattern.need_knot" (defArgs t_Pattern_need_knot) (defBody t_Pattern_need_knot) (defScope t_Pattern_need_knot) [] [] f fd) {a_Pattern_need : Addr} {d_Pattern_need : FuncData} (M_Pattern_need : MethD P w K mg base (kx w K cl tabs) "Pattern" "need" 1 ["self", "name"] f_Pattern_need a_Pattern_need d_Pattern_need) (B_Pattern_need : Binds K d_Pattern_need ["self", "name"] []) {a_Pattern_need_shift : Addr} {d_Pattern_need_shift : FuncData} (M_Pattern_need_shift : MethD P w K mg base (kx w K cl tabs) "Pattern" "need_shift" 1 ["self", "shift"] f_Pattern_need_shift a_Pattern_need_shift d_Pattern_need_shift) (B_Pattern_need_shift : Binds K d_Pattern_need_shift ["self", "shift"] []) : FnOk P w K mg base (L2.CX P w) 2 f fd ["self", "knot"] (spF (kx w K cl tabs) 2 f_Pattern_need_knot) :=
  def_okN (k := 1) (A := []) (N := ["self", "knot"]) F sc_Pattern_need_knot fun cdv Ar outer s0 H E hr => by
    exact (s_cons (s_expr (e_methD M_Pattern_need B_Pattern_need hr (show 1 ≤ 1 from by decide) (passW_of (takes_of rfl rfl rfl rfl)) (e_var (pv 0)) (a_cons (e_sub3 rfl (room65 hr) (pv 1) e_int (fun _ _ => rfl)) a_nil) (dlen_cons dlen_nil) rfl)) (s_one (s_expr (e_methD M_Pattern_need_shift B_Pattern_need_shift hr (show 1 ≤ 1 from by decide) (passW_of (takes_of rfl rfl rfl rfl)) (e_var (pv 0)) (a_cons (e_sub3 rfl (room65 hr) (pv 1) e_int (fun _ _ => rfl)) a_nil) (dlen_cons dlen_nil) rfl))))
theorem sc_added : FnScope ["cell", "shift", "one", "more"] ["cell", "shift"] (defScope t_added) := ⟨rfl, rfl, rfl, by decide +kernel, rfl, by decide +kernel, by decide +kernel⟩
@[reducible] def s_added : S := sRet (mCB tupD (mCons (mLc (iZp (mCons (mVar 0) (mCons (mVar 1) (mNil)))) [2, 3] (gSq 2 (gCo (gN 2) (gCo (gN 3) (gNi)))) (M.ret true) (mOp add3D (mVar 2) (mVar 3))) (mNil)))
@[reducible] def f_added : List SD → FR := Fm.runN [] 4 s_added
theorem ok_added {P : Program} {w : World} {K : PySem.W.Frag} {mg : Str → Option Value} {base : Heap} {cl : String → Addr} {tabs : List (Addr × Str)} {f : Addr} {fd : FuncData} (F : FunD K "added" "added" (defArgs t_added) (defBody t_added) (defScope t_added) [] [] f fd) (m_tuple : mg "tuple" = none) (m_zip : mg "zip" = none) : FnOk P w K mg base (L2.CX P w) 1 f fd ["cell", "shift"] (spF (kx w K cl tabs) 2 f_added) :=
  def_okN (k := 0) (A := []) (N := ["cell", "shift", "one", "more"]) F sc_added fun cdv Ar outer s0 H E hr => by
    exact (s_one (s_ret (e_callTy call_tuple_of cd_tup rfl m_tuple (by decide +kernel) (a_cons (e_lc (A := []) (own := [("one", 2), ("more", 3)]) rfl sc_added.nd (i_zip rfl rfl m_zip (a_cons (e_var (pv 0)) (a_cons (e_var (pv 1)) a_nil))) (blkOk_by (by kernel_rfl)) (fun _ _ _ _ _ => (g_seq (n := 2) rfl rfl (gs_cons (g_name (pg_name sc_added.nd (i := 2) rfl (by first | exact Or.inl rfl | exact Or.inr rfl))) (gs_cons (g_name (pg_name sc_added.nd (i := 3) rfl (by first | exact Or.inl rfl | exact Or.inr rfl))) gs_nil)))) (fun _ _ _ _ _ => ts_nil) (fun _ _ _ _ _ => (e_op op_add3 od_add3 (e_var (pv 2)) (e_var (pv 3))))) a_nil))))
theorem sc_Pattern_near : FnScope ["self", "name"] ["self", "name"] (defScope t_Pattern_near) := ⟨rfl, rfl, rfl, by decide +kernel, rfl, by decide +kernel, by decide +kernel⟩
@[reducible] def s_Pattern_near : S := sSeq (sDrop (mMeth "Pattern" "need" f_Pattern_need (mVar 0) (mCons (mVar 1) (mNil)))) (sRet (mCB listD (mCons (mOp ix3D (mFld "Pattern" "at" (mVar 0)) (mVar 1)) (mNil))))
@[reducible] def f_Pattern_near : List SD → FR := Fm.runN [] 2 s_Pattern_near
theorem ok_Pattern_near {P : Program} {w : World} {K : PySem.W.Frag} {mg : Str → Option Value} {base : Heap} {cl : String → Addr} {tabs : List (Addr × Str)} {f : Addr} {fd : FuncData} (F : FunD K "near" "Pattern.near" (defArgs t_Pattern_near) (defBody t_Pattern_near) (defScope t_Pattern_near) [] [] f fd) (m_list : mg "list" = none) (cls_Pattern : Cls K (cl "Pattern")) (na_Pattern_at : NoAttr K (cl "Pattern") "at") {a_Pattern_need : Addr} {d_Pattern_need : FuncData} (M_Pattern_need : MethD P w K mg base (kx w K cl tabs) "Pattern" "need" 1 ["self", "name"] f_Pattern_need a_Pattern_need d_Pattern_need) (B_Pattern_need : Binds K d_Pattern_need ["self", "name"] []) : FnOk P w K mg base (L2.CX P w) 2 f fd ["self", "name"] (spF (kx w K cl tabs) 2 f_Pattern_near) :=
  def_okN (k := 1) (A := []) (N := ["self", "name"]) F sc_Pattern_near fun cdv Ar outer s0 H E hr => by
    exact (s_cons (s_expr (e_methD M_Pattern_need B_Pattern_need hr (show 1 ≤ 1 from by decide) (passW_of (takes_of rfl rfl rfl rfl)) (e_var (pv 0)) (a_cons (e_var (pv 1)) a_nil) (dlen_cons dlen_nil) rfl)) (s_one (s_ret (e_callTy call_list_of cd_list rfl m_list (by decide +kernel) (a_cons (e_ix3 rfl (room65 hr) (e_fld rfl cls_Pattern na_Pattern_at (e_var (pv 0))) (e_var (pv 1)) (fun _ _ => rfl)) a_nil)))))
theorem sc_rings : FnScope ["pattern", "start", "far", "seen", "found", "turn", "ring", "name", "cell", "v", "shift", "knot"] ["pattern", "start", "far"] (defScope t_rings) := ⟨rfl, rfl, rfl, by decide +kernel, rfl, by decide +kernel, by decide +kernel⟩
@[reducible] def s_rings : S := sSeq (sSet 3 (mNd1 (mVar 1) (mC (.bl true)))) (sSeq (sSet 4 (mLst (mCons (mLst (mCons (mVar 1) (mNil))) (mNil)))) (sSeq (sFor (iRg1 (mCons (mVar 2) (mNil))) (gN 5) (sSeq (sSet 6 (mLst (mNil))) (sSeq (sFor (iSeq (mSub3 4 (mUn negD (mC (.int 1))))) (gSq 2 (gCo (gN 7) (gCo (gN 8) (gNi)))) (sFor (iSeq (mMeth "Pattern" "near" f_Pattern_near (mVar 0) (mCons (mVar 7) (mNil)))) (gSq 2 (gCo (gN 9) (gCo (gN 10) (gNi)))) (sSeq (sSet 11 (mTup (mCons (mVar 9) (mCons (mCall f_added [] (aVa (mVar 8) (aVa (mVar 10) (aNil)))) (mNil))))) (sIf (mNdN 3 (mVar 11)) (sSeq (sNdP 3 (mVar 11) (mC (.bl true))) (sDrop (mApp 6 (mCons (mVar 11) (mNil))))) (sNx))))) (sDrop (mApp 4 (mCons (mVar 6) (mNil))))))) (sRet (mMov 4))))
@[reducible] def f_rings : List SD → FR := Fm.runN [] 12 s_rings
theorem ok_rings {P : Program} {w : World} {K : PySem.W.Frag} {mg : Str → Option Value} {base : Heap} {cl : String → Addr} {tabs : List (Addr × Str)} {f : Addr} {fd : FuncData} (F : FunD K "rings" "rings" (defArgs t_rings) (defBody t_rings) (defScope t_rings) [] [] f fd) (m_range : mg "range" = none) {a_added : Addr} {d_added : FuncData} (C_added : Callee P w K mg base (kx w K cl tabs) "added" 1 ["cell", "shift"] f_added a_added d_added) (B_added : Binds K d_added ["cell", "shift"] []) {a_Pattern_near : Addr} {d_Pattern_near : FuncData} (M_Pattern_near : MethD P w K mg base (kx w K cl tabs) "Pattern" "near" 2 ["self", "name"] f_Pattern_near a_Pattern_near d_Pattern_near) (B_Pattern_near : Binds K d_Pattern_near ["self", "name"] []) : FnOk P w K mg base (L2.CX P w) 3 f fd ["pattern", "start", "far"] (spF (kx w K cl tabs) 3 f_rings) :=
  def_okN (k := 2) (A := []) (N := ["pattern", "start", "far", "seen", "found", "turn", "ring", "name", "cell", "v", "shift", "knot"]) F sc_rings fun cdv Ar outer s0 H E hr => by
    exact (s_cons (s_set sc_rings.nd (i := 3) rfl (by first | exact Or.inl rfl | exact Or.inr rfl) (e_nd1 rfl rfl (room65 hr) (e_var (pv 1)) e_bl)) (s_cons (s_set sc_rings.nd (i := 4) rfl (by first | exact Or.inl rfl | exact Or.inr rfl) (e_lst (a_cons (e_lst (a_cons (e_var (pv 1)) a_nil)) a_nil))) (s_cons (s_for (vs := [5]) (passes_of rfl) rfl (i_rng1 rfl m_range (a_cons (e_var (pv 2)) a_nil)) (g_name (pg_name sc_rings.nd (i := 5) rfl (by first | exact Or.inl rfl | exact Or.inr rfl))) (s_cons (s_set sc_rings.nd (i := 6) rfl (by first | exact Or.inl rfl | exact Or.inr rfl) (e_lst a_nil)) (s_cons (s_for (vs := [7, 8]) (passes_of rfl) rfl (i_seq rfl (e_sub3 rfl (room65 hr) (pv 4) (e_un un_neg ud_neg e_int) (fun _ _ => rfl))) (g_seq (n := 2) rfl rfl (gs_cons (g_name (pg_name sc_rings.nd (i := 7) rfl (by first | exact Or.inl rfl | exact Or.inr rfl))) (gs_cons (g_name (pg_name sc_rings.nd (i := 8) rfl (by first | exact Or.inl rfl | exact Or.inr rfl))) gs_nil))) (s_one (s_for (vs := [9, 10]) (passes_of rfl) rfl (i_seq rfl (e_methD M_Pattern_near B_Pattern_near hr (show 2 ≤ 2 from by decide) (passW_of (takes_of rfl rfl rfl rfl)) (e_var (pv 0)) (a_cons (e_var (pv 7)) a_nil) (dlen_cons dlen_nil) rfl)) (g_seq (n := 2) rfl rfl (gs_cons (g_name (pg_name sc_rings.nd (i := 9) rfl (by first | exact Or.inl rfl | exact Or.inr rfl))) (gs_cons (g_name (pg_name sc_rings.nd (i := 10) rfl (by first | exact Or.inl rfl | exact Or.inr rfl))) gs_nil))) (s_cons (s_set sc_rings.nd (i := 11) rfl (by first | exact Or.inl rfl | exact Or.inr rfl) (e_tup (a_cons (e_var (pv 9)) (a_cons (e_callC C_added B_added hr (show 1 ≤ 2 from by decide) rfl (passW_of (takes_of rfl rfl rfl rfl)) (ar_va (e_var (pv 8)) (ar_va (e_var (pv 10)) ar_nil)) (alen_va (alen_va alen_nil))) a_nil)))) (s_one (s_if (t_ndN rfl rfl (room65 hr) (pv 3) (e_var (pv 11)) rfl) (s_cons (s_ndP rfl rfl (room65 hr) (pv 3) (e_var (pv 11)) e_bl) (s_one (s_expr (e_app rfl (pv 6) (a_cons (e_var (pv 11)) a_nil))))) s_nil)))))) (s_one (s_expr (e_app rfl (pv 4) (a_cons (e_var (pv 6)) a_nil))))))) (s_one (s_ret (e_mov (pv 4)))))))
theorem sc_distance : FnScope ["pattern", "one", "other", "most", "count", "ring"] ["pattern", "one", "other", "most"] (defScope t_distance) := ⟨rfl, rfl, rfl, by decide +kernel, rfl, by decide +kernel, by decide +kernel⟩
@[reducible] def s_distance : S := sSeq (sDrop (mMeth "Pattern" "need_knot" f_Pattern_need_knot (mVar 0) (mCons (mVar 1) (mNil)))) (sSeq (sDrop (mMeth "Pattern" "need_knot" f_Pattern_need_knot (mVar 0) (mCons (mVar 2) (mNil)))) (sSeq (sFor (iEn2 (mCall f_rings [] (aVa (mVar 0) (aVa (mVar 1) (aVa (mVar 3) (aNil)))))) (gSq 2 (gCo (gN 4) (gCo (gN 5) (gNi)))) (sIf (mTst (mOp in3D (mVar 2) (mVar 5))) (sRet (mMov 4)) (sNx))) (sRet (mC .non))))
@[reducible] def f_distance : List SD → FR := Fm.runN [] 6 s_distance
theorem ok_distance {P : Program} {w : World} {K : PySem.W.Frag} {mg : Str → Option Value} {base : Heap} {cl : String → Addr} {tabs : List (Addr × Str)} {f : Addr} {fd : FuncData} (F : FunD K "distance" "distance" (defArgs t_distance) (defBody t_distance) (defScope t_distance) [] [("most", V.int 4)] f fd) (m_enumerate : mg "enumerate" = none) {a_Pattern_need_knot : Addr} {d_Pattern_need_knot : FuncData} (M_Pattern_need_knot : MethD P w K mg base (kx w K cl tabs) "Pattern" "need_knot" 2 ["self", "knot"] f_Pattern_need_knot a_Pattern_need_knot d_Pattern_need_knot) (B_Pattern_need_knot : Binds K d_Pattern_need_knot ["self", "knot"] []) {a_rings : Addr} {d_rings : FuncData} (C_rings : Callee P w K mg base (kx w K cl tabs) "rings" 3 ["pattern", "start", "far"] f_rings a_rings d_rings) (B_rings : Binds K d_rings ["pattern", "start", "far"] []) : FnOk P w K mg base (L2.CX P w) 4 f fd ["pattern", "one", "other", "most"] (spF (kx w K cl tabs) 4 f_distance) :=
  def_okN (k := 3) (A := []) (N := ["pattern", "one", "other", "most", "count", "ring"]) F sc_distance fun cdv Ar outer s0 H E hr => by
    exact (s_cons (s_expr (e_methD M_Pattern_need_knot B_Pattern_need_knot hr (show 2 ≤ 3 from by decide) (passW_of (takes_of rfl rfl rfl rfl)) (e_var (pv 0)) (a_cons (e_var (pv 1)) a_nil) (dlen_cons dlen_nil) rfl)) (s_cons (s_expr (e_methD M_Pattern_need_knot B_Pattern_need_knot hr (show 2 ≤ 3 from by decide) (passW_of (takes_of rfl rfl rfl rfl)) (e_var (pv 0)) (a_cons (e_var (pv 2)) a_nil) (dlen_cons dlen_nil) rfl)) (s_cons (s_for (vs := [4, 5]) (passes_of rfl) rfl (i_enum2 rfl rfl m_enumerate (e_callC C_rings B_rings hr (show 3 ≤ 3 from by decide) rfl (passW_of (takes_of rfl rfl rfl rfl)) (ar_va (e_var (pv 0)) (ar_va (e_var (pv 1)) (ar_va (e_var (pv 3)) ar_nil))) (alen_va (alen_va (alen_va alen_nil))))) (g_seq (n := 2) rfl rfl (gs_cons (g_name (pg_name sc_distance.nd (i := 4) rfl (by first | exact Or.inl rfl | exact Or.inr rfl))) (gs_cons (g_name (pg_name sc_distance.nd (i := 5) rfl (by first | exact Or.inl rfl | exact Or.inr rfl))) gs_nil))) (s_one (s_if (t_cmp (op_in3 (room65 hr)) od_in3 (e_var (pv 2)) (e_var (pv 5)) rfl) (s_one (s_ret (e_mov (pv 4)))) s_nil))) (s_one (s_ret e_non)))))
theorem sc__law_begin : FnScope ["_law_script"] ["_law_script"] (defScope t__law_begin) := ⟨rfl, rfl, rfl, by decide +kernel, rfl, by decide +kernel, by decide +kernel⟩
@[reducible] def s__law_begin : S := sRet (mLst (mCons (mCB listD (mCons (mSl (mVar 0) (mPN) (mPS (mC (.int 63)))) (mNil))) (mCons (mC (.int 0)) (mCons (mC (.int 0)) (mCons (mC (.int 1)) (mCons (mC (.int 0)) (mNil)))))))
@[reducible] def f__law_begin : List SD → FR := Fm.runN [] 1 s__law_begin
theorem ok__law_begin {P : Program} {w : World} {K : PySem.W.Frag} {mg : Str → Option Value} {base : Heap} {cl : String → Addr} {tabs : List (Addr × Str)} {f : Addr} {fd : FuncData} (F : FunD K "_law_begin" "_law_begin" (defArgs t__law_begin) (defBody t__law_begin) (defScope t__law_begin) [] [] f fd) (m_list : mg "list" = none) : FnOk P w K mg base (L2.CX P w) 1 f fd ["_law_script"] (spF (kx w K cl tabs) 1 f__law_begin) :=
  def_okN (k := 0) (A := []) (N := ["_law_script"]) F sc__law_begin fun cdv Ar outer s0 H E hr => by
    exact (s_one (s_ret (e_lst (a_cons (e_callTy call_list_of cd_list rfl m_list (by decide +kernel) (a_cons (e_slice rfl (e_var (pv 0)) o_none (o_some e_int)) a_nil)) (a_cons e_int (a_cons e_int (a_cons e_int (a_cons e_int a_nil))))))))
theorem sc__law_pick : FnScope ["_law_draw", "_law_many", "_law_cell", "_law_got"] ["_law_draw", "_law_many"] (defScope t__law_pick) := ⟨rfl, rfl, rfl, by decide +kernel, rfl, by decide +kernel, by decide +kernel⟩
@[reducible] def s__law_pick : S := sSeq (sIf (mAnd (mTst (mOp ltD (mSub3 0 (mC (.int 2))) (mVar 1))) (mTst (mOp ltD (mSub3 0 (mC (.int 1))) (mCB len3D (mCons (mSub3 0 (mC (.int 0))) (mNil)))))) (sSeq (sSet 2 (mOp ix3D (mSub3 0 (mC (.int 0))) (mSub3 0 (mC (.int 1))))) (sSeq (sPut3 0 (mC (.int 1)) (mOp add3D (mSub3 0 (mC (.int 1))) (mC (.int 1)))) (sSeq (sPut3 0 (mC (.int 2)) (mC (.int 0))) (sIf (mTst (mOp geD (mVar 2) (mOp powD (mC (.int 10)) (mC (.int 18))))) (sPut3 0 (mC (.int 2)) (mVar 2)) (sPut3 0 (mC (.int 3)) (mOp modD (mOp add3D (mSub3 0 (mC (.int 3))) (mVar 2)) (mC (.int 1000000007)))))))) (sNx)) (sSeq (sIf (mTst (mOp geD (mSub3 0 (mC (.int 2))) (mVar 1))) (sSeq (sSet 3 (mOp modD (mSub3 0 (mC (.int 2))) (mVar 1))) (sSeq (sPut3 0 (mC (.int 2)) (mOp divD (mSub3 0 (mC (.int 2))) (mVar 1))) (sRet (mMov 3)))) (sNx)) (sSeq (sPut3 0 (mC (.int 4)) (mOp add3D (mSub3 0 (mC (.int 4))) (mC (.int 1)))) (sSeq (sPut3 0 (mC (.int 3)) (mOp modD (mOp add3D (mOp add3D (mOp powD (mSub3 0 (mC (.int 3))) (mC (.int 3))) (mOp repD (mC (.int 40503)) (mSub3 0 (mC (.int 4))))) (mC (.int 17))) (mC (.int 1000000007)))) (sRet (mOp modD (mOp divD (mSub3 0 (mC (.int 3))) (mC (.int 5))) (mVar 1))))))
@[reducible] def f__law_pick : List SD → FR := Fm.runN [0] 4 s__law_pick
theorem ok__law_pick {P : Program} {w : World} {K : PySem.W.Frag} {mg : Str → Option Value} {base : Heap} {cl : String → Addr} {tabs : List (Addr × Str)} {f : Addr} {fd : FuncData} (F : FunD K "_law_pick" "_law_pick" (defArgs t__law_pick) (defBody t__law_pick) (defScope t__law_pick) [] [] f fd) (m_len : mg "len" = none) : FnOk P w K mg base (L2.CX P w) 1 f fd ["_law_draw", "_law_many"] (spF (kx w K cl tabs) 2 f__law_pick) :=
  def_okN (k := 0) (A := [0]) (N := ["_law_draw", "_law_many", "_law_cell", "_law_got"]) F sc__law_pick fun cdv Ar outer s0 H E hr => by
    exact (s_cons (s_if (PW.pt (w_and (t_cmp op_lt od_lt (e_sub3 rfl (room65 hr) (pv 0) e_int (fun _ _ => rfl)) (e_var (pv 1)) (nomark _)) (w_one (t_cmp op_lt od_lt (e_sub3 rfl (room65 hr) (pv 0) e_int (fun _ _ => rfl)) (e_callB call_len3 cd_len3 rfl m_len (by decide +kernel) (a_cons (e_sub3 rfl (room65 hr) (pv 0) e_int (fun _ _ => rfl)) a_nil)) (nomark _))))) (s_cons (s_set sc__law_pick.nd (i := 2) rfl (by first | exact Or.inl rfl | exact Or.inr rfl) (e_ix3 rfl (room65 hr) (e_sub3 rfl (room65 hr) (pv 0) e_int (fun _ _ => rfl)) (e_sub3 rfl (room65 hr) (pv 0) e_int (fun _ _ => rfl)) (fun _ _ => rfl))) (s_cons (s_put3 (room65 hr) (pv 0) e_int (e_op op_add3 od_add3 (e_sub3 rfl (room65 hr) (pv 0) e_int (fun _ _ => rfl)) e_int)) (s_cons (s_put3 (room65 hr) (pv 0) e_int e_int) (s_one (s_if (t_cmp op_ge od_ge (e_var (pv 2)) (e_op op_pow od_pow e_int e_int) (nomark _)) (s_one (s_put3 (room65 hr) (pv 0) e_int (e_var (pv 2)))) (s_one (s_put3 (room65 hr) (pv 0) e_int (e_op op_modN od_mod (e_op op_add3 od_add3 (e_sub3 rfl (room65 hr) (pv 0) e_int (fun _ _ => rfl)) (e_var (pv 2))) e_int)))))))) s_nil) (s_cons (s_if (t_cmp op_ge od_ge (e_sub3 rfl (room65 hr) (pv 0) e_int (fun _ _ => rfl)) (e_var (pv 1)) (nomark _)) (s_cons (s_set sc__law_pick.nd (i := 3) rfl (by first | exact Or.inl rfl | exact Or.inr rfl) (e_op op_modN od_mod (e_sub3 rfl (room65 hr) (pv 0) e_int (fun _ _ => rfl)) (e_var (pv 1)))) (s_cons (s_put3 (room65 hr) (pv 0) e_int (e_op op_divX od_div (e_sub3 rfl (room65 hr) (pv 0) e_int (fun _ _ => rfl)) (e_var (pv 1)))) (s_one (s_ret (e_mov (pv 3)))))) s_nil) (s_cons (s_put3 (room65 hr) (pv 0) e_int (e_op op_add3 od_add3 (e_sub3 rfl (room65 hr) (pv 0) e_int (fun _ _ => rfl)) e_int)) (s_cons (s_put3 (room65 hr) (pv 0) e_int (e_op op_modN od_mod (e_op op_add3 od_add3 (e_op op_add3 od_add3 (e_op op_pow od_pow (e_sub3 rfl (room65 hr) (pv 0) e_int (fun _ _ => rfl)) e_int) (e_op op_mulX od_rep e_int (e_sub3 rfl (room65 hr) (pv 0) e_int (fun _ _ => rfl)))) e_int) e_int)) (s_one (s_ret (e_op op_modN od_mod (e_op op_divX od_div (e_sub3 rfl (room65 hr) (pv 0) e_int (fun _ _ => rfl)) e_int) (e_var (pv 1)))))))))
theorem sc__law_one : FnScope ["_law_draw", "_law_some"] ["_law_draw", "_law_some"] (defScope t__law_one) := ⟨rfl, rfl, rfl, by decide +kernel, rfl, by decide +kernel, by decide +kernel⟩
@[reducible] def s__law_one : S := sRet (mSub3 1 (mCall f__law_pick [] (aSl 0 (aVa (mCB len3D (mCons (mVar 1) (mNil))) (aNil)))))
@[reducible] def f__law_one : List SD → FR := Fm.runN [0] 2 s__law_one
theorem ok__law_one {P : Program} {w : World} {K : PySem.W.Frag} {mg : Str → Option Value} {base : Heap} {cl : String → Addr} {tabs : List (Addr × Str)} {f : Addr} {fd : FuncData} (F : FunD K "_law_one" "_law_one" (defArgs t__law_one) (defBody t__law_one) (defScope t__law_one) [] [] f fd) (m_len : mg "len" = none) {a__law_pick : Addr} {d__law_pick : FuncData} (C__law_pick : Callee P w K mg base (kx w K cl tabs) "_law_pick" 1 ["_law_draw", "_law_many"] f__law_pick a__law_pick d__law_pick) (B__law_pick : Binds K d__law_pick ["_law_draw", "_law_many"] []) : FnOk P w K mg base (L2.CX P w) 2 f fd ["_law_draw", "_law_some"] (spF (kx w K cl tabs) 2 f__law_one) :=
  def_okN (k := 1) (A := [0]) (N := ["_law_draw", "_law_some"]) F sc__law_one fun cdv Ar outer s0 H E hr => by
    exact (s_one (s_ret (e_sub3 rfl (room65 hr) (pv 1) (e_callC C__law_pick B__law_pick hr (show 1 ≤ 1 from by decide) rfl (passW_of (takes_of rfl rfl rfl rfl)) (ar_sl (pv 0) (ar_va (e_callB call_len3 cd_len3 rfl m_len (by decide +kernel) (a_cons (e_var (pv 1)) a_nil)) ar_nil)) (alen_sl (alen_va alen_nil))) (fun _ _ => rfl))))
theorem sc__law_numbers : FnScope ["_law_draw", "_law_ways", "_law_limit", "_law_k"] ["_law_draw", "_law_ways", "_law_limit"] (defScope t__law_numbers) := ⟨rfl, rfl, rfl, by decide +kernel, rfl, by decide +kernel, by decide +kernel⟩
@[reducible] def s__law_numbers : S := sRet (mCB tupD (mCons (mLc (iRg1 (mCons (mVar 1) (mNil))) [3] (gN 3) (M.ret true) (mOp subD (mCall f__law_pick [] (aSl 0 (aVa (mOp add3D (mOp repD (mC (.int 2)) (mVar 2)) (mC (.int 1))) (aNil)))) (mVar 2))) (mNil)))
@[reducible] def f__law_numbers : List SD → FR := Fm.runN [0] 4 s__law_numbers
theorem ok__law_numbers {P : Program} {w : World} {K : PySem.W.Frag} {mg : Str → Option Value} {base : Heap} {cl : String → Addr} {tabs : List (Addr × Str)} {f : Addr} {fd : FuncData} (F : FunD K "_law_numbers" "_law_numbers" (defArgs t__law_numbers) (defBody t__law_numbers) (defScope t__law_numbers) [] [] f fd) (m_range : mg "range" = none) (m_tuple : mg "tuple" = none) {a__law_pick : Addr} {d__law_pick : FuncData} (C__law_pick : Callee P w K mg base (kx w K cl tabs) "_law_pick" 1 ["_law_draw", "_law_many"] f__law_pick a__law_pick d__law_pick) (B__law_pick : Binds K d__law_pick ["_law_draw", "_law_many"] []) : FnOk P w K mg base (L2.CX P w) 2 f fd ["_law_draw", "_law_ways", "_law_limit"] (spF (kx w K cl tabs) 3 f__law_numbers) :=
  def_okN (k := 1) (A := [0]) (N := ["_law_draw", "_law_ways", "_law_limit", "_law_k"]) F sc__law_numbers fun cdv Ar outer s0 H E hr => by
    exact (s_one (s_ret (e_callTy call_tuple_of cd_tup rfl m_tuple (by decide +kernel) (a_cons (e_lc (A := []) (own := [("_law_k", 3)]) rfl sc__law_numbers.nd (i_rng1 rfl m_range (a_cons (e_var (pv 1)) a_nil)) (blkOk_by (by kernel_rfl)) (fun _ _ _ _ _ => (g_name (pg_name sc__law_numbers.nd (i := 3) rfl (by first | exact Or.inl rfl | exact Or.inr rfl)))) (fun _ _ _ _ _ => ts_nil) (fun _ _ _ _ _ => (e_op op_sub od_sub (e_callC C__law_pick B__law_pick hr (show 1 ≤ 1 from by decide) rfl passW_no (ar_sl (pv 0) (ar_va (e_op op_add3 od_add3 (e_op op_mulX od_rep e_int (e_var (pv 2))) e_int) ar_nil)) (alen_sl (alen_va alen_nil))) (e_var (pv 2))))) a_nil))))
theorem sc__law_turned : FnScope ["_law_shift", "_law_number"] ["_law_shift"] (defScope t__law_turned) := ⟨rfl, rfl, rfl, by decide +kernel, rfl, by decide +kernel, by decide +kernel⟩
@[reducible] def s__law_turned : S := sRet (mCB tupD (mCons (mLc (iSeq (mVar 0)) [1] (gN 1) (M.ret true) (mOp subD (mC (.int 0)) (mVar 1))) (mNil)))
@[reducible] def f__law_turned : List SD → FR := Fm.runN [] 2 s__law_turned
theorem ok__law_turned {P : Program} {w : World} {K : PySem.W.Frag} {mg : Str → Option Value} {base : Heap} {cl : String → Addr} {tabs : List (Addr × Str)} {f : Addr} {fd : FuncData} (F : FunD K "_law_turned" "_law_turned" (defArgs t__law_turned) (defBody t__law_turned) (defScope t__law_turned) [] [] f fd) (m_tuple : mg "tuple" = none) : FnOk P w K mg base (L2.CX P w) 1 f fd ["_law_shift"] (spF (kx w K cl tabs) 1 f__law_turned) :=
  def_okN (k := 0) (A := []) (N := ["_law_shift", "_law_number"]) F sc__law_turned fun cdv Ar outer s0 H E hr => by
    exact (s_one (s_ret (e_callTy call_tuple_of cd_tup rfl m_tuple (by decide +kernel) (a_cons (e_lc (A := []) (own := [("_law_number", 1)]) rfl sc__law_turned.nd (i_seq rfl (e_var (pv 0))) (blkOk_by (by kernel_rfl)) (fun _ _ _ _ _ => (g_name (pg_name sc__law_turned.nd (i := 1) rfl (by first | exact Or.inl rfl | exact Or.inr rfl)))) (fun _ _ _ _ _ => ts_nil) (fun _ _ _ _ _ => (e_op op_sub od_sub e_int (e_var (pv 1))))) a_nil))))
theorem sc__law_lesser : FnScope ["_law_tie"] ["_law_tie"] (defScope t__law_lesser) := ⟨rfl, rfl, rfl, by decide +kernel, rfl, by decide +kernel, by decide +kernel⟩
@[reducible] def s__law_lesser : S := sRet (mCB minD2 (mCons (mTup (mCons (mSub3 0 (mC (.int 0))) (mCons (mSub3 0 (mC (.int 1))) (mCons (mSub3 0 (mC (.int 2))) (mNil))))) (mCons (mTup (mCons (mSub3 0 (mC (.int 1))) (mCons (mSub3 0 (mC (.int 0))) (mCons (mCall f__law_turned [] (aVa (mSub3 0 (mC (.int 2))) (aNil))) (mNil))))) (mNil))))
@[reducible] def f__law_lesser : List SD → FR := Fm.runN [] 1 s__law_lesser
theorem ok__law_lesser {P : Program} {w : World} {K : PySem.W.Frag} {mg : Str → Option Value} {base : Heap} {cl : String → Addr} {tabs : List (Addr × Str)} {f : Addr} {fd : FuncData} (F : FunD K "_law_lesser" "_law_lesser" (defArgs t__law_lesser) (defBody t__law_lesser) (defScope t__law_lesser) [] [] f fd) (m_min : mg "min" = none) {a__law_turned : Addr} {d__law_turned : FuncData} (C__law_turned : Callee P w K mg base (kx w K cl tabs) "_law_turned" 1 ["_law_shift"] f__law_turned a__law_turned d__law_turned) (B__law_turned : Binds K d__law_turned ["_law_shift"] []) : FnOk P w K mg base (L2.CX P w) 2 f fd ["_law_tie"] (spF (kx w K cl tabs) 1 f__law_lesser) :=
  def_okN (k := 1) (A := []) (N := ["_law_tie"]) F sc__law_lesser fun cdv Ar outer s0 H E hr => by
    exact (s_one (s_ret (e_callB (cr_min2D rfl rfl (room65 hr)) cd_min2D rfl m_min (by decide +kernel) (a_cons (e_tup (a_cons (e_sub3 rfl (room65 hr) (pv 0) e_int (fun _ _ => rfl)) (a_cons (e_sub3 rfl (room65 hr) (pv 0) e_int (fun _ _ => rfl)) (a_cons (e_sub3 rfl (room65 hr) (pv 0) e_int (fun _ _ => rfl)) a_nil)))) (a_cons (e_tup (a_cons (e_sub3 rfl (room65 hr) (pv 0) e_int (fun _ _ => rfl)) (a_cons (e_sub3 rfl (room65 hr) (pv 0) e_int (fun _ _ => rfl)) (a_cons (e_callC C__law_turned B__law_turned hr (show 1 ≤ 1 from by decide) rfl (passW_of (takes_of rfl rfl rfl rfl)) (ar_va (e_sub3 rfl (room65 hr) (pv 0) e_int (fun _ _ => rfl)) ar_nil) (alen_va alen_nil)) a_nil)))) a_nil)))))
theorem sc__law_put : FnScope ["_law_ties", "_law_tie", "_law_number"] ["_law_ties", "_law_tie"] (defScope t__law_put) := ⟨rfl, rfl, rfl, by decide +kernel, rfl, by decide +kernel, by decide +kernel⟩
@[reducible] def s__law_put : S := sSeq (sIf (mOr (mAnd (mTst (mOp eqD (mSub3 1 (mC (.int 0))) (mSub3 1 (mC (.int 1))))) (mTst (mCB allD (mCons (mLc (iSeq (mSub3 1 (mC (.int 2)))) [2] (gN 2) (M.ret true) (mOp eqD (mVar 2) (mC (.int 0)))) (mNil))))) (mTst (mOp in3D (mCall f__law_lesser [] (aVa (mVar 1) (aNil))) (mVar 0)))) (sRet (mMov 0)) (sNx)) (sRet (mCB sort3D (mCons (mOp add3D (mVar 0) (mLst (mCons (mCall f__law_lesser [] (aVa (mVar 1) (aNil))) (mNil)))) (mNil))))
@[reducible] def f__law_put : List SD → FR := Fm.runN [] 3 s__law_put
theorem ok__law_put {P : Program} {w : World} {K : PySem.W.Frag} {mg : Str → Option Value} {base : Heap} {cl : String → Addr} {tabs : List (Addr × Str)} {f : Addr} {fd : FuncData} (F : FunD K "_law_put" "_law_put" (defArgs t__law_put) (defBody t__law_put) (defScope t__law_put) [] [] f fd) (m_all : mg "all" = none) (m_sorted : mg "sorted" = none) {a__law_lesser : Addr} {d__law_lesser : FuncData} (C__law_lesser : Callee P w K mg base (kx w K cl tabs) "_law_lesser" 2 ["_law_tie"] f__law_lesser a__law_lesser d__law_lesser) (B__law_lesser : Binds K d__law_lesser ["_law_tie"] []) : FnOk P w K mg base (L2.CX P w) 3 f fd ["_law_ties", "_law_tie"] (spF (kx w K cl tabs) 2 f__law_put) :=
  def_okN (k := 2) (A := []) (N := ["_law_ties", "_law_tie", "_law_number"]) F sc__law_put fun cdv Ar outer s0 H E hr => by
    exact (s_cons (s_if (PW.pt (w_or (PW.pt (w_and (t_cmp (op_eqD hr.units) od_eq (e_sub3 rfl (room65 hr) (pv 1) e_int (fun _ _ => rfl)) (e_sub3 rfl (room65 hr) (pv 1) e_int (fun _ _ => rfl)) (nomark _)) (w_one (t_val (e_callB (cr_all rfl) cd_all rfl m_all (by decide +kernel) (a_cons (e_lc (A := []) (own := [("_law_number", 2)]) rfl sc__law_put.nd (i_seq rfl (e_sub3 rfl (room65 hr) (pv 1) e_int (fun _ _ => rfl))) (blkOk_by (by kernel_rfl)) (fun _ _ _ _ _ => (g_name (pg_name sc__law_put.nd (i := 2) rfl (by first | exact Or.inl rfl | exact Or.inr rfl)))) (fun _ _ _ _ _ => ts_nil) (fun _ _ _ _ _ => (e_cmp (op_eqD hr.units) od_eq (e_var (pv 2)) e_int (nomark _)))) a_nil)))))) (w_one (t_cmp (op_in3 (room65 hr)) od_in3 (e_callC C__law_lesser B__law_lesser hr (show 2 ≤ 2 from by decide) rfl (passW_of (takes_of rfl rfl rfl rfl)) (ar_va (e_var (pv 1)) ar_nil) (alen_va alen_nil)) (e_var (pv 0)) rfl)))) (s_one (s_ret (e_mov (pv 0)))) s_nil) (s_one (s_ret (e_callB (cr_sort3 rfl rfl (room65 hr)) cd_sort3 rfl m_sorted (by decide +kernel) (a_cons (e_op op_add3 od_add3 (e_var (pv 0)) (e_lst (a_cons (e_callC C__law_lesser B__law_lesser hr (show 2 ≤ 2 from by decide) rfl (passW_of (takes_of rfl rfl rfl rfl)) (ar_va (e_var (pv 1)) ar_nil) (alen_va alen_nil)) a_nil))) a_nil)))))
theorem sc__law_loose : FnScope ["_law_draw", "_law_ways", "_law_names_here", "_law_limit", "_law_knots", "_law_name", "_law_ties", "_law_k", "_law_size"] ["_law_draw", "_law_ways", "_law_names_here", "_law_limit"] (defScope t__law_loose) := ⟨rfl, rfl, rfl, by decide +kernel, rfl, by decide +kernel, by decide +kernel⟩
@[reducible] def s__law_loose : S := sSeq (sSet 4 (mDnew)) (sSeq (sFor (iSeq (mVar 2)) (gN 5) (sPut3 4 (mVar 5) (mOp ix3D (mTup (mCons (mC (.int 0)) (mCons (mC (.int 0)) (mCons (mCall f__law_pick [] (aSl 0 (aVa (mC (.int 10)) (aNil)))) (mNil))))) (mCall f__law_pick [] (aSl 0 (aVa (mC (.int 3)) (aNil))))))) (sSeq (sSet 6 (mLst (mNil))) (sSeq (sFor (iRg1 (mCons (mCall f__law_pick [] (aSl 0 (aVa (mOp add3D (mVar 3) (mC (.int 1))) (aNil)))) (mNil))) (gN 7) (sSeq (sSet 8 (mOp ix3D (mTup (mCons (mC (.int 1)) (mCons (mC (.int 2)) (mCons (mC (.int 2)) (mCons (mC (.int 9)) (mCons (mOp powD (mC (.int 10)) (mC (.int 6))) (mNil))))))) (mCall f__law_pick [] (aSl 0 (aVa (mC (.int 5)) (aNil)))))) (sSet 6 (mCall f__law_put [] (aVa (mVar 6) (aVa (mTup (mCons (mCall f__law_one [] (aSl 0 (aVa (mVar 2) (aNil)))) (mCons (mCall f__law_one [] (aSl 0 (aVa (mVar 2) (aNil)))) (mCons (mCall f__law_numbers [] (aSl 0 (aVa (mVar 1) (aVa (mVar 8) (aNil))))) (mNil))))) (aNil))))))) (sRet (mTup (mCons (mVar 1) (mCons (mVar 4) (mCons (mVar 6) (mNil)))))))))
@[reducible] def f__law_loose : List SD → FR := Fm.runN [0] 9 s__law_loose
theorem ok__law_loose {P : Program} {w : World} {K : PySem.W.Frag} {mg : Str → Option Value} {base : Heap} {cl : String → Addr} {tabs : List (Addr × Str)} {f : Addr} {fd : FuncData} (F : FunD K "_law_loose" "_law_loose" (defArgs t__law_loose) (defBody t__law_loose) (defScope t__law_loose) [] [] f fd) (m_range : mg "range" = none) {a__law_pick : Addr} {d__law_pick : FuncData} (C__law_pick : Callee P w K mg base (kx w K cl tabs) "_law_pick" 1 ["_law_draw", "_law_many"] f__law_pick a__law_pick d__law_pick) (B__law_pick : Binds K d__law_pick ["_law_draw", "_law_many"] []) {a__law_put : Addr} {d__law_put : FuncData} (C__law_put : Callee P w K mg base (kx w K cl tabs) "_law_put" 3 ["_law_ties", "_law_tie"] f__law_put a__law_put d__law_put) (B__law_put : Binds K d__law_put ["_law_ties", "_law_tie"] []) {a__law_one : Addr} {d__law_one : FuncData} (C__law_one : Callee P w K mg base (kx w K cl tabs) "_law_one" 2 ["_law_draw", "_law_some"] f__law_one a__law_one d__law_one) (B__law_one : Binds K d__law_one ["_law_draw", "_law_some"] []) {a__law_numbers : Addr} {d__law_numbers : FuncData} (C__law_numbers : Callee P w K mg base (kx w K cl tabs) "_law_numbers" 2 ["_law_draw", "_law_ways", "_law_limit"] f__law_numbers a__law_numbers d__law_numbers) (B__law_numbers : Binds K d__law_numbers ["_law_draw", "_law_ways", "_law_limit"] []) : FnOk P w K mg base (L2.CX P w) 4 f fd ["_law_draw", "_law_ways", "_law_names_here", "_law_limit"] (spF (kx w K cl tabs) 4 f__law_loose) :=
  def_okN (k := 3) (A := [0]) (N := ["_law_draw", "_law_ways", "_law_names_here", "_law_limit", "_law_knots", "_law_name", "_law_ties", "_law_k", "_law_size"]) F sc__law_loose fun cdv Ar outer s0 H E hr => by
    exact (s_cons (s_set sc__law_loose.nd (i := 4) rfl (by first | exact Or.inl rfl | exact Or.inr rfl) e_dnew) (s_cons (s_for (vs := [5]) (passes_of rfl) rfl (i_seq rfl (e_var (pv 2))) (g_name (pg_name sc__law_loose.nd (i := 5) rfl (by first | exact Or.inl rfl | exact Or.inr rfl))) (s_one (s_put3 (room65 hr) (pv 4) (e_var (pv 5)) (e_ix3 rfl (room65 hr) (e_tup (a_cons e_int (a_cons e_int (a_cons (e_callC C__law_pick B__law_pick hr (show 1 ≤ 3 from by decide) rfl (passW_of (takes_of rfl rfl rfl rfl)) (ar_sl (pv 0) (ar_va e_int ar_nil)) (alen_sl (alen_va alen_nil))) a_nil)))) (e_callC C__law_pick B__law_pick hr (show 1 ≤ 3 from by decide) rfl (passW_of (takes_of rfl rfl rfl rfl)) (ar_sl (pv 0) (ar_va e_int ar_nil)) (alen_sl (alen_va alen_nil))) (fun _ _ => rfl))))) (s_cons (s_set sc__law_loose.nd (i := 6) rfl (by first | exact Or.inl rfl | exact Or.inr rfl) (e_lst a_nil)) (s_cons (s_for (vs := [7]) (passes_of rfl) rfl (i_rng1 rfl m_range (a_cons (e_callC C__law_pick B__law_pick hr (show 1 ≤ 3 from by decide) rfl (passW_of (takes_of rfl rfl rfl rfl)) (ar_sl (pv 0) (ar_va (e_op op_add3 od_add3 (e_var (pv 3)) e_int) ar_nil)) (alen_sl (alen_va alen_nil))) a_nil)) (g_name (pg_name sc__law_loose.nd (i := 7) rfl (by first | exact Or.inl rfl | exact Or.inr rfl))) (s_cons (s_set sc__law_loose.nd (i := 8) rfl (by first | exact Or.inl rfl | exact Or.inr rfl) (e_ix3 rfl (room65 hr) (e_tup (a_cons e_int (a_cons e_int (a_cons e_int (a_cons e_int (a_cons (e_op op_pow od_pow e_int e_int) a_nil)))))) (e_callC C__law_pick B__law_pick hr (show 1 ≤ 3 from by decide) rfl (passW_of (takes_of rfl rfl rfl rfl)) (ar_sl (pv 0) (ar_va e_int ar_nil)) (alen_sl (alen_va alen_nil))) (fun _ _ => rfl))) (s_one (s_set sc__law_loose.nd (i := 6) rfl (by first | exact Or.inl rfl | exact Or.inr rfl) (e_callC C__law_put B__law_put hr (show 3 ≤ 3 from by decide) rfl (passW_of (takes_of rfl rfl rfl rfl)) (ar_va (e_var (pv 6)) (ar_va (e_tup (a_cons (e_callC C__law_one B__law_one hr (show 2 ≤ 3 from by decide) rfl (passW_of (takes_of rfl rfl rfl rfl)) (ar_sl (pv 0) (ar_va (e_var (pv 2)) ar_nil)) (alen_sl (alen_va alen_nil))) (a_cons (e_callC C__law_one B__law_one hr (show 2 ≤ 3 from by decide) rfl (passW_of (takes_of rfl rfl rfl rfl)) (ar_sl (pv 0) (ar_va (e_var (pv 2)) ar_nil)) (alen_sl (alen_va alen_nil))) (a_cons (e_callC C__law_numbers B__law_numbers hr (show 2 ≤ 3 from by decide) rfl (passW_of (takes_of rfl rfl rfl rfl)) (ar_sl (pv 0) (ar_va (e_var (pv 1)) (ar_va (e_var (pv 8)) ar_nil))) (alen_sl (alen_va (alen_va alen_nil)))) a_nil)))) ar_nil)) (alen_va (alen_va alen_nil))))))) (s_one (s_ret (e_tup (a_cons (e_var (pv 1)) (a_cons (e_var (pv 4)) (a_cons (e_var (pv 6)) a_nil))))))))))
theorem sc__law_names : FnScope ["_law_draw", "_law_many", "_law_letters", "_law_word", "_law_at", "_law_first", "_law_step", "_law_signs", "_law_k", "_law_sign"] ["_law_draw", "_law_many"] (defScope t__law_names) := ⟨rfl, rfl, rfl, by decide +kernel, rfl, by decide +kernel, by decide +kernel⟩
@[reducible] def s__law_names : S := sSeq (sSet 2 (mC (.str "abcdefghijklmnopqrstuvwxyz"))) (sSeq (sSet 3 (mM1 joinG (mC (.str "")) (mLc (iRg1 (mCons (mCall f__law_pick [] (aSl 0 (aVa (mC (.int 6)) (aNil)))) (mNil))) [8] (gN 8) (M.ret true) (mCall f__law_one [] (aSl 0 (aVa (mVar 2) (aNil))))))) (sSeq (sSet 4 (mCall f__law_pick [] (aSl 0 (aVa (mOp add3D (mCB len3D (mCons (mVar 3) (mNil))) (mC (.int 1))) (aNil))))) (sSeq (sSet 5 (mCall f__law_pick [] (aSl 0 (aVa (mC (.int 26)) (aNil))))) (sSeq (sSet 6 (mOp ix3D (mTup (mCons (mC (.int 1)) (mCons (mC (.int 3)) (mCons (mC (.int 5)) (mCons (mC (.int 7)) (mCons (mC (.int 11)) (mCons (mC (.int 25)) (mNil)))))))) (mCall f__law_pick [] (aSl 0 (aVa (mC (.int 6)) (aNil)))))) (sSeq (sSet 7 (mLc (iRg1 (mCons (mVar 1) (mNil))) [8] (gN 8) (M.ret true) (mSub3 2 (mOp modD (mOp add3D (mVar 5) (mOp repD (mVar 6) (mVar 8))) (mC (.int 26)))))) (sRet (mLc (iSeq (mVar 7)) [9] (gN 9) (M.ret true) (mOp add3D (mOp add3D (mSl (mVar 3) (mPN) (mPS (mVar 4))) (mVar 9)) (mSl (mVar 3) (mPS (mVar 4)) (mPN))))))))))
@[reducible] def f__law_names : List SD → FR := Fm.runN [0] 10 s__law_names
theorem ok__law_names {P : Program} {w : World} {K : PySem.W.Frag} {mg : Str → Option Value} {base : Heap} {cl : String → Addr} {tabs : List (Addr × Str)} {f : Addr} {fd : FuncData} (F : FunD K "_law_names" "_law_names" (defArgs t__law_names) (defBody t__law_names) (defScope t__law_names) [] [] f fd) (m_len : mg "len" = none) (m_range : mg "range" = none) {a__law_pick : Addr} {d__law_pick : FuncData} (C__law_pick : Callee P w K mg base (kx w K cl tabs) "_law_pick" 1 ["_law_draw", "_law_many"] f__law_pick a__law_pick d__law_pick) (B__law_pick : Binds K d__law_pick ["_law_draw", "_law_many"] []) {a__law_one : Addr} {d__law_one : FuncData} (C__law_one : Callee P w K mg base (kx w K cl tabs) "_law_one" 2 ["_law_draw", "_law_some"] f__law_one a__law_one d__law_one) (B__law_one : Binds K d__law_one ["_law_draw", "_law_some"] []) : FnOk P w K mg base (L2.CX P w) 3 f fd ["_law_draw", "_law_many"] (spF (kx w K cl tabs) 2 f__law_names) :=
  def_okN (k := 2) (A := [0]) (N := ["_law_draw", "_law_many", "_law_letters", "_law_word", "_law_at", "_law_first", "_law_step", "_law_signs", "_law_k", "_law_sign"]) F sc__law_names fun cdv Ar outer s0 H E hr => by
    exact (s_cons (s_set sc__law_names.nd (i := 2) rfl (by first | exact Or.inl rfl | exact Or.inr rfl) e_str) (s_cons (s_set sc__law_names.nd (i := 3) rfl (by first | exact Or.inl rfl | exact Or.inr rfl) (e_join rfl e_str (e_lc (A := []) (own := [("_law_k", 8)]) rfl sc__law_names.nd (i_rng1 rfl m_range (a_cons (e_callC C__law_pick B__law_pick hr (show 1 ≤ 2 from by decide) rfl (passW_of (takes_of rfl rfl rfl rfl)) (ar_sl (pv 0) (ar_va e_int ar_nil)) (alen_sl (alen_va alen_nil))) a_nil)) (blkOk_by (by kernel_rfl)) (fun _ _ _ _ _ => (g_name (pg_name sc__law_names.nd (i := 8) rfl (by first | exact Or.inl rfl | exact Or.inr rfl)))) (fun _ _ _ _ _ => ts_nil) (fun _ _ _ _ _ => (e_callC C__law_one B__law_one hr (show 2 ≤ 2 from by decide) rfl passW_no (ar_sl (pv 0) (ar_va (e_var (pv 2)) ar_nil)) (alen_sl (alen_va alen_nil))))))) (s_cons (s_set sc__law_names.nd (i := 4) rfl (by first | exact Or.inl rfl | exact Or.inr rfl) (e_callC C__law_pick B__law_pick hr (show 1 ≤ 2 from by decide) rfl (passW_of (takes_of rfl rfl rfl rfl)) (ar_sl (pv 0) (ar_va (e_op op_add3 od_add3 (e_callB call_len3 cd_len3 rfl m_len (by decide +kernel) (a_cons (e_var (pv 3)) a_nil)) e_int) ar_nil)) (alen_sl (alen_va alen_nil)))) (s_cons (s_set sc__law_names.nd (i := 5) rfl (by first | exact Or.inl rfl | exact Or.inr rfl) (e_callC C__law_pick B__law_pick hr (show 1 ≤ 2 from by decide) rfl (passW_of (takes_of rfl rfl rfl rfl)) (ar_sl (pv 0) (ar_va e_int ar_nil)) (alen_sl (alen_va alen_nil)))) (s_cons (s_set sc__law_names.nd (i := 6) rfl (by first | exact Or.inl rfl | exact Or.inr rfl) (e_ix3 rfl (room65 hr) (e_tup (a_cons e_int (a_cons e_int (a_cons e_int (a_cons e_int (a_cons e_int (a_cons e_int a_nil))))))) (e_callC C__law_pick B__law_pick hr (show 1 ≤ 2 from by decide) rfl (passW_of (takes_of rfl rfl rfl rfl)) (ar_sl (pv 0) (ar_va e_int ar_nil)) (alen_sl (alen_va alen_nil))) (fun _ _ => rfl))) (s_cons (s_setLc (A := [0]) (own := [("_law_k", 8)]) (i := 7) rfl sc__law_names.nd rfl rfl rfl (i_rng1 rfl m_range (a_cons (e_var (pv 1)) a_nil)) (blkOk_by (by kernel_rfl)) (fun _ _ _ _ _ => (g_name (pg_name sc__law_names.nd (i := 8) rfl (by first | exact Or.inl rfl | exact Or.inr rfl)))) (fun _ _ _ _ _ => ts_nil) (fun _ _ _ _ _ => (e_sub3 rfl (room65 hr) (pv 2) (e_op op_modN od_mod (e_op op_add3 od_add3 (e_var (pv 5)) (e_op op_mulX od_rep (e_var (pv 6)) (e_var (pv 8)))) e_int) (fun _ _ => rfl)))) (s_one (s_ret (e_lc (A := []) (own := [("_law_sign", 9)]) rfl sc__law_names.nd (i_seq rfl (e_var (pv 7))) (blkOk_by (by kernel_rfl)) (fun _ _ _ _ _ => (g_name (pg_name sc__law_names.nd (i := 9) rfl (by first | exact Or.inl rfl | exact Or.inr rfl)))) (fun _ _ _ _ _ => ts_nil) (fun _ _ _ _ _ => (e_op op_add3 od_add3 (e_op op_add3 od_add3 (e_slice rfl (e_var (pv 3)) o_none (o_some (e_var (pv 4)))) (e_var (pv 9))) (e_slice rfl (e_var (pv 3)) (o_some (e_var (pv 4))) o_none))))))))))))
theorem sc_is_name : FnScope ["text", "sign"] ["text"] (defScope t_is_name) := ⟨rfl, rfl, rfl, by decide +kernel, rfl, by decide +kernel, by decide +kernel⟩
@[reducible] def s_is_name : S := sRet (mAndV (mChain ltD leD (mC (.int 0)) (mCB len3D (mCons (mVar 0) (mNil))) (mC c_LONGEST)) (mCB allD (mCons (mLc (iSeq (mVar 0)) [1] (gN 1) (M.ret true) (mOp in3D (mVar 1) (mC c_LETTERS))) (mNil))))
@[reducible] def f_is_name : List SD → FR := Fm.runN [] 2 s_is_name
theorem ok_is_name {P : Program} {w : World} {K : PySem.W.Frag} {mg : Str → Option Value} {base : Heap} {cl : String → Addr} {tabs : List (Addr × Str)} {f : Addr} {fd : FuncData} (F : FunD K "is_name" "is_name" (defArgs t_is_name) (defBody t_is_name) (defScope t_is_name) [] [] f fd) (m_all : mg "all" = none) {z_LETTERS : Tok} (g_LETTERS : mg "LETTERS" = some (.str "abcdefghijklmnopqrstuvwxyz" z_LETTERS)) {z_LONGEST : Tok} (g_LONGEST : mg "LONGEST" = some (.int 8 z_LONGEST)) (m_len : mg "len" = none) : FnOk P w K mg base (L2.CX P w) 1 f fd ["text"] (spF (kx w K cl tabs) 1 f_is_name) :=
  def_okN (k := 0) (A := []) (N := ["text", "sign"]) F sc_is_name fun cdv Ar outer s0 H E hr => by
    exact (s_one (s_ret (e_and (e_chain op_lt od_lt op_le od_le e_int (e_callB call_len3 cd_len3 rfl m_len (by decide +kernel) (a_cons (e_var (pv 0)) a_nil)) (e_glob (v := .int 8) rfl g_LONGEST ⟨_, rfl⟩ (fun _ _ => rfl))) (e_one (e_callB (cr_all rfl) cd_all rfl m_all (by decide +kernel) (a_cons (e_lc (A := []) (own := [("sign", 1)]) rfl sc_is_name.nd (i_seq rfl (e_var (pv 0))) (blkOk_by (by kernel_rfl)) (fun _ _ _ _ _ => (g_name (pg_name sc_is_name.nd (i := 1) rfl (by first | exact Or.inl rfl | exact Or.inr rfl)))) (fun _ _ _ _ _ => ts_nil) (fun _ _ _ _ _ => (e_cmp (op_in3 (room65 hr)) od_in3 (e_var (pv 1)) (e_glob (v := .str "abcdefghijklmnopqrstuvwxyz") rfl g_LETTERS ⟨_, rfl⟩ (fun _ _ => rfl)) rfl))) a_nil))))))
theorem sc_need_name : FnScope ["name"] ["name"] (defScope t_need_name) := ⟨rfl, rfl, rfl, by decide +kernel, rfl, by decide +kernel, by decide +kernel⟩
@[reducible] def s_need_name : S := sIf (mNot (mTst (mCall f_is_name [] (aVa (mVar 0) (aNil))))) (M.no) (sNx)
@[reducible] def f_need_name : List SD → FR := Fm.runN [] 1 s_need_name
theorem ok_need_name {P : Program} {w : World} {K : PySem.W.Frag} {mg : Str → Option Value} {base : Heap} {cl : String → Addr} {tabs : List (Addr × Str)} {f : Addr} {fd : FuncData} (F : FunD K "need_name" "need_name" (defArgs t_need_name) (defBody t_need_name) (defScope t_need_name) [] [] f fd) {a_is_name : Addr} {d_is_name : FuncData} (C_is_name : Callee P w K mg base (kx w K cl tabs) "is_name" 1 ["text"] f_is_name a_is_name d_is_name) (B_is_name : Binds K d_is_name ["text"] []) : FnOk P w K mg base (L2.CX P w) 2 f fd ["name"] (spF (kx w K cl tabs) 1 f_need_name) :=
  def_okN (k := 1) (A := []) (N := ["name"]) F sc_need_name fun cdv Ar outer s0 H E hr => by
    exact (s_one (s_if (t_not (t_val (e_callC C_is_name B_is_name hr (show 1 ≤ 1 from by decide) rfl (passW_of (takes_of rfl rfl rfl rfl)) (ar_va (e_var (pv 0)) ar_nil) (alen_va alen_nil)))) (s_one s_no) s_nil))
theorem sc_need_dye : FnScope ["dye"] ["dye"] (defScope t_need_dye) := ⟨rfl, rfl, rfl, by decide +kernel, rfl, by decide +kernel, by decide +kernel⟩
@[reducible] def s_need_dye : S := sIf (mNot (mTst (mChain leD leD (mC (.int 0)) (mVar 0) (mC c_MOST_DYE)))) (M.no) (sNx)
@[reducible] def f_need_dye : List SD → FR := Fm.runN [] 1 s_need_dye
theorem ok_need_dye {P : Program} {w : World} {K : PySem.W.Frag} {mg : Str → Option Value} {base : Heap} {cl : String → Addr} {tabs : List (Addr × Str)} {f : Addr} {fd : FuncData} (F : FunD K "need_dye" "need_dye" (defArgs t_need_dye) (defBody t_need_dye) (defScope t_need_dye) [] [] f fd) {z_MOST_DYE : Tok} (g_MOST_DYE : mg "MOST_DYE" = some (.int 9 z_MOST_DYE)) : FnOk P w K mg base (L2.CX P w) 1 f fd ["dye"] (spF (kx w K cl tabs) 1 f_need_dye) :=
  def_okN (k := 0) (A := []) (N := ["dye"]) F sc_need_dye fun cdv Ar outer s0 H E hr => by
    exact (s_one (s_if (t_not (t_chain op_le od_le op_le od_le e_int (e_var (pv 0)) (e_glob (v := .int 9) rfl g_MOST_DYE ⟨_, rfl⟩ (fun _ _ => rfl)))) (s_one s_no) s_nil))
theorem sc_turned : FnScope ["shift", "number"] ["shift"] (defScope t_turned) := ⟨rfl, rfl, rfl, by decide +kernel, rfl, by decide +kernel, by decide +kernel⟩
@[reducible] def s_turned : S := sRet (mCB tupD (mCons (mLc (iSeq (mVar 0)) [1] (gN 1) (M.ret true) (mOp subD (mC (.int 0)) (mVar 1))) (mNil)))
@[reducible] def f_turned : List SD → FR := Fm.runN [] 2 s_turned
theorem ok_turned {P : Program} {w : World} {K : PySem.W.Frag} {mg : Str → Option Value} {base : Heap} {cl : String → Addr} {tabs : List (Addr × Str)} {f : Addr} {fd : FuncData} (F : FunD K "turned" "turned" (defArgs t_turned) (defBody t_turned) (defScope t_turned) [] [] f fd) (m_tuple : mg "tuple" = none) : FnOk P w K mg base (L2.CX P w) 1 f fd ["shift"] (spF (kx w K cl tabs) 1 f_turned) :=
  def_okN (k := 0) (A := []) (N := ["shift", "number"]) F sc_turned fun cdv Ar outer s0 H E hr => by
    exact (s_one (s_ret (e_callTy call_tuple_of cd_tup rfl m_tuple (by decide +kernel) (a_cons (e_lc (A := []) (own := [("number", 1)]) rfl sc_turned.nd (i_seq rfl (e_var (pv 0))) (blkOk_by (by kernel_rfl)) (fun _ _ _ _ _ => (g_name (pg_name sc_turned.nd (i := 1) rfl (by first | exact Or.inl rfl | exact Or.inr rfl)))) (fun _ _ _ _ _ => ts_nil) (fun _ _ _ _ _ => (e_op op_sub od_sub e_int (e_var (pv 1))))) a_nil))))
theorem sc_Pattern_ends : FnScope ["self", "name", "found", "u", "v", "shift"] ["self", "name"] (defScope t_Pattern_ends) := ⟨rfl, rfl, rfl, by decide +kernel, rfl, by decide +kernel, by decide +kernel⟩
@[reducible] def s_Pattern_ends : S := sSeq (sSet 2 (mLc (iSeq (mFld "Pattern" "bonds" (mVar 0))) [3, 4, 5] (gSq 3 (gCo (gN 3) (gCo (gN 4) (gCo (gN 5) (gNi))))) (mTst (mOp eqD (mVar 3) (mVar 1))) (mTup (mCons (mVar 4) (mCons (mVar 5) (mNil)))))) (sRet (mOp add3D (mVar 2) (mLc (iSeq (mFld "Pattern" "bonds" (mVar 0))) [3, 4, 5] (gSq 3 (gCo (gN 3) (gCo (gN 4) (gCo (gN 5) (gNi))))) (mTst (mOp eqD (mVar 4) (mVar 1))) (mTup (mCons (mVar 3) (mCons (mCall f_turned [] (aVa (mVar 5) (aNil))) (mNil)))))))
@[reducible] def f_Pattern_ends : List SD → FR := Fm.runN [] 6 s_Pattern_ends
theorem ok_Pattern_ends {P : Program} {w : World} {K : PySem.W.Frag} {mg : Str → Option Value} {base : Heap} {cl : String → Addr} {tabs : List (Addr × Str)} {f : Addr} {fd : FuncData} (F : FunD K "ends" "Pattern.ends" (defArgs t_Pattern_ends) (defBody t_Pattern_ends) (defScope t_Pattern_ends) [] [] f fd) (cls_Pattern : Cls K (cl "Pattern")) (na_Pattern_bonds : NoAttr K (cl "Pattern") "bonds") {a_turned : Addr} {d_turned : FuncData} (C_turned : Callee P w K mg base (kx w K cl tabs) "turned" 1 ["shift"] f_turned a_turned d_turned) (B_turned : Binds K d_turned ["shift"] []) : FnOk P w K mg base (L2.CX P w) 2 f fd ["self", "name"] (spF (kx w K cl tabs) 2 f_Pattern_ends) :=
  def_okN (k := 1) (A := []) (N := ["self", "name", "found", "u", "v", "shift"]) F sc_Pattern_ends fun cdv Ar outer s0 H E hr => by
    exact (s_cons (s_setLc (A := []) (own := [("u", 3), ("v", 4), ("shift", 5)]) (i := 2) rfl sc_Pattern_ends.nd rfl rfl rfl (i_seq rfl (e_fld rfl cls_Pattern na_Pattern_bonds (e_var (pv 0)))) (blkOk_by (by kernel_rfl)) (fun _ _ _ _ _ => (g_seq (n := 3) rfl rfl (gs_cons (g_name (pg_name sc_Pattern_ends.nd (i := 3) rfl (by first | exact Or.inl rfl | exact Or.inr rfl))) (gs_cons (g_name (pg_name sc_Pattern_ends.nd (i := 4) rfl (by first | exact Or.inl rfl | exact Or.inr rfl))) (gs_cons (g_name (pg_name sc_Pattern_ends.nd (i := 5) rfl (by first | exact Or.inl rfl | exact Or.inr rfl))) gs_nil))))) (fun _ _ _ _ _ => (ts_one (t_cmp (op_eqD hr.units) od_eq (e_var (pv 3)) (e_var (pv 1)) (nomark _)))) (fun _ _ _ _ _ => (e_tup (a_cons (e_var (pv 4)) (a_cons (e_var (pv 5)) a_nil))))) (s_one (s_ret (e_op op_add3 od_add3 (e_var (pv 2)) (e_lc (A := []) (own := [("u", 3), ("v", 4), ("shift", 5)]) rfl sc_Pattern_ends.nd (i_seq rfl (e_fld rfl cls_Pattern na_Pattern_bonds (e_var (pv 0)))) (blkOk_by (by kernel_rfl)) (fun _ _ _ _ _ => (g_seq (n := 3) rfl rfl (gs_cons (g_name (pg_name sc_Pattern_ends.nd (i := 3) rfl (by first | exact Or.inl rfl | exact Or.inr rfl))) (gs_cons (g_name (pg_name sc_Pattern_ends.nd (i := 4) rfl (by first | exact Or.inl rfl | exact Or.inr rfl))) (gs_cons (g_name (pg_name sc_Pattern_ends.nd (i := 5) rfl (by first | exact Or.inl rfl | exact Or.inr rfl))) gs_nil))))) (fun _ _ _ _ _ => (ts_one (t_cmp (op_eqD hr.units) od_eq (e_var (pv 4)) (e_var (pv 1)) (nomark _)))) (fun _ _ _ _ _ => (e_tup (a_cons (e_var (pv 3)) (a_cons (e_callC C_turned B_turned hr (show 1 ≤ 1 from by decide) rfl passW_no (ar_va (e_var (pv 5)) ar_nil) (alen_va alen_nil)) a_nil)))))))))
theorem sc_lesser : FnScope ["tie", "u", "v", "shift"] ["tie"] (defScope t_lesser) := ⟨rfl, rfl, rfl, by decide +kernel, rfl, by decide +kernel, by decide +kernel⟩
@[reducible] def s_lesser : S := sSeq (sAsg (gSq 3 (gCo (gN 1) (gCo (gN 2) (gCo (gN 3) (gNi))))) (mVar 0)) (sRet (mCB minD2 (mCons (mTup (mCons (mVar 1) (mCons (mVar 2) (mCons (mVar 3) (mNil))))) (mCons (mTup (mCons (mVar 2) (mCons (mVar 1) (mCons (mCall f_turned [] (aVa (mVar 3) (aNil))) (mNil))))) (mNil)))))
@[reducible] def f_lesser : List SD → FR := Fm.runN [] 4 s_lesser
theorem ok_lesser {P : Program} {w : World} {K : PySem.W.Frag} {mg : Str → Option Value} {base : Heap} {cl : String → Addr} {tabs : List (Addr × Str)} {f : Addr} {fd : FuncData} (F : FunD K "lesser" "lesser" (defArgs t_lesser) (defBody t_lesser) (defScope t_lesser) [] [] f fd) (m_min : mg "min" = none) {a_turned : Addr} {d_turned : FuncData} (C_turned : Callee P w K mg base (kx w K cl tabs) "turned" 1 ["shift"] f_turned a_turned d_turned) (B_turned : Binds K d_turned ["shift"] []) : FnOk P w K mg base (L2.CX P w) 2 f fd ["tie"] (spF (kx w K cl tabs) 1 f_lesser) :=
  def_okN (k := 1) (A := []) (N := ["tie", "u", "v", "shift"]) F sc_lesser fun cdv Ar outer s0 H E hr => by
    exact (s_cons (s_asg (vs := [1, 2, 3]) (e_var (pv 0)) (g_seq (n := 3) rfl rfl (gs_cons (g_name (pg_name sc_lesser.nd (i := 1) rfl (by first | exact Or.inl rfl | exact Or.inr rfl))) (gs_cons (g_name (pg_name sc_lesser.nd (i := 2) rfl (by first | exact Or.inl rfl | exact Or.inr rfl))) (gs_cons (g_name (pg_name sc_lesser.nd (i := 3) rfl (by first | exact Or.inl rfl | exact Or.inr rfl))) gs_nil))))) (s_one (s_ret (e_callB (cr_min2D rfl rfl (room65 hr)) cd_min2D rfl m_min (by decide +kernel) (a_cons (e_tup (a_cons (e_var (pv 1)) (a_cons (e_var (pv 2)) (a_cons (e_var (pv 3)) a_nil)))) (a_cons (e_tup (a_cons (e_var (pv 2)) (a_cons (e_var (pv 1)) (a_cons (e_callC C_turned B_turned hr (show 1 ≤ 1 from by decide) rfl (passW_of (takes_of rfl rfl rfl rfl)) (ar_va (e_var (pv 3)) ar_nil) (alen_va alen_nil)) a_nil)))) a_nil))))))
theorem sc_Pattern_fitting : FnScope ["self", "tie", "number"] ["self", "tie"] (defScope t_Pattern_fitting) := ⟨rfl, rfl, rfl, by decide +kernel, rfl, by decide +kernel, by decide +kernel⟩
@[reducible] def s_Pattern_fitting : S := sSeq (sDrop (mMeth "Pattern" "need" f_Pattern_need (mVar 0) (mCons (mSub3 1 (mC (.int 0))) (mNil)))) (sSeq (sDrop (mMeth "Pattern" "need" f_Pattern_need (mVar 0) (mCons (mSub3 1 (mC (.int 1))) (mNil)))) (sSeq (sDrop (mMeth "Pattern" "need_shift" f_Pattern_need_shift (mVar 0) (mCons (mSub3 1 (mC (.int 2))) (mNil)))) (sSeq (sIf (mTst (mCB anyD (mCons (mLc (iSeq (mSub3 1 (mC (.int 2)))) [2] (gN 2) (M.ret true) (mNotV (mChain leD leD (mOp subD (mC (.int 0)) (mC c_FARTHEST)) (mVar 2) (mC c_FARTHEST)))) (mNil)))) (M.no) (sNx)) (sSeq (sIf (mAnd (mTst (mOp eqD (mSub3 1 (mC (.int 0))) (mSub3 1 (mC (.int 1))))) (mTst (mCB allD (mCons (mLc (iSeq (mSub3 1 (mC (.int 2)))) [2] (gN 2) (M.ret true) (mOp eqD (mVar 2) (mC (.int 0)))) (mNil))))) (M.no) (sNx)) (sSeq (sIf (mTst (mOp in3D (mCall f_lesser [] (aVa (mVar 1) (aNil))) (mFld "Pattern" "bonds" (mVar 0)))) (M.no) (sNx)) (sRet (mCall f_lesser [] (aVa (mVar 1) (aNil)))))))))
@[reducible] def f_Pattern_fitting : List SD → FR := Fm.runN [] 3 s_Pattern_fitting
theorem ok_Pattern_fitting {P : Program} {w : World} {K : PySem.W.Frag} {mg : Str → Option Value} {base : Heap} {cl : String → Addr} {tabs : List (Addr × Str)} {f : Addr} {fd : FuncData} (F : FunD K "fitting" "Pattern.fitting" (defArgs t_Pattern_fitting) (defBody t_Pattern_fitting) (defScope t_Pattern_fitting) [] [] f fd) (m_all : mg "all" = none) (m_any : mg "any" = none) {z_FARTHEST : Tok} (g_FARTHEST : mg "FARTHEST" = some (.int 1000000 z_FARTHEST)) (cls_Pattern : Cls K (cl "Pattern")) (na_Pattern_bonds : NoAttr K (cl "Pattern") "bonds") {a_lesser : Addr} {d_lesser : FuncData} (C_lesser : Callee P w K mg base (kx w K cl tabs) "lesser" 2 ["tie"] f_lesser a_lesser d_lesser) (B_lesser : Binds K d_lesser ["tie"] []) {a_Pattern_need : Addr} {d_Pattern_need : FuncData} (M_Pattern_need : MethD P w K mg base (kx w K cl tabs) "Pattern" "need" 1 ["self", "name"] f_Pattern_need a_Pattern_need d_Pattern_need) (B_Pattern_need : Binds K d_Pattern_need ["self", "name"] []) {a_Pattern_need_shift : Addr} {d_Pattern_need_shift : FuncData} (M_Pattern_need_shift : MethD P w K mg base (kx w K cl tabs) "Pattern" "need_shift" 1 ["self", "shift"] f_Pattern_need_shift a_Pattern_need_shift d_Pattern_need_shift) (B_Pattern_need_shift : Binds K d_Pattern_need_shift ["self", "shift"] []) : FnOk P w K mg base (L2.CX P w) 3 f fd ["self", "tie"] (spF (kx w K cl tabs) 2 f_Pattern_fitting) :=
  def_okN (k := 2) (A := []) (N := ["self", "tie", "number"]) F sc_Pattern_fitting fun cdv Ar outer s0 H E hr => by
    exact (s_cons (s_expr (e_methD M_Pattern_need B_Pattern_need hr (show 1 ≤ 2 from by decide) (passW_of (takes_of rfl rfl rfl rfl)) (e_var (pv 0)) (a_cons (e_sub3 rfl (room65 hr) (pv 1) e_int (fun _ _ => rfl)) a_nil) (dlen_cons dlen_nil) rfl)) (s_cons (s_expr (e_methD M_Pattern_need B_Pattern_need hr (show 1 ≤ 2 from by decide) (passW_of (takes_of rfl rfl rfl rfl)) (e_var (pv 0)) (a_cons (e_sub3 rfl (room65 hr) (pv 1) e_int (fun _ _ => rfl)) a_nil) (dlen_cons dlen_nil) rfl)) (s_cons (s_expr (e_methD M_Pattern_need_shift B_Pattern_need_shift hr (show 1 ≤ 2 from by decide) (passW_of (takes_of rfl rfl rfl rfl)) (e_var (pv 0)) (a_cons (e_sub3 rfl (room65 hr) (pv 1) e_int (fun _ _ => rfl)) a_nil) (dlen_cons dlen_nil) rfl)) (s_cons (s_if (t_val (e_callB (cr_any rfl) cd_any rfl m_any (by decide +kernel) (a_cons (e_lc (A := []) (own := [("number", 2)]) rfl sc_Pattern_fitting.nd (i_seq rfl (e_sub3 rfl (room65 hr) (pv 1) e_int (fun _ _ => rfl))) (blkOk_by (by kernel_rfl)) (fun _ _ _ _ _ => (g_name (pg_name sc_Pattern_fitting.nd (i := 2) rfl (by first | exact Or.inl rfl | exact Or.inr rfl)))) (fun _ _ _ _ _ => ts_nil) (fun _ _ _ _ _ => (e_not (e_chain op_le od_le op_le od_le (e_op op_sub od_sub e_int (e_glob (v := .int 1000000) rfl g_FARTHEST ⟨_, rfl⟩ (fun _ _ => rfl))) (e_var (pv 2)) (e_glob (v := .int 1000000) rfl g_FARTHEST ⟨_, rfl⟩ (fun _ _ => rfl)))))) a_nil))) (s_one s_no) s_nil) (s_cons (s_if (PW.pt (w_and (t_cmp (op_eqD hr.units) od_eq (e_sub3 rfl (room65 hr) (pv 1) e_int (fun _ _ => rfl)) (e_sub3 rfl (room65 hr) (pv 1) e_int (fun _ _ => rfl)) (nomark _)) (w_one (t_val (e_callB (cr_all rfl) cd_all rfl m_all (by decide +kernel) (a_cons (e_lc (A := []) (own := [("number", 2)]) rfl sc_Pattern_fitting.nd (i_seq rfl (e_sub3 rfl (room65 hr) (pv 1) e_int (fun _ _ => rfl))) (blkOk_by (by kernel_rfl)) (fun _ _ _ _ _ => (g_name (pg_name sc_Pattern_fitting.nd (i := 2) rfl (by first | exact Or.inl rfl | exact Or.inr rfl)))) (fun _ _ _ _ _ => ts_nil) (fun _ _ _ _ _ => (e_cmp (op_eqD hr.units) od_eq (e_var (pv 2)) e_int (nomark _)))) a_nil)))))) (s_one s_no) s_nil) (s_cons (s_if (t_cmp (op_in3 (room65 hr)) od_in3 (e_callC C_lesser B_lesser hr (show 2 ≤ 2 from by decide) rfl (passW_of (takes_of rfl rfl rfl rfl)) (ar_va (e_var (pv 1)) ar_nil) (alen_va alen_nil)) (e_fld rfl cls_Pattern na_Pattern_bonds (e_var (pv 0))) rfl) (s_one s_no) s_nil) (s_one (s_ret (e_callC C_lesser B_lesser hr (show 2 ≤ 2 from by decide) rfl (passW_of (takes_of rfl rfl rfl rfl)) (ar_va (e_var (pv 1)) ar_nil) (alen_va alen_nil))))))))))
theorem sc_Pattern_names : FnScope ["self"] ["self"] (defScope t_Pattern_names) := ⟨rfl, rfl, rfl, by decide +kernel, rfl, by decide +kernel, by decide +kernel⟩
@[reducible] def s_Pattern_names : S := sRet (mCB sort3D (mCons (mFld "Pattern" "dyes" (mVar 0)) (mNil)))
@[reducible] def f_Pattern_names : List SD → FR := Fm.runN [] 1 s_Pattern_names
theorem ok_Pattern_names {P : Program} {w : World} {K : PySem.W.Frag} {mg : Str → Option Value} {base : Heap} {cl : String → Addr} {tabs : List (Addr × Str)} {f : Addr} {fd : FuncData} (F : FunD K "names" "Pattern.names" (defArgs t_Pattern_names) (defBody t_Pattern_names) (defScope t_Pattern_names) [] [] f fd) (m_sorted : mg "sorted" = none) (cls_Pattern : Cls K (cl "Pattern")) (na_Pattern_dyes : NoAttr K (cl "Pattern") "dyes") : FnOk P w K mg base (L2.CX P w) 1 f fd ["self"] (spF (kx w K cl tabs) 1 f_Pattern_names) :=
  def_okN (k := 0) (A := []) (N := ["self"]) F sc_Pattern_names fun cdv Ar outer s0 H E hr => by
    exact (s_one (s_ret (e_callB (cr_sort3 rfl rfl (room65 hr)) cd_sort3 rfl m_sorted (by decide +kernel) (a_cons (e_fld rfl cls_Pattern na_Pattern_dyes (e_var (pv 0))) a_nil))))
theorem sc_Pattern___init__ : FnScope ["self", "ways", "knots", "ties", "name", "tie"] ["self", "ways", "knots", "ties"] (defScope t_Pattern___init__) := ⟨rfl, rfl, rfl, by decide +kernel, rfl, by decide +kernel, by decide +kernel⟩
@[reducible] def s_Pattern___init__ : S := sSeq (viewO 0 (sIf (mNot (mTst (mChain leD leD (mC (.int 0)) (mVar 1) (mC c_MOST_WAYS)))) (M.no) (sNx))) (sSeq (oSet 0 "Pattern" "ways" (viewO 0 (mVar 1))) (sSeq (oSet 0 "Pattern" "dyes" (viewO 0 (mDnew))) (sSeq (sFor (viewO 0 (iSeq (mCB sort3D (mCons (mVar 2) (mNil))))) (goI 0 (gN 4)) (sSeq (viewO 0 (sDrop (mCall f_need_name [] (aVa (mVar 4) (aNil))))) (sSeq (viewO 0 (sDrop (mCall f_need_dye [] (aVa (mSub3 2 (mVar 4)) (aNil))))) (oPut 0 "Pattern" "dyes" (mVar 4) (viewO 0 (mSub3 2 (mVar 4))))))) (sSeq (viewO 0 (sIf (mTst (mOp gtD (mCB len3D (mCons (mVar 2) (mNil))) (mC c_MOST_KNOTS))) (M.no) (sNx))) (sSeq (oSet 0 "Pattern" "bonds" (viewO 0 (mLst (mNil)))) (sSeq (sFor (viewO 0 (iSeq (mVar 3))) (goI 0 (gN 5)) (sDrop (oApp 0 "Pattern" "bonds" (viewL 0 nbL (mCons (mMeth "Pattern" "fitting" f_Pattern_fitting (mVar 0) (mCons (mVar 5) (mNil))) (mNil)))))) (sSeq (sIf (viewL 0 (fun _ => true) (mTst (mOp gtD (mCB len3D (mCons (mFld "Pattern" "bonds" (mVar 0)) (mNil))) (mC c_MOST_TIES)))) (viewO 0 (M.no)) (sNx)) (sSeq (oSet 0 "Pattern" "bonds" (viewL 0 SD.nbS (mCB sort3D (mCons (mFld "Pattern" "bonds" (mVar 0)) (mNil))))) (sSeq (oSet 0 "Pattern" "at" (viewO 0 (mDnew))) (sFor (iSeqL 0 (mMeth "Pattern" "names" f_Pattern_names (mVar 0) mNil)) (goI 0 (gN 4)) (oPut 0 "Pattern" "at" (mVar 4) (viewL 0 SD.nbS (mCB sort3D (mCons (mMeth "Pattern" "ends" f_Pattern_ends (mVar 0) (mCons (mVar 4) (mNil))) (mNil)))))))))))))))
@[reducible] def f_Pattern___init__ : List D → FR := Fm.runI "Pattern" 6 s_Pattern___init__
theorem ok_Pattern___init__ {P : Program} {w : World} {K : PySem.W.Frag} {mg : Str → Option Value} {base : Heap} {cl : String → Addr} {tabs : List (Addr × Str)} {f : Addr} {fd : FuncData} (F : FunD K "__init__" "Pattern.__init__" (defArgs t_Pattern___init__) (defBody t_Pattern___init__) (defScope t_Pattern___init__) [] [] f fd) {z_MOST_KNOTS : Tok} (g_MOST_KNOTS : mg "MOST_KNOTS" = some (.int 12 z_MOST_KNOTS)) {z_MOST_TIES : Tok} (g_MOST_TIES : mg "MOST_TIES" = some (.int 24 z_MOST_TIES)) {z_MOST_WAYS : Tok} (g_MOST_WAYS : mg "MOST_WAYS" = some (.int 3 z_MOST_WAYS)) (m_len : mg "len" = none) (m_sorted : mg "sorted" = none) (cls_Pattern : Cls K (cl "Pattern")) (na_Pattern_at : NoAttr K (cl "Pattern") "at") (na_Pattern_bonds : NoAttr K (cl "Pattern") "bonds") (na_Pattern_dyes : NoAttr K (cl "Pattern") "dyes") (na_Pattern_ways : NoAttr K (cl "Pattern") "ways") {a_need_name : Addr} {d_need_name : FuncData} (C_need_name : Callee P w K mg base (kx w K cl tabs) "need_name" 2 ["name"] f_need_name a_need_name d_need_name) (B_need_name : Binds K d_need_name ["name"] []) {a_need_dye : Addr} {d_need_dye : FuncData} (C_need_dye : Callee P w K mg base (kx w K cl tabs) "need_dye" 1 ["dye"] f_need_dye a_need_dye d_need_dye) (B_need_dye : Binds K d_need_dye ["dye"] []) {a_Pattern_ends : Addr} {d_Pattern_ends : FuncData} (M_Pattern_ends : MethD P w K mg base (kx w K cl tabs) "Pattern" "ends" 2 ["self", "name"] f_Pattern_ends a_Pattern_ends d_Pattern_ends) (B_Pattern_ends : Binds K d_Pattern_ends ["self", "name"] []) {a_Pattern_fitting : Addr} {d_Pattern_fitting : FuncData} (M_Pattern_fitting : MethD P w K mg base (kx w K cl tabs) "Pattern" "fitting" 3 ["self", "tie"] f_Pattern_fitting a_Pattern_fitting d_Pattern_fitting) (B_Pattern_fitting : Binds K d_Pattern_fitting ["self", "tie"] []) {a_Pattern_names : Addr} {d_Pattern_names : FuncData} (M_Pattern_names : MethD P w K mg base (kx w K cl tabs) "Pattern" "names" 1 ["self"] f_Pattern_names a_Pattern_names d_Pattern_names) (B_Pattern_names : Binds K d_Pattern_names ["self"] []) : FnOk P w K mg base (L2.CX P w) 4 f fd ["self", "ways", "knots", "ties"] (spIn (kx w K cl tabs) "Pattern" 3 f_Pattern___init__) :=
  initD_ok (k := 3) (N := ["self", "ways", "knots", "ties", "name", "tie"]) F sc_Pattern___init__ rfl fun cdv Ar outer s0 H E hr => by
    exact (o_cons (o_op (s_if (t_not (t_chain op_le od_le op_le od_le e_int (e_var (pv 1)) (e_glob (v := .int 3) rfl g_MOST_WAYS ⟨_, rfl⟩ (fun _ _ => rfl)))) (s_one s_no) s_nil)) (o_cons (o_set rfl cls_Pattern na_Pattern_ways (pv 0) (eo_op (e_var (pv 1)))) (o_cons (o_set rfl cls_Pattern na_Pattern_dyes (pv 0) (eo_op e_dnew)) (o_cons (o_for (vs := [4]) (passes_of rfl) rfl (io_op (i_seq rfl (e_callB (cr_sort3 rfl rfl (room65 hr)) cd_sort3 rfl m_sorted (by decide +kernel) (a_cons (e_var (pv 2)) a_nil)))) (g_name (pg_name sc_Pattern___init__.nd (i := 4) rfl (by first | exact Or.inl rfl | exact Or.inr rfl))) (o_cons (o_op (s_expr (e_callC C_need_name B_need_name hr (show 2 ≤ 3 from by decide) rfl (passW_of (takes_of rfl rfl rfl rfl)) (ar_va (e_var (pv 4)) ar_nil) (alen_va alen_nil)))) (o_cons (o_op (s_expr (e_callC C_need_dye B_need_dye hr (show 1 ≤ 3 from by decide) rfl (passW_of (takes_of rfl rfl rfl rfl)) (ar_va (e_sub3 rfl (room65 hr) (pv 2) (e_var (pv 4)) (fun _ _ => rfl)) ar_nil) (alen_va alen_nil)))) (o_one (o_put rfl (room65 hr) cls_Pattern na_Pattern_dyes (pv 0) (e_var (pv 4)) (eo_op (e_sub3 rfl (room65 hr) (pv 2) (e_var (pv 4)) (fun _ _ => rfl)))))))) (o_cons (o_op (s_if (t_cmp op_gt od_gt (e_callB call_len3 cd_len3 rfl m_len (by decide +kernel) (a_cons (e_var (pv 2)) a_nil)) (e_glob (v := .int 12) rfl g_MOST_KNOTS ⟨_, rfl⟩ (fun _ _ => rfl)) (nomark _)) (s_one s_no) s_nil)) (o_cons (o_set rfl cls_Pattern na_Pattern_bonds (pv 0) (eo_op (e_lst a_nil))) (o_cons (o_for (vs := [5]) (passes_of rfl) rfl (io_op (i_seq rfl (e_var (pv 3)))) (g_name (pg_name sc_Pattern___init__.nd (i := 5) rfl (by first | exact Or.inl rfl | exact Or.inr rfl))) (o_one (o_appL rfl cls_Pattern na_Pattern_bonds (pv 0) (a_cons (e_methD M_Pattern_fitting B_Pattern_fitting hr (show 3 ≤ 3 from by decide) (passW_of (takes_of rfl rfl rfl rfl)) (e_var (pv 0)) (a_cons (e_var (pv 5)) a_nil) (dlen_cons dlen_nil) rfl) a_nil)))) (o_cons (o_if (to_ln (t_cmp op_gt od_gt (e_callB call_len3 cd_len3 rfl m_len (by decide +kernel) (a_cons (e_fld rfl cls_Pattern na_Pattern_bonds (e_var (pv 0))) a_nil)) (e_glob (v := .int 24) rfl g_MOST_TIES ⟨_, rfl⟩ (fun _ _ => rfl)) (nomark _))) (o_one (o_op s_no)) o_nil) (o_cons (o_set rfl cls_Pattern na_Pattern_bonds (pv 0) (eo_ln (e_callB (cr_sort3 rfl rfl (room65 hr)) cd_sort3 rfl m_sorted (by decide +kernel) (a_cons (e_fld rfl cls_Pattern na_Pattern_bonds (e_var (pv 0))) a_nil)))) (o_cons (o_set rfl cls_Pattern na_Pattern_at (pv 0) (eo_op e_dnew)) (o_one (o_for (vs := [4]) (passes_of rfl) rfl (io_seq rfl (e_meth0 M_Pattern_names B_Pattern_names hr (show 1 ≤ 3 from by decide) (passW_of (takes_of rfl rfl rfl rfl)) (e_var (pv 0)) rfl)) (g_name (pg_name sc_Pattern___init__.nd (i := 4) rfl (by first | exact Or.inl rfl | exact Or.inr rfl))) (o_one (o_put rfl (room65 hr) cls_Pattern na_Pattern_at (pv 0) (e_var (pv 4)) (eo_ln (e_callB (cr_sort3 rfl rfl (room65 hr)) cd_sort3 rfl m_sorted (by decide +kernel) (a_cons (e_methD M_Pattern_ends B_Pattern_ends hr (show 2 ≤ 3 from by decide) (passW_of (takes_of rfl rfl rfl rfl)) (e_var (pv 0)) (a_cons (e_var (pv 4)) a_nil) (dlen_cons dlen_nil) rfl) a_nil)))))))))))))))))
theorem sc__law_made : FnScope ["_law_draw", "_law_mesh", "_law_ties", "_law_tie", "_law_at", "_law_about"] ["_law_draw", "_law_mesh"] (defScope t__law_made) := ⟨rfl, rfl, rfl, by decide +kernel, rfl, by decide +kernel, by decide +kernel⟩
@[reducible] def s__law_made : S := sSeq (sSet 2 (mLst (mNil))) (sSeq (sFor (iSeq (mSub3 1 (mC (.int 2)))) (gN 3) (sSeq (sSet 4 (mCall f__law_pick [] (aSl 0 (aVa (mOp add3D (mCB len3D (mCons (mVar 2) (mNil))) (mC (.int 1))) (aNil))))) (sSeq (sSet 5 (mTup (mCons (mSub3 3 (mC (.int 1))) (mCons (mSub3 3 (mC (.int 0))) (mCons (mCall f__law_turned [] (aVa (mSub3 3 (mC (.int 2))) (aNil))) (mNil)))))) (sSet 2 (mOp add3D (mOp add3D (mSl (mVar 2) (mPN) (mPS (mVar 4))) (mLst (mCons (mOp ix3D (mTup (mCons (mVar 3) (mCons (mVar 5) (mNil)))) (mCall f__law_pick [] (aSl 0 (aVa (mC (.int 2)) (aNil))))) (mNil)))) (mSl (mVar 2) (mPS (mVar 4)) (mPN))))))) (sRet (mMake f_Pattern___init__ (mCons (mSub3 1 (mC (.int 0))) (mCons (mCB dictD3 (mCons (mSub3 1 (mC (.int 1))) (mNil))) (mCons (mVar 2) (mNil)))))))
@[reducible] def f__law_made : List SD → FR := Fm.runN [0] 6 s__law_made
theorem ok__law_made {P : Program} {w : World} {K : PySem.W.Frag} {mg : Str → Option Value} {base : Heap} {cl : String → Addr} {tabs : List (Addr × Str)} {f : Addr} {fd : FuncData} (F : FunD K "_law_made" "_law_made" (defArgs t__law_made) (defBody t__law_made) (defScope t__law_made) [] [] f fd) (m_dict : mg "dict" = none) (m_len : mg "len" = none) {a_Pattern___init__ : Addr} {d_Pattern___init__ : FuncData} (I_Pattern___init__ : InitD P w K mg base (kx w K cl tabs) "Pattern" "Pattern" 4 3 ["self", "ways", "knots", "ties"] f_Pattern___init__ a_Pattern___init__ d_Pattern___init__) (B_Pattern___init__ : Binds K d_Pattern___init__ ["self", "ways", "knots", "ties"] []) {a__law_pick : Addr} {d__law_pick : FuncData} (C__law_pick : Callee P w K mg base (kx w K cl tabs) "_law_pick" 1 ["_law_draw", "_law_many"] f__law_pick a__law_pick d__law_pick) (B__law_pick : Binds K d__law_pick ["_law_draw", "_law_many"] []) {a__law_turned : Addr} {d__law_turned : FuncData} (C__law_turned : Callee P w K mg base (kx w K cl tabs) "_law_turned" 1 ["_law_shift"] f__law_turned a__law_turned d__law_turned) (B__law_turned : Binds K d__law_turned ["_law_shift"] []) : FnOk P w K mg base (L2.CX P w) 6 f fd ["_law_draw", "_law_mesh"] (spF (kx w K cl tabs) 2 f__law_made) :=
  def_okN (k := 5) (A := [0]) (N := ["_law_draw", "_law_mesh", "_law_ties", "_law_tie", "_law_at", "_law_about"]) F sc__law_made fun cdv Ar outer s0 H E hr => by
    exact (s_cons (s_set sc__law_made.nd (i := 2) rfl (by first | exact Or.inl rfl | exact Or.inr rfl) (e_lst a_nil)) (s_cons (s_for (vs := [3]) (passes_of rfl) rfl (i_seq rfl (e_sub3 rfl (room65 hr) (pv 1) e_int (fun _ _ => rfl))) (g_name (pg_name sc__law_made.nd (i := 3) rfl (by first | exact Or.inl rfl | exact Or.inr rfl))) (s_cons (s_set sc__law_made.nd (i := 4) rfl (by first | exact Or.inl rfl | exact Or.inr rfl) (e_callC C__law_pick B__law_pick hr (show 1 ≤ 5 from by decide) rfl (passW_of (takes_of rfl rfl rfl rfl)) (ar_sl (pv 0) (ar_va (e_op op_add3 od_add3 (e_callB call_len3 cd_len3 rfl m_len (by decide +kernel) (a_cons (e_var (pv 2)) a_nil)) e_int) ar_nil)) (alen_sl (alen_va alen_nil)))) (s_cons (s_set sc__law_made.nd (i := 5) rfl (by first | exact Or.inl rfl | exact Or.inr rfl) (e_tup (a_cons (e_sub3 rfl (room65 hr) (pv 3) e_int (fun _ _ => rfl)) (a_cons (e_sub3 rfl (room65 hr) (pv 3) e_int (fun _ _ => rfl)) (a_cons (e_callC C__law_turned B__law_turned hr (show 1 ≤ 5 from by decide) rfl (passW_of (takes_of rfl rfl rfl rfl)) (ar_va (e_sub3 rfl (room65 hr) (pv 3) e_int (fun _ _ => rfl)) ar_nil) (alen_va alen_nil)) a_nil))))) (s_one (s_set sc__law_made.nd (i := 2) rfl (by first | exact Or.inl rfl | exact Or.inr rfl) (e_op op_add3 od_add3 (e_op op_add3 od_add3 (e_slice rfl (e_var (pv 2)) o_none (o_some (e_var (pv 4)))) (e_lst (a_cons (e_ix3 rfl (room65 hr) (e_tup (a_cons (e_var (pv 3)) (a_cons (e_var (pv 5)) a_nil))) (e_callC C__law_pick B__law_pick hr (show 1 ≤ 5 from by decide) rfl (passW_of (takes_of rfl rfl rfl rfl)) (ar_sl (pv 0) (ar_va e_int ar_nil)) (alen_sl (alen_va alen_nil))) (fun _ _ => rfl)) a_nil))) (e_slice rfl (e_var (pv 2)) (o_some (e_var (pv 4))) o_none))))))) (s_one (s_ret (e_make I_Pattern___init__ B_Pattern___init__ hr (show 4 + 1 ≤ 5 from by decide) rfl (passW_of (takes_of rfl rfl rfl rfl)) (a_cons (e_sub3 rfl (room65 hr) (pv 1) e_int (fun _ _ => rfl)) (a_cons (e_callTy (cr_dict3 rfl rfl) cd_dict3 rfl m_dict (by decide +kernel) (a_cons (e_sub3 rfl (room65 hr) (pv 1) e_int (fun _ _ => rfl)) a_nil)) (a_cons (e_var (pv 2)) a_nil))) (dlen_cons (dlen_cons (dlen_cons dlen_nil))))))))
theorem sc__law_near : FnScope ["_law_mesh", "_law_name", "_law_found", "_law_u", "_law_v", "_law_shift"] ["_law_mesh", "_law_name"] (defScope t__law_near) := ⟨rfl, rfl, rfl, by decide +kernel, rfl, by decide +kernel, by decide +kernel⟩
@[reducible] def s__law_near : S := sSeq (sSet 2 (mLc (iSeq (mSub3 0 (mC (.int 2)))) [3, 4, 5] (gSq 3 (gCo (gN 3) (gCo (gN 4) (gCo (gN 5) (gNi))))) (mTst (mOp eqD (mVar 3) (mVar 1))) (mTup (mCons (mVar 4) (mCons (mVar 5) (mNil)))))) (sRet (mCB sort3D (mCons (mOp add3D (mVar 2) (mLc (iSeq (mSub3 0 (mC (.int 2)))) [3, 4, 5] (gSq 3 (gCo (gN 3) (gCo (gN 4) (gCo (gN 5) (gNi))))) (mTst (mOp eqD (mVar 4) (mVar 1))) (mTup (mCons (mVar 3) (mCons (mCall f__law_turned [] (aVa (mVar 5) (aNil))) (mNil)))))) (mNil))))
@[reducible] def f__law_near : List SD → FR := Fm.runN [] 6 s__law_near
theorem ok__law_near {P : Program} {w : World} {K : PySem.W.Frag} {mg : Str → Option Value} {base : Heap} {cl : String → Addr} {tabs : List (Addr × Str)} {f : Addr} {fd : FuncData} (F : FunD K "_law_near" "_law_near" (defArgs t__law_near) (defBody t__law_near) (defScope t__law_near) [] [] f fd) (m_sorted : mg "sorted" = none) {a__law_turned : Addr} {d__law_turned : FuncData} (C__law_turned : Callee P w K mg base (kx w K cl tabs) "_law_turned" 1 ["_law_shift"] f__law_turned a__law_turned d__law_turned) (B__law_turned : Binds K d__law_turned ["_law_shift"] []) : FnOk P w K mg base (L2.CX P w) 2 f fd ["_law_mesh", "_law_name"] (spF (kx w K cl tabs) 2 f__law_near) :=
  def_okN (k := 1) (A := []) (N := ["_law_mesh", "_law_name", "_law_found", "_law_u", "_law_v", "_law_shift"]) F sc__law_near fun cdv Ar outer s0 H E hr => by
    exact (s_cons (s_setLc (A := []) (own := [("_law_u", 3), ("_law_v", 4), ("_law_shift", 5)]) (i := 2) rfl sc__law_near.nd rfl rfl rfl (i_seq rfl (e_sub3 rfl (room65 hr) (pv 0) e_int (fun _ _ => rfl))) (blkOk_by (by kernel_rfl)) (fun _ _ _ _ _ => (g_seq (n := 3) rfl rfl (gs_cons (g_name (pg_name sc__law_near.nd (i := 3) rfl (by first | exact Or.inl rfl | exact Or.inr rfl))) (gs_cons (g_name (pg_name sc__law_near.nd (i := 4) rfl (by first | exact Or.inl rfl | exact Or.inr rfl))) (gs_cons (g_name (pg_name sc__law_near.nd (i := 5) rfl (by first | exact Or.inl rfl | exact Or.inr rfl))) gs_nil))))) (fun _ _ _ _ _ => (ts_one (t_cmp (op_eqD hr.units) od_eq (e_var (pv 3)) (e_var (pv 1)) (nomark _)))) (fun _ _ _ _ _ => (e_tup (a_cons (e_var (pv 4)) (a_cons (e_var (pv 5)) a_nil))))) (s_one (s_ret (e_callB (cr_sort3 rfl rfl (room65 hr)) cd_sort3 rfl m_sorted (by decide +kernel) (a_cons (e_op op_add3 od_add3 (e_var (pv 2)) (e_lc (A := []) (own := [("_law_u", 3), ("_law_v", 4), ("_law_shift", 5)]) rfl sc__law_near.nd (i_seq rfl (e_sub3 rfl (room65 hr) (pv 0) e_int (fun _ _ => rfl))) (blkOk_by (by kernel_rfl)) (fun _ _ _ _ _ => (g_seq (n := 3) rfl rfl (gs_cons (g_name (pg_name sc__law_near.nd (i := 3) rfl (by first | exact Or.inl rfl | exact Or.inr rfl))) (gs_cons (g_name (pg_name sc__law_near.nd (i := 4) rfl (by first | exact Or.inl rfl | exact Or.inr rfl))) (gs_cons (g_name (pg_name sc__law_near.nd (i := 5) rfl (by first | exact Or.inl rfl | exact Or.inr rfl))) gs_nil))))) (fun _ _ _ _ _ => (ts_one (t_cmp (op_eqD hr.units) od_eq (e_var (pv 4)) (e_var (pv 1)) (nomark _)))) (fun _ _ _ _ _ => (e_tup (a_cons (e_var (pv 3)) (a_cons (e_callC C__law_turned B__law_turned hr (show 1 ≤ 1 from by decide) rfl passW_no (ar_va (e_var (pv 5)) ar_nil) (alen_va alen_nil)) a_nil)))))) a_nil)))))
theorem sc__law_added : FnScope ["_law_cell", "_law_shift", "_law_k"] ["_law_cell", "_law_shift"] (defScope t__law_added) := ⟨rfl, rfl, rfl, by decide +kernel, rfl, by decide +kernel, by decide +kernel⟩
@[reducible] def s__law_added : S := sRet (mCB tupD (mCons (mLc (iRg1 (mCons (mCB len3D (mCons (mVar 0) (mNil))) (mNil))) [2] (gN 2) (M.ret true) (mOp add3D (mSub3 0 (mVar 2)) (mSub3 1 (mVar 2)))) (mNil)))
@[reducible] def f__law_added : List SD → FR := Fm.runN [] 3 s__law_added
theorem ok__law_added {P : Program} {w : World} {K : PySem.W.Frag} {mg : Str → Option Value} {base : Heap} {cl : String → Addr} {tabs : List (Addr × Str)} {f : Addr} {fd : FuncData} (F : FunD K "_law_added" "_law_added" (defArgs t__law_added) (defBody t__law_added) (defScope t__law_added) [] [] f fd) (m_len : mg "len" = none) (m_range : mg "range" = none) (m_tuple : mg "tuple" = none) : FnOk P w K mg base (L2.CX P w) 1 f fd ["_law_cell", "_law_shift"] (spF (kx w K cl tabs) 2 f__law_added) :=
  def_okN (k := 0) (A := []) (N := ["_law_cell", "_law_shift", "_law_k"]) F sc__law_added fun cdv Ar outer s0 H E hr => by
    exact (s_one (s_ret (e_callTy call_tuple_of cd_tup rfl m_tuple (by decide +kernel) (a_cons (e_lc (A := []) (own := [("_law_k", 2)]) rfl sc__law_added.nd (i_rng1 rfl m_range (a_cons (e_callB call_len3 cd_len3 rfl m_len (by decide +kernel) (a_cons (e_var (pv 0)) a_nil)) a_nil)) (blkOk_by (by kernel_rfl)) (fun _ _ _ _ _ => (g_name (pg_name sc__law_added.nd (i := 2) rfl (by first | exact Or.inl rfl | exact Or.inr rfl)))) (fun _ _ _ _ _ => ts_nil) (fun _ _ _ _ _ => (e_op op_add3 od_add3 (e_sub3 rfl (room65 hr) (pv 0) (e_var (pv 2)) (fun _ _ => rfl)) (e_sub3 rfl (room65 hr) (pv 1) (e_var (pv 2)) (fun _ _ => rfl))))) a_nil))))
theorem sc__law_rings : FnScope ["_law_mesh", "_law_start", "_law_count", "_law_seen", "_law_circles", "_law_turn", "_law_ring", "_law_name", "_law_cell", "_law_v", "_law_shift", "_law_knot"] ["_law_mesh", "_law_start", "_law_count"] (defScope t__law_rings) := ⟨rfl, rfl, rfl, by decide +kernel, rfl, by decide +kernel, by decide +kernel⟩
@[reducible] def s__law_rings : S := sSeq (sSet 3 (mLst (mCons (mVar 1) (mNil)))) (sSeq (sSet 4 (mLst (mCons (mLst (mCons (mVar 1) (mNil))) (mNil)))) (sSeq (sFor (iRg1 (mCons (mVar 2) (mNil))) (gN 5) (sSeq (sSet 6 (mLst (mNil))) (sSeq (sFor (iSeq (mSub3 4 (mUn negD (mC (.int 1))))) (gSq 2 (gCo (gN 7) (gCo (gN 8) (gNi)))) (sFor (iSeq (mCall f__law_near [] (aVa (mVar 0) (aVa (mVar 7) (aNil))))) (gSq 2 (gCo (gN 9) (gCo (gN 10) (gNi)))) (sSeq (sSet 11 (mTup (mCons (mVar 9) (mCons (mCall f__law_added [] (aVa (mVar 8) (aVa (mVar 10) (aNil)))) (mNil))))) (sIf (mTst (mLend 3 (mOp nin3D (mVar 11) (mVar 3)))) (sSeq (sDrop (mApp 3 (mCons (mVar 11) (mNil)))) (sDrop (mApp 6 (mCons (mVar 11) (mNil))))) (sNx))))) (sDrop (mApp 4 (mCons (mVar 6) (mNil))))))) (sRet (mMov 4))))
@[reducible] def f__law_rings : List SD → FR := Fm.runN [] 12 s__law_rings
theorem ok__law_rings {P : Program} {w : World} {K : PySem.W.Frag} {mg : Str → Option Value} {base : Heap} {cl : String → Addr} {tabs : List (Addr × Str)} {f : Addr} {fd : FuncData} (F : FunD K "_law_rings" "_law_rings" (defArgs t__law_rings) (defBody t__law_rings) (defScope t__law_rings) [] [] f fd) (m_range : mg "range" = none) {a__law_near : Addr} {d__law_near : FuncData} (C__law_near : Callee P w K mg base (kx w K cl tabs) "_law_near" 2 ["_law_mesh", "_law_name"] f__law_near a__law_near d__law_near) (B__law_near : Binds K d__law_near ["_law_mesh", "_law_name"] []) {a__law_added : Addr} {d__law_added : FuncData} (C__law_added : Callee P w K mg base (kx w K cl tabs) "_law_added" 1 ["_law_cell", "_law_shift"] f__law_added a__law_added d__law_added) (B__law_added : Binds K d__law_added ["_law_cell", "_law_shift"] []) : FnOk P w K mg base (L2.CX P w) 3 f fd ["_law_mesh", "_law_start", "_law_count"] (spF (kx w K cl tabs) 3 f__law_rings) :=
  def_okN (k := 2) (A := []) (N := ["_law_mesh", "_law_start", "_law_count", "_law_seen", "_law_circles", "_law_turn", "_law_ring", "_law_name", "_law_cell", "_law_v", "_law_shift", "_law_knot"]) F sc__law_rings fun cdv Ar outer s0 H E hr => by
    exact (s_cons (s_set sc__law_rings.nd (i := 3) rfl (by first | exact Or.inl rfl | exact Or.inr rfl) (e_lst (a_cons (e_var (pv 1)) a_nil))) (s_cons (s_set sc__law_rings.nd (i := 4) rfl (by first | exact Or.inl rfl | exact Or.inr rfl) (e_lst (a_cons (e_lst (a_cons (e_var (pv 1)) a_nil)) a_nil))) (s_cons (s_for (vs := [5]) (passes_of rfl) rfl (i_rng1 rfl m_range (a_cons (e_var (pv 2)) a_nil)) (g_name (pg_name sc__law_rings.nd (i := 5) rfl (by first | exact Or.inl rfl | exact Or.inr rfl))) (s_cons (s_set sc__law_rings.nd (i := 6) rfl (by first | exact Or.inl rfl | exact Or.inr rfl) (e_lst a_nil)) (s_cons (s_for (vs := [7, 8]) (passes_of rfl) rfl (i_seq rfl (e_sub3 rfl (room65 hr) (pv 4) (e_un un_neg ud_neg e_int) (fun _ _ => rfl))) (g_seq (n := 2) rfl rfl (gs_cons (g_name (pg_name sc__law_rings.nd (i := 7) rfl (by first | exact Or.inl rfl | exact Or.inr rfl))) (gs_cons (g_name (pg_name sc__law_rings.nd (i := 8) rfl (by first | exact Or.inl rfl | exact Or.inr rfl))) gs_nil))) (s_one (s_for (vs := [9, 10]) (passes_of rfl) rfl (i_seq rfl (e_callC C__law_near B__law_near hr (show 2 ≤ 2 from by decide) rfl (passW_of (takes_of rfl rfl rfl rfl)) (ar_va (e_var (pv 0)) (ar_va (e_var (pv 7)) ar_nil)) (alen_va (alen_va alen_nil)))) (g_seq (n := 2) rfl rfl (gs_cons (g_name (pg_name sc__law_rings.nd (i := 9) rfl (by first | exact Or.inl rfl | exact Or.inr rfl))) (gs_cons (g_name (pg_name sc__law_rings.nd (i := 10) rfl (by first | exact Or.inl rfl | exact Or.inr rfl))) gs_nil))) (s_cons (s_set sc__law_rings.nd (i := 11) rfl (by first | exact Or.inl rfl | exact Or.inr rfl) (e_tup (a_cons (e_var (pv 9)) (a_cons (e_callC C__law_added B__law_added hr (show 1 ≤ 2 from by decide) rfl (passW_of (takes_of rfl rfl rfl rfl)) (ar_va (e_var (pv 8)) (ar_va (e_var (pv 10)) ar_nil)) (alen_va (alen_va alen_nil))) a_nil)))) (s_one (s_if (t_cmpL 3 (op_nin3 (room65 hr)) od_nin3 (e_var (pv 11)) (e_var (pv 3)) rfl) (s_cons (s_expr (e_app rfl (pv 3) (a_cons (e_var (pv 11)) a_nil))) (s_one (s_expr (e_app rfl (pv 6) (a_cons (e_var (pv 11)) a_nil))))) s_nil)))))) (s_one (s_expr (e_app rfl (pv 4) (a_cons (e_var (pv 6)) a_nil))))))) (s_one (s_ret (e_mov (pv 4)))))))
theorem sc__law_same : FnScope ["_law_found", "_law_due", "_law_part", "_law_k"] ["_law_found", "_law_due"] (defScope t__law_same) := ⟨rfl, rfl, rfl, by decide +kernel, rfl, by decide +kernel, by decide +kernel⟩
@[reducible] def s__law_same (f__law_same : List SD → FR) : S := sSeq (sIf (mTst (mOp isnD (mVar 1) (mC .non))) (sRet (mOp isnD (mVar 0) (mC .non))) (sNx)) (sSeq (sIf (mOr (mTst (mCB isiD (mCons (mVar 1) (mCons (mC (.ty "bool")) (mNil))))) (mTst (mCB isiD (mCons (mVar 0) (mCons (mC (.ty "bool")) (mNil)))))) (sRet (mAndV (mCB isiD (mCons (mVar 1) (mCons (mC (.ty "bool")) (mNil)))) (mAndV (mCB isiD (mCons (mVar 0) (mCons (mC (.ty "bool")) (mNil)))) (mOp eqD (mVar 0) (mVar 1))))) (sNx)) (sSeq (sIf (mTst (mCB isitD (mCons (mVar 1) (mCons (mTup (mCons (mC (.ty "int")) (mCons (mC (.ty "str")) (mNil)))) (mNil))))) (sRet (mAndV (mOp eqD (mCB isiD (mCons (mVar 0) (mCons (mC (.ty "int")) (mNil)))) (mCB isiD (mCons (mVar 1) (mCons (mC (.ty "int")) (mNil))))) (mAndV (mCB isitD (mCons (mVar 0) (mCons (mTup (mCons (mC (.ty "int")) (mCons (mC (.ty "str")) (mNil)))) (mNil)))) (mOp eqD (mVar 0) (mVar 1))))) (sNx)) (sSeq (sIf (mOr (mTst (mOp neD (mCB isiD (mCons (mVar 0) (mCons (mC (.ty "list")) (mNil)))) (mCB isiD (mCons (mVar 1) (mCons (mC (.ty "list")) (mNil)))))) (mTst (mOp neD (mCB isiD (mCons (mVar 0) (mCons (mC (.ty "tuple")) (mNil)))) (mCB isiD (mCons (mVar 1) (mCons (mC (.ty "tuple")) (mNil))))))) (sRet (mC (.bl false))) (sNx)) (sSeq (sIf (mTst (mOp neD (mCB isiD (mCons (mVar 0) (mCons (mC (.ty "dict")) (mNil)))) (mCB isiD (mCons (mVar 1) (mCons (mC (.ty "dict")) (mNil)))))) (sRet (mC (.bl false))) (sNx)) (sSeq (sIf (mTst (mCB isiD (mCons (mVar 1) (mCons (mC (.ty "dict")) (mNil))))) (sRet (mAndV (mOp eqD (mCB sort3D (mCons (mVar 0) (mNil))) (mCB sort3D (mCons (mVar 1) (mNil)))) (mAllS f__law_same 0 1))) (sNx)) (sRet (mAndV (mOp eqD (mCB len3D (mCons (mVar 0) (mNil))) (mCB len3D (mCons (mVar 1) (mNil)))) (mCB allD (mCons (mLc (iRg1 (mCons (mCB len3D (mCons (mVar 1) (mNil))) (mNil))) [3] (gN 3) (M.ret true) (mCall f__law_same [] (aVa (mSub3 0 (mVar 3)) (aVa (mSub3 1 (mVar 3)) (aNil))))) (mNil))))))))))
def f__law_same : Nat → List SD → FR
  | 0 => fun _ => .no
  | n + 1 => Fm.runN [] 4 (s__law_same (f__law_same n))
theorem ok__law_same {P : Program} {w : World} {K : PySem.W.Frag} {mg : Str → Option Value} {base : Heap} {cl : String → Addr} {tabs : List (Addr × Str)} {f : Addr} {fd : FuncData} (F : FunD K "_law_same" "_law_same" (defArgs t__law_same) (defBody t__law_same) (defScope t__law_same) [] [] f fd) (gl : mg "_law_same" = some (.ref f)) (kp : PySem.W.keepIn K (.ref f) = true) (B__law_same : Binds K fd ["_law_found", "_law_due"] []) (m_all : mg "all" = none) (m_bool : mg "bool" = none) (m_dict : mg "dict" = none) (m_int : mg "int" = none) (m_isinstance : mg "isinstance" = none) (m_len : mg "len" = none) (m_list : mg "list" = none) (m_range : mg "range" = none) (m_sorted : mg "sorted" = none) (m_str : mg "str" = none) (m_tuple : mg "tuple" = none) : ∀ n : Nat, FnOk P w K mg base (L2.CX P w) (n + 1) f fd ["_law_found", "_law_due"] (spF (kx w K cl tabs) 2 (f__law_same n))
  | 0 => ⟨fun vs H Q E h => by obtain ⟨_, _, _, _, _, z⟩ := h; exact z.elim, fun _ _ _ _ _ _ vs Q E _ _ _ _ h => by obtain ⟨_, _, _, _, _, z⟩ := h; exact z.elim⟩
  | n + 1 => by
    have C__law_same : Callee P w K mg base (kx w K cl tabs) "_law_same" (n + 1) ["_law_found", "_law_due"] (f__law_same n) f fd := ⟨ok__law_same F gl kp B__law_same m_all m_bool m_dict m_int m_isinstance m_len m_list m_range m_sorted m_str m_tuple n, gl, kp⟩
    exact def_okN (k := n + 1) (A := []) (N := ["_law_found", "_law_due", "_law_part", "_law_k"]) F sc__law_same fun cdv Ar outer s0 H E hr => by
      exact (s_cons (s_if (t_cmp op_isN od_isn (e_var (pv 1)) e_non (nomark _)) (s_one (s_ret (e_cmp op_isN od_isn (e_var (pv 0)) e_non (nomark _)))) s_nil) (s_cons (s_if (PW.pt (w_or (t_val (e_callB call_isi cd_isi rfl m_isinstance (by decide +kernel) (a_cons (e_var (pv 1)) (a_cons (e_ty rfl m_bool (by decide +kernel)) a_nil)))) (w_one (t_val (e_callB call_isi cd_isi rfl m_isinstance (by decide +kernel) (a_cons (e_var (pv 0)) (a_cons (e_ty rfl m_bool (by decide +kernel)) a_nil))))))) (s_one (s_ret (e_and (e_callB call_isi cd_isi rfl m_isinstance (by decide +kernel) (a_cons (e_var (pv 1)) (a_cons (e_ty rfl m_bool (by decide +kernel)) a_nil))) (e_and (e_callB call_isi cd_isi rfl m_isinstance (by decide +kernel) (a_cons (e_var (pv 0)) (a_cons (e_ty rfl m_bool (by decide +kernel)) a_nil))) (e_one (e_cmp (op_eqD hr.units) od_eq (e_var (pv 0)) (e_var (pv 1)) (nomark _))))))) s_nil) (s_cons (s_if (t_val (e_callB op_isiX cd_isit rfl m_isinstance (by decide +kernel) (a_cons (e_var (pv 1)) (a_cons (e_tup (a_cons (e_ty rfl m_int (by decide +kernel)) (a_cons (e_ty rfl m_str (by decide +kernel)) a_nil))) a_nil)))) (s_one (s_ret (e_and (e_cmp (op_eqD hr.units) od_eq (e_callB call_isi cd_isi rfl m_isinstance (by decide +kernel) (a_cons (e_var (pv 0)) (a_cons (e_ty rfl m_int (by decide +kernel)) a_nil))) (e_callB call_isi cd_isi rfl m_isinstance (by decide +kernel) (a_cons (e_var (pv 1)) (a_cons (e_ty rfl m_int (by decide +kernel)) a_nil))) (nomark _)) (e_and (e_callB op_isiX cd_isit rfl m_isinstance (by decide +kernel) (a_cons (e_var (pv 0)) (a_cons (e_tup (a_cons (e_ty rfl m_int (by decide +kernel)) (a_cons (e_ty rfl m_str (by decide +kernel)) a_nil))) a_nil))) (e_one (e_cmp (op_eqD hr.units) od_eq (e_var (pv 0)) (e_var (pv 1)) (nomark _))))))) s_nil) (s_cons (s_if (PW.pt (w_or (t_cmp (op_neD hr.units) od_ne (e_callB call_isi cd_isi rfl m_isinstance (by decide +kernel) (a_cons (e_var (pv 0)) (a_cons (e_ty rfl m_list (by decide +kernel)) a_nil))) (e_callB call_isi cd_isi rfl m_isinstance (by decide +kernel) (a_cons (e_var (pv 1)) (a_cons (e_ty rfl m_list (by decide +kernel)) a_nil))) (nomark _)) (w_one (t_cmp (op_neD hr.units) od_ne (e_callB call_isi cd_isi rfl m_isinstance (by decide +kernel) (a_cons (e_var (pv 0)) (a_cons (e_ty rfl m_tuple (by decide +kernel)) a_nil))) (e_callB call_isi cd_isi rfl m_isinstance (by decide +kernel) (a_cons (e_var (pv 1)) (a_cons (e_ty rfl m_tuple (by decide +kernel)) a_nil))) (nomark _))))) (s_one (s_ret e_bl)) s_nil) (s_cons (s_if (t_cmp (op_neD hr.units) od_ne (e_callB call_isi cd_isi rfl m_isinstance (by decide +kernel) (a_cons (e_var (pv 0)) (a_cons (e_ty rfl m_dict (by decide +kernel)) a_nil))) (e_callB call_isi cd_isi rfl m_isinstance (by decide +kernel) (a_cons (e_var (pv 1)) (a_cons (e_ty rfl m_dict (by decide +kernel)) a_nil))) (nomark _)) (s_one (s_ret e_bl)) s_nil) (s_cons (s_if (t_val (e_callB call_isi cd_isi rfl m_isinstance (by decide +kernel) (a_cons (e_var (pv 1)) (a_cons (e_ty rfl m_dict (by decide +kernel)) a_nil)))) (s_one (s_ret (e_and (e_cmp (op_eqD hr.units) od_eq (e_callB (cr_sort3 rfl rfl (room65 hr)) cd_sort3 rfl m_sorted (by decide +kernel) (a_cons (e_var (pv 0)) a_nil)) (e_callB (cr_sort3 rfl rfl (room65 hr)) cd_sort3 rfl m_sorted (by decide +kernel) (a_cons (e_var (pv 1)) a_nil)) (nomark _)) (e_one (e_allsame (i := 0) (j := 1) (p := 2) rfl rfl sc__law_same.nd rfl m_all (by decide +kernel) (blkOk_by (by kernel_rfl)) (pv 1) (fun _ _ _ _ _ => pg_name sc__law_same.nd (i := 2) rfl (by first | exact Or.inl rfl | exact Or.inr rfl)) (fun _ _ _ _ _ => elt_s C__law_same B__law_same rfl hr (Nat.le_refl _) (room65 hr) rfl passW_no (pv 0) (pv 1) (pv 2) (pv 2) (fun _ _ => rfl) (fun _ _ => rfl)) (by decide) (by decide)))))) s_nil) (s_one (s_ret (e_and (e_cmp (op_eqD hr.units) od_eq (e_callB call_len3 cd_len3 rfl m_len (by decide +kernel) (a_cons (e_var (pv 0)) a_nil)) (e_callB call_len3 cd_len3 rfl m_len (by decide +kernel) (a_cons (e_var (pv 1)) a_nil)) (nomark _)) (e_one (e_callB (cr_all rfl) cd_all rfl m_all (by decide +kernel) (a_cons (e_lc (A := []) (own := [("_law_k", 3)]) rfl sc__law_same.nd (i_rng1 rfl m_range (a_cons (e_callB call_len3 cd_len3 rfl m_len (by decide +kernel) (a_cons (e_var (pv 1)) a_nil)) a_nil)) (blkOk_by (by kernel_rfl)) (fun _ _ _ _ _ => (g_name (pg_name sc__law_same.nd (i := 3) rfl (by first | exact Or.inl rfl | exact Or.inr rfl)))) (fun _ _ _ _ _ => ts_nil) (fun _ _ _ _ _ => (e_callC C__law_same B__law_same hr (Nat.le_refl _) rfl passW_no (ar_va (e_sub3 rfl (room65 hr) (pv 0) (e_var (pv 3)) (fun _ _ => rfl)) (ar_va (e_sub3 rfl (room65 hr) (pv 1) (e_var (pv 3)) (fun _ _ => rfl)) ar_nil)) (alen_va (alen_va alen_nil))))) a_nil))))))))))))
theorem sc__law_ring_of : FnScope ["_law_circles", "_law_knot", "_law_found", "_law_count"] ["_law_circles", "_law_knot"] (defScope t__law_ring_of) := ⟨rfl, rfl, rfl, by decide +kernel, rfl, by decide +kernel, by decide +kernel⟩
@[reducible] def s__law_ring_of : S := sSeq (sSet 2 (mLc (iRg1 (mCons (mCB len3D (mCons (mVar 0) (mNil))) (mNil))) [3] (gN 3) (mTst (mOp in3D (mVar 1) (mSub3 0 (mVar 3)))) (mVar 3))) (sRet (mIfE (mTst (mOp neD (mVar 2) (mLst (mNil)))) (mSub3 2 (mC (.int 0))) (mC .non)))
@[reducible] def f__law_ring_of : List SD → FR := Fm.runN [] 4 s__law_ring_of
theorem ok__law_ring_of {P : Program} {w : World} {K : PySem.W.Frag} {mg : Str → Option Value} {base : Heap} {cl : String → Addr} {tabs : List (Addr × Str)} {f : Addr} {fd : FuncData} (F : FunD K "_law_ring_of" "_law_ring_of" (defArgs t__law_ring_of) (defBody t__law_ring_of) (defScope t__law_ring_of) [] [] f fd) (m_len : mg "len" = none) (m_range : mg "range" = none) : FnOk P w K mg base (L2.CX P w) 1 f fd ["_law_circles", "_law_knot"] (spF (kx w K cl tabs) 2 f__law_ring_of) :=
  def_okN (k := 0) (A := []) (N := ["_law_circles", "_law_knot", "_law_found", "_law_count"]) F sc__law_ring_of fun cdv Ar outer s0 H E hr => by
    exact (s_cons (s_setLc (A := []) (own := [("_law_count", 3)]) (i := 2) rfl sc__law_ring_of.nd rfl rfl rfl (i_rng1 rfl m_range (a_cons (e_callB call_len3 cd_len3 rfl m_len (by decide +kernel) (a_cons (e_var (pv 0)) a_nil)) a_nil)) (blkOk_by (by kernel_rfl)) (fun _ _ _ _ _ => (g_name (pg_name sc__law_ring_of.nd (i := 3) rfl (by first | exact Or.inl rfl | exact Or.inr rfl)))) (fun _ _ _ _ _ => (ts_one (t_cmp (op_in3 (room65 hr)) od_in3 (e_var (pv 1)) (e_sub3 rfl (room65 hr) (pv 0) (e_var (pv 3)) (fun _ _ => rfl)) rfl))) (fun _ _ _ _ _ => (e_var (pv 3)))) (s_one (s_ret (e_ife (t_cmp (op_neD hr.units) od_ne (e_var (pv 2)) (e_lst a_nil) (nomark _)) (e_sub3 rfl (room65 hr) (pv 2) e_int (fun _ _ => rfl)) e_non))))
theorem sc_law : FnScope ["_law_script", "_law_draw", "_law_mesh", "_law_pat", "_law_start", "_law_circles", "_law_turn", "_law_ring", "_law_goal", "_law_due", "_law_count", "_law_near_due"] ["_law_script"] (defScope t_law) := ⟨rfl, rfl, rfl, by decide +kernel, rfl, by decide +kernel, by decide +kernel⟩
@[reducible] def s_law : S := sSeq (sSet 1 (mCall f__law_begin [] (aVa (mVar 0) (aNil)))) (sSeq (sSet 2 (mCall f__law_loose [] (aSl 1 (aVa (mCall f__law_pick [] (aSl 1 (aVa (mC (.int 4)) (aNil)))) (aVa (mCall f__law_names [] (aSl 1 (aVa (mOp add3D (mC (.int 1)) (mCall f__law_pick [] (aSl 1 (aVa (mC (.int 3)) (aNil))))) (aNil)))) (aVa (mC (.int 4)) (aNil))))))) (sSeq (sSet 2 (mTup (mCons (mSub3 2 (mC (.int 0))) (mCons (mSub3 2 (mC (.int 1))) (mCons (mSl (mSub3 2 (mC (.int 2))) (mPN) (mPS (mC (.int 3)))) (mNil)))))) (sSeq (sSet 3 (mCall f__law_made [] (aSl 1 (aVa (mVar 2) (aNil))))) (sSeq (sSet 4 (mTup (mCons (mCall f__law_one [] (aSl 1 (aVa (mCB sort3D (mCons (mSub3 2 (mC (.int 1))) (mNil))) (aNil)))) (mCons (mCall f__law_numbers [] (aSl 1 (aVa (mSub3 2 (mC (.int 0))) (aVa (mOp ix3D (mTup (mCons (mC (.int 1)) (mCons (mOp powD (mC (.int 10)) (mC (.int 6))) (mNil)))) (mCall f__law_pick [] (aSl 1 (aVa (mC (.int 2)) (aNil))))) (aNil))))) (mNil))))) (sSeq (sSet 5 (mCall f__law_rings [] (aVa (mVar 2) (aVa (mVar 4) (aVa (mC (.int 4)) (aNil)))))) (sSeq (sFor (iRg1 (mCons (mC (.int 4)) (mNil))) (gN 6) (sSeq (sSet 7 (mCall f__law_one [] (aSl 1 (aVa (mVar 5) (aNil))))) (sSeq (sSet 8 (mIfE (mTst (mOp eqD (mVar 7) (mLst (mNil)))) (mVar 4) (mCall f__law_one [] (aSl 1 (aVa (mVar 7) (aNil)))))) (sSeq (sIf (mTst (mOp eqD (mCall f__law_pick [] (aSl 1 (aVa (mC (.int 4)) (aNil)))) (mC (.int 0)))) (sSet 8 (mTup (mCons (mCall f__law_one [] (aSl 1 (aVa (mCB sort3D (mCons (mSub3 2 (mC (.int 1))) (mNil))) (aNil)))) (mCons (mCall f__law_numbers [] (aSl 1 (aVa (mSub3 2 (mC (.int 0))) (aVa (mC (.int 3)) (aNil))))) (mNil))))) (sNx)) (sSeq (sSet 9 (mCall f__law_ring_of [] (aVa (mVar 5) (aVa (mVar 8) (aNil))))) (sSeq (sIf (mNot (mTst (mCall (f__law_same 60) [] (aVa (mLst (mCons (mCall f_distance [.int 4] (aVa (mVar 3) (aVa (mVar 4) (aVa (mVar 8) (aNil))))) (mCons (mCall f_distance [] (aApp (aVa (mVar 3) (aVa (mVar 8) (aVa (mVar 4) (aNil)))) (aVa (mC (.int 4)) (aNil)))) (mNil)))) (aVa (mLst (mCons (mVar 9) (mCons (mVar 9) (mNil)))) (aNil)))))) (sRet (mC (.bl false))) (sNx)) (sFor (iRg1 (mCons (mC (.int 4)) (mNil))) (gN 10) (sSeq (sSet 11 (mIfE (mAnd (mTst (mOp ntnD (mVar 9) (mC .non))) (mTst (mOp leD (mVar 9) (mVar 10)))) (mVar 9) (mC .non))) (sIf (mNot (mTst (mCall (f__law_same 60) [] (aVa (mCall f_distance [] (aApp (aVa (mVar 3) (aVa (mVar 4) (aVa (mVar 8) (aNil)))) (aVa (mVar 10) (aNil)))) (aVa (mVar 11) (aNil)))))) (sRet (mC (.bl false))) (sNx)))))))))) (sRet (mC (.bl true)))))))))
@[reducible] def f_law : List SD → FR := Fm.runN [] 12 s_law
theorem ok_law {P : Program} {w : World} {K : PySem.W.Frag} {mg : Str → Option Value} {base : Heap} {cl : String → Addr} {tabs : List (Addr × Str)} {f : Addr} {fd : FuncData} (F : FunD K "law" "law" (defArgs t_law) (defBody t_law) (defScope t_law) [] [] f fd) (m_range : mg "range" = none) (m_sorted : mg "sorted" = none) {a_distance : Addr} {d_distance : FuncData} (C_distance : Callee P w K mg base (kx w K cl tabs) "distance" 4 ["pattern", "one", "other", "most"] f_distance a_distance d_distance) (B_distance_3 : BindsV K d_distance ["pattern", "one", "other", "most"] [V.int 4]) (BP_distance_3 : BindsPK K d_distance ["pattern", "one", "other", "most"] 3 ["most"]) {a__law_begin : Addr} {d__law_begin : FuncData} (C__law_begin : Callee P w K mg base (kx w K cl tabs) "_law_begin" 1 ["_law_script"] f__law_begin a__law_begin d__law_begin) (B__law_begin : Binds K d__law_begin ["_law_script"] []) {a__law_pick : Addr} {d__law_pick : FuncData} (C__law_pick : Callee P w K mg base (kx w K cl tabs) "_law_pick" 1 ["_law_draw", "_law_many"] f__law_pick a__law_pick d__law_pick) (B__law_pick : Binds K d__law_pick ["_law_draw", "_law_many"] []) {a__law_one : Addr} {d__law_one : FuncData} (C__law_one : Callee P w K mg base (kx w K cl tabs) "_law_one" 2 ["_law_draw", "_law_some"] f__law_one a__law_one d__law_one) (B__law_one : Binds K d__law_one ["_law_draw", "_law_some"] []) {a__law_numbers : Addr} {d__law_numbers : FuncData} (C__law_numbers : Callee P w K mg base (kx w K cl tabs) "_law_numbers" 2 ["_law_draw", "_law_ways", "_law_limit"] f__law_numbers a__law_numbers d__law_numbers) (B__law_numbers : Binds K d__law_numbers ["_law_draw", "_law_ways", "_law_limit"] []) {a__law_loose : Addr} {d__law_loose : FuncData} (C__law_loose : Callee P w K mg base (kx w K cl tabs) "_law_loose" 4 ["_law_draw", "_law_ways", "_law_names_here", "_law_limit"] f__law_loose a__law_loose d__law_loose) (B__law_loose : Binds K d__law_loose ["_law_draw", "_law_ways", "_law_names_here", "_law_limit"] []) {a__law_names : Addr} {d__law_names : FuncData} (C__law_names : Callee P w K mg base (kx w K cl tabs) "_law_names" 3 ["_law_draw", "_law_many"] f__law_names a__law_names d__law_names) (B__law_names : Binds K d__law_names ["_law_draw", "_law_many"] []) {a__law_made : Addr} {d__law_made : FuncData} (C__law_made : Callee P w K mg base (kx w K cl tabs) "_law_made" 6 ["_law_draw", "_law_mesh"] f__law_made a__law_made d__law_made) (B__law_made : Binds K d__law_made ["_law_draw", "_law_mesh"] []) {a__law_rings : Addr} {d__law_rings : FuncData} (C__law_rings : Callee P w K mg base (kx w K cl tabs) "_law_rings" 3 ["_law_mesh", "_law_start", "_law_count"] f__law_rings a__law_rings d__law_rings) (B__law_rings : Binds K d__law_rings ["_law_mesh", "_law_start", "_law_count"] []) {a__law_same : Addr} {d__law_same : FuncData} (C__law_same : Callee P w K mg base (kx w K cl tabs) "_law_same" 65 ["_law_found", "_law_due"] (f__law_same 60) a__law_same d__law_same) (B__law_same : Binds K d__law_same ["_law_found", "_law_due"] []) {a__law_ring_of : Addr} {d__law_ring_of : FuncData} (C__law_ring_of : Callee P w K mg base (kx w K cl tabs) "_law_ring_of" 1 ["_law_circles", "_law_knot"] f__law_ring_of a__law_ring_of d__law_ring_of) (B__law_ring_of : Binds K d__law_ring_of ["_law_circles", "_law_knot"] []) : FnOk P w K mg base (L2.CX P w) 66 f fd ["_law_script"] (spF (kx w K cl tabs) 1 f_law) :=
  def_okN (k := 65) (A := []) (N := ["_law_script", "_law_draw", "_law_mesh", "_law_pat", "_law_start", "_law_circles", "_law_turn", "_law_ring", "_law_goal", "_law_due", "_law_count", "_law_near_due"]) F sc_law fun cdv Ar outer s0 H E hr => by
    exact (s_cons (s_set sc_law.nd (i := 1) rfl (by first | exact Or.inl rfl | exact Or.inr rfl) (e_callC C__law_begin B__law_begin hr (show 1 ≤ 65 from by decide) rfl (passW_of (takes_of rfl rfl rfl rfl)) (ar_va (e_var (pv 0)) ar_nil) (alen_va alen_nil))) (s_cons (s_set sc_law.nd (i := 2) rfl (by first | exact Or.inl rfl | exact Or.inr rfl) (e_callC C__law_loose B__law_loose hr (show 4 ≤ 65 from by decide) rfl (passW_of (takes_of rfl rfl rfl rfl)) (ar_sl (pv 1) (ar_va (e_callC C__law_pick B__law_pick hr (show 1 ≤ 65 from by decide) rfl (passW_of (takes_of rfl rfl rfl rfl)) (ar_sl (pv 1) (ar_va e_int ar_nil)) (alen_sl (alen_va alen_nil))) (ar_va (e_callC C__law_names B__law_names hr (show 3 ≤ 65 from by decide) rfl (passW_of (takes_of rfl rfl rfl rfl)) (ar_sl (pv 1) (ar_va (e_op op_add3 od_add3 e_int (e_callC C__law_pick B__law_pick hr (show 1 ≤ 65 from by decide) rfl (passW_of (takes_of rfl rfl rfl rfl)) (ar_sl (pv 1) (ar_va e_int ar_nil)) (alen_sl (alen_va alen_nil)))) ar_nil)) (alen_sl (alen_va alen_nil))) (ar_va e_int ar_nil)))) (alen_sl (alen_va (alen_va (alen_va alen_nil)))))) (s_cons (s_set sc_law.nd (i := 2) rfl (by first | exact Or.inl rfl | exact Or.inr rfl) (e_tup (a_cons (e_sub3 rfl (room65 hr) (pv 2) e_int (fun _ _ => rfl)) (a_cons (e_sub3 rfl (room65 hr) (pv 2) e_int (fun _ _ => rfl)) (a_cons (e_slice rfl (e_sub3 rfl (room65 hr) (pv 2) e_int (fun _ _ => rfl)) o_none (o_some e_int)) a_nil))))) (s_cons (s_set sc_law.nd (i := 3) rfl (by first | exact Or.inl rfl | exact Or.inr rfl) (e_callC C__law_made B__law_made hr (show 6 ≤ 65 from by decide) rfl (passW_of (takes_of rfl rfl rfl rfl)) (ar_sl (pv 1) (ar_va (e_var (pv 2)) ar_nil)) (alen_sl (alen_va alen_nil)))) (s_cons (s_set sc_law.nd (i := 4) rfl (by first | exact Or.inl rfl | exact Or.inr rfl) (e_tup (a_cons (e_callC C__law_one B__law_one hr (show 2 ≤ 65 from by decide) rfl (passW_of (takes_of rfl rfl rfl rfl)) (ar_sl (pv 1) (ar_va (e_callB (cr_sort3 rfl rfl (room65 hr)) cd_sort3 rfl m_sorted (by decide +kernel) (a_cons (e_sub3 rfl (room65 hr) (pv 2) e_int (fun _ _ => rfl)) a_nil)) ar_nil)) (alen_sl (alen_va alen_nil))) (a_cons (e_callC C__law_numbers B__law_numbers hr (show 2 ≤ 65 from by decide) rfl (passW_of (takes_of rfl rfl rfl rfl)) (ar_sl (pv 1) (ar_va (e_sub3 rfl (room65 hr) (pv 2) e_int (fun _ _ => rfl)) (ar_va (e_ix3 rfl (room65 hr) (e_tup (a_cons e_int (a_cons (e_op op_pow od_pow e_int e_int) a_nil))) (e_callC C__law_pick B__law_pick hr (show 1 ≤ 65 from by decide) rfl (passW_of (takes_of rfl rfl rfl rfl)) (ar_sl (pv 1) (ar_va e_int ar_nil)) (alen_sl (alen_va alen_nil))) (fun _ _ => rfl)) ar_nil))) (alen_sl (alen_va (alen_va alen_nil)))) a_nil)))) (s_cons (s_set sc_law.nd (i := 5) rfl (by first | exact Or.inl rfl | exact Or.inr rfl) (e_callC C__law_rings B__law_rings hr (show 3 ≤ 65 from by decide) rfl (passW_of (takes_of rfl rfl rfl rfl)) (ar_va (e_var (pv 2)) (ar_va (e_var (pv 4)) (ar_va e_int ar_nil))) (alen_va (alen_va (alen_va alen_nil))))) (s_cons (s_for (vs := [6]) (passes_of rfl) rfl (i_rng1 rfl m_range (a_cons e_int a_nil)) (g_name (pg_name sc_law.nd (i := 6) rfl (by first | exact Or.inl rfl | exact Or.inr rfl))) (s_cons (s_set sc_law.nd (i := 7) rfl (by first | exact Or.inl rfl | exact Or.inr rfl) (e_callC C__law_one B__law_one hr (show 2 ≤ 65 from by decide) rfl (passW_of (takes_of rfl rfl rfl rfl)) (ar_sl (pv 1) (ar_va (e_var (pv 5)) ar_nil)) (alen_sl (alen_va alen_nil)))) (s_cons (s_set sc_law.nd (i := 8) rfl (by first | exact Or.inl rfl | exact Or.inr rfl) (e_ife (t_cmp (op_eqD hr.units) od_eq (e_var (pv 7)) (e_lst a_nil) (nomark _)) (e_var (pv 4)) (e_callC C__law_one B__law_one hr (show 2 ≤ 65 from by decide) rfl (passW_of (takes_of rfl rfl rfl rfl)) (ar_sl (pv 1) (ar_va (e_var (pv 7)) ar_nil)) (alen_sl (alen_va alen_nil))))) (s_cons (s_if (t_cmp (op_eqD hr.units) od_eq (e_callC C__law_pick B__law_pick hr (show 1 ≤ 65 from by decide) rfl (passW_of (takes_of rfl rfl rfl rfl)) (ar_sl (pv 1) (ar_va e_int ar_nil)) (alen_sl (alen_va alen_nil))) e_int (nomark _)) (s_one (s_set sc_law.nd (i := 8) rfl (by first | exact Or.inl rfl | exact Or.inr rfl) (e_tup (a_cons (e_callC C__law_one B__law_one hr (show 2 ≤ 65 from by decide) rfl (passW_of (takes_of rfl rfl rfl rfl)) (ar_sl (pv 1) (ar_va (e_callB (cr_sort3 rfl rfl (room65 hr)) cd_sort3 rfl m_sorted (by decide +kernel) (a_cons (e_sub3 rfl (room65 hr) (pv 2) e_int (fun _ _ => rfl)) a_nil)) ar_nil)) (alen_sl (alen_va alen_nil))) (a_cons (e_callC C__law_numbers B__law_numbers hr (show 2 ≤ 65 from by decide) rfl (passW_of (takes_of rfl rfl rfl rfl)) (ar_sl (pv 1) (ar_va (e_sub3 rfl (room65 hr) (pv 2) e_int (fun _ _ => rfl)) (ar_va e_int ar_nil))) (alen_sl (alen_va (alen_va alen_nil)))) a_nil))))) s_nil) (s_cons (s_set sc_law.nd (i := 9) rfl (by first | exact Or.inl rfl | exact Or.inr rfl) (e_callC C__law_ring_of B__law_ring_of hr (show 1 ≤ 65 from by decide) rfl (passW_of (takes_of rfl rfl rfl rfl)) (ar_va (e_var (pv 5)) (ar_va (e_var (pv 8)) ar_nil)) (alen_va (alen_va alen_nil)))) (s_cons (s_if (t_not (t_val (e_callC C__law_same B__law_same hr (show 65 ≤ 65 from by decide) rfl (passW_of (takes_of rfl rfl rfl rfl)) (ar_va (e_lst (a_cons (e_callD C_distance B_distance_3 (fun _ _ => ⟨_, _, rfl, rfl, rfl⟩) hr (show 4 ≤ 65 from by decide) rfl (passW_of (takes_of rfl rfl rfl rfl)) (ar_va (e_var (pv 3)) (ar_va (e_var (pv 4)) (ar_va (e_var (pv 8)) ar_nil))) (alen_va (alen_va (alen_va alen_nil))) rfl) (a_cons (e_callPK C_distance BP_distance_3 hr (show 4 ≤ 65 from by decide) rfl (passW_of (takes_of rfl rfl rfl rfl)) (ar_va (e_var (pv 3)) (ar_va (e_var (pv 8)) (ar_va (e_var (pv 4)) ar_nil))) (kr_va e_int kr_nil) (alen_va (alen_va (alen_va alen_nil))) (alen_va alen_nil) rfl) a_nil))) (ar_va (e_lst (a_cons (e_var (pv 9)) (a_cons (e_var (pv 9)) a_nil))) ar_nil)) (alen_va (alen_va alen_nil))))) (s_one (s_ret e_bl)) s_nil) (s_one (s_for (vs := [10]) (passes_of rfl) rfl (i_rng1 rfl m_range (a_cons e_int a_nil)) (g_name (pg_name sc_law.nd (i := 10) rfl (by first | exact Or.inl rfl | exact Or.inr rfl))) (s_cons (s_set sc_law.nd (i := 11) rfl (by first | exact Or.inl rfl | exact Or.inr rfl) (e_ife (PW.pt (w_and (t_cmp op_notN od_ntn (e_var (pv 9)) e_non (nomark _)) (w_one (t_cmp op_le od_le (e_var (pv 9)) (e_var (pv 10)) (nomark _))))) (e_var (pv 9)) e_non)) (s_one (s_if (t_not (t_val (e_callC C__law_same B__law_same hr (show 65 ≤ 65 from by decide) rfl (passW_of (takes_of rfl rfl rfl rfl)) (ar_va (e_callPK C_distance BP_distance_3 hr (show 4 ≤ 65 from by decide) rfl (passW_of (takes_of rfl rfl rfl rfl)) (ar_va (e_var (pv 3)) (ar_va (e_var (pv 4)) (ar_va (e_var (pv 8)) ar_nil))) (kr_va (e_var (pv 10)) kr_nil) (alen_va (alen_va (alen_va alen_nil))) (alen_va alen_nil) rfl) (ar_va (e_var (pv 11)) ar_nil)) (alen_va (alen_va alen_nil))))) (s_one (s_ret e_bl)) s_nil))))))))))) (s_one (s_ret e_bl)))))))))
end Lw

set_option maxHeartbeats 990000
open L2 PySem PySem.Spec PyProof.Rows Fm
local macro_rules | `(tactic| walk_at "own") => `(tactic| (repeat (first | ((with_reducible refine kE ?_); first | ((with_reducible apply w_var); · exact rfl) | ((with_reducible apply w_varO); · exact rfl) | (with_reducible refine w_op ?_) | (with_reducible refine w_c ?_) | ((with_reducible apply w_sub3V); · exact rfl) | ((with_reducible apply w_sub3L); · exact rfl) | (with_reducible refine w_call ?_) | ((with_reducible apply w_mov); · exact rfl) | ((with_reducible apply w_movO); · exact rfl) | (with_reducible refine w_tup ?_) | (with_reducible refine w_cb ?_) | ((with_reducible apply w_varD); · exact rfl) | (with_reducible refine w_meth ?_) | (with_reducible refine w_fld ?_) | (with_reducible refine w_lc ?_) | (with_reducible refine w_sl ?_) | (with_reducible refine w_un ?_) | (with_reducible refine w_lst ?_) | (with_reducible refine w_dnew ?_) | (with_reducible refine w_andV ?_) | (with_reducible refine w_orV ?_) | (with_reducible refine w_notV ?_) | (with_reducible refine w_ife ?_) | ((with_reducible apply w_app); · exact rfl) | (with_reducible refine w_make ?_) | ((with_reducible apply w_subV); · exact rfl) | ((with_reducible apply w_subO); · exact rfl) | (with_reducible refine w_chain ?_) | (with_reducible refine w_chK ?_) | (with_reducible refine w_m1 ?_) | ((with_reducible apply w_mLk); · exact rfl) | ((with_reducible apply w_dpop); · exact rfl) | ((with_reducible apply w_dpop1); · exact rfl)) | ((with_reducible refine kD ?_); first | (with_reducible refine w_fz ?_) | (with_reducible refine w_fzV ?_) | (with_reducible refine w_fzL ?_) | (with_reducible refine w_fzD ?_)) | ((with_reducible refine kS ?_); first | (with_reducible refine w_sseq ?_) | (with_reducible refine w_set ?_) | (with_reducible refine w_if ?_) | (with_reducible refine w_ret ?_) | (with_reducible refine w_nx ?_) | (with_reducible refine w_drop ?_) | (with_reducible refine w_for ?_) | (with_reducible refine w_put3L ?_) | (with_reducible refine w_asg ?_) | (with_reducible refine w_par ?_) | (with_reducible refine w_retN ?_) | (with_reducible refine w_par3 ?_) | (with_reducible refine w_put ?_) | (with_reducible refine w_ex ?_) | (with_reducible refine w_ex1 ?_) | (with_reducible refine w_tryF ?_) | ((with_reducible apply w_sLk); · exact rfl)) | ((with_reducible refine kO ?_); first | ((with_reducible refine kEq ?_); first | (with_reducible refine o_eqI ?_) | (with_reducible refine o_eqStr ?_ ?_ ?_) | (with_reducible refine o_eqB ?_)) | ((with_reducible refine kNe ?_); first | (with_reducible refine o_neI ?_) | (with_reducible refine o_neStr ?_ ?_ ?_) | (with_reducible refine o_neB ?_)) | ((with_reducible refine kAd ?_); first | (with_reducible refine o_add3I ?_) | (with_reducible refine o_add3L ?_ ?_) | (with_reducible refine o_add3S ?_ ?_) | (with_reducible refine o_add3T ?_ ?_)) | ((with_reducible refine kLn ?_); first | (with_reducible refine o_len3L ?_) | (with_reducible refine o_len3T ?_) | (with_reducible refine o_len3D ?_) | (with_reducible refine o_len3S ?_ ?_)) | ((with_reducible refine kIs ?_); first | (with_reducible refine o_isnN ?_) | (with_reducible refine o_isnK ?_) | (with_reducible refine o_isnS2 ?_) | (with_reducible refine o_isnI ?_) | (with_reducible refine o_isnB ?_) | (with_reducible refine o_isnS ?_) | (with_reducible refine o_isnT ?_) | (with_reducible refine o_isnL ?_)) | ((with_reducible refine kNt ?_); first | (with_reducible refine o_ntnN ?_) | (with_reducible refine o_ntnI ?_) | (with_reducible refine o_ntnT ?_) | (with_reducible refine o_ntnL ?_)) | ((with_reducible apply o_ix3T); · exact rfl) | ((with_reducible apply o_ix3L); · exact rfl) | (with_reducible refine o_lt ?_) | (with_reducible refine o_gt ?_) | (with_reducible refine o_sub ?_) | (with_reducible refine o_mul ?_ ?_) | (with_reducible refine o_tupT ?_) | (with_reducible refine o_tupL ?_) | ((with_reducible refine o_isi0 ?_); first | refine o_isI kit_int_int rfl ?_ | refine o_isI kit_int_bool rfl ?_ | refine o_isI kit_int_tuple rfl ?_ | refine o_isI kit_int_list rfl ?_ | refine o_isI kit_int_dict rfl ?_ | refine o_isI kit_bool_bool rfl ?_ | refine o_isI kit_bool_int rfl ?_ | refine o_isI kit_bool_tuple rfl ?_ | refine o_isI kit_bool_list rfl ?_ | refine o_isI kit_str_bool rfl ?_ | refine o_isI kit_str_int rfl ?_ | refine o_isI kit_tuple_bool rfl ?_ | refine o_isI kit_tuple_int rfl ?_ | refine o_isI kit_tuple_tuple rfl ?_ | refine o_isI kit_tuple_list rfl ?_ | refine o_isI kit_tuple_dict rfl ?_ | refine o_isI kit_list_bool rfl ?_ | refine o_isI kit_list_int rfl ?_ | refine o_isI kit_list_tuple rfl ?_ | refine o_isI kit_list_list rfl ?_ | refine o_isI kit_list_dict rfl ?_ | refine o_isI kit_non_bool rfl ?_ | refine o_isI kit_non_tuple rfl ?_ | refine o_isI kit_non_int rfl ?_ | refine o_isI kit_non_list rfl ?_ | refine o_isI kit_non_dict rfl ?_ | refine o_isI kit_dict_bool rfl ?_ | refine o_isI kit_dict_int rfl ?_ | refine o_isI kit_dict_tuple rfl ?_ | refine o_isI kit_dict_list rfl ?_ | refine o_isI kit_dict_dict rfl ?_) | (with_reducible refine o_le ?_) | (with_reducible refine o_ge ?_) | (with_reducible refine o_mod ?_ ?_) | (with_reducible refine o_div ?_ ?_) | (with_reducible refine o_neg ?_) | (with_reducible refine o_abs ?_) | (with_reducible refine o_listT ?_) | (with_reducible refine o_listL ?_) | (with_reducible refine o_all ?_) | (with_reducible refine o_any ?_) | ((with_reducible apply o_ixT); · exact rfl) | ((with_reducible apply o_ixL); · exact rfl) | (with_reducible refine o_slS ?_) | (with_reducible refine o_slL ?_) | (with_reducible refine o_slT ?_) | (with_reducible refine o_slStr ?_ ?_) | (with_reducible refine o_nin3S ?_) | (with_reducible refine o_in3S ?_) | (with_reducible refine o_pow ?_ ?_) | (with_reducible refine o_intB ?_) | ((with_reducible refine o_isit0 ?_); first | refine o_isT kits_int rfl ?_ | refine o_isT kits_str rfl ?_ | refine o_isT kits_tuple rfl ?_ | refine o_isT kits_list rfl ?_ | refine o_isT kits_dict rfl ?_ | refine o_isT kits_non rfl ?_) | (with_reducible refine o_dict3D ?_) | (with_reducible refine o_add ?_) | (with_reducible refine o_addStr ?_ ?_) | (with_reducible refine o_addL ?_ ?_) | (with_reducible refine o_inS ?_) | (with_reducible refine o_ninS ?_) | (with_reducible refine o_inL ?_ ?_) | (with_reducible refine o_split ?_ ?_ ?_) | (with_reducible refine o_part ?_ ?_ ?_) | (with_reducible refine o_join ?_ ?_) | (with_reducible refine o_strI ?_ ?_) | (with_reducible refine o_len ?_) | (with_reducible refine o_lenL ?_) | (with_reducible refine o_lenStr ?_ ?_) | (with_reducible refine o_upper ?_ ?_) | (with_reducible refine o_isC1 ?_)) | ((with_reducible refine kAn ?_); first | (with_reducible refine br_t ?_) | (with_reducible refine br_f ?_) | (with_reducible refine br_nt ?_) | (with_reducible refine br_nf ?_) | (with_reducible refine br_d ?_) | (with_reducible refine br_e ?_) | ((with_reducible apply br_T); · exact rfl) | ((with_reducible apply br_F); · exact rfl) | ((with_reducible apply x_len); · exact Nat.le_of_ble_eq_true rfl) | ((with_reducible apply x_is); · exact rfl) | ((with_reducible apply x_call0); (· exact List.nodup_nil); · exact rfl) | ((with_reducible apply x_call0); (· exact nd1 _); · exact rfl)) | ((with_reducible refine kL ?_); first | (with_reducible refine w_cons ?_) | (with_reducible refine w_nil ?_) | (with_reducible refine w_seqX ?_) | (with_reducible refine w_rng1 ?_) | (with_reducible refine w_zip ?_) | (with_reducible refine w_rng2 ?_) | (with_reducible refine w_en ?_) | (with_reducible refine w_rvr ?_) | (with_reducible refine w_en3 ?_) | (with_reducible refine w_rvl3 ?_) | ((with_reducible apply w_iKy); · exact rfl)) | ((with_reducible refine kB ?_); first | (with_reducible refine w_tst ?_) | (with_reducible refine w_not ?_) | (with_reducible refine w_andT ?_) | (with_reducible refine w_orT ?_)) | ((with_reducible refine kA ?_); first | (with_reducible refine w_ava ?_) | (with_reducible refine w_anil ?_) | ((with_reducible apply w_asl); · exact rfl) | (with_reducible refine w_aapp ?_)) | ((with_reducible refine kEx ?_); first | ((with_reducible apply x_one); · exact rfl) | ((with_reducible apply x_two); · exact rfl) | ((with_reducible apply x_put); (· exact rfl); (· exact rfl); · exact rfl)) | (with_reducible refine w_pn ?_) | (with_reducible refine w_ps ?_) | (with_reducible refine w_mw ?_) | (with_reducible refine o_enL ?_) | (with_reducible refine o_enT ?_) | (with_reducible refine o_rvL ?_))))
namespace Lw
open L2 PySem PySem.Spec PyProof.Rows Fm
theorem rng_eq {n i : Nat} {d : D} (h : (rngD 0 n)[i]? = some d) : i < n ∧ d = .int (i : Int) := by
  have hi : i < n := by
    have z := (List.getElem?_eq_some_iff.mp h).1
    rw [rngD_len] at z
    exact z
  rw [rngD_at hi] at h
  cases h
  refine ⟨hi, ?_⟩
  rw [Int.zero_add]
theorem get_some {γ : Type} {l : List γ} {i : Nat} (h : i < l.length) : ∃ x, l[i]? = some x := ⟨_, List.getElem?_eq_getElem h⟩
theorem small_len {n : Nat} (h : n ≤ 100000) : (-(2 ^ 62) : Int) ≤ (n : Int) ∧ (n : Int) < 2 ^ 62 := by omega
theorem all_true {n : Nat} : (List.replicate n true).all id = true := by
  induction n with
  | zero => rfl
  | succ n ih => rw [List.replicate_succ, List.all_cons, ih]; rfl
/-- plain, of no great size; texts too -/
def okT : Nat → D → Bool
  | _, .non => true
  | _, .bl _ => true
  | _, .int _ => true
  | _, .str s => PyData.strOk s
  | n + 1, .tup l => decide (l.length ≤ 100000) && l.all (okT n)
  | n + 1, .lst _ l => decide (l.length ≤ 100000) && l.all (okT n)
  | _, _ => false
structure Drw (n : Nat) (d : D) : Prop where
  ex : ∃ (b : Bool) (cells : List Int) (at_ big seed cnt : Int), d = .lst b [.lst false (cells.map D.int), .int at_, .int big, .int seed, .int cnt] ∧ 0 ≤ at_ ∧ 0 ≤ big ∧ (0 ≤ seed ∧ seed < 1000000007) ∧ 0 ≤ cnt ∧ cnt ≤ n
theorem modM (a : Int) : 0 ≤ a.fmod 1000000007 ∧ a.fmod 1000000007 < 1000000007 := ⟨Int.fmod_nonneg_of_pos a (by decide), Int.fmod_lt_of_pos a (by decide)⟩
theorem fdiv_nn {a b : Int} (ha : 0 ≤ a) (hb : 0 < b) : 0 ≤ a.fdiv b := by
  rw [Int.fdiv_eq_ediv_of_nonneg a (Int.le_of_lt hb)]
  exact Int.ediv_nonneg ha (Int.le_of_lt hb)
theorem pick_ok {n : Nat} {d : D} {many : Int} (h : Drw n d) (h1 : 1 ≤ many) (h2 : Sz 8000 many) (hn : n ≤ 1000000000) : Fw (f__law_pick [.ow d, .va (.int many)]) (fun r o => ∃ q, r = .va (.int q) ∧ (0 ≤ q ∧ q < many) ∧ ∃ d', o = [.ow d', .un] ∧ Drw (n + 1) d') NoX := by
  obtain ⟨b, cells, at_, big, seed, cnt, rfl, g1, g2, g3, g4, g5⟩ := h.ex
  have hm : many ≠ 0 := by omega
  refine fw_run rfl ?_
  refine w_sseq ?_
  refine w_mid (q := fun f ρ => f = .nx ∧ ∃ (at_ big seed : Int) (s2 : SD), ρ = [.ow (.lst b [.lst false (cells.map D.int), .int at_, .int big, .int seed, .int cnt]), .va (.int many), s2, .un] ∧ 0 ≤ at_ ∧ 0 ≤ big ∧ (0 ≤ seed ∧ seed < 1000000007)) ?_ ?_
  · walk_at "own"
    refine ⟨fun _ => ?_, fun _ => ?_⟩
    · walk_at "own"
      refine ⟨fun z => ?_, fun _ => ?_⟩
      · obtain ⟨cell, hc⟩ := at_int g1 (of_decide_eq_true z)
        walk_at "own"
        refine o_ix3L hc ?_
        walk_at "own"
        · refine ⟨fun y => ?_, fun _ => ?_⟩
          · have y := of_decide_eq_true y
            walk_at "own"
            exact ⟨rfl, at_ + 1, cell, seed, _, rfl, by omega, Int.le_trans (by decide) y, g3⟩
          · walk_at "own"
            · exact ⟨rfl, at_ + 1, 0, (seed + cell).fmod 1000000007, _, rfl, by omega, by decide, modM _⟩
            · decide
        · decide
      · walk_at "own"
        exact ⟨rfl, at_, big, seed, _, rfl, g1, g2, g3⟩
    · walk_at "own"
      exact ⟨rfl, at_, big, seed, _, rfl, g1, g2, g3⟩
  · rintro _ _ ⟨rfl, at_, big, seed, s2, rfl, g1, g2, g3⟩
    walk_at "own"
    refine ⟨fun y => ?_, fun _ => ?_⟩
    · walk_at "own"
      · exact ⟨⟨Int.fmod_nonneg_of_pos _ (by omega), Int.fmod_lt_of_pos _ (by omega)⟩, _, rfl, b, cells, at_, big.fdiv many, seed, cnt, rfl, g1, fdiv_nn g2 (by omega), g3, g4, by omega⟩
      · exact divG_of hm h2 (by decide)
      · exact hm
    · walk_at "own"
      · have q := fdiv_nn (b := 5) (modM (seed ^ Int.toNat 3 + 40503 * (cnt + 1) + 17)).1 (by decide)
        exact ⟨⟨Int.fmod_nonneg_of_pos _ (by omega), Int.fmod_lt_of_pos _ (by omega)⟩, _, rfl, b, cells, at_, big, _, cnt + 1, rfl, g1, g2, modM _, by omega, by omega⟩
      · exact hm
      · exact divG_of (k := 8) (by decide) (by unfold Sz; decide) (by decide)
      · decide
      · exact mulG_of (j := 17) (k := 40) (by unfold Sz; decide) (by unfold Sz; omega) (by decide)
      · exact ⟨by decide, by decide, by omega⟩
theorem fw_drw {f : FR} {P : Int → Prop} {n : Nat} {u : List SD} (h : Fw f (fun r o => ∃ q, r = .va (.int q) ∧ P q ∧ ∃ d', o = .ow d' :: u ∧ Drw n d') NoX) {p : SD → List SD → Prop} {E : Exn → List SD → Prop} (g : ∀ q d', P q → Drw n d' → p (.va (.int q)) (.ow d' :: u)) : Fw f p E := by
  refine fw_mono h ?_
  rintro r o ⟨q, rfl, hq, d', rfl, hd⟩
  exact g q d' hq hd
theorem Drw.mono {m n : Nat} {d : D} (h : Drw m d) (l : m ≤ n) : Drw n d := by
  obtain ⟨b, cells, a1, a2, a3, a4, e, g1, g2, g3, g4, g5⟩ := h.ex
  exact ⟨b, cells, a1, a2, a3, a4, e, g1, g2, g3, g4, by omega⟩
theorem begin_ok {ns : List Int} {d : D} (hd : d = .scr (ns.map D.int) ∨ d = .lst false (ns.map D.int)) : Fw (f__law_begin [.va d]) (fun r o => ∃ D0, r = .ow D0 ∧ (o = [.un] ∧ Drw 0 D0)) NoX := by
  obtain ⟨cells, e⟩ := cutD_map ns D.int none (some 63)
  rcases hd with rfl | rfl
  all_goals
    refine fw_run rfl ?_
    walk_at "own"
    rw [e]
    exact ⟨rfl, false, cells, 0, 0, 1, 0, rfl, by decide, by decide, ⟨by decide, by decide⟩, by decide, by decide⟩
theorem szS {a : Int} (h : a.natAbs < 1000000000) : Sz 8000 a := Sz.mono (j := 30) (show a.natAbs < 2 ^ 30 by omega) (by decide)
end Lw

set_option maxHeartbeats 990000
namespace Lw
open L2 PySem PySem.Spec PyProof.Rows Fm PySem.W
/-! ### rows of whole numbers, ties, steps -/
abbrev Vec := List Int
abbrev Tie := Str × Str × Vec
abbrev Stp := Str × Vec
abbrev dV (s : Vec) : D := .tup (s.map D.int)
abbrev dT (t : Tie) : D := .tup [.str t.1, .str t.2.1, dV t.2.2]
abbrev dP (p : Stp) : D := .tup [.str p.1, dV p.2]
def neg (s : Vec) : Vec := s.map fun a => 0 - a
def about (t : Tie) : Tie := (t.2.1, t.1, neg t.2.2)
theorem neg_neg (s : Vec) : neg (neg s) = s := by
  unfold neg
  rw [List.map_map]
  conv => rhs; rw [← List.map_id s]
  refine List.map_congr_left fun a _ => ?_
  show 0 - (0 - a) = a
  omega
theorem neg_len (s : Vec) : (neg s).length = s.length := List.length_map ..
theorem about_about (t : Tie) : about (about t) = t := by
  obtain ⟨u, v, s⟩ := t
  show (u, v, neg (neg s)) = _
  rw [neg_neg]
theorem py_ints : ∀ s : Vec, pyL (s.map D.int) = s.map PyData.int
  | [] => rfl
  | a :: s => by
    show PyData.int a :: pyL (s.map D.int) = _
    rw [py_ints s]
    rfl
theorem eqv_ints : ∀ a b : Vec, PyData.eqvAll (a.map PyData.int) (b.map PyData.int) = decide (a = b)
  | [], [] => (decide_eq_true rfl).symm
  | [], y :: b => by simp [PyData.eqvAll]
  | x :: a, [] => by simp [PyData.eqvAll]
  | x :: a, y :: b => by
    show (PyData.eqv (.int x) (.int y) && PyData.eqvAll (a.map PyData.int) (b.map PyData.int)) = _
    rw [eqv_ints a b]
    show ((x == y) && decide (a = b)) = _
    by_cases h : x = y
    · subst h
      simp
    · simp [h]
theorem peq_V (a b : Vec) : peq (dV a) (dV b) = decide (a = b) := by
  show PyData.eqvAll (pyL (a.map D.int)) (pyL (b.map D.int)) = _
  rw [py_ints, py_ints, eqv_ints]
theorem peq_P (p q : Stp) : peq (dP p) (dP q) = decide (p = q) := by
  obtain ⟨a, s⟩ := p
  obtain ⟨b, t⟩ := q
  show ((a == b) && (peq (dV s) (dV t) && true)) = _
  rw [peq_V]
  by_cases h : a = b
  · subst h
    simp
  · simp [h]
theorem peq_T (p q : Tie) : peq (dT p) (dT q) = decide (p = q) := by
  obtain ⟨a, a', s⟩ := p
  obtain ⟨b, b', t⟩ := q
  show ((a == b) && ((a' == b') && (peq (dV s) (dV t) && true))) = _
  rw [peq_V]
  by_cases h : a = b
  · subst h
    by_cases h2 : a' = b'
    · subst h2
      simp
    · simp [h2]
  · simp [h]
theorem any_map {α : Type} [DecidableEq α] (f : α → D) (hf : ∀ a b, peq (f a) (f b) = decide (a = b)) (x : α) (l : List α) : ∃ b : Bool, ((l.map f).any fun e => peq e (f x)) = b ∧ (b = true ↔ x ∈ l) := by
  refine ⟨_, rfl, ?_⟩
  rw [List.any_map, List.any_eq_true]
  constructor
  · rintro ⟨y, h1, h2⟩
    have h2 : peq (f y) (f x) = true := h2
    rw [hf] at h2
    rw [← of_decide_eq_true h2]
    exact h1
  · intro h
    exact ⟨x, h, by show peq (f x) (f x) = true; rw [hf]; exact decide_eq_true rfl⟩
/-! plain -/
theorem plL_of {n : Nat} : ∀ {l : List D}, (∀ d ∈ l, D.pl n d = true) → plL n l = true
  | [], _ => by unfold plL; rfl
  | d :: l, h => by
    unfold plL
    rw [h d (List.mem_cons_self ..), plL_of fun e he => h e (List.mem_cons_of_mem _ he)]
    rfl
theorem pl_int {n : Nat} {a : Int} : D.pl n (.int a) = true := by cases n <;> rfl
theorem pl_V {n : Nat} (s : Vec) : D.pl (n + 1) (dV s) = true := by
  show plL n (s.map D.int) = true
  refine plL_of fun d hd => ?_
  obtain ⟨a, _, rfl⟩ := List.mem_map.mp hd
  exact pl_int
theorem pl_P {n : Nat} {p : Stp} (h : PyData.strOk p.1 = true) : D.pl (n + 2) (dP p) = true := by
  show plL (n + 1) [.str p.1, dV p.2] = true
  refine plL_of fun d hd => ?_
  rcases inC hd with rfl | hd
  · exact pl_str h
  · rw [List.mem_singleton.mp hd]
    exact pl_V _
theorem pl_T {n : Nat} {t : Tie} (h : PyData.strOk t.1 = true) (h2 : PyData.strOk t.2.1 = true) : D.pl (n + 2) (dT t) = true := by
  show plL (n + 1) [.str t.1, .str t.2.1, dV t.2.2] = true
  refine plL_of fun d hd => ?_
  rcases inC hd with rfl | hd
  · exact pl_str h
  rcases inC hd with rfl | hd
  · exact pl_str h2
  · rw [List.mem_singleton.mp hd]
    exact pl_V _
theorem pl_lst {n : Nat} {b : Bool} {l : List D} (h : ∀ d ∈ l, D.pl n d = true) : D.pl (n + 1) (.lst b l) = true := plL_of h
/-! alike -/
theorem alike_ints : ∀ a b : Vec, alikeAll (a.map PyData.int) (b.map PyData.int) = true
  | [], b => by unfold alikeAll; cases b <;> rfl
  | x :: a, [] => by rfl
  | x :: a, y :: b => by
    show (alike (.int x) (.int y) && alikeAll (a.map PyData.int) (b.map PyData.int)) = true
    rw [alike_ints a b]
    rfl
theorem alike_V (a b : Vec) : alike (dV a).py (dV b).py = true := by
  show alikeAll (pyL (a.map D.int)) (pyL (b.map D.int)) = true
  rw [py_ints, py_ints]
  exact alike_ints a b
theorem alike_P (p q : Stp) : alike (dP p).py (dP q).py = true := by
  show (alike (.str p.1) (.str q.1) && (alike (dV p.2).py (dV q.2).py && true)) = true
  rw [alike_V]
  rfl
theorem alike_T (p q : Tie) : alike (dT p).py (dT q).py = true := by
  show (alike (.str p.1) (.str q.1) && (alike (.str p.2.1) (.str q.2.1) && (alike (dV p.2.2).py (dV q.2.2).py && true))) = true
  rw [alike_V]
  rfl
/-! the order -/
theorem lt_anti {x y : PyData} (al : alike x y = true) (h1 : dataLt x y = false) (h2 : dataLt y x = false) : PyData.eqv x y = true := by
  have e := lex_total (O := itemOrd) _ _ h1 h2
  cases c : PyData.eqv x y with
  | true => rfl
  | false =>
    have q := (toks_eqv x y al).2 c
    have q1 := q [] []
    have q2 := q [] [.inl 0]
    rw [e] at q1 q2
    rw [lex_pre] at q1 q2
    rw [← q1] at q2
    cases q2
theorem le_trans_ (a b c : D) : dataLe false D.py a b = true → dataLe false D.py b c = true → dataLe false D.py a c = true := (sortLe_total _ _ _).trans a b c
theorem le_total_ (a b : D) : (dataLe false D.py a b || dataLe false D.py b a) = true := by
  rcases (sortLe_total (listOrd itemOrd) false fun b : D => keyToks b.py).total a b with h | h
  · show (sortLe _ _ _ a b || _) = true
    rw [h]
    rfl
  · show (_ || sortLe _ _ _ b a) = true
    rw [h, Bool.or_true]
def srtF {α : Type} (f : α → D) (l : List α) : List α := l.mergeSort fun a b => dataLe false D.py (f a) (f b)
theorem srtD_map {α : Type} (f : α → D) (l : List α) : srtD (l.map f) = (srtF f l).map f := (List.map_mergeSort (r := fun a b => dataLe false D.py (f a) (f b)) (s := dataLe false D.py) (f := f) (l := l) fun _ _ _ _ => rfl).symm
theorem srtF_perm {α : Type} (f : α → D) (l : List α) : (srtF f l).Perm l := List.mergeSort_perm ..
theorem srtF_one {α : Type} [DecidableEq α] (f : α → D) (hf : ∀ a b, peq (f a) (f b) = decide (a = b)) (ha : ∀ a b, alike (f a).py (f b).py = true) {l m : List α} (h : l.Perm m) : srtF f l = srtF f m := by
  have srt : ∀ l : List α, (srtF f l).Pairwise fun a b => dataLe false D.py (f a) (f b) = true := fun l => List.pairwise_mergeSort (le := fun a b => dataLe false D.py (f a) (f b)) (fun a b c => le_trans_ (f a) (f b) (f c)) (fun a b => le_total_ (f a) (f b)) l
  refine List.Perm.eq_of_pairwise (fun a b _ _ h1 h2 => ?_) (srt l) (srt m) ((srtF_perm f l).trans (h.trans (srtF_perm f m).symm))
  have h1 : (!dataLt (f b).py (f a).py) = true := h1
  have h2 : (!dataLt (f a).py (f b).py) = true := h2
  have e := lt_anti (ha a b) (by simpa using h2) (by simpa using h1)
  have e2 : peq (f a) (f b) = true := e
  rw [hf] at e2
  exact of_decide_eq_true e2
theorem srtF_srtF {α : Type} [DecidableEq α] (f : α → D) (hf : ∀ a b, peq (f a) (f b) = decide (a = b)) (ha : ∀ a b, alike (f a).py (f b).py = true) (l : List α) : srtF f (srtF f l) = srtF f l := srtF_one f hf ha (srtF_perm f l)
/-- the lesser telling -/
def les (t : Tie) : Tie := if dataLt (dT (about t)).py (dT t).py then about t else t
theorem min_les (t : Tie) : min2D (dT t) (dT (about t)) = dT (les t) := by
  unfold min2D les
  split <;> rfl
theorem les_about (t : Tie) : les (about t) = les t := by
  unfold les
  rw [about_about]
  cases h : dataLt (dT (about t)).py (dT t).py with
  | true =>
    have z : dataLt (dT t).py (dT (about t)).py = false := by
      cases c : dataLt (dT t).py (dT (about t)).py with
      | false => rfl
      | true =>
        have := lex_trans (O := itemOrd) _ _ _ h c
        rw [lex_irrefl] at this
        cases this
    rw [z]
    rfl
  | false =>
    cases c : dataLt (dT t).py (dT (about t)).py with
    | true => rfl
    | false =>
      have e : peq (dT t) (dT (about t)) = true := lt_anti (alike_T _ _) c h
      rw [peq_T] at e
      exact (of_decide_eq_true e).symm
theorem les_or (t : Tie) : les t = t ∨ les t = about t := by
  unfold les
  split
  · exact .inr rfl
  · exact .inl rfl
theorem les_les (t : Tie) : les (les t) = les t := by
  rcases les_or t with h | h
  · rw [h, h]
  · rw [h, les_about, h]
/-! sorted lists are taken -/
theorem all_true_of {α : Type} {l : List α} {p : α → Bool} (h : ∀ a ∈ l, p a = true) : l.all p = true := List.all_eq_true.mpr h
theorem sortB_of {α : Type} (f : α → D) (l : List α) (hp : ∀ a ∈ l, D.pl 60 (f a) = true) (ha : ∀ a b, alike (f a).py (f b).py = true) (ht : ∀ a, ∃ x xs, (f a).py = .tuple (x :: xs)) : sortB (l.map f) = true := by
  unfold sortB
  rw [Bool.and_eq_true, Bool.and_eq_true, Bool.or_eq_true]
  refine ⟨⟨plL_of fun d hd => ?_, all_true_of fun d hd => all_true_of fun e he => ?_⟩, .inl (all_true_of fun d hd => ?_)⟩
  · obtain ⟨a, h, rfl⟩ := List.mem_map.mp hd
    exact hp a h
  · obtain ⟨a, _, rfl⟩ := List.mem_map.mp hd
    obtain ⟨b, _, rfl⟩ := List.mem_map.mp he
    exact ha a b
  · obtain ⟨a, _, rfl⟩ := List.mem_map.mp hd
    obtain ⟨x, xs, e⟩ := ht a
    rw [e]
theorem sortB_T {l : List Tie} (h : ∀ t ∈ l, PyData.strOk t.1 = true ∧ PyData.strOk t.2.1 = true) : sortB (l.map dT) = true := sortB_of dT l (fun t ht => pl_T (h t ht).1 (h t ht).2) alike_T fun _ => ⟨_, _, rfl⟩
theorem sortB_P {l : List Stp} (h : ∀ t ∈ l, PyData.strOk t.1 = true) : sortB (l.map dP) = true := sortB_of dP l (fun t ht => pl_P (h t ht)) alike_P fun _ => ⟨_, _, rfl⟩
theorem minB_T {t : Tie} (h : PyData.strOk t.1 = true) (h2 : PyData.strOk t.2.1 = true) : minB (dT t) (dT (about t)) = true := by
  have h3 : D.pl 60 (dT t) = true := pl_T h h2
  have h4 : D.pl 60 (dT (about t)) = true := pl_T (t := about t) h2 h
  unfold minB
  rw [h3, h4, alike_T, alike_T, alike_T, alike_T]
  rfl
/-! ### what is near -/
def nearL (ts : List Tie) (n : Str) : List Stp := ((ts.filter fun t => decide (t.1 = n)).map fun t => (t.2.1, t.2.2)) ++ (ts.filter fun t => decide (t.2.1 = n)).map fun t => (t.1, neg t.2.2)
def near (ts : List Tie) (n : Str) : List Stp := srtF dP (nearL ts n)
theorem near_mem {ts : List Tie} {n : Str} {p : Stp} : p ∈ near ts n ↔ ∃ t ∈ ts, (t.1 = n ∧ p = (t.2.1, t.2.2)) ∨ (t.2.1 = n ∧ p = (t.1, neg t.2.2)) := by
  unfold near
  rw [(srtF_perm dP _).mem_iff]
  unfold nearL
  rw [List.mem_append, List.mem_map, List.mem_map]
  constructor
  · rintro (⟨t, h1, h2⟩ | ⟨t, h1, h2⟩)
    · obtain ⟨h3, h4⟩ := List.mem_filter.mp h1
      exact ⟨t, h3, .inl ⟨of_decide_eq_true h4, h2.symm⟩⟩
    · obtain ⟨h3, h4⟩ := List.mem_filter.mp h1
      exact ⟨t, h3, .inr ⟨of_decide_eq_true h4, h2.symm⟩⟩
  · rintro ⟨t, h1, (⟨h2, h3⟩ | ⟨h2, h3⟩)⟩
    · exact .inl ⟨t, List.mem_filter.mpr ⟨h1, decide_eq_true h2⟩, h3.symm⟩
    · exact .inr ⟨t, List.mem_filter.mpr ⟨h1, decide_eq_true h2⟩, h3.symm⟩
theorem near_back {ts : List Tie} {n : Str} {p : Stp} (h : p ∈ near ts n) : (n, neg p.2) ∈ near ts p.1 := by
  obtain ⟨t, h1, h2⟩ := near_mem.mp h
  refine near_mem.mpr ⟨t, h1, ?_⟩
  rcases h2 with ⟨h2, rfl⟩ | ⟨h2, rfl⟩
  · exact .inr ⟨rfl, by rw [← h2]⟩
  · exact .inl ⟨rfl, by rw [← h2]; show (t.2.1, neg (neg t.2.2)) = _; rw [neg_neg]⟩
end Lw

set_option maxHeartbeats 990000
open L2 PySem PySem.Spec PyProof.Rows Fm
local macro_rules | `(tactic| walk_at "own2") => `(tactic| (repeat (first | ((with_reducible refine kE ?_); first | ((with_reducible apply w_var); · exact rfl) | ((with_reducible apply w_varO); · exact rfl) | (with_reducible refine w_op ?_) | (with_reducible refine w_c ?_) | ((with_reducible apply w_sub3V); · exact rfl) | ((with_reducible apply w_sub3L); · exact rfl) | (with_reducible refine w_call ?_) | ((with_reducible apply w_mov); · exact rfl) | ((with_reducible apply w_movO); · exact rfl) | (with_reducible refine w_tup ?_) | (with_reducible refine w_cb ?_) | ((with_reducible apply w_varD); · exact rfl) | (with_reducible refine w_meth ?_) | (with_reducible refine w_fld ?_) | (with_reducible refine w_lc ?_) | (with_reducible refine w_sl ?_) | (with_reducible refine w_un ?_) | (with_reducible refine w_lst ?_) | (with_reducible refine w_dnew ?_) | (with_reducible refine w_andV ?_) | (with_reducible refine w_orV ?_) | (with_reducible refine w_notV ?_) | (with_reducible refine w_ife ?_) | ((with_reducible apply w_app); · exact rfl) | (with_reducible refine w_make ?_) | ((with_reducible apply w_subV); · exact rfl) | ((with_reducible apply w_subO); · exact rfl) | (with_reducible refine w_chain ?_) | (with_reducible refine w_chK ?_) | (with_reducible refine w_m1 ?_) | ((with_reducible apply w_mLk); · exact rfl) | ((with_reducible apply w_dpop); · exact rfl) | ((with_reducible apply w_dpop1); · exact rfl) | ((with_reducible apply w_stP); · exact (rfl : _ = [_, _])) | ((with_reducible apply w_stS); · exact (rfl : _ = [_, _])) | ((with_reducible apply w_stA); · exact (rfl : _ = [_, _]))) | ((with_reducible refine kD ?_); first | ((with_reducible apply w_stP); · exact (rfl : _ = [_, _])) | ((with_reducible apply w_stS); · exact (rfl : _ = [_, _])) | ((with_reducible apply w_stA); · exact (rfl : _ = [_, _])) | (with_reducible refine w_fz ?_) | (with_reducible refine w_fzV ?_) | (with_reducible refine w_fzL ?_) | (with_reducible refine w_fzD ?_)) | ((with_reducible refine kS ?_); first | ((with_reducible apply w_stP); · exact (rfl : _ = [_, _])) | ((with_reducible apply w_stS); · exact (rfl : _ = [_, _])) | ((with_reducible apply w_stA); · exact (rfl : _ = [_, _])) | (with_reducible refine w_sseq ?_) | (with_reducible refine w_set ?_) | (with_reducible refine w_if ?_) | (with_reducible refine w_ret ?_) | (with_reducible refine w_nx ?_) | (with_reducible refine w_drop ?_) | (with_reducible refine w_for ?_) | (with_reducible refine w_put3L ?_) | (with_reducible refine w_asg ?_) | (with_reducible refine w_par ?_) | (with_reducible refine w_retN ?_) | (with_reducible refine w_par3 ?_) | (with_reducible refine w_put ?_) | (with_reducible refine w_ex ?_) | (with_reducible refine w_ex1 ?_) | (with_reducible refine w_tryF ?_) | ((with_reducible apply w_sLk); · exact rfl)) | ((with_reducible refine kO ?_); first | ((with_reducible refine kEq ?_); first | (with_reducible refine o_eqI ?_) | (with_reducible refine o_eqStr ?_ ?_ ?_) | (with_reducible refine o_eqB ?_)) | ((with_reducible refine kNe ?_); first | (with_reducible refine o_neI ?_) | (with_reducible refine o_neStr ?_ ?_ ?_) | (with_reducible refine o_neB ?_)) | ((with_reducible refine kAd ?_); first | (with_reducible refine o_add3I ?_) | (with_reducible refine o_add3L ?_ ?_) | (with_reducible refine o_add3S ?_ ?_) | (with_reducible refine o_add3T ?_ ?_)) | ((with_reducible refine kLn ?_); first | (with_reducible refine o_len3L ?_) | (with_reducible refine o_len3T ?_) | (with_reducible refine o_len3D ?_) | (with_reducible refine o_len3S ?_ ?_)) | ((with_reducible refine kIs ?_); first | (with_reducible refine o_isnN ?_) | (with_reducible refine o_isnK ?_) | (with_reducible refine o_isnS2 ?_) | (with_reducible refine o_isnI ?_) | (with_reducible refine o_isnB ?_) | (with_reducible refine o_isnS ?_) | (with_reducible refine o_isnT ?_) | (with_reducible refine o_isnL ?_)) | ((with_reducible refine kNt ?_); first | (with_reducible refine o_ntnN ?_) | (with_reducible refine o_ntnI ?_) | (with_reducible refine o_ntnT ?_) | (with_reducible refine o_ntnL ?_)) | ((with_reducible apply o_ix3T); · exact rfl) | ((with_reducible apply o_ix3L); · exact rfl) | (with_reducible refine o_lt ?_) | (with_reducible refine o_gt ?_) | (with_reducible refine o_sub ?_) | (with_reducible refine o_mul ?_ ?_) | (with_reducible refine o_tupT ?_) | (with_reducible refine o_tupL ?_) | ((with_reducible refine o_isi0 ?_); first | refine o_isI kit_int_int rfl ?_ | refine o_isI kit_int_bool rfl ?_ | refine o_isI kit_int_tuple rfl ?_ | refine o_isI kit_int_list rfl ?_ | refine o_isI kit_int_dict rfl ?_ | refine o_isI kit_bool_bool rfl ?_ | refine o_isI kit_bool_int rfl ?_ | refine o_isI kit_bool_tuple rfl ?_ | refine o_isI kit_bool_list rfl ?_ | refine o_isI kit_str_bool rfl ?_ | refine o_isI kit_str_int rfl ?_ | refine o_isI kit_tuple_bool rfl ?_ | refine o_isI kit_tuple_int rfl ?_ | refine o_isI kit_tuple_tuple rfl ?_ | refine o_isI kit_tuple_list rfl ?_ | refine o_isI kit_tuple_dict rfl ?_ | refine o_isI kit_list_bool rfl ?_ | refine o_isI kit_list_int rfl ?_ | refine o_isI kit_list_tuple rfl ?_ | refine o_isI kit_list_list rfl ?_ | refine o_isI kit_list_dict rfl ?_ | refine o_isI kit_non_bool rfl ?_ | refine o_isI kit_non_tuple rfl ?_ | refine o_isI kit_non_int rfl ?_ | refine o_isI kit_non_list rfl ?_ | refine o_isI kit_non_dict rfl ?_ | refine o_isI kit_dict_bool rfl ?_ | refine o_isI kit_dict_int rfl ?_ | refine o_isI kit_dict_tuple rfl ?_ | refine o_isI kit_dict_list rfl ?_ | refine o_isI kit_dict_dict rfl ?_) | (with_reducible refine o_le ?_) | (with_reducible refine o_ge ?_) | (with_reducible refine o_mod ?_ ?_) | (with_reducible refine o_div ?_ ?_) | (with_reducible refine o_neg ?_) | (with_reducible refine o_abs ?_) | (with_reducible refine o_listT ?_) | (with_reducible refine o_listL ?_) | (with_reducible refine o_all ?_) | (with_reducible refine o_any ?_) | ((with_reducible apply o_ixT); · exact rfl) | ((with_reducible apply o_ixL); · exact rfl) | (with_reducible refine o_slS ?_) | (with_reducible refine o_slL ?_) | (with_reducible refine o_slT ?_) | (with_reducible refine o_slStr ?_ ?_) | (with_reducible refine o_nin3S ?_) | (with_reducible refine o_in3S ?_) | (with_reducible refine o_pow ?_ ?_) | (with_reducible refine o_intB ?_) | ((with_reducible refine o_isit0 ?_); first | refine o_isT kits_int rfl ?_ | refine o_isT kits_str rfl ?_ | refine o_isT kits_tuple rfl ?_ | refine o_isT kits_list rfl ?_ | refine o_isT kits_dict rfl ?_ | refine o_isT kits_non rfl ?_) | (with_reducible refine o_dict3D ?_) | (with_reducible refine o_add ?_) | (with_reducible refine o_addStr ?_ ?_) | (with_reducible refine o_addL ?_ ?_) | (with_reducible refine o_inS ?_) | (with_reducible refine o_ninS ?_) | (with_reducible refine o_inL ?_ ?_) | (with_reducible refine o_split ?_ ?_ ?_) | (with_reducible refine o_part ?_ ?_ ?_) | (with_reducible refine o_join ?_ ?_) | (with_reducible refine o_strI ?_ ?_) | (with_reducible refine o_len ?_) | (with_reducible refine o_lenL ?_) | (with_reducible refine o_lenStr ?_ ?_) | (with_reducible refine o_upper ?_ ?_) | (with_reducible refine o_isC1 ?_)) | ((with_reducible refine kAn ?_); first | (with_reducible refine br_t ?_) | (with_reducible refine br_f ?_) | (with_reducible refine br_nt ?_) | (with_reducible refine br_nf ?_) | (with_reducible refine br_d ?_) | (with_reducible refine br_e ?_) | ((with_reducible apply br_T); · exact rfl) | ((with_reducible apply br_F); · exact rfl) | ((with_reducible apply x_len); · exact Nat.le_of_ble_eq_true rfl) | ((with_reducible apply x_is); · exact rfl) | ((with_reducible apply x_call0); (· exact List.nodup_nil); · exact rfl) | ((with_reducible apply x_call0); (· exact nd1 _); · exact rfl)) | ((with_reducible refine kL ?_); first | (with_reducible refine w_cons ?_) | (with_reducible refine w_nil ?_) | (with_reducible refine w_seqX ?_) | (with_reducible refine w_rng1 ?_) | (with_reducible refine w_zip ?_) | (with_reducible refine w_rng2 ?_) | (with_reducible refine w_en ?_) | (with_reducible refine w_rvr ?_) | (with_reducible refine w_en3 ?_) | (with_reducible refine w_rvl3 ?_) | ((with_reducible apply w_iKy); · exact rfl) | ((with_reducible apply w_stP); · exact (rfl : _ = [_, _])) | ((with_reducible apply w_stS); · exact (rfl : _ = [_, _])) | ((with_reducible apply w_stA); · exact (rfl : _ = [_, _]))) | ((with_reducible refine kB ?_); first | (with_reducible refine w_tst ?_) | (with_reducible refine w_not ?_) | (with_reducible refine w_andT ?_) | (with_reducible refine w_orT ?_)) | ((with_reducible refine kA ?_); first | ((with_reducible apply w_stP); · exact (rfl : _ = [_, _])) | ((with_reducible apply w_stS); · exact (rfl : _ = [_, _])) | ((with_reducible apply w_stA); · exact (rfl : _ = [_, _])) | (with_reducible refine w_ava ?_) | (with_reducible refine w_anil ?_) | ((with_reducible apply w_asl); · exact rfl) | (with_reducible refine w_aapp ?_)) | ((with_reducible refine kEx ?_); first | ((with_reducible apply x_one); · exact rfl) | ((with_reducible apply x_two); · exact rfl) | ((with_reducible apply x_put); (· exact rfl); (· exact rfl); · exact rfl)) | (with_reducible refine w_pn ?_) | (with_reducible refine w_ps ?_) | (with_reducible refine w_mw ?_) | (with_reducible refine o_enL ?_) | (with_reducible refine o_enT ?_) | (with_reducible refine o_rvL ?_))))
local macro_rules | `(tactic| walk_at "own10") => `(tactic| (repeat (first | ((with_reducible refine kE ?_); first | ((with_reducible apply w_var); · exact rfl) | ((with_reducible apply w_varO); · exact rfl) | (with_reducible refine w_op ?_) | (with_reducible refine w_c ?_) | ((with_reducible apply w_sub3V); · exact rfl) | ((with_reducible apply w_sub3L); · exact rfl) | (with_reducible refine w_call ?_) | ((with_reducible apply w_mov); · exact rfl) | ((with_reducible apply w_movO); · exact rfl) | (with_reducible refine w_tup ?_) | (with_reducible refine w_cb ?_) | ((with_reducible apply w_varD); · exact rfl) | (with_reducible refine w_meth ?_) | (with_reducible refine w_fld ?_) | (with_reducible refine w_lc ?_) | (with_reducible refine w_sl ?_) | (with_reducible refine w_un ?_) | (with_reducible refine w_lst ?_) | (with_reducible refine w_dnew ?_) | (with_reducible refine w_andV ?_) | (with_reducible refine w_orV ?_) | (with_reducible refine w_notV ?_) | (with_reducible refine w_ife ?_) | ((with_reducible apply w_app); · exact rfl) | (with_reducible refine w_make ?_) | ((with_reducible apply w_subV); · exact rfl) | ((with_reducible apply w_subO); · exact rfl) | (with_reducible refine w_chain ?_) | (with_reducible refine w_chK ?_) | (with_reducible refine w_m1 ?_) | ((with_reducible apply w_mLk); · exact rfl) | ((with_reducible apply w_dpop); · exact rfl) | ((with_reducible apply w_dpop1); · exact rfl) | ((with_reducible apply w_stP); · exact (rfl : _ = [_, _, _, _, _, _, _, _, _, _])) | ((with_reducible apply w_stS); · exact (rfl : _ = [_, _, _, _, _, _, _, _, _, _])) | ((with_reducible apply w_stA); · exact (rfl : _ = [_, _, _, _, _, _, _, _, _, _]))) | ((with_reducible refine kD ?_); first | ((with_reducible apply w_stP); · exact (rfl : _ = [_, _, _, _, _, _, _, _, _, _])) | ((with_reducible apply w_stS); · exact (rfl : _ = [_, _, _, _, _, _, _, _, _, _])) | ((with_reducible apply w_stA); · exact (rfl : _ = [_, _, _, _, _, _, _, _, _, _])) | (with_reducible refine w_fz ?_) | (with_reducible refine w_fzV ?_) | (with_reducible refine w_fzL ?_) | (with_reducible refine w_fzD ?_)) | ((with_reducible refine kS ?_); first | ((with_reducible apply w_stP); · exact (rfl : _ = [_, _, _, _, _, _, _, _, _, _])) | ((with_reducible apply w_stS); · exact (rfl : _ = [_, _, _, _, _, _, _, _, _, _])) | ((with_reducible apply w_stA); · exact (rfl : _ = [_, _, _, _, _, _, _, _, _, _])) | (with_reducible refine w_sseq ?_) | (with_reducible refine w_set ?_) | (with_reducible refine w_if ?_) | (with_reducible refine w_ret ?_) | (with_reducible refine w_nx ?_) | (with_reducible refine w_drop ?_) | (with_reducible refine w_for ?_) | (with_reducible refine w_put3L ?_) | (with_reducible refine w_asg ?_) | (with_reducible refine w_par ?_) | (with_reducible refine w_retN ?_) | (with_reducible refine w_par3 ?_) | (with_reducible refine w_put ?_) | (with_reducible refine w_ex ?_) | (with_reducible refine w_ex1 ?_) | (with_reducible refine w_tryF ?_) | ((with_reducible apply w_sLk); · exact rfl)) | ((with_reducible refine kO ?_); first | ((with_reducible refine kEq ?_); first | (with_reducible refine o_eqI ?_) | (with_reducible refine o_eqStr ?_ ?_ ?_) | (with_reducible refine o_eqB ?_)) | ((with_reducible refine kNe ?_); first | (with_reducible refine o_neI ?_) | (with_reducible refine o_neStr ?_ ?_ ?_) | (with_reducible refine o_neB ?_)) | ((with_reducible refine kAd ?_); first | (with_reducible refine o_add3I ?_) | (with_reducible refine o_add3L ?_ ?_) | (with_reducible refine o_add3S ?_ ?_) | (with_reducible refine o_add3T ?_ ?_)) | ((with_reducible refine kLn ?_); first | (with_reducible refine o_len3L ?_) | (with_reducible refine o_len3T ?_) | (with_reducible refine o_len3D ?_) | (with_reducible refine o_len3S ?_ ?_)) | ((with_reducible refine kIs ?_); first | (with_reducible refine o_isnN ?_) | (with_reducible refine o_isnK ?_) | (with_reducible refine o_isnS2 ?_) | (with_reducible refine o_isnI ?_) | (with_reducible refine o_isnB ?_) | (with_reducible refine o_isnS ?_) | (with_reducible refine o_isnT ?_) | (with_reducible refine o_isnL ?_)) | ((with_reducible refine kNt ?_); first | (with_reducible refine o_ntnN ?_) | (with_reducible refine o_ntnI ?_) | (with_reducible refine o_ntnT ?_) | (with_reducible refine o_ntnL ?_)) | ((with_reducible apply o_ix3T); · exact rfl) | ((with_reducible apply o_ix3L); · exact rfl) | (with_reducible refine o_lt ?_) | (with_reducible refine o_gt ?_) | (with_reducible refine o_sub ?_) | (with_reducible refine o_mul ?_ ?_) | (with_reducible refine o_tupT ?_) | (with_reducible refine o_tupL ?_) | ((with_reducible refine o_isi0 ?_); first | refine o_isI kit_int_int rfl ?_ | refine o_isI kit_int_bool rfl ?_ | refine o_isI kit_int_tuple rfl ?_ | refine o_isI kit_int_list rfl ?_ | refine o_isI kit_int_dict rfl ?_ | refine o_isI kit_bool_bool rfl ?_ | refine o_isI kit_bool_int rfl ?_ | refine o_isI kit_bool_tuple rfl ?_ | refine o_isI kit_bool_list rfl ?_ | refine o_isI kit_str_bool rfl ?_ | refine o_isI kit_str_int rfl ?_ | refine o_isI kit_tuple_bool rfl ?_ | refine o_isI kit_tuple_int rfl ?_ | refine o_isI kit_tuple_tuple rfl ?_ | refine o_isI kit_tuple_list rfl ?_ | refine o_isI kit_tuple_dict rfl ?_ | refine o_isI kit_list_bool rfl ?_ | refine o_isI kit_list_int rfl ?_ | refine o_isI kit_list_tuple rfl ?_ | refine o_isI kit_list_list rfl ?_ | refine o_isI kit_list_dict rfl ?_ | refine o_isI kit_non_bool rfl ?_ | refine o_isI kit_non_tuple rfl ?_ | refine o_isI kit_non_int rfl ?_ | refine o_isI kit_non_list rfl ?_ | refine o_isI kit_non_dict rfl ?_ | refine o_isI kit_dict_bool rfl ?_ | refine o_isI kit_dict_int rfl ?_ | refine o_isI kit_dict_tuple rfl ?_ | refine o_isI kit_dict_list rfl ?_ | refine o_isI kit_dict_dict rfl ?_) | (with_reducible refine o_le ?_) | (with_reducible refine o_ge ?_) | (with_reducible refine o_mod ?_ ?_) | (with_reducible refine o_div ?_ ?_) | (with_reducible refine o_neg ?_) | (with_reducible refine o_abs ?_) | (with_reducible refine o_listT ?_) | (with_reducible refine o_listL ?_) | (with_reducible refine o_all ?_) | (with_reducible refine o_any ?_) | ((with_reducible apply o_ixT); · exact rfl) | ((with_reducible apply o_ixL); · exact rfl) | (with_reducible refine o_slS ?_) | (with_reducible refine o_slL ?_) | (with_reducible refine o_slT ?_) | (with_reducible refine o_slStr ?_ ?_) | (with_reducible refine o_nin3S ?_) | (with_reducible refine o_in3S ?_) | (with_reducible refine o_pow ?_ ?_) | (with_reducible refine o_intB ?_) | ((with_reducible refine o_isit0 ?_); first | refine o_isT kits_int rfl ?_ | refine o_isT kits_str rfl ?_ | refine o_isT kits_tuple rfl ?_ | refine o_isT kits_list rfl ?_ | refine o_isT kits_dict rfl ?_ | refine o_isT kits_non rfl ?_) | (with_reducible refine o_dict3D ?_) | (with_reducible refine o_add ?_) | (with_reducible refine o_addStr ?_ ?_) | (with_reducible refine o_addL ?_ ?_) | (with_reducible refine o_inS ?_) | (with_reducible refine o_ninS ?_) | (with_reducible refine o_inL ?_ ?_) | (with_reducible refine o_split ?_ ?_ ?_) | (with_reducible refine o_part ?_ ?_ ?_) | (with_reducible refine o_join ?_ ?_) | (with_reducible refine o_strI ?_ ?_) | (with_reducible refine o_len ?_) | (with_reducible refine o_lenL ?_) | (with_reducible refine o_lenStr ?_ ?_) | (with_reducible refine o_upper ?_ ?_) | (with_reducible refine o_isC1 ?_)) | ((with_reducible refine kAn ?_); first | (with_reducible refine br_t ?_) | (with_reducible refine br_f ?_) | (with_reducible refine br_nt ?_) | (with_reducible refine br_nf ?_) | (with_reducible refine br_d ?_) | (with_reducible refine br_e ?_) | ((with_reducible apply br_T); · exact rfl) | ((with_reducible apply br_F); · exact rfl) | ((with_reducible apply x_len); · exact Nat.le_of_ble_eq_true rfl) | ((with_reducible apply x_is); · exact rfl) | ((with_reducible apply x_call0); (· exact List.nodup_nil); · exact rfl) | ((with_reducible apply x_call0); (· exact nd1 _); · exact rfl)) | ((with_reducible refine kL ?_); first | (with_reducible refine w_cons ?_) | (with_reducible refine w_nil ?_) | (with_reducible refine w_seqX ?_) | (with_reducible refine w_rng1 ?_) | (with_reducible refine w_zip ?_) | (with_reducible refine w_rng2 ?_) | (with_reducible refine w_en ?_) | (with_reducible refine w_rvr ?_) | (with_reducible refine w_en3 ?_) | (with_reducible refine w_rvl3 ?_) | ((with_reducible apply w_iKy); · exact rfl) | ((with_reducible apply w_stP); · exact (rfl : _ = [_, _, _, _, _, _, _, _, _, _])) | ((with_reducible apply w_stS); · exact (rfl : _ = [_, _, _, _, _, _, _, _, _, _])) | ((with_reducible apply w_stA); · exact (rfl : _ = [_, _, _, _, _, _, _, _, _, _]))) | ((with_reducible refine kB ?_); first | (with_reducible refine w_tst ?_) | (with_reducible refine w_not ?_) | (with_reducible refine w_andT ?_) | (with_reducible refine w_orT ?_)) | ((with_reducible refine kA ?_); first | ((with_reducible apply w_stP); · exact (rfl : _ = [_, _, _, _, _, _, _, _, _, _])) | ((with_reducible apply w_stS); · exact (rfl : _ = [_, _, _, _, _, _, _, _, _, _])) | ((with_reducible apply w_stA); · exact (rfl : _ = [_, _, _, _, _, _, _, _, _, _])) | (with_reducible refine w_ava ?_) | (with_reducible refine w_anil ?_) | ((with_reducible apply w_asl); · exact rfl) | (with_reducible refine w_aapp ?_)) | ((with_reducible refine kEx ?_); first | ((with_reducible apply x_one); · exact rfl) | ((with_reducible apply x_two); · exact rfl) | ((with_reducible apply x_put); (· exact rfl); (· exact rfl); · exact rfl)) | (with_reducible refine w_pn ?_) | (with_reducible refine w_ps ?_) | (with_reducible refine w_mw ?_) | (with_reducible refine o_enL ?_) | (with_reducible refine o_enT ?_) | (with_reducible refine o_rvL ?_))))
namespace Lw
open L2 PySem PySem.Spec PyProof.Rows Fm
theorem in_one {α : Type} {a b : α} (h : a ∈ [b]) : a = b := List.mem_singleton.mp h
theorem in_app {α : Type} {a : α} {l m : List α} (h : a ∈ l ++ m) : a ∈ l ∨ a ∈ m := List.mem_append.mp h
abbrev sl (s : Str) : List Nat := s.cps.toList
theorem cut_none (w : Str) (k : Nat) : sl (cutS w none (some (k : Int))) = (sl w).take k := by
  have hl : w.length = (sl w).length := Array.length_toList.symm
  show (((sl w).drop (HT.sIx w.length 0 none)).take (HT.sIx w.length w.length (some (k : Int)) - HT.sIx w.length 0 none)) = _
  rw [HT.sIx_nat, HT.sIx_none, List.drop_zero, Nat.sub_zero, hl]
  by_cases h : k ≤ (sl w).length
  · rw [Nat.min_eq_left h]
  · rw [Nat.min_eq_right (by omega)]
    rw [List.take_of_length_le (Nat.le_refl _), List.take_of_length_le (by omega)]
theorem cut_some (w : Str) (k : Nat) : sl (cutS w (some (k : Int)) none) = (sl w).drop k := by
  have hl : w.length = (sl w).length := Array.length_toList.symm
  show (((sl w).drop (HT.sIx w.length 0 (some (k : Int)))).take (HT.sIx w.length w.length none - HT.sIx w.length 0 (some (k : Int)))) = _
  rw [HT.sIx_nat, HT.sIx_none, hl]
  rw [List.take_of_length_le (by rw [List.length_drop]; exact Nat.le_refl _)]
  by_cases h : k ≤ (sl w).length
  · rw [Nat.min_eq_left h]
  · rw [Nat.min_eq_right (by omega)]
    rw [List.drop_of_length_le (Nat.le_refl _), List.drop_of_length_le (by omega)]
theorem sl_len (s : Str) : s.length = (sl s).length := Array.length_toList.symm
theorem sl_app (a b : Str) : sl (a ++ b) = sl a ++ sl b := TL.tl_append a b
abbrev abc : Str := "abcdefghijklmnopqrstuvwxyz"
theorem abc_len : abc.length = 26 := by decide +kernel
theorem abc_lt : ∀ c ∈ sl abc, c < 128 := by decide +kernel
/-- a text of small letters -/
structure Nx (n : Nat) (s : Str) : Prop where
  len : s.length ≤ n
  abc : ∀ c ∈ sl s, c ∈ sl abc
theorem Nx.ok {n : Nat} {s : Str} (h : Nx n s) : PyData.strOk s = true := by
  unfold PyData.strOk
  rw [Array.all_eq_true']
  intro c hc
  have := abc_lt c (h.abc c (Array.mem_toList_iff.mpr hc))
  exact decide_eq_true (Nat.lt_trans this (by decide))
theorem nx_take {n : Nat} {s : Str} (h : Nx n s) (k : Nat) : Nx n (cutS s none (some (k : Int))) := ⟨by
  rw [sl_len, cut_none, List.length_take, ← sl_len]
  have := h.len
  omega, fun c hc => h.abc c (List.mem_of_mem_take (by rw [← cut_none]; exact hc))⟩
theorem nx_drop {n : Nat} {s : Str} (h : Nx n s) (k : Nat) : Nx n (cutS s (some (k : Int)) none) := ⟨by
  rw [sl_len, cut_some, List.length_drop, ← sl_len]
  have := h.len
  omega, fun c hc => h.abc c (List.mem_of_mem_drop (by rw [← cut_some]; exact hc))⟩
theorem nx_app {m n : Nat} {a b : Str} (ha : Nx m a) (hb : Nx n b) : Nx (m + n) (a ++ b) := ⟨by
  have := ha.len
  have := hb.len
  have e : (a ++ b).length = a.length + b.length := Str.length_append a b
  omega, fun c hc => by
  have hc : c ∈ sl (a ++ b) := hc
  rw [sl_app] at hc
  rcases in_app hc with z | z
  · exact ha.abc c z
  · exact hb.abc c z⟩
theorem joinL_mem {S : List Nat} : ∀ {ps : List (List Nat)} {c : Nat}, c ∈ TL.joinL S ps → c ∈ S ∨ ∃ p ∈ ps, c ∈ p
  | [], _, h => by cases h
  | [p], _, h => .inr ⟨p, List.mem_cons_self .., h⟩
  | p :: q :: r, c, h => by
    rcases in_app (show c ∈ p ++ (S ++ TL.joinL S (q :: r)) from h) with z | z
    · exact .inr ⟨p, List.mem_cons_self .., z⟩
    · rcases in_app z with z | z
      · exact .inl z
      · rcases joinL_mem z with y | ⟨x, y1, y2⟩
        · exact .inl y
        · exact .inr ⟨x, List.mem_cons_of_mem _ y1, y2⟩
theorem sum_le {l : List Nat} {n : Nat} (h : ∀ a ∈ l, a ≤ n) : l.sum ≤ l.length * n := by
  induction l with
  | nil => exact Nat.zero_le _
  | cons a l ih =>
    rw [List.sum_cons, List.length_cons, Nat.succ_mul]
    have := h a (List.mem_cons_self ..)
    have := ih fun b hb => h b (List.mem_cons_of_mem _ hb)
    omega
theorem joined {ps : List Str} {m : Nat} (hp : ∀ p ∈ ps, Nx 1 p) (hm : ps.length ≤ m) : Nx m (Txt.join "" ps) ∧ (ps.map (·.length)).sum + ps.length * ("" : Str).length ≤ m := by
  have z := sum_le (l := ps.map (·.length)) (n := 1) fun a ha => by
    obtain ⟨p, h1, rfl⟩ := List.mem_map.mp ha
    exact (hp p h1).len
  rw [List.length_map] at z
  have e0 : ("" : Str).length = 0 := by decide +kernel
  have e : Txt.join "" ps = Str.join "" ps := StrLaws.glued_eq_join "" ps
  refine ⟨⟨?_, fun c hc => ?_⟩, by rw [e0]; omega⟩
  · rw [e]
    cases ps with
    | nil => exact Nat.zero_le _
    | cons a l =>
      rw [len_join_cons, e0]
      omega
  · rw [e] at hc
    have hc : c ∈ TL.tl (Str.join "" ps) := hc
    rw [TL.tl_join] at hc
    rcases joinL_mem hc with z | ⟨q, z1, z2⟩
    · have z : c ∈ sl "" := z
      rw [show sl "" = [] by decide +kernel] at z
      cases z
    · obtain ⟨p, hp1, rfl⟩ := List.mem_map.mp z1
      exact (hp p hp1).abc c z2
theorem tup_at {l : List Int} {q : Int} (h : 0 ≤ q ∧ q < (l.length : Nat)) : ∃ z ∈ l, atI (l.map D.int) q = some (.int z) := by
  obtain ⟨k, rfl⟩ : ∃ k : Nat, q = k := ⟨q.toNat, by omega⟩
  have hk : k < l.length := by omega
  refine ⟨l[k], List.getElem_mem hk, ?_⟩
  rw [Fm.atI_nat, List.getElem?_map, List.getElem?_eq_getElem hk]
  rfl
theorem abc_at (i : Int) (hi : 0 ≤ i ∧ i < 26) : ∃ c, atI (sl abc) i = some c ∧ c ∈ sl abc := by
  obtain ⟨k, rfl⟩ : ∃ k : Nat, i = k := ⟨i.toNat, by omega⟩
  have e : (sl abc).length = 26 := by rw [← sl_len, abc_len]
  have hk : k < (sl abc).length := by omega
  exact ⟨(sl abc)[k], by rw [Fm.atI_nat, List.getElem?_eq_getElem hk], List.getElem_mem hk⟩
/-- one of some things -/
theorem oneL_ok {n : Nat} {d : D} {x : Bool} {α : Type} {f : α → D} {l : List α} (h : Drw n d) (h0 : 0 < l.length) (h1 : l.length ≤ 100000) (hn : n ≤ 1000000) : Fw (f__law_one [.ow d, .va (.lst x (l.map f))]) (fun r o => ∃ w, r = .va (f w) ∧ w ∈ l ∧ ∃ d', o = [.ow d', .un] ∧ Drw (n + 1) d') NoX := by
  refine fw_run rfl ?_
  walk_at "own2"
  refine fw_drw (pick_ok h (by rw [List.length_map]; omega) (szS (by rw [List.length_map]; omega)) (by omega)) fun q d' hq hd => ?_
  rw [List.length_map] at hq
  obtain ⟨k, rfl⟩ : ∃ k : Nat, q = k := ⟨q.toNat, by omega⟩
  have hk : k < l.length := by omega
  walk_at "own2"
  refine o_ix3L (show atI _ _ = some (f l[k]) by rw [Fm.atI_nat, List.getElem?_map, List.getElem?_eq_getElem hk]; rfl) ?_
  walk_at "own2"
  exact ⟨List.getElem_mem hk, d', rfl, hd⟩
theorem oneS_ok {n : Nat} {d : D} (h : Drw n d) (hn : n ≤ 1000000) : Fw (f__law_one [.ow d, .va (.str abc)]) (fun r o => ∃ w, r = .va (.str w) ∧ Nx 1 w ∧ ∃ d', o = [.ow d', .un] ∧ Drw (n + 1) d') NoX := by
  refine fw_run rfl ?_
  walk_at "own2"
  · refine fw_drw (pick_ok h (by rw [abc_len]; decide) (szS (by rw [abc_len]; decide)) (by omega)) fun q d' hq hd => ?_
    rw [abc_len] at hq
    obtain ⟨c, ec, hc⟩ := abc_at q hq
    walk_at "own2"
    refine o_ix3S ?_ ec (by rw [abc_len]; decide)
    walk_at "own2"
    exact ⟨⟨Nat.le_refl 1, fun x hx => by rw [in_one (show x ∈ [c] from hx)]; exact hc⟩, d', rfl, hd⟩
  · rw [abc_len]
    decide
/-- a name -/
structure Nm (s : Str) : Prop where
  nx : Nx 6 s
  pos : 1 ≤ s.length
theorem names_ok {n : Nat} {d : D} {many : Int} (hm : 1 ≤ many ∧ many ≤ 12) (h : Drw n d) (hn : n ≤ 100000) : Fw (f__law_names [.ow d, .va (.int many)]) (fun r o => ∃ l : List Str, r = .ow (.lst false (l.map D.str)) ∧ (l.length = many.toNat ∧ ∀ w ∈ l, Nm w) ∧ ∃ d', o = [.ow d', .un] ∧ Drw (n + 20) d') NoX := by
  refine fw_run rfl ?_
  refine w_sseq ?_
  refine w_mid (q := fun f ρ => f = .nx ∧ ρ = [.ow d, .va (.int many), .va (.str abc), .un, .un, .un, .un, .un, .un, .un]) ?_ ?_
  · walk_at "own10"
    exact ⟨rfl, rfl⟩
  rintro _ _ ⟨rfl, rfl⟩
  refine w_sseq ?_
  refine w_mid (q := fun f ρ => f = .nx ∧ ∃ w d' s8, ρ = [.ow d', .va (.int many), .va (.str abc), .va (.str w), .un, .un, .un, .un, s8, .un] ∧ Nx 5 w ∧ Drw (n + 7) d') ?_ ?_
  · walk_at "own10"
    refine fw_drw (pick_ok h (by decide) (szS (by decide)) (by omega)) fun q d1 hq k1 => ?_
    walk_at "own10"
    refine ⟨by omega, ?_⟩
    refine w_lcQ (I := fun i ρ => ∃ d' s8, ρ = [.ow d', .va (.int many), .va (.str abc), .un, .un, .un, .un, .un, s8, .un] ∧ Drw (n + 1 + i) d') (Q := Nx 1) (m := D.str) ?_ ⟨d1, _, rfl, k1⟩ (by rw [rngD_len]; omega) ?_
    · rintro i e ρ hi ⟨d2, s8, rfl, k2⟩
      obtain ⟨hi2, rfl⟩ := rng_eq hi
      refine ⟨_, rfl, ?_⟩
      walk_at "own10"
      refine fw_mono (oneS_ok k2 (by omega)) ?_
      rintro r o ⟨w, rfl, hw, d3, rfl, k3⟩
      walk_at "own10"
      exact ⟨⟨w, hw, rfl⟩, d3, _, rfl, k3⟩
    · rintro L ρ hL hQ ⟨d2, s8, rfl, k2⟩
      rw [rngD_len] at hL k2
      have j := joined (m := 5) hQ (by omega)
      walk_at "own10"
      · exact ⟨rfl, _, d2, _, rfl, j.1, k2.mono (by omega)⟩
      · have := j.2
        omega
  rintro _ _ ⟨rfl, w, d1, s8, rfl, hw, k1⟩
  have lw := hw.len
  walk_at "own10"
  · refine fw_drw (pick_ok k1 (by omega) (szS (by omega)) (by omega)) fun at_ d2 ha k2 => ?_
    walk_at "own10"
    refine fw_drw (pick_ok k2 (by decide) (szS (by decide)) (by omega)) fun first d3 hf k3 => ?_
    walk_at "own10"
    refine fw_drw (pick_ok k3 (by decide) (szS (by decide)) (by omega)) fun sp d4 hs k4 => ?_
    obtain ⟨step, hm2, es⟩ := tup_at (l := [1, 3, 5, 7, 11, 25]) hs
    have hstep : step.natAbs < 26 := by
      simp only [List.mem_cons, or_false, List.not_mem_nil] at hm2
      omega
    walk_at "own10"
    refine o_ix3T es ?_
    walk_at "own10"
    refine ⟨by omega, ?_⟩
    refine w_lcQ (I := fun i ρ => ∃ s8, ρ = [.ow d4, .va (.int many), .va (.str abc), .va (.str w), .va (.int at_), .va (.int first), .va (.int step), .un, s8, .un]) (Q := fun s => Nx 1 s ∧ s.length = 1) (m := D.str) ?_ ⟨_, rfl⟩ (by rw [rngD_len]; omega) ?_
    · rintro i e ρ hi ⟨s8, rfl⟩
      obtain ⟨hi2, rfl⟩ := rng_eq hi
      refine ⟨_, rfl, ?_⟩
      walk_at "own10"
      · obtain ⟨c, ec, hc⟩ := abc_at ((first + step * i).fmod 26) ⟨Int.fmod_nonneg_of_pos _ (by decide), Int.fmod_lt_of_pos _ (by decide)⟩
        refine o_ix3S ?_ ec (by rw [abc_len]; decide)
        walk_at "own10"
        exact ⟨⟨⟨#[c]⟩, ⟨⟨Nat.le_refl 1, fun x hx => by
          have hx : x ∈ [c] := hx
          rw [in_one hx]
          exact hc⟩, rfl⟩, rfl⟩, _, rfl⟩
      · decide
      · exact mulG_of (j := 5) (k := 5) (by unfold Sz; omega) (by unfold Sz; omega) (by decide)
    · rintro L ρ hL hQ ⟨s8, rfl⟩
      rw [rngD_len] at hL
      obtain ⟨at', rfl⟩ : ∃ k : Nat, at_ = k := ⟨at_.toNat, by omega⟩
      walk_at "own10"
      refine w_lcQ (I := fun i ρ => ∃ s9, ρ = [.ow d4, .va (.int many), .va (.str abc), .va (.str w), .va (.int at'), .va (.int first), .va (.int step), .va (.lst false (L.map D.str)), s8, s9]) (Q := Nm) (m := D.str) ?_ ⟨_, rfl⟩ (by rw [List.length_map]; omega) ?_
      · rintro i e ρ hi ⟨s9, rfl⟩
        rw [List.getElem?_map] at hi
        obtain ⟨x, hx, rfl⟩ := Option.map_eq_some_iff.mp hi
        obtain ⟨tx, lx⟩ := hQ x (List.mem_of_getElem? hx)
        have t1 := nx_take hw at'
        have t2 := nx_drop hw at'
        have e3 : (cutS w none (some (at' : Int)) ++ x ++ cutS w (some (at' : Int)) none).length = w.length + x.length := by
          rw [Str.length_append, Str.length_append, sl_len, cut_none, sl_len (cutS _ _ _), cut_some, sl_len w, List.length_take, List.length_drop]
          omega
        have tt := nx_app (nx_app t1 tx) t2
        have e4 : (cutS w none (some (at' : Int)) ++ x).length ≤ 10 := Nat.le_trans (nx_app t1 tx).len (by decide)
        have e5 := t1.len
        have e6 := t2.len
        refine ⟨_, rfl, ?_⟩
        walk_at "own10"
        · exact ⟨⟨_, ⟨⟨by rw [e3]; omega, tt.abc⟩, by rw [e3]; omega⟩, rfl⟩, _, rfl⟩
        · omega
        · omega
        · omega
        · omega
      · rintro L2 ρ hL2 hQ2 ⟨s9, rfl⟩
        rw [List.length_map] at hL2
        walk_at "own10"
        exact ⟨⟨by omega, hQ2⟩, d4, rfl, k4.mono (by omega)⟩
  · omega
end Lw

set_option maxHeartbeats 990000
open L2 PySem PySem.Spec PyProof.Rows Fm
local macro_rules | `(tactic| walk_at "own1") => `(tactic| (repeat (first | ((with_reducible refine kE ?_); first | ((with_reducible apply w_var); · exact rfl) | ((with_reducible apply w_varO); · exact rfl) | (with_reducible refine w_op ?_) | (with_reducible refine w_c ?_) | ((with_reducible apply w_sub3V); · exact rfl) | ((with_reducible apply w_sub3L); · exact rfl) | (with_reducible refine w_call ?_) | ((with_reducible apply w_mov); · exact rfl) | ((with_reducible apply w_movO); · exact rfl) | (with_reducible refine w_tup ?_) | (with_reducible refine w_cb ?_) | ((with_reducible apply w_varD); · exact rfl) | (with_reducible refine w_meth ?_) | (with_reducible refine w_fld ?_) | (with_reducible refine w_lc ?_) | (with_reducible refine w_sl ?_) | (with_reducible refine w_un ?_) | (with_reducible refine w_lst ?_) | (with_reducible refine w_dnew ?_) | (with_reducible refine w_andV ?_) | (with_reducible refine w_orV ?_) | (with_reducible refine w_notV ?_) | (with_reducible refine w_ife ?_) | ((with_reducible apply w_app); · exact rfl) | (with_reducible refine w_make ?_) | ((with_reducible apply w_subV); · exact rfl) | ((with_reducible apply w_subO); · exact rfl) | (with_reducible refine w_chain ?_) | (with_reducible refine w_chK ?_) | (with_reducible refine w_m1 ?_) | ((with_reducible apply w_mLk); · exact rfl) | ((with_reducible apply w_dpop); · exact rfl) | ((with_reducible apply w_dpop1); · exact rfl) | ((with_reducible apply w_stP); · exact (rfl : _ = [_])) | ((with_reducible apply w_stS); · exact (rfl : _ = [_])) | ((with_reducible apply w_stA); · exact (rfl : _ = [_]))) | ((with_reducible refine kD ?_); first | ((with_reducible apply w_stP); · exact (rfl : _ = [_])) | ((with_reducible apply w_stS); · exact (rfl : _ = [_])) | ((with_reducible apply w_stA); · exact (rfl : _ = [_])) | (with_reducible refine w_fz ?_) | (with_reducible refine w_fzV ?_) | (with_reducible refine w_fzL ?_) | (with_reducible refine w_fzD ?_)) | ((with_reducible refine kS ?_); first | ((with_reducible apply w_stP); · exact (rfl : _ = [_])) | ((with_reducible apply w_stS); · exact (rfl : _ = [_])) | ((with_reducible apply w_stA); · exact (rfl : _ = [_])) | (with_reducible refine w_sseq ?_) | (with_reducible refine w_set ?_) | (with_reducible refine w_if ?_) | (with_reducible refine w_ret ?_) | (with_reducible refine w_nx ?_) | (with_reducible refine w_drop ?_) | (with_reducible refine w_for ?_) | (with_reducible refine w_put3L ?_) | (with_reducible refine w_asg ?_) | (with_reducible refine w_par ?_) | (with_reducible refine w_retN ?_) | (with_reducible refine w_par3 ?_) | (with_reducible refine w_put ?_) | (with_reducible refine w_ex ?_) | (with_reducible refine w_ex1 ?_) | (with_reducible refine w_tryF ?_) | ((with_reducible apply w_sLk); · exact rfl)) | ((with_reducible refine kO ?_); first | ((with_reducible refine kEq ?_); first | (with_reducible refine o_eqI ?_) | (with_reducible refine o_eqStr ?_ ?_ ?_) | (with_reducible refine o_eqB ?_)) | ((with_reducible refine kNe ?_); first | (with_reducible refine o_neI ?_) | (with_reducible refine o_neStr ?_ ?_ ?_) | (with_reducible refine o_neB ?_)) | ((with_reducible refine kAd ?_); first | (with_reducible refine o_add3I ?_) | (with_reducible refine o_add3L ?_ ?_) | (with_reducible refine o_add3S ?_ ?_) | (with_reducible refine o_add3T ?_ ?_)) | ((with_reducible refine kLn ?_); first | (with_reducible refine o_len3L ?_) | (with_reducible refine o_len3T ?_) | (with_reducible refine o_len3D ?_) | (with_reducible refine o_len3S ?_ ?_)) | ((with_reducible refine kIs ?_); first | (with_reducible refine o_isnN ?_) | (with_reducible refine o_isnK ?_) | (with_reducible refine o_isnS2 ?_) | (with_reducible refine o_isnI ?_) | (with_reducible refine o_isnB ?_) | (with_reducible refine o_isnS ?_) | (with_reducible refine o_isnT ?_) | (with_reducible refine o_isnL ?_)) | ((with_reducible refine kNt ?_); first | (with_reducible refine o_ntnN ?_) | (with_reducible refine o_ntnI ?_) | (with_reducible refine o_ntnT ?_) | (with_reducible refine o_ntnL ?_)) | ((with_reducible apply o_ix3T); · exact rfl) | ((with_reducible apply o_ix3L); · exact rfl) | (with_reducible refine o_lt ?_) | (with_reducible refine o_gt ?_) | (with_reducible refine o_sub ?_) | (with_reducible refine o_mul ?_ ?_) | (with_reducible refine o_tupT ?_) | (with_reducible refine o_tupL ?_) | ((with_reducible refine o_isi0 ?_); first | refine o_isI kit_int_int rfl ?_ | refine o_isI kit_int_bool rfl ?_ | refine o_isI kit_int_tuple rfl ?_ | refine o_isI kit_int_list rfl ?_ | refine o_isI kit_int_dict rfl ?_ | refine o_isI kit_bool_bool rfl ?_ | refine o_isI kit_bool_int rfl ?_ | refine o_isI kit_bool_tuple rfl ?_ | refine o_isI kit_bool_list rfl ?_ | refine o_isI kit_str_bool rfl ?_ | refine o_isI kit_str_int rfl ?_ | refine o_isI kit_tuple_bool rfl ?_ | refine o_isI kit_tuple_int rfl ?_ | refine o_isI kit_tuple_tuple rfl ?_ | refine o_isI kit_tuple_list rfl ?_ | refine o_isI kit_tuple_dict rfl ?_ | refine o_isI kit_list_bool rfl ?_ | refine o_isI kit_list_int rfl ?_ | refine o_isI kit_list_tuple rfl ?_ | refine o_isI kit_list_list rfl ?_ | refine o_isI kit_list_dict rfl ?_ | refine o_isI kit_non_bool rfl ?_ | refine o_isI kit_non_tuple rfl ?_ | refine o_isI kit_non_int rfl ?_ | refine o_isI kit_non_list rfl ?_ | refine o_isI kit_non_dict rfl ?_ | refine o_isI kit_dict_bool rfl ?_ | refine o_isI kit_dict_int rfl ?_ | refine o_isI kit_dict_tuple rfl ?_ | refine o_isI kit_dict_list rfl ?_ | refine o_isI kit_dict_dict rfl ?_) | (with_reducible refine o_le ?_) | (with_reducible refine o_ge ?_) | (with_reducible refine o_mod ?_ ?_) | (with_reducible refine o_div ?_ ?_) | (with_reducible refine o_neg ?_) | (with_reducible refine o_abs ?_) | (with_reducible refine o_listT ?_) | (with_reducible refine o_listL ?_) | (with_reducible refine o_all ?_) | (with_reducible refine o_any ?_) | ((with_reducible apply o_ixT); · exact rfl) | ((with_reducible apply o_ixL); · exact rfl) | (with_reducible refine o_slS ?_) | (with_reducible refine o_slL ?_) | (with_reducible refine o_slT ?_) | (with_reducible refine o_slStr ?_ ?_) | (with_reducible refine o_nin3S ?_) | (with_reducible refine o_in3S ?_) | (with_reducible refine o_pow ?_ ?_) | (with_reducible refine o_intB ?_) | ((with_reducible refine o_isit0 ?_); first | refine o_isT kits_int rfl ?_ | refine o_isT kits_str rfl ?_ | refine o_isT kits_tuple rfl ?_ | refine o_isT kits_list rfl ?_ | refine o_isT kits_dict rfl ?_ | refine o_isT kits_non rfl ?_) | (with_reducible refine o_dict3D ?_) | (with_reducible refine o_add ?_) | (with_reducible refine o_addStr ?_ ?_) | (with_reducible refine o_addL ?_ ?_) | (with_reducible refine o_inS ?_) | (with_reducible refine o_ninS ?_) | (with_reducible refine o_inL ?_ ?_) | (with_reducible refine o_split ?_ ?_ ?_) | (with_reducible refine o_part ?_ ?_ ?_) | (with_reducible refine o_join ?_ ?_) | (with_reducible refine o_strI ?_ ?_) | (with_reducible refine o_len ?_) | (with_reducible refine o_lenL ?_) | (with_reducible refine o_lenStr ?_ ?_) | (with_reducible refine o_upper ?_ ?_) | (with_reducible refine o_isC1 ?_)) | ((with_reducible refine kAn ?_); first | (with_reducible refine br_t ?_) | (with_reducible refine br_f ?_) | (with_reducible refine br_nt ?_) | (with_reducible refine br_nf ?_) | (with_reducible refine br_d ?_) | (with_reducible refine br_e ?_) | ((with_reducible apply br_T); · exact rfl) | ((with_reducible apply br_F); · exact rfl) | ((with_reducible apply x_len); · exact Nat.le_of_ble_eq_true rfl) | ((with_reducible apply x_is); · exact rfl) | ((with_reducible apply x_call0); (· exact List.nodup_nil); · exact rfl) | ((with_reducible apply x_call0); (· exact nd1 _); · exact rfl)) | ((with_reducible refine kL ?_); first | (with_reducible refine w_cons ?_) | (with_reducible refine w_nil ?_) | (with_reducible refine w_seqX ?_) | (with_reducible refine w_rng1 ?_) | (with_reducible refine w_zip ?_) | (with_reducible refine w_rng2 ?_) | (with_reducible refine w_en ?_) | (with_reducible refine w_rvr ?_) | (with_reducible refine w_en3 ?_) | (with_reducible refine w_rvl3 ?_) | ((with_reducible apply w_iKy); · exact rfl) | ((with_reducible apply w_stP); · exact (rfl : _ = [_])) | ((with_reducible apply w_stS); · exact (rfl : _ = [_])) | ((with_reducible apply w_stA); · exact (rfl : _ = [_]))) | ((with_reducible refine kB ?_); first | (with_reducible refine w_tst ?_) | (with_reducible refine w_not ?_) | (with_reducible refine w_andT ?_) | (with_reducible refine w_orT ?_)) | ((with_reducible refine kA ?_); first | ((with_reducible apply w_stP); · exact (rfl : _ = [_])) | ((with_reducible apply w_stS); · exact (rfl : _ = [_])) | ((with_reducible apply w_stA); · exact (rfl : _ = [_])) | (with_reducible refine w_ava ?_) | (with_reducible refine w_anil ?_) | ((with_reducible apply w_asl); · exact rfl) | (with_reducible refine w_aapp ?_)) | ((with_reducible refine kEx ?_); first | ((with_reducible apply x_one); · exact rfl) | ((with_reducible apply x_two); · exact rfl) | ((with_reducible apply x_put); (· exact rfl); (· exact rfl); · exact rfl)) | (with_reducible refine w_pn ?_) | (with_reducible refine w_ps ?_) | (with_reducible refine w_mw ?_) | (with_reducible refine o_enL ?_) | (with_reducible refine o_enT ?_) | (with_reducible refine o_rvL ?_))))
local macro_rules | `(tactic| walk_at "own3") => `(tactic| (repeat (first | ((with_reducible refine kE ?_); first | ((with_reducible apply w_var); · exact rfl) | ((with_reducible apply w_varO); · exact rfl) | (with_reducible refine w_op ?_) | (with_reducible refine w_c ?_) | ((with_reducible apply w_sub3V); · exact rfl) | ((with_reducible apply w_sub3L); · exact rfl) | (with_reducible refine w_call ?_) | ((with_reducible apply w_mov); · exact rfl) | ((with_reducible apply w_movO); · exact rfl) | (with_reducible refine w_tup ?_) | (with_reducible refine w_cb ?_) | ((with_reducible apply w_varD); · exact rfl) | (with_reducible refine w_meth ?_) | (with_reducible refine w_fld ?_) | (with_reducible refine w_lc ?_) | (with_reducible refine w_sl ?_) | (with_reducible refine w_un ?_) | (with_reducible refine w_lst ?_) | (with_reducible refine w_dnew ?_) | (with_reducible refine w_andV ?_) | (with_reducible refine w_orV ?_) | (with_reducible refine w_notV ?_) | (with_reducible refine w_ife ?_) | ((with_reducible apply w_app); · exact rfl) | (with_reducible refine w_make ?_) | ((with_reducible apply w_subV); · exact rfl) | ((with_reducible apply w_subO); · exact rfl) | (with_reducible refine w_chain ?_) | (with_reducible refine w_chK ?_) | (with_reducible refine w_m1 ?_) | ((with_reducible apply w_mLk); · exact rfl) | ((with_reducible apply w_dpop); · exact rfl) | ((with_reducible apply w_dpop1); · exact rfl) | ((with_reducible apply w_stP); · exact (rfl : _ = [_, _, _])) | ((with_reducible apply w_stS); · exact (rfl : _ = [_, _, _])) | ((with_reducible apply w_stA); · exact (rfl : _ = [_, _, _]))) | ((with_reducible refine kD ?_); first | ((with_reducible apply w_stP); · exact (rfl : _ = [_, _, _])) | ((with_reducible apply w_stS); · exact (rfl : _ = [_, _, _])) | ((with_reducible apply w_stA); · exact (rfl : _ = [_, _, _])) | (with_reducible refine w_fz ?_) | (with_reducible refine w_fzV ?_) | (with_reducible refine w_fzL ?_) | (with_reducible refine w_fzD ?_)) | ((with_reducible refine kS ?_); first | ((with_reducible apply w_stP); · exact (rfl : _ = [_, _, _])) | ((with_reducible apply w_stS); · exact (rfl : _ = [_, _, _])) | ((with_reducible apply w_stA); · exact (rfl : _ = [_, _, _])) | (with_reducible refine w_sseq ?_) | (with_reducible refine w_set ?_) | (with_reducible refine w_if ?_) | (with_reducible refine w_ret ?_) | (with_reducible refine w_nx ?_) | (with_reducible refine w_drop ?_) | (with_reducible refine w_for ?_) | (with_reducible refine w_put3L ?_) | (with_reducible refine w_asg ?_) | (with_reducible refine w_par ?_) | (with_reducible refine w_retN ?_) | (with_reducible refine w_par3 ?_) | (with_reducible refine w_put ?_) | (with_reducible refine w_ex ?_) | (with_reducible refine w_ex1 ?_) | (with_reducible refine w_tryF ?_) | ((with_reducible apply w_sLk); · exact rfl)) | ((with_reducible refine kO ?_); first | ((with_reducible refine kEq ?_); first | (with_reducible refine o_eqI ?_) | (with_reducible refine o_eqStr ?_ ?_ ?_) | (with_reducible refine o_eqB ?_)) | ((with_reducible refine kNe ?_); first | (with_reducible refine o_neI ?_) | (with_reducible refine o_neStr ?_ ?_ ?_) | (with_reducible refine o_neB ?_)) | ((with_reducible refine kAd ?_); first | (with_reducible refine o_add3I ?_) | (with_reducible refine o_add3L ?_ ?_) | (with_reducible refine o_add3S ?_ ?_) | (with_reducible refine o_add3T ?_ ?_)) | ((with_reducible refine kLn ?_); first | (with_reducible refine o_len3L ?_) | (with_reducible refine o_len3T ?_) | (with_reducible refine o_len3D ?_) | (with_reducible refine o_len3S ?_ ?_)) | ((with_reducible refine kIs ?_); first | (with_reducible refine o_isnN ?_) | (with_reducible refine o_isnK ?_) | (with_reducible refine o_isnS2 ?_) | (with_reducible refine o_isnI ?_) | (with_reducible refine o_isnB ?_) | (with_reducible refine o_isnS ?_) | (with_reducible refine o_isnT ?_) | (with_reducible refine o_isnL ?_)) | ((with_reducible refine kNt ?_); first | (with_reducible refine o_ntnN ?_) | (with_reducible refine o_ntnI ?_) | (with_reducible refine o_ntnT ?_) | (with_reducible refine o_ntnL ?_)) | ((with_reducible apply o_ix3T); · exact rfl) | ((with_reducible apply o_ix3L); · exact rfl) | (with_reducible refine o_lt ?_) | (with_reducible refine o_gt ?_) | (with_reducible refine o_sub ?_) | (with_reducible refine o_mul ?_ ?_) | (with_reducible refine o_tupT ?_) | (with_reducible refine o_tupL ?_) | ((with_reducible refine o_isi0 ?_); first | refine o_isI kit_int_int rfl ?_ | refine o_isI kit_int_bool rfl ?_ | refine o_isI kit_int_tuple rfl ?_ | refine o_isI kit_int_list rfl ?_ | refine o_isI kit_int_dict rfl ?_ | refine o_isI kit_bool_bool rfl ?_ | refine o_isI kit_bool_int rfl ?_ | refine o_isI kit_bool_tuple rfl ?_ | refine o_isI kit_bool_list rfl ?_ | refine o_isI kit_str_bool rfl ?_ | refine o_isI kit_str_int rfl ?_ | refine o_isI kit_tuple_bool rfl ?_ | refine o_isI kit_tuple_int rfl ?_ | refine o_isI kit_tuple_tuple rfl ?_ | refine o_isI kit_tuple_list rfl ?_ | refine o_isI kit_tuple_dict rfl ?_ | refine o_isI kit_list_bool rfl ?_ | refine o_isI kit_list_int rfl ?_ | refine o_isI kit_list_tuple rfl ?_ | refine o_isI kit_list_list rfl ?_ | refine o_isI kit_list_dict rfl ?_ | refine o_isI kit_non_bool rfl ?_ | refine o_isI kit_non_tuple rfl ?_ | refine o_isI kit_non_int rfl ?_ | refine o_isI kit_non_list rfl ?_ | refine o_isI kit_non_dict rfl ?_ | refine o_isI kit_dict_bool rfl ?_ | refine o_isI kit_dict_int rfl ?_ | refine o_isI kit_dict_tuple rfl ?_ | refine o_isI kit_dict_list rfl ?_ | refine o_isI kit_dict_dict rfl ?_) | (with_reducible refine o_le ?_) | (with_reducible refine o_ge ?_) | (with_reducible refine o_mod ?_ ?_) | (with_reducible refine o_div ?_ ?_) | (with_reducible refine o_neg ?_) | (with_reducible refine o_abs ?_) | (with_reducible refine o_listT ?_) | (with_reducible refine o_listL ?_) | (with_reducible refine o_all ?_) | (with_reducible refine o_any ?_) | ((with_reducible apply o_ixT); · exact rfl) | ((with_reducible apply o_ixL); · exact rfl) | (with_reducible refine o_slS ?_) | (with_reducible refine o_slL ?_) | (with_reducible refine o_slT ?_) | (with_reducible refine o_slStr ?_ ?_) | (with_reducible refine o_nin3S ?_) | (with_reducible refine o_in3S ?_) | (with_reducible refine o_pow ?_ ?_) | (with_reducible refine o_intB ?_) | ((with_reducible refine o_isit0 ?_); first | refine o_isT kits_int rfl ?_ | refine o_isT kits_str rfl ?_ | refine o_isT kits_tuple rfl ?_ | refine o_isT kits_list rfl ?_ | refine o_isT kits_dict rfl ?_ | refine o_isT kits_non rfl ?_) | (with_reducible refine o_dict3D ?_) | (with_reducible refine o_add ?_) | (with_reducible refine o_addStr ?_ ?_) | (with_reducible refine o_addL ?_ ?_) | (with_reducible refine o_inS ?_) | (with_reducible refine o_ninS ?_) | (with_reducible refine o_inL ?_ ?_) | (with_reducible refine o_split ?_ ?_ ?_) | (with_reducible refine o_part ?_ ?_ ?_) | (with_reducible refine o_join ?_ ?_) | (with_reducible refine o_strI ?_ ?_) | (with_reducible refine o_len ?_) | (with_reducible refine o_lenL ?_) | (with_reducible refine o_lenStr ?_ ?_) | (with_reducible refine o_upper ?_ ?_) | (with_reducible refine o_isC1 ?_)) | ((with_reducible refine kAn ?_); first | (with_reducible refine br_t ?_) | (with_reducible refine br_f ?_) | (with_reducible refine br_nt ?_) | (with_reducible refine br_nf ?_) | (with_reducible refine br_d ?_) | (with_reducible refine br_e ?_) | ((with_reducible apply br_T); · exact rfl) | ((with_reducible apply br_F); · exact rfl) | ((with_reducible apply x_len); · exact Nat.le_of_ble_eq_true rfl) | ((with_reducible apply x_is); · exact rfl) | ((with_reducible apply x_call0); (· exact List.nodup_nil); · exact rfl) | ((with_reducible apply x_call0); (· exact nd1 _); · exact rfl)) | ((with_reducible refine kL ?_); first | (with_reducible refine w_cons ?_) | (with_reducible refine w_nil ?_) | (with_reducible refine w_seqX ?_) | (with_reducible refine w_rng1 ?_) | (with_reducible refine w_zip ?_) | (with_reducible refine w_rng2 ?_) | (with_reducible refine w_en ?_) | (with_reducible refine w_rvr ?_) | (with_reducible refine w_en3 ?_) | (with_reducible refine w_rvl3 ?_) | ((with_reducible apply w_iKy); · exact rfl) | ((with_reducible apply w_stP); · exact (rfl : _ = [_, _, _])) | ((with_reducible apply w_stS); · exact (rfl : _ = [_, _, _])) | ((with_reducible apply w_stA); · exact (rfl : _ = [_, _, _]))) | ((with_reducible refine kB ?_); first | (with_reducible refine w_tst ?_) | (with_reducible refine w_not ?_) | (with_reducible refine w_andT ?_) | (with_reducible refine w_orT ?_)) | ((with_reducible refine kA ?_); first | ((with_reducible apply w_stP); · exact (rfl : _ = [_, _, _])) | ((with_reducible apply w_stS); · exact (rfl : _ = [_, _, _])) | ((with_reducible apply w_stA); · exact (rfl : _ = [_, _, _])) | (with_reducible refine w_ava ?_) | (with_reducible refine w_anil ?_) | ((with_reducible apply w_asl); · exact rfl) | (with_reducible refine w_aapp ?_)) | ((with_reducible refine kEx ?_); first | ((with_reducible apply x_one); · exact rfl) | ((with_reducible apply x_two); · exact rfl) | ((with_reducible apply x_put); (· exact rfl); (· exact rfl); · exact rfl)) | (with_reducible refine w_pn ?_) | (with_reducible refine w_ps ?_) | (with_reducible refine w_mw ?_) | (with_reducible refine o_enL ?_) | (with_reducible refine o_enT ?_) | (with_reducible refine o_rvL ?_))))
local macro_rules | `(tactic| walk_at "own4") => `(tactic| (repeat (first | ((with_reducible refine kE ?_); first | ((with_reducible apply w_var); · exact rfl) | ((with_reducible apply w_varO); · exact rfl) | (with_reducible refine w_op ?_) | (with_reducible refine w_c ?_) | ((with_reducible apply w_sub3V); · exact rfl) | ((with_reducible apply w_sub3L); · exact rfl) | (with_reducible refine w_call ?_) | ((with_reducible apply w_mov); · exact rfl) | ((with_reducible apply w_movO); · exact rfl) | (with_reducible refine w_tup ?_) | (with_reducible refine w_cb ?_) | ((with_reducible apply w_varD); · exact rfl) | (with_reducible refine w_meth ?_) | (with_reducible refine w_fld ?_) | (with_reducible refine w_lc ?_) | (with_reducible refine w_sl ?_) | (with_reducible refine w_un ?_) | (with_reducible refine w_lst ?_) | (with_reducible refine w_dnew ?_) | (with_reducible refine w_andV ?_) | (with_reducible refine w_orV ?_) | (with_reducible refine w_notV ?_) | (with_reducible refine w_ife ?_) | ((with_reducible apply w_app); · exact rfl) | (with_reducible refine w_make ?_) | ((with_reducible apply w_subV); · exact rfl) | ((with_reducible apply w_subO); · exact rfl) | (with_reducible refine w_chain ?_) | (with_reducible refine w_chK ?_) | (with_reducible refine w_m1 ?_) | ((with_reducible apply w_mLk); · exact rfl) | ((with_reducible apply w_dpop); · exact rfl) | ((with_reducible apply w_dpop1); · exact rfl) | ((with_reducible apply w_stP); · exact (rfl : _ = [_, _, _, _])) | ((with_reducible apply w_stS); · exact (rfl : _ = [_, _, _, _])) | ((with_reducible apply w_stA); · exact (rfl : _ = [_, _, _, _]))) | ((with_reducible refine kD ?_); first | ((with_reducible apply w_stP); · exact (rfl : _ = [_, _, _, _])) | ((with_reducible apply w_stS); · exact (rfl : _ = [_, _, _, _])) | ((with_reducible apply w_stA); · exact (rfl : _ = [_, _, _, _])) | (with_reducible refine w_fz ?_) | (with_reducible refine w_fzV ?_) | (with_reducible refine w_fzL ?_) | (with_reducible refine w_fzD ?_)) | ((with_reducible refine kS ?_); first | ((with_reducible apply w_stP); · exact (rfl : _ = [_, _, _, _])) | ((with_reducible apply w_stS); · exact (rfl : _ = [_, _, _, _])) | ((with_reducible apply w_stA); · exact (rfl : _ = [_, _, _, _])) | (with_reducible refine w_sseq ?_) | (with_reducible refine w_set ?_) | (with_reducible refine w_if ?_) | (with_reducible refine w_ret ?_) | (with_reducible refine w_nx ?_) | (with_reducible refine w_drop ?_) | (with_reducible refine w_for ?_) | (with_reducible refine w_put3L ?_) | (with_reducible refine w_asg ?_) | (with_reducible refine w_par ?_) | (with_reducible refine w_retN ?_) | (with_reducible refine w_par3 ?_) | (with_reducible refine w_put ?_) | (with_reducible refine w_ex ?_) | (with_reducible refine w_ex1 ?_) | (with_reducible refine w_tryF ?_) | ((with_reducible apply w_sLk); · exact rfl)) | ((with_reducible refine kO ?_); first | ((with_reducible refine kEq ?_); first | (with_reducible refine o_eqI ?_) | (with_reducible refine o_eqStr ?_ ?_ ?_) | (with_reducible refine o_eqB ?_)) | ((with_reducible refine kNe ?_); first | (with_reducible refine o_neI ?_) | (with_reducible refine o_neStr ?_ ?_ ?_) | (with_reducible refine o_neB ?_)) | ((with_reducible refine kAd ?_); first | (with_reducible refine o_add3I ?_) | (with_reducible refine o_add3L ?_ ?_) | (with_reducible refine o_add3S ?_ ?_) | (with_reducible refine o_add3T ?_ ?_)) | ((with_reducible refine kLn ?_); first | (with_reducible refine o_len3L ?_) | (with_reducible refine o_len3T ?_) | (with_reducible refine o_len3D ?_) | (with_reducible refine o_len3S ?_ ?_)) | ((with_reducible refine kIs ?_); first | (with_reducible refine o_isnN ?_) | (with_reducible refine o_isnK ?_) | (with_reducible refine o_isnS2 ?_) | (with_reducible refine o_isnI ?_) | (with_reducible refine o_isnB ?_) | (with_reducible refine o_isnS ?_) | (with_reducible refine o_isnT ?_) | (with_reducible refine o_isnL ?_)) | ((with_reducible refine kNt ?_); first | (with_reducible refine o_ntnN ?_) | (with_reducible refine o_ntnI ?_) | (with_reducible refine o_ntnT ?_) | (with_reducible refine o_ntnL ?_)) | ((with_reducible apply o_ix3T); · exact rfl) | ((with_reducible apply o_ix3L); · exact rfl) | (with_reducible refine o_lt ?_) | (with_reducible refine o_gt ?_) | (with_reducible refine o_sub ?_) | (with_reducible refine o_mul ?_ ?_) | (with_reducible refine o_tupT ?_) | (with_reducible refine o_tupL ?_) | ((with_reducible refine o_isi0 ?_); first | refine o_isI kit_int_int rfl ?_ | refine o_isI kit_int_bool rfl ?_ | refine o_isI kit_int_tuple rfl ?_ | refine o_isI kit_int_list rfl ?_ | refine o_isI kit_int_dict rfl ?_ | refine o_isI kit_bool_bool rfl ?_ | refine o_isI kit_bool_int rfl ?_ | refine o_isI kit_bool_tuple rfl ?_ | refine o_isI kit_bool_list rfl ?_ | refine o_isI kit_str_bool rfl ?_ | refine o_isI kit_str_int rfl ?_ | refine o_isI kit_tuple_bool rfl ?_ | refine o_isI kit_tuple_int rfl ?_ | refine o_isI kit_tuple_tuple rfl ?_ | refine o_isI kit_tuple_list rfl ?_ | refine o_isI kit_tuple_dict rfl ?_ | refine o_isI kit_list_bool rfl ?_ | refine o_isI kit_list_int rfl ?_ | refine o_isI kit_list_tuple rfl ?_ | refine o_isI kit_list_list rfl ?_ | refine o_isI kit_list_dict rfl ?_ | refine o_isI kit_non_bool rfl ?_ | refine o_isI kit_non_tuple rfl ?_ | refine o_isI kit_non_int rfl ?_ | refine o_isI kit_non_list rfl ?_ | refine o_isI kit_non_dict rfl ?_ | refine o_isI kit_dict_bool rfl ?_ | refine o_isI kit_dict_int rfl ?_ | refine o_isI kit_dict_tuple rfl ?_ | refine o_isI kit_dict_list rfl ?_ | refine o_isI kit_dict_dict rfl ?_) | (with_reducible refine o_le ?_) | (with_reducible refine o_ge ?_) | (with_reducible refine o_mod ?_ ?_) | (with_reducible refine o_div ?_ ?_) | (with_reducible refine o_neg ?_) | (with_reducible refine o_abs ?_) | (with_reducible refine o_listT ?_) | (with_reducible refine o_listL ?_) | (with_reducible refine o_all ?_) | (with_reducible refine o_any ?_) | ((with_reducible apply o_ixT); · exact rfl) | ((with_reducible apply o_ixL); · exact rfl) | (with_reducible refine o_slS ?_) | (with_reducible refine o_slL ?_) | (with_reducible refine o_slT ?_) | (with_reducible refine o_slStr ?_ ?_) | (with_reducible refine o_nin3S ?_) | (with_reducible refine o_in3S ?_) | (with_reducible refine o_pow ?_ ?_) | (with_reducible refine o_intB ?_) | ((with_reducible refine o_isit0 ?_); first | refine o_isT kits_int rfl ?_ | refine o_isT kits_str rfl ?_ | refine o_isT kits_tuple rfl ?_ | refine o_isT kits_list rfl ?_ | refine o_isT kits_dict rfl ?_ | refine o_isT kits_non rfl ?_) | (with_reducible refine o_dict3D ?_) | (with_reducible refine o_add ?_) | (with_reducible refine o_addStr ?_ ?_) | (with_reducible refine o_addL ?_ ?_) | (with_reducible refine o_inS ?_) | (with_reducible refine o_ninS ?_) | (with_reducible refine o_inL ?_ ?_) | (with_reducible refine o_split ?_ ?_ ?_) | (with_reducible refine o_part ?_ ?_ ?_) | (with_reducible refine o_join ?_ ?_) | (with_reducible refine o_strI ?_ ?_) | (with_reducible refine o_len ?_) | (with_reducible refine o_lenL ?_) | (with_reducible refine o_lenStr ?_ ?_) | (with_reducible refine o_upper ?_ ?_) | (with_reducible refine o_isC1 ?_)) | ((with_reducible refine kAn ?_); first | (with_reducible refine br_t ?_) | (with_reducible refine br_f ?_) | (with_reducible refine br_nt ?_) | (with_reducible refine br_nf ?_) | (with_reducible refine br_d ?_) | (with_reducible refine br_e ?_) | ((with_reducible apply br_T); · exact rfl) | ((with_reducible apply br_F); · exact rfl) | ((with_reducible apply x_len); · exact Nat.le_of_ble_eq_true rfl) | ((with_reducible apply x_is); · exact rfl) | ((with_reducible apply x_call0); (· exact List.nodup_nil); · exact rfl) | ((with_reducible apply x_call0); (· exact nd1 _); · exact rfl)) | ((with_reducible refine kL ?_); first | (with_reducible refine w_cons ?_) | (with_reducible refine w_nil ?_) | (with_reducible refine w_seqX ?_) | (with_reducible refine w_rng1 ?_) | (with_reducible refine w_zip ?_) | (with_reducible refine w_rng2 ?_) | (with_reducible refine w_en ?_) | (with_reducible refine w_rvr ?_) | (with_reducible refine w_en3 ?_) | (with_reducible refine w_rvl3 ?_) | ((with_reducible apply w_iKy); · exact rfl) | ((with_reducible apply w_stP); · exact (rfl : _ = [_, _, _, _])) | ((with_reducible apply w_stS); · exact (rfl : _ = [_, _, _, _])) | ((with_reducible apply w_stA); · exact (rfl : _ = [_, _, _, _]))) | ((with_reducible refine kB ?_); first | (with_reducible refine w_tst ?_) | (with_reducible refine w_not ?_) | (with_reducible refine w_andT ?_) | (with_reducible refine w_orT ?_)) | ((with_reducible refine kA ?_); first | ((with_reducible apply w_stP); · exact (rfl : _ = [_, _, _, _])) | ((with_reducible apply w_stS); · exact (rfl : _ = [_, _, _, _])) | ((with_reducible apply w_stA); · exact (rfl : _ = [_, _, _, _])) | (with_reducible refine w_ava ?_) | (with_reducible refine w_anil ?_) | ((with_reducible apply w_asl); · exact rfl) | (with_reducible refine w_aapp ?_)) | ((with_reducible refine kEx ?_); first | ((with_reducible apply x_one); · exact rfl) | ((with_reducible apply x_two); · exact rfl) | ((with_reducible apply x_put); (· exact rfl); (· exact rfl); · exact rfl)) | (with_reducible refine w_pn ?_) | (with_reducible refine w_ps ?_) | (with_reducible refine w_mw ?_) | (with_reducible refine o_enL ?_) | (with_reducible refine o_enT ?_) | (with_reducible refine o_rvL ?_))))
namespace Lw
open L2 PySem PySem.Spec PyProof.Rows Fm
def Bd (k : Nat) (s : Vec) : Prop := ∀ a ∈ s, a.natAbs ≤ k
theorem numbers_ok {n : Nat} {d : D} {w : Nat} {lim : Int} (hw : w ≤ 3) (hl : 0 ≤ lim ∧ lim ≤ 1000000000) (h : Drw n d) (hn : n ≤ 100000) : Fw (f__law_numbers [.ow d, .va (.int w), .va (.int lim)]) (fun r o => ∃ s : Vec, r = .va (dV s) ∧ (s.length = w ∧ Bd lim.toNat s) ∧ ∃ d', o = [.ow d', .un, .un] ∧ Drw (n + 3) d') NoX := by
  refine fw_run rfl ?_
  walk_at "own4"
  refine ⟨by omega, ?_⟩
  refine w_lcQ (I := fun i ρ => ∃ d' s3, ρ = [.ow d', .va (.int w), .va (.int lim), s3] ∧ Drw (n + i) d') (Q := fun a : Int => a.natAbs ≤ lim.toNat) (m := D.int) ?_ ⟨d, _, rfl, h⟩ (by rw [rngD_len]; omega) ?_
  · rintro i e ρ hi ⟨d2, s3, rfl, k2⟩
    refine ⟨_, rfl, ?_⟩
    walk_at "own4"
    · refine fw_drw (pick_ok k2 (by omega) (Sz.mono (j := 40) (show (2 * lim + 1).natAbs < 2 ^ 40 by omega) (by decide)) (by
        obtain ⟨this, _⟩ := List.getElem?_eq_some_iff.mp hi
        rw [rngD_len] at this
        omega)) fun q d3 hq k3 => ?_
      walk_at "own4"
      exact ⟨⟨_, by omega, rfl⟩, d3, _, rfl, k3⟩
    · exact mulG_of (j := 5) (k := 40) (by unfold Sz; decide) (by unfold Sz; omega) (by decide)
  · rintro L ρ hL hQ ⟨d2, s3, rfl, k2⟩
    rw [rngD_len] at hL k2
    walk_at "own4"
    exact ⟨⟨by omega, hQ⟩, d2, rfl, k2.mono (by omega)⟩
theorem lturned_ok {s : Vec} (hs : s.length ≤ 1000) : Fw (f__law_turned [.va (dV s)]) (fun r o => r = .va (dV (neg s)) ∧ o = [.un]) NoX := by
  refine fw_run rfl ?_
  walk_at "own2"
  refine w_lcG (L := neg s) (m := D.int) (by rw [neg_len, List.length_map]) (fun i d c hd hc => ?_) (by rw [List.length_map]; omega) ?_
  · rw [List.getElem?_map] at hd
    obtain ⟨a, ha, rfl⟩ := Option.map_eq_some_iff.mp hd
    unfold neg at hc
    rw [List.getElem?_map, ha] at hc
    cases hc
    refine ⟨_, rfl, ?_⟩
    walk_at "own2"
    exact ⟨rfl, rfl⟩
  · walk_at "own2"
    exact ⟨rfl, rfl⟩
/-- a tie of good names, its shift of the right count -/
structure TOk (w : Nat) (N : List Str) (t : Tie) : Prop where
  u : t.1 ∈ N
  v : t.2.1 ∈ N
  len : t.2.2.length = w
  bd : Bd 1000000 t.2.2
  ne : ¬ (t.1 = t.2.1 ∧ ∀ a ∈ t.2.2, a = 0)
theorem neg_zero {s : Vec} (h : ∀ a ∈ neg s, a = 0) : ∀ a ∈ s, a = 0 := fun a ha => by
  have := h (0 - a) (List.mem_map.mpr ⟨a, ha, rfl⟩)
  omega
theorem neg_bd {k : Nat} {s : Vec} (h : Bd k s) : Bd k (neg s) := fun a ha => by
  obtain ⟨b, hb, rfl⟩ := List.mem_map.mp ha
  have := h b hb
  omega
theorem TOk.about {w : Nat} {N : List Str} {t : Tie} (h : TOk w N t) : TOk w N (about t) := ⟨h.v, h.u, (neg_len _).trans h.len, neg_bd h.bd, fun z => h.ne ⟨z.1.symm, neg_zero z.2⟩⟩
theorem TOk.les {w : Nat} {N : List Str} {t : Tie} (h : TOk w N t) : TOk w N (les t) := by
  rcases les_or t with e | e
  · rw [e]
    exact h
  · rw [e]
    exact h.about
abbrev NmL (N : List Str) : Prop := ∀ s ∈ N, Nm s
theorem Nm.ok {s : Str} (h : Nm s) : PyData.strOk s = true := h.nx.ok
theorem llesser_ok {t : Tie} (h1 : PyData.strOk t.1 = true) (h2 : PyData.strOk t.2.1 = true) (hs : t.2.2.length ≤ 1000) : Fw (f__law_lesser [.va (dT t)]) (fun r o => r = .va (dT (les t)) ∧ o = [.un]) NoX := by
  obtain ⟨u, v, s⟩ := t
  refine fw_run rfl ?_
  walk_at "own1"
  refine fw_mono (lturned_ok hs) ?_
  rintro r o ⟨rfl, rfl⟩
  walk_at "own1"
  refine o_min2 ?_ (minB_T (t := (u, v, s)) h1 h2)
  rw [show min2D (D.tup [.str u, .str v, dV s]) (D.tup [.str v, .str u, dV (neg s)]) = dT (les (u, v, s)) from min_les (u, v, s)]
  exact ⟨rfl, rfl⟩
/-- the ties of a mesh -/
structure TsOk (w : Nat) (N : List Str) (ts : List Tie) : Prop where
  tie : ∀ t ∈ ts, TOk w N t ∧ les t = t
  nd : ts.Nodup
  srt : srtF dT ts = ts
theorem pl_Ts {w : Nat} {N : List Str} {ts : List Tie} {b : Bool} (hN : NmL N) (h : ∀ t ∈ ts, TOk w N t) : D.pl 60 (.lst b (ts.map dT)) = true := pl_lst fun d hd => by
  obtain ⟨t, ht, rfl⟩ := List.mem_map.mp hd
  exact pl_T (hN _ (h t ht).u).ok (hN _ (h t ht).v).ok
theorem all_zero (s : Vec) : ((s.map fun a => decide (a = 0)).all id = true) ↔ ∀ a ∈ s, a = 0 := by
  rw [List.all_map, List.all_eq_true]
  constructor
  · intro h a ha
    exact of_decide_eq_true (h a ha)
  · intro h a ha
    exact decide_eq_true (h a ha)
theorem map_int_at {γ : Type} {s : Vec} {i : Nat} {d : D} {f : Int → γ} {c : γ} (hd : (s.map D.int)[i]? = some d) (hc : (s.map f)[i]? = some c) : ∃ a, d = .int a ∧ c = f a := by
  rw [List.getElem?_map] at hd hc
  obtain ⟨a, ha, rfl⟩ := Option.map_eq_some_iff.mp hd
  rw [ha] at hc
  cases hc
  exact ⟨a, rfl, rfl⟩
theorem lput_ok {w : Nat} {N : List Str} {ts : List Tie} {t : Tie} {b : Bool} (hN : NmL N) (h : TsOk w N ts) (hw : w ≤ 3) (hu : t.1 ∈ N) (hv : t.2.1 ∈ N) (hl : t.2.2.length = w) (hb : Bd 1000000 t.2.2) (hn : ts.length ≤ 1000) : Fw (f__law_put [.va (.lst b (ts.map dT)), .va (dT t)]) (fun r o => ∃ ts', (r = .va (.lst b (ts'.map dT)) ∨ r = .ow (.lst false (ts'.map dT))) ∧ (TsOk w N ts' ∧ ts'.length ≤ ts.length + 1) ∧ o = [.un, .un]) NoX := by
  obtain ⟨u, v, s⟩ := t
  have ou := (hN _ hu).ok
  have ov := (hN _ hv).ok
  have stay : TsOk w N ts ∧ ts.length ≤ ts.length + 1 := ⟨h, by omega⟩
  have key : (¬ (u = v ∧ ∀ a ∈ s, a = 0)) → les (u, v, s) ∉ ts → TsOk w N (srtF dT (ts ++ [les (u, v, s)])) ∧ (srtF dT (ts ++ [les (u, v, s)])).length ≤ ts.length + 1 := fun h1 h2 => by
    have k : TOk w N (u, v, s) := ⟨hu, hv, hl, hb, h1⟩
    have pm := srtF_perm dT (ts ++ [les (u, v, s)])
    refine ⟨⟨fun t ht => ?_, pm.nodup_iff.mpr ?_, srtF_srtF dT peq_T alike_T _⟩, by rw [pm.length_eq, List.length_append]; exact Nat.le_refl _⟩
    · rcases in_app (pm.mem_iff.mp ht) with z | z
      · exact h.tie t z
      · rw [in_one z]
        exact ⟨k.les, les_les _⟩
    · rw [List.nodup_append]
      exact ⟨h.nd, List.nodup_cons.mpr ⟨(fun z => by cases z), List.nodup_nil⟩, fun a ha b hb e => h2 (by rw [in_one hb] at e; rw [← e]; exact ha)⟩
  have hall : ∀ {ρ : List SD} {p : D → List SD → Prop}, True := fun {_ _} => trivial
  refine fw_run rfl ?_
  refine w_sseq ?_
  refine w_mid (q := fun f ρ => (f = .rt (.va (.lst b (ts.map dT))) ∧ ρ = [.va (.lst b (ts.map dT)), .va (dT (u, v, s)), .un]) ∨ (f = .nx ∧ ρ = [.va (.lst b (ts.map dT)), .va (dT (u, v, s)), .un] ∧ (¬ (u = v ∧ ∀ a ∈ s, a = 0)) ∧ les (u, v, s) ∉ ts)) ?_ ?_
  · have second : (¬ (u = v ∧ ∀ a ∈ s, a = 0)) → Wp (mTst (mOp in3D (mCall f__law_lesser [] (aVa (mVar 1) (aNil))) (mVar 0))) [.va (.lst b (ts.map dT)), .va (dT (u, v, s)), .un] (fun k ρ' => (k = true → Wp (sRet (mMov 0)) ρ' (fun f ρ => (f = .rt (.va (.lst b (ts.map dT))) ∧ ρ = [.va (.lst b (ts.map dT)), .va (dT (u, v, s)), .un]) ∨ (f = .nx ∧ ρ = [.va (.lst b (ts.map dT)), .va (dT (u, v, s)), .un] ∧ (¬ (u = v ∧ ∀ a ∈ s, a = 0)) ∧ les (u, v, s) ∉ ts)) NoX) ∧ (k = false → Wp sNx ρ' (fun f ρ => (f = .rt (.va (.lst b (ts.map dT))) ∧ ρ = [.va (.lst b (ts.map dT)), .va (dT (u, v, s)), .un]) ∨ (f = .nx ∧ ρ = [.va (.lst b (ts.map dT)), .va (dT (u, v, s)), .un] ∧ (¬ (u = v ∧ ∀ a ∈ s, a = 0)) ∧ les (u, v, s) ∉ ts)) NoX)) NoX := fun nz => by
      walk_at "own3"
      refine fw_mono (llesser_ok (t := (u, v, s)) ou ov (by show s.length ≤ 1000; have : s.length = w := hl; omega)) ?_
      rintro r o ⟨rfl, rfl⟩
      walk_at "own3"
      refine o_in3L ?_ ?_
      · obtain ⟨bb, eb, hb⟩ := any_map dT peq_T (les (u, v, s)) ts
        rw [eb]
        walk_at "own3"
        refine ⟨fun _ => ?_, fun z => ?_⟩
        · walk_at "own3"
          exact .inl ⟨rfl, rfl⟩
        · walk_at "own3"
          exact .inr ⟨rfl, rfl, nz, fun y => by rw [hb.mpr y] at z; cases z⟩
      · have kl : TOk w N (les (u, v, s)) := (TOk.mk hu hv hl hb nz).les
        rw [pl_T (hN _ kl.u).ok (hN _ kl.v).ok, pl_Ts hN fun t ht => (h.tie t ht).1]
        rfl
    walk_at "own3"
    · refine ⟨fun z => ?_, fun z => ?_⟩
      · walk_at "own3"
        refine w_lcG (L := s.map fun a => decide (a = 0)) (m := D.bl) (by rw [List.length_map, List.length_map]) (fun i d c hd hc => ?_) (by rw [List.length_map]; have : s.length = w := hl; omega) ?_
        · obtain ⟨a, rfl, rfl⟩ := map_int_at hd hc
          refine ⟨_, rfl, ?_⟩
          walk_at "own3"
          exact ⟨rfl, rfl⟩
        · walk_at "own3"
          refine ⟨fun y => ?_, fun y => ?_⟩
          · walk_at "own3"
            exact .inl ⟨rfl, rfl⟩
          · exact second fun q => by
              rw [(all_zero s).mpr q.2] at y
              cases y
      · refine ⟨(fun y => by cases y), fun _ => ?_⟩
        exact second fun q => of_decide_eq_false z q.1
    · exact ou
    · exact ov
  · rintro f ρ (⟨rfl, rfl⟩ | ⟨rfl, rfl, nz, ni⟩)
    · exact ⟨ts, .inl rfl, stay, rfl⟩
    · unfold dT
      walk_at "own3"
      refine fw_mono (llesser_ok (t := (u, v, s)) ou ov (by show s.length ≤ 1000; have : s.length = w := hl; omega)) ?_
      rintro r o ⟨rfl, rfl⟩
      walk_at "own3"
      · refine o_sort3L ?_ ?_
        · rw [show ts.map dT ++ [dT (les (u, v, s))] = (ts ++ [les (u, v, s)]).map dT by rw [List.map_append]; rfl, srtD_map]
          exact ⟨_, .inr rfl, key nz ni, rfl⟩
        · rw [show ts.map dT ++ [dT (les (u, v, s))] = (ts ++ [les (u, v, s)]).map dT by rw [List.map_append]; rfl]
          refine sortB_T fun t ht => ?_
          have k : TOk w N t := by
            rcases in_app ht with z | z
            · exact (h.tie t z).1
            · rw [in_one z]
              exact (TOk.mk hu hv hl hb nz).les
          exact ⟨(hN _ k.u).ok, (hN _ k.v).ok⟩
      · rw [List.length_map, List.length_singleton]
        omega
end Lw

set_option maxHeartbeats 990000
open L2 PySem PySem.Spec PyProof.Rows Fm
local macro_rules | `(tactic| walk_at "own9") => `(tactic| (repeat (first | ((with_reducible refine kE ?_); first | ((with_reducible apply w_var); · exact rfl) | ((with_reducible apply w_varO); · exact rfl) | (with_reducible refine w_op ?_) | (with_reducible refine w_c ?_) | ((with_reducible apply w_sub3V); · exact rfl) | ((with_reducible apply w_sub3L); · exact rfl) | (with_reducible refine w_call ?_) | ((with_reducible apply w_mov); · exact rfl) | ((with_reducible apply w_movO); · exact rfl) | (with_reducible refine w_tup ?_) | (with_reducible refine w_cb ?_) | ((with_reducible apply w_varD); · exact rfl) | (with_reducible refine w_meth ?_) | (with_reducible refine w_fld ?_) | (with_reducible refine w_lc ?_) | (with_reducible refine w_sl ?_) | (with_reducible refine w_un ?_) | (with_reducible refine w_lst ?_) | (with_reducible refine w_dnew ?_) | (with_reducible refine w_andV ?_) | (with_reducible refine w_orV ?_) | (with_reducible refine w_notV ?_) | (with_reducible refine w_ife ?_) | ((with_reducible apply w_app); · exact rfl) | (with_reducible refine w_make ?_) | ((with_reducible apply w_subV); · exact rfl) | ((with_reducible apply w_subO); · exact rfl) | (with_reducible refine w_chain ?_) | (with_reducible refine w_chK ?_) | (with_reducible refine w_m1 ?_) | ((with_reducible apply w_mLk); · exact rfl) | ((with_reducible apply w_dpop); · exact rfl) | ((with_reducible apply w_dpop1); · exact rfl) | ((with_reducible apply w_stP); · exact (rfl : _ = [_, _, _, _, _, _, _, _, _])) | ((with_reducible apply w_stS); · exact (rfl : _ = [_, _, _, _, _, _, _, _, _])) | ((with_reducible apply w_stA); · exact (rfl : _ = [_, _, _, _, _, _, _, _, _]))) | ((with_reducible refine kD ?_); first | ((with_reducible apply w_stP); · exact (rfl : _ = [_, _, _, _, _, _, _, _, _])) | ((with_reducible apply w_stS); · exact (rfl : _ = [_, _, _, _, _, _, _, _, _])) | ((with_reducible apply w_stA); · exact (rfl : _ = [_, _, _, _, _, _, _, _, _])) | (with_reducible refine w_fz ?_) | (with_reducible refine w_fzV ?_) | (with_reducible refine w_fzL ?_) | (with_reducible refine w_fzD ?_)) | ((with_reducible refine kS ?_); first | ((with_reducible apply w_stP); · exact (rfl : _ = [_, _, _, _, _, _, _, _, _])) | ((with_reducible apply w_stS); · exact (rfl : _ = [_, _, _, _, _, _, _, _, _])) | ((with_reducible apply w_stA); · exact (rfl : _ = [_, _, _, _, _, _, _, _, _])) | (with_reducible refine w_sseq ?_) | (with_reducible refine w_set ?_) | (with_reducible refine w_if ?_) | (with_reducible refine w_ret ?_) | (with_reducible refine w_nx ?_) | (with_reducible refine w_drop ?_) | (with_reducible refine w_for ?_) | (with_reducible refine w_put3L ?_) | (with_reducible refine w_asg ?_) | (with_reducible refine w_par ?_) | (with_reducible refine w_retN ?_) | (with_reducible refine w_par3 ?_) | (with_reducible refine w_put ?_) | (with_reducible refine w_ex ?_) | (with_reducible refine w_ex1 ?_) | (with_reducible refine w_tryF ?_) | ((with_reducible apply w_sLk); · exact rfl)) | ((with_reducible refine kO ?_); first | ((with_reducible refine kEq ?_); first | (with_reducible refine o_eqI ?_) | (with_reducible refine o_eqStr ?_ ?_ ?_) | (with_reducible refine o_eqB ?_)) | ((with_reducible refine kNe ?_); first | (with_reducible refine o_neI ?_) | (with_reducible refine o_neStr ?_ ?_ ?_) | (with_reducible refine o_neB ?_)) | ((with_reducible refine kAd ?_); first | (with_reducible refine o_add3I ?_) | (with_reducible refine o_add3L ?_ ?_) | (with_reducible refine o_add3S ?_ ?_) | (with_reducible refine o_add3T ?_ ?_)) | ((with_reducible refine kLn ?_); first | (with_reducible refine o_len3L ?_) | (with_reducible refine o_len3T ?_) | (with_reducible refine o_len3D ?_) | (with_reducible refine o_len3S ?_ ?_)) | ((with_reducible refine kIs ?_); first | (with_reducible refine o_isnN ?_) | (with_reducible refine o_isnK ?_) | (with_reducible refine o_isnS2 ?_) | (with_reducible refine o_isnI ?_) | (with_reducible refine o_isnB ?_) | (with_reducible refine o_isnS ?_) | (with_reducible refine o_isnT ?_) | (with_reducible refine o_isnL ?_)) | ((with_reducible refine kNt ?_); first | (with_reducible refine o_ntnN ?_) | (with_reducible refine o_ntnI ?_) | (with_reducible refine o_ntnT ?_) | (with_reducible refine o_ntnL ?_)) | ((with_reducible apply o_ix3T); · exact rfl) | ((with_reducible apply o_ix3L); · exact rfl) | (with_reducible refine o_lt ?_) | (with_reducible refine o_gt ?_) | (with_reducible refine o_sub ?_) | (with_reducible refine o_mul ?_ ?_) | (with_reducible refine o_tupT ?_) | (with_reducible refine o_tupL ?_) | ((with_reducible refine o_isi0 ?_); first | refine o_isI kit_int_int rfl ?_ | refine o_isI kit_int_bool rfl ?_ | refine o_isI kit_int_tuple rfl ?_ | refine o_isI kit_int_list rfl ?_ | refine o_isI kit_int_dict rfl ?_ | refine o_isI kit_bool_bool rfl ?_ | refine o_isI kit_bool_int rfl ?_ | refine o_isI kit_bool_tuple rfl ?_ | refine o_isI kit_bool_list rfl ?_ | refine o_isI kit_str_bool rfl ?_ | refine o_isI kit_str_int rfl ?_ | refine o_isI kit_tuple_bool rfl ?_ | refine o_isI kit_tuple_int rfl ?_ | refine o_isI kit_tuple_tuple rfl ?_ | refine o_isI kit_tuple_list rfl ?_ | refine o_isI kit_tuple_dict rfl ?_ | refine o_isI kit_list_bool rfl ?_ | refine o_isI kit_list_int rfl ?_ | refine o_isI kit_list_tuple rfl ?_ | refine o_isI kit_list_list rfl ?_ | refine o_isI kit_list_dict rfl ?_ | refine o_isI kit_non_bool rfl ?_ | refine o_isI kit_non_tuple rfl ?_ | refine o_isI kit_non_int rfl ?_ | refine o_isI kit_non_list rfl ?_ | refine o_isI kit_non_dict rfl ?_ | refine o_isI kit_dict_bool rfl ?_ | refine o_isI kit_dict_int rfl ?_ | refine o_isI kit_dict_tuple rfl ?_ | refine o_isI kit_dict_list rfl ?_ | refine o_isI kit_dict_dict rfl ?_) | (with_reducible refine o_le ?_) | (with_reducible refine o_ge ?_) | (with_reducible refine o_mod ?_ ?_) | (with_reducible refine o_div ?_ ?_) | (with_reducible refine o_neg ?_) | (with_reducible refine o_abs ?_) | (with_reducible refine o_listT ?_) | (with_reducible refine o_listL ?_) | (with_reducible refine o_all ?_) | (with_reducible refine o_any ?_) | ((with_reducible apply o_ixT); · exact rfl) | ((with_reducible apply o_ixL); · exact rfl) | (with_reducible refine o_slS ?_) | (with_reducible refine o_slL ?_) | (with_reducible refine o_slT ?_) | (with_reducible refine o_slStr ?_ ?_) | (with_reducible refine o_nin3S ?_) | (with_reducible refine o_in3S ?_) | (with_reducible refine o_pow ?_ ?_) | (with_reducible refine o_intB ?_) | ((with_reducible refine o_isit0 ?_); first | refine o_isT kits_int rfl ?_ | refine o_isT kits_str rfl ?_ | refine o_isT kits_tuple rfl ?_ | refine o_isT kits_list rfl ?_ | refine o_isT kits_dict rfl ?_ | refine o_isT kits_non rfl ?_) | (with_reducible refine o_dict3D ?_) | (with_reducible refine o_add ?_) | (with_reducible refine o_addStr ?_ ?_) | (with_reducible refine o_addL ?_ ?_) | (with_reducible refine o_inS ?_) | (with_reducible refine o_ninS ?_) | (with_reducible refine o_inL ?_ ?_) | (with_reducible refine o_split ?_ ?_ ?_) | (with_reducible refine o_part ?_ ?_ ?_) | (with_reducible refine o_join ?_ ?_) | (with_reducible refine o_strI ?_ ?_) | (with_reducible refine o_len ?_) | (with_reducible refine o_lenL ?_) | (with_reducible refine o_lenStr ?_ ?_) | (with_reducible refine o_upper ?_ ?_) | (with_reducible refine o_isC1 ?_)) | ((with_reducible refine kAn ?_); first | (with_reducible refine br_t ?_) | (with_reducible refine br_f ?_) | (with_reducible refine br_nt ?_) | (with_reducible refine br_nf ?_) | (with_reducible refine br_d ?_) | (with_reducible refine br_e ?_) | ((with_reducible apply br_T); · exact rfl) | ((with_reducible apply br_F); · exact rfl) | ((with_reducible apply x_len); · exact Nat.le_of_ble_eq_true rfl) | ((with_reducible apply x_is); · exact rfl) | ((with_reducible apply x_call0); (· exact List.nodup_nil); · exact rfl) | ((with_reducible apply x_call0); (· exact nd1 _); · exact rfl)) | ((with_reducible refine kL ?_); first | (with_reducible refine w_cons ?_) | (with_reducible refine w_nil ?_) | (with_reducible refine w_seqX ?_) | (with_reducible refine w_rng1 ?_) | (with_reducible refine w_zip ?_) | (with_reducible refine w_rng2 ?_) | (with_reducible refine w_en ?_) | (with_reducible refine w_rvr ?_) | (with_reducible refine w_en3 ?_) | (with_reducible refine w_rvl3 ?_) | ((with_reducible apply w_iKy); · exact rfl) | ((with_reducible apply w_stP); · exact (rfl : _ = [_, _, _, _, _, _, _, _, _])) | ((with_reducible apply w_stS); · exact (rfl : _ = [_, _, _, _, _, _, _, _, _])) | ((with_reducible apply w_stA); · exact (rfl : _ = [_, _, _, _, _, _, _, _, _]))) | ((with_reducible refine kB ?_); first | (with_reducible refine w_tst ?_) | (with_reducible refine w_not ?_) | (with_reducible refine w_andT ?_) | (with_reducible refine w_orT ?_)) | ((with_reducible refine kA ?_); first | ((with_reducible apply w_stP); · exact (rfl : _ = [_, _, _, _, _, _, _, _, _])) | ((with_reducible apply w_stS); · exact (rfl : _ = [_, _, _, _, _, _, _, _, _])) | ((with_reducible apply w_stA); · exact (rfl : _ = [_, _, _, _, _, _, _, _, _])) | (with_reducible refine w_ava ?_) | (with_reducible refine w_anil ?_) | ((with_reducible apply w_asl); · exact rfl) | (with_reducible refine w_aapp ?_)) | ((with_reducible refine kEx ?_); first | ((with_reducible apply x_one); · exact rfl) | ((with_reducible apply x_two); · exact rfl) | ((with_reducible apply x_put); (· exact rfl); (· exact rfl); · exact rfl)) | (with_reducible refine w_pn ?_) | (with_reducible refine w_ps ?_) | (with_reducible refine w_mw ?_) | (with_reducible refine o_enL ?_) | (with_reducible refine o_enT ?_) | (with_reducible refine o_rvL ?_))))
namespace Lw
open L2 PySem PySem.Spec PyProof.Rows Fm
/-- the dyes of some knots -/
structure KOk (N : List Str) (m : List (Key × D)) : Prop where
  mem : ∀ p ∈ m, ∃ s y, p = ((.inr s : Key), D.int y) ∧ s ∈ N ∧ 0 ≤ y ∧ y ≤ 9
  nd : (m.map Prod.fst).Nodup
theorem KOk.nil {N : List Str} : KOk N [] := ⟨fun p h => by (cases h), List.nodup_nil⟩
theorem nd_put {m : List (Key × D)} {k : Key} {d : D} (h : (m.map Prod.fst).Nodup) : ((putKD m k d).map Prod.fst).Nodup := by
  unfold putKD
  split
  · rw [List.map_map, show (Prod.fst ∘ fun kv : Key × D => if kv.1 = k then (kv.1, d) else kv) = Prod.fst from funext fun kv => by
      show (if kv.1 = k then (kv.1, d) else kv).1 = kv.1
      split <;> rfl]
    exact h
  · rename_i g
    (rw [List.map_append, List.nodup_append])
    refine ⟨h, List.nodup_cons.mpr ⟨(fun z => by cases z), List.nodup_nil⟩, fun a ha b hb e => ?_⟩
    have hb : b = k := in_one hb
    obtain ⟨q, hq, rfl⟩ := List.mem_map.mp ha
    exact g (List.any_eq_true.mpr ⟨q, hq, decide_eq_true (e.trans hb)⟩)
theorem KOk.put {N : List Str} {m : List (Key × D)} {s : Str} {y : Int} (h : KOk N m) (hs : s ∈ N) (h0 : 0 ≤ y) (h1 : y ≤ 9) : KOk N (putKD m (.inr s) (.int y)) := ⟨fun p hp => by
  rcases putKD_mem hp with z | z
  · exact h.mem p z
  · exact ⟨s, y, z, hs, h0, h1⟩, nd_put h.nd⟩
theorem KOk.get {N : List Str} {m : List (Key × D)} {s : Str} (h : KOk N m) (hs : (getK m (.inr s)).isSome = true) : ∃ y, getK m (.inr s) = some (.int y) ∧ s ∈ N ∧ 0 ≤ y ∧ y ≤ 9 := by
  obtain ⟨d, e⟩ := Option.isSome_iff_exists.mp hs
  obtain ⟨s', y, h1, h2, h3, h4⟩ := h.mem _ (getK_mem e)
  cases h1
  exact ⟨y, e, h2, h3, h4⟩
theorem KOk.keys {N : List Str} {m : List (Key × D)} (h : KOk N m) : ∃ ks, strsK m = some ks ∧ ks.length = m.length ∧ (∀ s ∈ ks, s ∈ N ∧ (getK m (.inr s)).isSome = true) ∧ ∀ s, (getK m (.inr s)).isSome = true → s ∈ ks := by
  obtain ⟨ks, h1, h2, h3⟩ := strsK_of (l := m) fun p hp => by
    obtain ⟨s, y, e, _⟩ := h.mem p hp
    exact ⟨s, by rw [e]⟩
  refine ⟨ks, h1, h2, fun s hs => ?_, fun s hs => ?_⟩
  · obtain ⟨d, hd⟩ := (h3 s).mp hs
    obtain ⟨s', y, e, h4, _⟩ := h.mem _ hd
    cases e
    exact ⟨h4, mem_getK hd⟩
  · obtain ⟨d, e⟩ := Option.isSome_iff_exists.mp hs
    exact (h3 s).mpr ⟨d, getK_mem e⟩
theorem get_isSome_put {m : List (Key × D)} {k k' : Key} {d : D} (h : (getK m k').isSome = true ∨ k' = k) : (getK (putKD m k d) k').isSome = true := by
  rw [getK_put]
  by_cases z : k' = k
  · rw [if_pos z]
    rfl
  · rw [if_neg z]
    exact h.resolve_right z
theorem take_succ_mem {α : Type} {l : List α} {i : Nat} {x y : α} (hx : l[i]? = some x) (h : y ∈ l.take (i + 1)) : y ∈ l.take i ∨ y = x := by
  rw [List.take_add_one, hx] at h
  rcases in_app h with z | z
  · exact .inl z
  · exact .inr (in_one z)
theorem TsOk.nil {w : Nat} {N : List Str} : TsOk w N [] := ⟨fun t ht => by (cases ht), List.nodup_nil, by unfold srtF; exact List.mergeSort_nil⟩
/-- a mesh as the law holds it -/
abbrev dM (w : Nat) (m : List (Key × D)) (b : Bool) (ts : List Tie) : D := .tup [.int w, .dk false m, .lst b (ts.map dT)]
structure MOk (w : Nat) (N : List Str) (m : List (Key × D)) (ts : List Tie) : Prop where
  wl : w ≤ 3
  nm : NmL N
  pos : 0 < N.length
  few : N.length ≤ 12
  knots : KOk N m
  klen : m.length ≤ 12
  has : ∀ s ∈ N, (getK m (.inr s)).isSome = true
  ties : TsOk w N ts
  tlen : ts.length ≤ 24
theorem str_at {N : List Str} {i : Nat} {d : D} (h : (N.map D.str)[i]? = some d) : ∃ s, N[i]? = some s ∧ d = .str s := by
  rw [List.getElem?_map] at h
  obtain ⟨s, e, rfl⟩ := Option.map_eq_some_iff.mp h
  exact ⟨s, e, rfl⟩
theorem loose_okF {lim : Nat} (hlim : lim ≤ 24) {n : Nat} {d : D} {w : Nat} {N : List Str} {x : Bool} (hw : w ≤ 3) (hN : NmL N) (h0 : 0 < N.length) (h3 : N.length ≤ 12) (h : Drw n d) (hn : n ≤ 90000) : Fw (f__law_loose [.ow d, .va (.int w), .va (.lst x (N.map D.str)), .va (.int lim)]) (fun r o => ∃ m ts, r = .va (dM w m false ts) ∧ (MOk w N m ts ∧ ts.length ≤ lim) ∧ ∃ d', o = [.ow d', .un, .un, .un] ∧ Drw (n + 200) d') NoX := by
  refine fw_run rfl ?_
  refine w_sseq ?_
  refine w_mid (q := fun f ρ => f = .nx ∧ ρ = [.ow d, .va (.int w), .va (.lst x (N.map D.str)), .va (.int lim), .ow (.dk false []), .un, .un, .un, .un]) ?_ ?_
  · walk_at "own9"
    exact ⟨rfl, rfl⟩
  rintro _ _ ⟨rfl, rfl⟩
  refine w_sseq ?_
  refine w_mid (q := fun f ρ => f = .nx ∧ ∃ d' m s5, ρ = [.ow d', .va (.int w), .va (.lst x (N.map D.str)), .va (.int lim), .ow (.dk false m), s5, .un, .un, .un] ∧ (KOk N m ∧ m.length ≤ 12 ∧ ∀ s ∈ N, (getK m (.inr s)).isSome = true) ∧ Drw (n + 24) d') ?_ ?_
  · refine w_for ?_
    walk_at "own9"
    refine w_forL (I := fun i ρ => ∃ d' m s5, ρ = [.ow d', .va (.int w), .va (.lst x (N.map D.str)), .va (.int lim), .ow (.dk false m), s5, .un, .un, .un] ∧ (KOk N m ∧ m.length ≤ i ∧ ∀ s ∈ N.take i, (getK m (.inr s)).isSome = true) ∧ Drw (n + 2 * i) d') ?_ ⟨d, [], _, rfl, ⟨KOk.nil, Nat.le_refl _, fun s hs => by cases hs⟩, h⟩ ?_
    · rintro i e ρ hi ⟨d1, m, s5, rfl, ⟨k1, k2, k3⟩, k4⟩
      obtain ⟨s, hs, rfl⟩ := str_at hi
      have hi3 : i < N.length := (List.getElem?_eq_some_iff.mp hs).1
      refine ⟨_, rfl, ?_⟩
      refine w_put3D ?_
      walk_at "own9"
      refine fw_drw (pick_ok k4 (by decide) (szS (by decide)) (by omega)) fun y d2 hy k5 => ?_
      walk_at "own9"
      refine fw_drw (pick_ok k5 (by decide) (szS (by decide)) (by omega)) fun q d3 hq k6 => ?_
      obtain ⟨z, hm, ez⟩ := tup_at (l := [0, 0, y]) hq
      have hz : 0 ≤ z ∧ z ≤ 9 := by
        simp only [List.mem_cons, or_false, List.not_mem_nil] at hm
        omega
      walk_at "own9"
      refine o_ix3T ez ?_
      walk_at "own9"
      refine ⟨_, _, _, rfl, rfl, by omega, ?_⟩
      have pl := putKD_len m (.inr s) (.int z)
      refine ⟨d3, putKD m (.inr s) (.int z), _, rfl, ⟨k1.put (List.mem_of_getElem? hs) hz.1 hz.2, by omega, fun t ht => ?_⟩, k6.mono (by omega)⟩
      refine get_isSome_put ?_
      rcases take_succ_mem hs ht with g | g
      · exact .inl (k3 t g)
      · exact .inr (by rw [g])
    · rintro ρ ⟨d1, m, s5, rfl, ⟨k1, k2, k3⟩, k4⟩
      rw [List.length_map] at k2 k3 k4
      rw [List.take_of_length_le (Nat.le_refl _)] at k3
      exact ⟨rfl, d1, m, s5, rfl, ⟨k1, by omega, k3⟩, k4.mono (by omega)⟩
  rintro _ _ ⟨rfl, d1, m, s5, rfl, ⟨k1, k2, k3⟩, k4⟩
  refine w_sseq ?_
  refine w_mid (q := fun f ρ => f = .nx ∧ ρ = [.ow d1, .va (.int w), .va (.lst x (N.map D.str)), .va (.int lim), .ow (.dk false m), s5, .ow (.lst false []), .un, .un]) ?_ ?_
  · walk_at "own9"
    exact ⟨rfl, rfl⟩
  rintro _ _ ⟨rfl, rfl⟩
  refine w_sseq ?_
  refine w_mid (q := fun f ρ => f = .nx ∧ ∃ d' ts s6 s7 s8, ρ = [.ow d', .va (.int w), .va (.lst x (N.map D.str)), .va (.int lim), .ow (.dk false m), s5, s6, s7, s8] ∧ (s6 = .va (.lst false (ts.map dT)) ∨ s6 = .ow (.lst false (ts.map dT))) ∧ (TsOk w N ts ∧ ts.length ≤ lim) ∧ Drw (n + 200) d') ?_ ?_
  · walk_at "own9"
    refine fw_drw (pick_ok k4 (by omega) (szS (by omega)) (by omega)) fun c d2 hc k5 => ?_
    walk_at "own9"
    refine ⟨by omega, ?_⟩
    refine w_forL (I := fun i ρ => ∃ d' ts s6 s7 s8, ρ = [.ow d', .va (.int w), .va (.lst x (N.map D.str)), .va (.int lim), .ow (.dk false m), s5, s6, s7, s8] ∧ (s6 = .va (.lst false (ts.map dT)) ∨ s6 = .ow (.lst false (ts.map dT))) ∧ (TsOk w N ts ∧ ts.length ≤ i) ∧ Drw (n + 25 + 6 * i) d') ?_ ⟨d2, [], _, _, _, rfl, .inr rfl, ⟨TsOk.nil, Nat.le_refl _⟩, k5.mono (by omega)⟩ ?_
    · rintro i e ρ hi ⟨d3, ts, s6, s7, s8, rfl, hs6, ⟨g1, g2⟩, g3⟩
      obtain ⟨hi2, rfl⟩ := rng_eq hi
      refine ⟨_, rfl, ?_⟩
      rcases hs6 with rfl | rfl
      all_goals
        walk_at "own9"
        · refine fw_drw (pick_ok g3 (by decide) (szS (by decide)) (by omega)) fun q d4 hq k6 => ?_
          obtain ⟨z, hm, ez⟩ := tup_at (l := [1, 2, 2, 9, 10 ^ Int.toNat 6]) hq
          have hz : 0 ≤ z ∧ z ≤ 1000000 := by
            simp only [List.mem_cons, or_false, List.not_mem_nil] at hm
            rcases hm with rfl | rfl | rfl | rfl | rfl <;> decide
          walk_at "own9"
          refine o_ix3T ez ?_
          walk_at "own9"
          refine fw_mono (oneL_ok k6 h0 (by omega) (by omega)) ?_
          rintro r o ⟨u, rfl, hu, d5, rfl, k7⟩
          walk_at "own9"
          refine fw_mono (oneL_ok k7 h0 (by omega) (by omega)) ?_
          rintro r o ⟨v, rfl, hv, d6, rfl, k8⟩
          walk_at "own9"
          refine fw_mono (numbers_ok hw ⟨hz.1, by omega⟩ k8 (by omega)) ?_
          rintro r o ⟨s, rfl, ⟨hl, hb⟩, d7, rfl, k9⟩
          walk_at "own9"
          refine fw_mono (lput_ok (t := (u, v, s)) hN g1 hw hu hv hl (fun a ha => by have := hb a ha; omega) (by omega)) ?_
          rintro r o ⟨ts', hr, ⟨t1, t2⟩, rfl⟩
          rcases hr with rfl | rfl
          · walk_at "own9"
            exact ⟨d7, ts', _, _, _, rfl, .inl rfl, ⟨t1, by omega⟩, k9.mono (by omega)⟩
          · walk_at "own9"
            exact ⟨d7, ts', _, _, _, rfl, .inr rfl, ⟨t1, by omega⟩, k9.mono (by omega)⟩
        · exact ⟨by decide, by decide, by omega⟩
    · rintro ρ ⟨d3, ts, s6, s7, s8, rfl, hs6, ⟨g1, g2⟩, g3⟩
      rw [rngD_len] at g2 g3
      exact ⟨rfl, d3, ts, s6, s7, s8, rfl, hs6, ⟨g1, by omega⟩, g3.mono (by omega)⟩
  rintro _ _ ⟨rfl, d3, ts, s6, s7, s8, rfl, hs6, ⟨g1, g2⟩, g3⟩
  rcases hs6 with rfl | rfl
  · walk_at "own9"
    exact ⟨⟨⟨hw, hN, h0, h3, k1, k2, k3, g1, by omega⟩, g2⟩, d3, rfl, g3⟩
  · walk_at "own9"
    exact ⟨⟨⟨hw, hN, h0, h3, k1, k2, k3, g1, by omega⟩, g2⟩, d3, rfl, g3⟩
end Lw

set_option maxHeartbeats 990000
open L2 PySem PySem.Spec PyProof.Rows Fm
namespace Lw
open L2 PySem PySem.Spec PyProof.Rows Fm
/-! ### the program's defs -/
theorem turned_ok {s : Vec} (hs : s.length ≤ 1000) : Fw (f_turned [.va (dV s)]) (fun r o => r = .va (dV (neg s)) ∧ o = [.un]) NoX := by
  refine fw_run rfl ?_
  walk_at "own2"
  refine w_lcG (L := neg s) (m := D.int) (by rw [neg_len, List.length_map]) (fun i d c hd hc => ?_) (by rw [List.length_map]; omega) ?_
  · obtain ⟨a, rfl, rfl⟩ := map_int_at hd hc
    refine ⟨_, rfl, ?_⟩
    walk_at "own2"
    exact ⟨rfl, rfl⟩
  · walk_at "own2"
    exact ⟨rfl, rfl⟩
def plus (a b : Vec) : Vec := List.zipWith (· + ·) a b
theorem zipP_ints : ∀ (a b : Vec), zipP (a.map D.int) (b.map D.int) = (a.zip b).map fun p => D.tup [.int p.1, .int p.2]
  | [], _ => rfl
  | _ :: _, [] => rfl
  | x :: a, y :: b => by
    show D.tup [.int x, .int y] :: zipP (a.map D.int) (b.map D.int) = _
    rw [zipP_ints a b]
    rfl
theorem plus_len {a b : Vec} (h : a.length = b.length) : (plus a b).length = a.length := by
  unfold plus
  rw [List.length_zipWith]
  omega
theorem added_ok {a b : Vec} (h : a.length = b.length) (hs : a.length ≤ 1000) : Fw (f_added [.va (dV a), .va (dV b)]) (fun r o => r = .va (dV (plus a b)) ∧ o = [.un, .un]) NoX := by
  refine fw_run rfl ?_
  walk_at "own4"
  refine ⟨_, _, _, _, _, _, rfl, rfl, rfl, by rw [List.length_map, List.length_map]; exact h, ?_⟩
  rw [zipP_ints]
  refine w_lcG (L := plus a b) (m := D.int) (by rw [List.length_map, List.length_zip, plus_len h]; omega) (fun i d c hd hc => ?_) (by rw [List.length_map, List.length_zip]; omega) ?_
  · rw [List.getElem?_map] at hd
    obtain ⟨p, hp, rfl⟩ := Option.map_eq_some_iff.mp hd
    have e : (plus a b)[i]? = some (p.1 + p.2) := by
      unfold plus
      rw [← List.map_uncurry_zip_eq_zipWith, List.getElem?_map, hp]
      rfl
    rw [e] at hc
    cases hc
    refine ⟨_, rfl, ?_⟩
    walk_at "own4"
    exact ⟨rfl, rfl⟩
  · walk_at "own4"
    exact ⟨rfl, rfl⟩
theorem lesser_ok {t : Tie} (h1 : PyData.strOk t.1 = true) (h2 : PyData.strOk t.2.1 = true) (hs : t.2.2.length ≤ 1000) : Fw (f_lesser [.va (dT t)]) (fun r o => r = .va (dT (les t)) ∧ o = [.un]) NoX := by
  obtain ⟨u, v, s⟩ := t
  refine fw_run rfl ?_
  walk_at "own4"
  refine fw_mono (turned_ok hs) ?_
  rintro r o ⟨rfl, rfl⟩
  walk_at "own4"
  refine o_min2 ?_ (minB_T (t := (u, v, s)) h1 h2)
  rw [show min2D (D.tup [.str u, .str v, dV s]) (D.tup [.str v, .str u, dV (neg s)]) = dT (les (u, v, s)) from min_les (u, v, s)]
  exact ⟨rfl, rfl⟩
theorem sg_at {l : List Nat} {i : Nat} {d : D} (h : (l.map fun c => D.str ⟨#[c]⟩)[i]? = some d) : ∃ c, l[i]? = some c ∧ d = .str ⟨#[c]⟩ := by
  rw [List.getElem?_map] at h
  obtain ⟨c, e, rfl⟩ := Option.map_eq_some_iff.mp h
  exact ⟨c, e, rfl⟩
theorem is_name_ok {s : Str} (h : Nm s) : Fw (f_is_name [.va (.str s)]) (fun r o => r = .va (.bl true) ∧ o = [.un]) NoX := by
  have h1 := h.nx.len
  have h2 := h.pos
  refine fw_run rfl ?_
  walk_at "own2"
  · refine ⟨fun _ => ?_, fun z => ?_⟩
    · walk_at "own2"
      refine ⟨fun _ => ?_, fun z => ?_⟩
      · walk_at "own2"
        refine w_lcG (L := List.replicate (sl s).length true) (m := D.bl) (by rw [List.length_replicate, List.length_map]) (fun i d c hd hc => ?_) (by rw [List.length_map, ← sl_len]; omega) ?_
        · obtain ⟨x, hx, rfl⟩ := sg_at hd
          have hc2 := List.eq_of_mem_replicate (List.mem_of_getElem? hc)
          subst hc2
          refine ⟨_, rfl, ?_⟩
          walk_at "own2"
          refine ⟨?_, rfl⟩
          rw [decide_eq_true (h.nx.abc x (List.mem_of_getElem? hx))]
        · walk_at "own2"
          rw [all_true]
          exact ⟨rfl, rfl⟩
      · have z := of_decide_eq_false z
        omega
    · have z := of_decide_eq_false z
      omega
  · omega
theorem need_name_ok {s : Str} (h : Nm s) : Fw (f_need_name [.va (.str s)]) (fun r o => r = .va .non ∧ o = [.un]) NoX := by
  refine fw_run rfl ?_
  walk_at "own1"
  refine fw_mono (is_name_ok h) ?_
  rintro r o ⟨rfl, rfl⟩
  walk_at "own1"
  exact ⟨rfl, rfl⟩
theorem need_dye_ok {y : Int} (h0 : 0 ≤ y) (h9 : y ≤ 9) : Fw (f_need_dye [.va (.int y)]) (fun r o => r = .va .non ∧ o = [.un]) NoX := by
  refine fw_run rfl ?_
  walk_at "own1"
  refine ⟨fun _ => ?_, fun z => ?_⟩
  · walk_at "own1"
    rw [decide_eq_true h9]
    walk_at "own1"
    exact ⟨rfl, rfl⟩
  · have z := of_decide_eq_false z
    omega
section
variable {b b1 b2 : Bool} {l : List (Str × D)} {m : List (Key × D)} {w : Nat} {N : List Str} {bs : List Tie}
theorem need_ok {s : Str} (hd : l.lookup ("dyes" : Str) = some (.dk b1 m)) (hs : (getK m (.inr s)).isSome = true) : Fw (f_Pattern_need [.va (.ins b "Pattern" l), .va (.str s)]) (fun r o => r = .va .non) NoX := by
  refine fw_run rfl ?_
  walk_at "own2"
  refine ⟨_, _, _, rfl, hd, ?_⟩
  walk_at "own2"
  refine o_nin3D rfl ?_
  rw [hs]
  walk_at "own2"
  exact rfl
theorem need_shift_ok {s : Vec} (hw : l.lookup ("ways" : Str) = some (.int w)) (hs : s.length = w) : Fw (f_Pattern_need_shift [.va (.ins b "Pattern" l), .va (dV s)]) (fun r o => r = .va .non) NoX := by
  refine fw_run rfl ?_
  walk_at "own2"
  refine ⟨_, _, _, rfl, hw, ?_⟩
  walk_at "own2"
  rw [show (((s.map D.int).length : Nat) : Int) = (w : Int) by rw [List.length_map, hs]]
  walk_at "own2"
  exact rfl
theorem fitting_ok {t : Tie} (hw : l.lookup ("ways" : Str) = some (.int w)) (hd : l.lookup ("dyes" : Str) = some (.dk b1 m)) (hb : l.lookup ("bonds" : Str) = some (.lst b2 (bs.map dT))) (n1 : l.lookup ("need" : Str) = none) (n2 : l.lookup ("need_shift" : Str) = none) (hN : NmL N) (ht : TOk w N t) (w3 : w ≤ 3)
    (hs : ∀ s ∈ N, (getK m (.inr s)).isSome = true) (hbs : ∀ t ∈ bs, TOk w N t) (hn : les t ∉ bs) : Fw (f_Pattern_fitting [.va (.ins b "Pattern" l), .va (dT t)]) (fun r o => r = .va (dT (les t))) NoX := by
  obtain ⟨u, v, s⟩ := t
  have ou := (hN _ ht.u).ok
  have ov := (hN _ ht.v).ok
  have hl : s.length = w := ht.len
  have hl' : s.length ≤ 1000 := by omega
  refine fw_run rfl ?_
  refine w_sseq ?_
  refine w_mid (q := fun f ρ => f = .nx ∧ ρ = [.va (.ins b "Pattern" l), .va (dT (u, v, s)), .un]) ?_ ?_
  · walk_at "own3"
    refine ⟨n1, ?_⟩
    walk_at "own3"
    refine fw_mono (need_ok hd (hs _ ht.u)) ?_
    rintro r o rfl
    exact ⟨rfl, rfl⟩
  rintro _ _ ⟨rfl, rfl⟩
  refine w_sseq ?_
  refine w_mid (q := fun f ρ => f = .nx ∧ ρ = [.va (.ins b "Pattern" l), .va (dT (u, v, s)), .un]) ?_ ?_
  · walk_at "own3"
    refine ⟨n1, ?_⟩
    walk_at "own3"
    refine fw_mono (need_ok hd (hs _ ht.v)) ?_
    rintro r o rfl
    exact ⟨rfl, rfl⟩
  rintro _ _ ⟨rfl, rfl⟩
  refine w_sseq ?_
  refine w_mid (q := fun f ρ => f = .nx ∧ ρ = [.va (.ins b "Pattern" l), .va (dT (u, v, s)), .un]) ?_ ?_
  · walk_at "own3"
    refine ⟨n2, ?_⟩
    walk_at "own3"
    refine fw_mono (need_shift_ok hw hl) ?_
    rintro r o rfl
    exact ⟨rfl, rfl⟩
  rintro _ _ ⟨rfl, rfl⟩
  refine w_sseq ?_
  refine w_mid (q := fun f ρ => f = .nx ∧ ρ = [.va (.ins b "Pattern" l), .va (dT (u, v, s)), .un]) ?_ ?_
  · walk_at "own3"
    refine w_lcG (L := List.replicate s.length false) (m := D.bl) (by rw [List.length_replicate, List.length_map]) (fun i d c hd hc => ?_) (by rw [List.length_map]; exact (show s.length ≤ 1000000 by omega)) ?_
    · rw [List.getElem?_map] at hd
      obtain ⟨a, ha, rfl⟩ := Option.map_eq_some_iff.mp hd
      have hc2 := List.eq_of_mem_replicate (List.mem_of_getElem? hc)
      subst hc2
      have := ht.bd a (List.mem_of_getElem? ha)
      refine ⟨_, rfl, ?_⟩
      walk_at "own3"
      refine ⟨fun _ => ?_, fun z => ?_⟩
      · walk_at "own3"
        rw [decide_eq_true (show a ≤ 1000000 by omega)]
        exact ⟨rfl, rfl⟩
      · have z := of_decide_eq_false z
        omega
    · walk_at "own3"
      have e : (List.replicate s.length false).any id = false := by
        rw [List.any_eq_false]
        intro x hx
        rw [List.eq_of_mem_replicate hx]
        decide
      rw [e]
      walk_at "own3"
      exact ⟨rfl, rfl⟩
  rintro _ _ ⟨rfl, rfl⟩
  refine w_sseq ?_
  refine w_mid (q := fun f ρ => f = .nx ∧ ρ = [.va (.ins b "Pattern" l), .va (dT (u, v, s)), .un]) ?_ ?_
  · walk_at "own3"
    · refine ⟨fun z => ?_, fun z => ?_⟩
      · walk_at "own3"
        refine w_lcG (L := s.map fun a => decide (a = 0)) (m := D.bl) (by rw [List.length_map, List.length_map]) (fun i d c hd hc => ?_) (by rw [List.length_map]; exact (show s.length ≤ 1000000 by omega)) ?_
        · obtain ⟨a, rfl, rfl⟩ := map_int_at hd hc
          refine ⟨_, rfl, ?_⟩
          walk_at "own3"
          exact ⟨rfl, rfl⟩
        · walk_at "own3"
          refine ⟨fun y => (ht.ne ⟨of_decide_eq_true z, (all_zero s).mp y⟩).elim, fun y => ?_⟩
          walk_at "own3"
          exact ⟨rfl, rfl⟩
      · walk_at "own3"
        exact ⟨rfl, rfl⟩
    · exact ou
    · exact ov
  rintro _ _ ⟨rfl, rfl⟩
  walk_at "own3"
  refine fw_mono (lesser_ok (t := (u, v, s)) ou ov hl') ?_
  rintro r o ⟨rfl, rfl⟩
  walk_at "own3"
  refine ⟨_, _, _, rfl, hb, ?_⟩
  walk_at "own3"
  refine o_in3L ?_ ?_
  · obtain ⟨bb, eb, hbb⟩ := any_map dT peq_T (les (u, v, s)) bs
    rw [eb]
    walk_at "own3"
    refine ⟨fun z => (hn (hbb.mp z)).elim, fun z => ?_⟩
    walk_at "own3"
    refine fw_mono (lesser_ok (t := (u, v, s)) ou ov hl') ?_
    rintro r o ⟨rfl, rfl⟩
    walk_at "own3"
    rfl
  · rw [pl_T (hN _ ht.les.u).ok (hN _ ht.les.v).ok, pl_Ts hN hbs]
    rfl
end
end Lw

set_option maxHeartbeats 990000
open L2 PySem PySem.Spec PyProof.Rows Fm
local macro_rules | `(tactic| walk_at "own6") => `(tactic| (repeat (first | ((with_reducible refine kE ?_); first | ((with_reducible apply w_var); · exact rfl) | ((with_reducible apply w_varO); · exact rfl) | (with_reducible refine w_op ?_) | (with_reducible refine w_c ?_) | ((with_reducible apply w_sub3V); · exact rfl) | ((with_reducible apply w_sub3L); · exact rfl) | (with_reducible refine w_call ?_) | ((with_reducible apply w_mov); · exact rfl) | ((with_reducible apply w_movO); · exact rfl) | (with_reducible refine w_tup ?_) | (with_reducible refine w_cb ?_) | ((with_reducible apply w_varD); · exact rfl) | (with_reducible refine w_meth ?_) | (with_reducible refine w_fld ?_) | (with_reducible refine w_lc ?_) | (with_reducible refine w_sl ?_) | (with_reducible refine w_un ?_) | (with_reducible refine w_lst ?_) | (with_reducible refine w_dnew ?_) | (with_reducible refine w_andV ?_) | (with_reducible refine w_orV ?_) | (with_reducible refine w_notV ?_) | (with_reducible refine w_ife ?_) | ((with_reducible apply w_app); · exact rfl) | (with_reducible refine w_make ?_) | ((with_reducible apply w_subV); · exact rfl) | ((with_reducible apply w_subO); · exact rfl) | (with_reducible refine w_chain ?_) | (with_reducible refine w_chK ?_) | (with_reducible refine w_m1 ?_) | ((with_reducible apply w_mLk); · exact rfl) | ((with_reducible apply w_dpop); · exact rfl) | ((with_reducible apply w_dpop1); · exact rfl) | ((with_reducible apply w_stP); · exact (rfl : _ = [_, _, _, _, _, _])) | ((with_reducible apply w_stS); · exact (rfl : _ = [_, _, _, _, _, _])) | ((with_reducible apply w_stA); · exact (rfl : _ = [_, _, _, _, _, _]))) | ((with_reducible refine kD ?_); first | ((with_reducible apply w_stP); · exact (rfl : _ = [_, _, _, _, _, _])) | ((with_reducible apply w_stS); · exact (rfl : _ = [_, _, _, _, _, _])) | ((with_reducible apply w_stA); · exact (rfl : _ = [_, _, _, _, _, _])) | (with_reducible refine w_fz ?_) | (with_reducible refine w_fzV ?_) | (with_reducible refine w_fzL ?_) | (with_reducible refine w_fzD ?_)) | ((with_reducible refine kS ?_); first | ((with_reducible apply w_stP); · exact (rfl : _ = [_, _, _, _, _, _])) | ((with_reducible apply w_stS); · exact (rfl : _ = [_, _, _, _, _, _])) | ((with_reducible apply w_stA); · exact (rfl : _ = [_, _, _, _, _, _])) | (with_reducible refine w_sseq ?_) | (with_reducible refine w_set ?_) | (with_reducible refine w_if ?_) | (with_reducible refine w_ret ?_) | (with_reducible refine w_nx ?_) | (with_reducible refine w_drop ?_) | (with_reducible refine w_for ?_) | (with_reducible refine w_put3L ?_) | (with_reducible refine w_asg ?_) | (with_reducible refine w_par ?_) | (with_reducible refine w_retN ?_) | (with_reducible refine w_par3 ?_) | (with_reducible refine w_put ?_) | (with_reducible refine w_ex ?_) | (with_reducible refine w_ex1 ?_) | (with_reducible refine w_tryF ?_) | ((with_reducible apply w_sLk); · exact rfl)) | ((with_reducible refine kO ?_); first | ((with_reducible refine kEq ?_); first | (with_reducible refine o_eqI ?_) | (with_reducible refine o_eqStr ?_ ?_ ?_) | (with_reducible refine o_eqB ?_)) | ((with_reducible refine kNe ?_); first | (with_reducible refine o_neI ?_) | (with_reducible refine o_neStr ?_ ?_ ?_) | (with_reducible refine o_neB ?_)) | ((with_reducible refine kAd ?_); first | (with_reducible refine o_add3I ?_) | (with_reducible refine o_add3L ?_ ?_) | (with_reducible refine o_add3S ?_ ?_) | (with_reducible refine o_add3T ?_ ?_)) | ((with_reducible refine kLn ?_); first | (with_reducible refine o_len3L ?_) | (with_reducible refine o_len3T ?_) | (with_reducible refine o_len3D ?_) | (with_reducible refine o_len3S ?_ ?_)) | ((with_reducible refine kIs ?_); first | (with_reducible refine o_isnN ?_) | (with_reducible refine o_isnK ?_) | (with_reducible refine o_isnS2 ?_) | (with_reducible refine o_isnI ?_) | (with_reducible refine o_isnB ?_) | (with_reducible refine o_isnS ?_) | (with_reducible refine o_isnT ?_) | (with_reducible refine o_isnL ?_)) | ((with_reducible refine kNt ?_); first | (with_reducible refine o_ntnN ?_) | (with_reducible refine o_ntnI ?_) | (with_reducible refine o_ntnT ?_) | (with_reducible refine o_ntnL ?_)) | ((with_reducible apply o_ix3T); · exact rfl) | ((with_reducible apply o_ix3L); · exact rfl) | (with_reducible refine o_lt ?_) | (with_reducible refine o_gt ?_) | (with_reducible refine o_sub ?_) | (with_reducible refine o_mul ?_ ?_) | (with_reducible refine o_tupT ?_) | (with_reducible refine o_tupL ?_) | ((with_reducible refine o_isi0 ?_); first | refine o_isI kit_int_int rfl ?_ | refine o_isI kit_int_bool rfl ?_ | refine o_isI kit_int_tuple rfl ?_ | refine o_isI kit_int_list rfl ?_ | refine o_isI kit_int_dict rfl ?_ | refine o_isI kit_bool_bool rfl ?_ | refine o_isI kit_bool_int rfl ?_ | refine o_isI kit_bool_tuple rfl ?_ | refine o_isI kit_bool_list rfl ?_ | refine o_isI kit_str_bool rfl ?_ | refine o_isI kit_str_int rfl ?_ | refine o_isI kit_tuple_bool rfl ?_ | refine o_isI kit_tuple_int rfl ?_ | refine o_isI kit_tuple_tuple rfl ?_ | refine o_isI kit_tuple_list rfl ?_ | refine o_isI kit_tuple_dict rfl ?_ | refine o_isI kit_list_bool rfl ?_ | refine o_isI kit_list_int rfl ?_ | refine o_isI kit_list_tuple rfl ?_ | refine o_isI kit_list_list rfl ?_ | refine o_isI kit_list_dict rfl ?_ | refine o_isI kit_non_bool rfl ?_ | refine o_isI kit_non_tuple rfl ?_ | refine o_isI kit_non_int rfl ?_ | refine o_isI kit_non_list rfl ?_ | refine o_isI kit_non_dict rfl ?_ | refine o_isI kit_dict_bool rfl ?_ | refine o_isI kit_dict_int rfl ?_ | refine o_isI kit_dict_tuple rfl ?_ | refine o_isI kit_dict_list rfl ?_ | refine o_isI kit_dict_dict rfl ?_) | (with_reducible refine o_le ?_) | (with_reducible refine o_ge ?_) | (with_reducible refine o_mod ?_ ?_) | (with_reducible refine o_div ?_ ?_) | (with_reducible refine o_neg ?_) | (with_reducible refine o_abs ?_) | (with_reducible refine o_listT ?_) | (with_reducible refine o_listL ?_) | (with_reducible refine o_all ?_) | (with_reducible refine o_any ?_) | ((with_reducible apply o_ixT); · exact rfl) | ((with_reducible apply o_ixL); · exact rfl) | (with_reducible refine o_slS ?_) | (with_reducible refine o_slL ?_) | (with_reducible refine o_slT ?_) | (with_reducible refine o_slStr ?_ ?_) | (with_reducible refine o_nin3S ?_) | (with_reducible refine o_in3S ?_) | (with_reducible refine o_pow ?_ ?_) | (with_reducible refine o_intB ?_) | ((with_reducible refine o_isit0 ?_); first | refine o_isT kits_int rfl ?_ | refine o_isT kits_str rfl ?_ | refine o_isT kits_tuple rfl ?_ | refine o_isT kits_list rfl ?_ | refine o_isT kits_dict rfl ?_ | refine o_isT kits_non rfl ?_) | (with_reducible refine o_dict3D ?_) | (with_reducible refine o_add ?_) | (with_reducible refine o_addStr ?_ ?_) | (with_reducible refine o_addL ?_ ?_) | (with_reducible refine o_inS ?_) | (with_reducible refine o_ninS ?_) | (with_reducible refine o_inL ?_ ?_) | (with_reducible refine o_split ?_ ?_ ?_) | (with_reducible refine o_part ?_ ?_ ?_) | (with_reducible refine o_join ?_ ?_) | (with_reducible refine o_strI ?_ ?_) | (with_reducible refine o_len ?_) | (with_reducible refine o_lenL ?_) | (with_reducible refine o_lenStr ?_ ?_) | (with_reducible refine o_upper ?_ ?_) | (with_reducible refine o_isC1 ?_)) | ((with_reducible refine kAn ?_); first | (with_reducible refine br_t ?_) | (with_reducible refine br_f ?_) | (with_reducible refine br_nt ?_) | (with_reducible refine br_nf ?_) | (with_reducible refine br_d ?_) | (with_reducible refine br_e ?_) | ((with_reducible apply br_T); · exact rfl) | ((with_reducible apply br_F); · exact rfl) | ((with_reducible apply x_len); · exact Nat.le_of_ble_eq_true rfl) | ((with_reducible apply x_is); · exact rfl) | ((with_reducible apply x_call0); (· exact List.nodup_nil); · exact rfl) | ((with_reducible apply x_call0); (· exact nd1 _); · exact rfl)) | ((with_reducible refine kL ?_); first | (with_reducible refine w_cons ?_) | (with_reducible refine w_nil ?_) | (with_reducible refine w_seqX ?_) | (with_reducible refine w_rng1 ?_) | (with_reducible refine w_zip ?_) | (with_reducible refine w_rng2 ?_) | (with_reducible refine w_en ?_) | (with_reducible refine w_rvr ?_) | (with_reducible refine w_en3 ?_) | (with_reducible refine w_rvl3 ?_) | ((with_reducible apply w_iKy); · exact rfl) | ((with_reducible apply w_stP); · exact (rfl : _ = [_, _, _, _, _, _])) | ((with_reducible apply w_stS); · exact (rfl : _ = [_, _, _, _, _, _])) | ((with_reducible apply w_stA); · exact (rfl : _ = [_, _, _, _, _, _]))) | ((with_reducible refine kB ?_); first | (with_reducible refine w_tst ?_) | (with_reducible refine w_not ?_) | (with_reducible refine w_andT ?_) | (with_reducible refine w_orT ?_)) | ((with_reducible refine kA ?_); first | ((with_reducible apply w_stP); · exact (rfl : _ = [_, _, _, _, _, _])) | ((with_reducible apply w_stS); · exact (rfl : _ = [_, _, _, _, _, _])) | ((with_reducible apply w_stA); · exact (rfl : _ = [_, _, _, _, _, _])) | (with_reducible refine w_ava ?_) | (with_reducible refine w_anil ?_) | ((with_reducible apply w_asl); · exact rfl) | (with_reducible refine w_aapp ?_)) | ((with_reducible refine kEx ?_); first | ((with_reducible apply x_one); · exact rfl) | ((with_reducible apply x_two); · exact rfl) | ((with_reducible apply x_put); (· exact rfl); (· exact rfl); · exact rfl)) | (with_reducible refine w_pn ?_) | (with_reducible refine w_ps ?_) | (with_reducible refine w_mw ?_) | (with_reducible refine o_enL ?_) | (with_reducible refine o_enT ?_) | (with_reducible refine o_rvL ?_))))
namespace Lw
open L2 PySem PySem.Spec PyProof.Rows Fm
theorem w_lcFG {γ : Type} {ρ : List SD} {E : Exn → List SD → Prop} {pl : List D → List SD → Prop} {vs : List Nat} {g : D → List SD → Option (List SD)} {tt : M Bool} {te : M SD} (m : γ → D) (q : γ → Bool) (h : γ → D) : ∀ {L : List γ} {acc : List D},
    (∀ c ∈ L, ∃ ρ1, g (m c) (wipeR ρ vs) = some ρ1 ∧ Wp tt ρ1 (fun b ρ2 => b = q c ∧ (b = true → Wp (fE te) ρ2 (fun y ρ3 => y = h c ∧ unw ρ ρ3 vs = ρ) NoX) ∧ (b = false → unw ρ ρ2 vs = ρ)) NoX) → acc.length + L.length ≤ 1000000 → pl (acc ++ (L.filter q).map h) ρ → Wp (lcL vs g tt te (L.map m) acc) ρ pl E
  | [], acc, _, _, fin => ⟨by rw [List.filter_nil, List.map_nil, List.append_nil] at fin; exact fin⟩
  | d :: l, acc, step, hl, fin => by
    obtain ⟨ρ1, e1, hw⟩ := step d (List.mem_cons_self ..)
    rw [List.length_cons] at hl
    refine ⟨?_⟩
    rw [List.map_cons]
    unfold lcL
    simp only [e1]
    have hw := hw.run
    cases et : tt ρ1 with
    | ok b ρ2 =>
      rw [et] at hw
      obtain ⟨hb, h1, h2⟩ := hw
      cases b with
      | false =>
        dsimp only
        rw [h2 rfl]
        refine (w_lcFG m q h (fun d hd => step d (List.mem_cons_of_mem _ hd)) (by omega) ?_ : Wp (lcL vs g tt te (l.map m) acc) ρ pl E).run
        rw [List.filter_cons, ← hb] at fin
        exact fin
      | true =>
        dsimp only
        have hw := (h1 rfl).run
        cases ee : fE te ρ2 with
        | ok y ρ3 =>
          rw [ee] at hw
          obtain ⟨rfl, hu⟩ := hw
          dsimp only
          rw [if_pos (by omega), hu]
          refine (w_lcFG m q h (fun d hd => step d (List.mem_cons_of_mem _ hd)) (by rw [List.length_append, List.length_singleton]; omega) ?_ : Wp (lcL vs g tt te (l.map m) (acc ++ [h d])) ρ pl E).run
          rw [List.filter_cons, ← hb] at fin
          rw [List.append_assoc]
          exact fin
        | ex x ρ3 =>
          rw [ee] at hw
          exact hw.elim
        | no =>
          rw [ee] at hw
          exact hw.elim
    | ex x ρ2 =>
      rw [et] at hw
      exact hw.elim
    | no =>
      rw [et] at hw
      exact hw.elim
theorem nb_ints : ∀ s : Vec, nbL (s.map D.int) = true
  | [] => rfl
  | a :: s => by
    show (D.nb (.int a) && nbL (s.map D.int)) = true
    rw [nb_ints s]
    rfl
theorem nb_T (t : Tie) : (dT t).nb = true := by
  show (true && (true && (nbL (t.2.2.map D.int) && true))) = true
  rw [nb_ints]
  rfl
theorem nb_P (t : Stp) : (dP t).nb = true := by
  show (true && (nbL (t.2.map D.int) && true)) = true
  rw [nb_ints]
  rfl
theorem nbL_of : ∀ {l : List D}, (∀ d ∈ l, d.nb = true) → nbL l = true
  | [], _ => rfl
  | d :: l, h => by
    show (D.nb d && nbL l) = true
    rw [h d (List.mem_cons_self ..), nbL_of fun e he => h e (List.mem_cons_of_mem _ he)]
    rfl
theorem nbL_map {γ : Type} {f : γ → D} (hf : ∀ c, (f c).nb = true) (l : List γ) : nbL (l.map f) = true := nbL_of fun d hd => by
  obtain ⟨c, _, rfl⟩ := List.mem_map.mp hd
  exact hf c
theorem nbK_of : ∀ {l : List (Key × D)}, (∀ p ∈ l, p.2.nb = true) → nbK l = true
  | [], _ => rfl
  | (k, d) :: l, h => by
    show (D.nb d && nbK l) = true
    rw [h (k, d) (List.mem_cons_self ..), nbK_of fun e he => h e (List.mem_cons_of_mem _ he)]
    rfl
theorem KOk.nb {N : List Str} {m : List (Key × D)} (h : KOk N m) : nbK m = true := nbK_of fun p hp => by
  obtain ⟨s, y, rfl, _⟩ := h.mem p hp
  rfl
section
variable {b b1 b2 : Bool} {l : List (Str × D)} {m : List (Key × D)} {w : Nat} {N : List Str} {bs : List Tie}
theorem ends_ok {n : Str} (hb : l.lookup ("bonds" : Str) = some (.lst b2 (bs.map dT))) (hN : NmL N) (hbs : ∀ t ∈ bs, TOk w N t) (hn : n ∈ N) (h3 : w ≤ 3) (hl : bs.length ≤ 1000) : Fw (f_Pattern_ends [.va (.ins b "Pattern" l), .va (.str n)]) (fun r o => r = .ow (.lst false ((nearL bs n).map dP))) NoX := by
  have on := (hN _ hn).ok
  refine fw_run rfl ?_
  refine w_sseq ?_
  refine w_mid (q := fun f ρ => f = .nx ∧ ρ = [.va (.ins b "Pattern" l), .va (.str n), .ow (.lst false (((bs.filter fun t => decide (t.1 = n)).map fun t => (t.2.1, t.2.2)).map dP)), .un, .un, .un]) ?_ ?_
  · walk_at "own6"
    refine ⟨_, _, _, rfl, hb, ?_⟩
    walk_at "own6"
    refine w_lcFG dT (fun t => decide (t.1 = n)) (fun t => dP (t.2.1, t.2.2)) (fun t ht => ?_) (by simpa using (show bs.length ≤ 1000000 by omega)) ?_
    · refine ⟨_, rfl, ?_⟩
      walk_at "own6"
      · refine ⟨rfl, fun _ => ?_, fun _ => rfl⟩
        walk_at "own6"
        exact ⟨rfl, rfl⟩
      · exact (hN _ (hbs t ht).u).ok
      · exact on
    · walk_at "own6"
      refine ⟨rfl, ?_⟩
      rw [List.nil_append, List.map_map]
      rfl
  rintro _ _ ⟨rfl, rfl⟩
  walk_at "own6"
  refine ⟨_, _, _, rfl, hb, ?_⟩
  walk_at "own6"
  refine w_lcFG dT (fun t => decide (t.2.1 = n)) (fun t => dP (t.1, neg t.2.2)) (fun t ht => ?_) (by simpa using (show bs.length ≤ 1000000 by omega)) ?_
  · have hk := hbs t ht
    refine ⟨_, rfl, ?_⟩
    walk_at "own6"
    · refine ⟨rfl, fun _ => ?_, fun _ => rfl⟩
      walk_at "own6"
      refine fw_mono (turned_ok (by rw [hk.len]; omega)) ?_
      rintro r o ⟨rfl, rfl⟩
      walk_at "own6"
      exact ⟨rfl, rfl⟩
    · exact (hN _ hk.v).ok
    · exact on
  · walk_at "own6"
    · rw [List.nil_append]
      show SD.ow _ = SD.ow _
      congr 2
      unfold nearL
      rw [List.map_append, List.map_map, List.map_map]
      rfl
    · rw [List.nil_append, List.length_map, List.length_map, List.length_map]
      have a := List.length_filter_le (fun t : Tie => decide (t.1 = n)) bs
      have c := List.length_filter_le (fun t : Tie => decide (t.2.1 = n)) bs
      omega
theorem pnames_ok {ks : List Str} (hd : l.lookup ("dyes" : Str) = some (.dk b1 m)) (e : strsK m = some ks) (hk : ks.length < 64) : Fw (f_Pattern_names [.va (.ins b "Pattern" l)]) (fun r o => r = .ow (.lst false ((ssort ks).map D.str))) NoX := by
  refine fw_run rfl ?_
  walk_at "own1"
  refine ⟨_, _, _, rfl, hd, ?_⟩
  walk_at "own1"
  refine o_sort3D e hk ?_
  walk_at "own1"
  rfl
end
end Lw

set_option maxHeartbeats 990000
open L2 PySem PySem.Spec PyProof.Rows Fm
namespace Lw
open L2 PySem PySem.Spec PyProof.Rows Fm
def dPat (w : Nat) (dy : List (Key × D)) (ts : List Tie) (at_ : List (Key × D)) : D := .ins false "Pattern" [("ways", .int w), ("dyes", .dk false dy), ("bonds", .lst false (ts.map dT)), ("at", .dk false at_)]
abbrev Ob (l : List (Str × D)) : SD := .ow (.ins false "Pattern" l)
abbrev F1 (w : Nat) : List (Str × D) := [("ways", .int w)]
abbrev F2 (w : Nat) (dy : List (Key × D)) : List (Str × D) := [("ways", .int w), ("dyes", .dk true dy)]
abbrev F3 (w : Nat) (dy : List (Key × D)) (bs : List Tie) : List (Str × D) := [("ways", .int w), ("dyes", .dk true dy), ("bonds", .lst true (bs.map dT))]
abbrev F4 (w : Nat) (dy : List (Key × D)) (bs : List Tie) (at_ : List (Key × D)) : List (Str × D) := [("ways", .int w), ("dyes", .dk true dy), ("bonds", .lst true (bs.map dT)), ("at", .dk true at_)]
/-- what the dyes of a pattern are -/
structure DyOk (N : List Str) (m0 dy : List (Key × D)) : Prop where
  knots : KOk N dy
  len : dy.length ≤ 12
  val : ∀ s, getK dy (.inr s) = getK m0 (.inr s)
structure KIn (w : Nat) (N : List Str) (m0 : List (Key × D)) : Prop where
  wl : w ≤ 3
  nm : NmL N
  knots : KOk N m0
  klen : m0.length ≤ 12
  has : ∀ s ∈ N, (getK m0 (.inr s)).isSome = true
theorem getK_key {dy : List (Key × D)} {s t : Str} {y : D} : getK (putKD dy (.inr s) y) (.inr t) = if t = s then some y else getK dy (.inr t) := by
  rw [getK_put]
  by_cases h : t = s
  · rw [if_pos h, if_pos (by rw [h])]
  · rw [if_neg h, if_neg fun z => h (Sum.inr.inj z)]
/-- a mesh, maybe of no knots -/
structure MOk0 (w : Nat) (N : List Str) (m : List (Key × D)) (ts : List Tie) : Prop where
  wl : w ≤ 3
  nm : NmL N
  few : N.length ≤ 12
  knots : KOk N m
  klen : m.length ≤ 12
  has : ∀ s ∈ N, (getK m (.inr s)).isSome = true
  ties : TsOk w N ts
  tlen : ts.length ≤ 24
theorem MOk.zero {w : Nat} {N : List Str} {m : List (Key × D)} {ts : List Tie} (M : MOk w N m ts) : MOk0 w N m ts := ⟨M.wl, M.nm, M.few, M.knots, M.klen, M.has, M.ties, M.tlen⟩
theorem init_ok0 {w : Nat} {m0 : List (Key × D)} {N : List Str} {ts ts' : List Tie} (M : MOk0 w N m0 ts) (ht : ∀ t ∈ ts', TOk w N t) (hp : (ts'.map les).Perm ts) :
    Fw (f_Pattern___init__ [.int w, .dk false m0, .lst false (ts'.map dT)]) (fun r _ => ∃ dy at_, r = .va (dPat w dy ts at_) ∧ DyOk N m0 dy ∧ nbK at_ = true ∧ ∀ s ∈ N, getK at_ (.inr s) = some (.lst false ((near ts s).map dP))) NoX := by
  obtain ⟨ks, e, hkl, hks, hks2⟩ := M.knots.keys
  have kl := M.klen
  have w3 := M.wl
  have lt : ts'.length ≤ 24 := by
    have z := hp.length_eq
    rw [List.length_map] at z
    have := M.tlen
    omega
  have nbt : nbL (ts'.map dT) = true := nbL_map nb_T _
  have nbm : nbK m0 = true := M.knots.nb
  have nbs : ∀ {s4 s5 : SD}, s4.nbS = true → s5.nbS = true → [SD.un, .va (.int w), .va (.dk false m0), .va (.lst false (ts'.map dT)), s4, s5].all SD.nbS = true := fun {s4 s5} h4 h5 => by
    show (true && (true && ((!false && nbK m0) && ((!false && nbL (ts'.map dT)) && (s4.nbS && (s5.nbS && true)))))) = true
    rw [nbm, nbt, h4, h5]
    rfl
  refine fw_init ?_
  show Wp _ [Ob [], .va (.int w), .va (.dk false m0), .va (.lst false (ts'.map dT)), .un, .un] _ _
  -- ways
  refine w_sseq ?_
  refine w_mid (q := fun f ρ => f = .nx ∧ ρ = [Ob [], .va (.int w), .va (.dk false m0), .va (.lst false (ts'.map dT)), .un, .un]) ?_ ?_
  · refine w_viewO rfl ?_
    walk_at "own6"
    refine ⟨fun z => ?_, fun _ => ?_⟩
    · rw [decide_eq_true (show (w : Int) ≤ 3 by omega)] at z
      cases z
    · walk_at "own6"
      exact ⟨rfl, rfl⟩
  rintro _ _ ⟨rfl, rfl⟩
  refine w_sseq ?_
  refine w_mid (q := fun f ρ => f = .nx ∧ ρ = [Ob (F1 w), .va (.int w), .va (.dk false m0), .va (.lst false (ts'.map dT)), .un, .un]) ?_ ?_
  · refine w_oset ?_
    refine w_viewO rfl ?_
    walk_at "own6"
    exact ⟨_, _, _, rfl, by (show (0 : Nat) < 1000; decide), rfl, rfl, rfl⟩
  rintro _ _ ⟨rfl, rfl⟩
  refine w_sseq ?_
  refine w_mid (q := fun f ρ => f = .nx ∧ ρ = [Ob (F2 w []), .va (.int w), .va (.dk false m0), .va (.lst false (ts'.map dT)), .un, .un]) ?_ ?_
  · refine w_oset ?_
    refine w_viewO rfl ?_
    walk_at "own6"
    exact ⟨_, _, _, rfl, by (show (1 : Nat) < 1000; decide), rfl, rfl, rfl⟩
  rintro _ _ ⟨rfl, rfl⟩
  -- the dyes
  refine w_sseq ?_
  refine w_mid (q := fun f ρ => f = .nx ∧ ∃ dy s4, ρ = [Ob (F2 w dy), .va (.int w), .va (.dk false m0), .va (.lst false (ts'.map dT)), s4, .un] ∧ s4.nbS = true ∧ DyOk N m0 dy) ?_ ?_
  · refine w_for ?_
    refine w_viewO rfl ?_
    walk_at "own6"
    refine o_sort3D e (by omega) ?_
    walk_at "own6"
    refine w_forL (I := fun i ρ => ∃ dy s4, ρ = [Ob (F2 w dy), .va (.int w), .va (.dk false m0), .va (.lst false (ts'.map dT)), s4, .un] ∧ s4.nbS = true ∧ KOk N dy ∧ dy.length ≤ i ∧ ∀ s, getK dy (.inr s) = if s ∈ (ssort ks).take i then getK m0 (.inr s) else none) ?_ ⟨[], _, rfl, rfl, KOk.nil, Nat.le_refl _, fun s => by rw [List.take_zero, if_neg (fun z => by cases z)]; rfl⟩ ?_
    · rintro i d ρ hi ⟨dy, s4, rfl, _, k1, k2, k3⟩
      obtain ⟨s, hs, rfl⟩ := str_at hi
      have hi3 : i < ks.length := by
        have := (List.getElem?_eq_some_iff.mp hs).1
        rw [ssort_len] at this
        exact this
      obtain ⟨sN, sm⟩ := hks s (ssort_mem.mp (List.mem_of_getElem? hs))
      obtain ⟨y, ey, _, y0, y9⟩ := M.knots.get sm
      have ey' : (keyOf (.str s)).bind (getK m0) = some (.int y) := ey
      refine ⟨_, rfl, ?_⟩
      refine w_sseq ?_
      refine w_mid (q := fun f ρ => f = .nx ∧ ρ = [Ob (F2 w dy), .va (.int w), .va (.dk false m0), .va (.lst false (ts'.map dT)), .va (.str s), .un]) ?_ ?_
      · refine w_viewO rfl ?_
        walk_at "own6"
        refine fw_mono (need_name_ok (M.nm s sN)) ?_
        rintro r o ⟨rfl, rfl⟩
        exact ⟨rfl, rfl⟩
      rintro _ _ ⟨rfl, rfl⟩
      refine w_sseq ?_
      refine w_mid (q := fun f ρ => f = .nx ∧ ρ = [Ob (F2 w dy), .va (.int w), .va (.dk false m0), .va (.lst false (ts'.map dT)), .va (.str s), .un]) ?_ ?_
      · refine w_viewO rfl ?_
        walk_at "own6"
        refine o_ix3D ey' ?_
        walk_at "own6"
        refine fw_mono (need_dye_ok y0 y9) ?_
        rintro r o ⟨rfl, rfl⟩
        exact ⟨rfl, rfl⟩
      rintro _ _ ⟨rfl, rfl⟩
      refine w_oput ?_
      refine w_fz ?_
      refine w_viewO rfl ?_
      walk_at "own6"
      refine o_ix3D ey' ?_
      walk_at "own6"
      refine ⟨_, _, _, rfl, rfl, k1.nb, ?_⟩
      refine w_viewO rfl ?_
      walk_at "own6"
      have pl := putKD_len dy (.inr s) (.int y)
      refine ⟨_, _, _, _, rfl, rfl, rfl, ⟨by omega, k1.nb, rfl⟩, ?_⟩
      refine ⟨putKD dy (.inr s) (.int y), _, rfl, rfl, k1.put sN y0 y9, by omega, fun t => ?_⟩
      rw [getK_key]
      by_cases z : t = s
      · have zi : s ∈ (ssort ks).take (i + 1) := by
          rw [List.take_add_one, hs]
          exact List.mem_append_right _ (List.mem_singleton.mpr rfl)
        rw [if_pos z, z, if_pos zi]
        exact ey.symm
      · rw [if_neg z, k3 t]
        have zi : t ∈ (ssort ks).take (i + 1) ↔ t ∈ (ssort ks).take i := ⟨fun h => by
          rcases take_succ_mem hs h with g | g
          · exact g
          · exact absurd g z, fun h => by
          rw [List.take_add_one]
          exact List.mem_append_left _ h⟩
        by_cases y : t ∈ (ssort ks).take i
        · rw [if_pos y, if_pos (zi.mpr y)]
        · rw [if_neg y, if_neg (fun h => y (zi.mp h))]
    · rintro ρ ⟨dy, s4, rfl, h4, k1, k2, k3⟩
      rw [List.length_map, ssort_len] at k2 
      rw [List.length_map, List.take_of_length_le (Nat.le_refl _)] at k3
      refine ⟨rfl, dy, s4, rfl, h4, ⟨k1, by omega, fun s => ?_⟩⟩
      rw [k3 s]
      by_cases z : s ∈ ssort ks
      · rw [if_pos z]
      · rw [if_neg z]
        cases e3 : getK m0 (.inr s) with
        | none => rfl
        | some y => exact absurd (ssort_mem.mpr (hks2 s (by rw [e3]; rfl))) z
  rintro _ _ ⟨rfl, dy, s4, rfl, h4, dyk⟩
  have k1 := dyk.knots
  have k2 := dyk.len
  have k3 : ∀ s ∈ N, (getK dy (.inr s)).isSome = true := fun s hs => by rw [dyk.val]; exact M.has s hs
  have nbd : nbK dy = true := k1.nb
  refine w_sseq ?_
  refine w_mid (q := fun f ρ => f = .nx ∧ ρ = [Ob (F2 w dy), .va (.int w), .va (.dk false m0), .va (.lst false (ts'.map dT)), s4, .un]) ?_ ?_
  · refine w_viewO rfl ?_
    walk_at "own6"
    refine ⟨fun z => ?_, fun _ => ?_⟩
    · have z := of_decide_eq_true z
      omega
    · walk_at "own6"
      exact ⟨rfl, rfl⟩
  rintro _ _ ⟨rfl, rfl⟩
  -- the bonds
  refine w_sseq ?_
  refine w_mid (q := fun f ρ => f = .nx ∧ ρ = [Ob (F3 w dy []), .va (.int w), .va (.dk false m0), .va (.lst false (ts'.map dT)), s4, .un]) ?_ ?_
  · refine w_oset ?_
    refine w_viewO rfl ?_
    walk_at "own6"
    exact ⟨_, _, _, rfl, by (show (2 : Nat) < 1000; decide), rfl, rfl, rfl⟩
  rintro _ _ ⟨rfl, rfl⟩
  refine w_sseq ?_
  refine w_mid (q := fun f ρ => f = .nx ∧ ∃ s5, ρ = [Ob (F3 w dy (ts'.map les)), .va (.int w), .va (.dk false m0), .va (.lst false (ts'.map dT)), s4, s5] ∧ s5.nbS = true) ?_ ?_
  · refine w_for ?_
    refine w_viewO rfl ?_
    walk_at "own6"
    refine w_forL (I := fun i ρ => ∃ s5, ρ = [Ob (F3 w dy ((ts'.map les).take i)), .va (.int w), .va (.dk false m0), .va (.lst false (ts'.map dT)), s4, s5] ∧ s5.nbS = true) ?_ ⟨_, rfl, rfl⟩ ?_
    · rintro i d ρ hi ⟨s5, rfl, _⟩
      rw [List.getElem?_map] at hi
      obtain ⟨t, ht1, rfl⟩ := Option.map_eq_some_iff.mp hi
      have tk := ht t (List.mem_of_getElem? ht1)
      have nbb : nbL (((ts'.map les).take i).map dT) = true := nbL_map nb_T _
      have hil : i < (ts'.map les).length := by
        rw [List.length_map]
        exact (List.getElem?_eq_some_iff.mp ht1).1
      have ei : (ts'.map les)[i]? = some (les t) := by
        rw [List.getElem?_map, ht1]
        rfl
      have nd : (ts'.map les).Nodup := hp.nodup_iff.mpr M.ties.nd
      have ni : les t ∉ (ts'.map les).take i := fun z => by
        have sp := List.take_append_drop i (ts'.map les)
        have dr : (ts'.map les).drop i = les t :: (ts'.map les).drop (i + 1) := by
          rw [List.drop_eq_getElem_cons hil]
          congr 1
          exact Option.some.inj ((List.getElem?_eq_getElem hil).symm.trans ei)
        rw [← sp, dr] at nd
        exact (List.nodup_append.mp nd).2.2 _ z _ (List.mem_cons_self ..) rfl
      refine ⟨_, rfl, ?_⟩
      refine w_drop ?_
      refine w_oapp rfl rfl nbb ?_
      refine w_viewL rfl ?_
      walk_at "own6"
      refine ⟨rfl, ?_⟩
      walk_at "own6"
      refine fw_mono (fitting_ok (N := N) (bs := (ts'.map les).take i) rfl rfl rfl rfl rfl M.nm tk w3 k3 (fun t h => ?_) ni) ?_
      · obtain ⟨t0, h0, rfl⟩ := List.mem_map.mp (List.mem_of_mem_take h)
        exact (ht t0 h0).les
      rintro r o rfl
      walk_at "own6"
      refine ⟨?_, _, _, _, _, rfl, rfl, rfl, ⟨?_, nbb, nb_T _⟩, ?_⟩
      · rw [Bool.and_eq_true]
        exact ⟨nbs h4 (nb_T t), nbL_of fun d hd => by rw [in_one hd]; exact nb_T _⟩
      · rw [List.length_map, List.length_take, List.length_map]
        omega
      · refine ⟨.va (dT t), ?_, nb_T t⟩
        have e2 : (ts'.map les).take (i + 1) = (ts'.map les).take i ++ [les t] := by
          rw [List.take_add_one, ei]
          rfl
        rw [e2]
        show _ = [Ob (F3 w dy _), _, _, _, _, _]
        unfold F3
        rw [List.map_append]
        rfl
    · rintro ρ ⟨s5, rfl, h5⟩
      rw [List.length_map, List.take_of_length_le (by rw [List.length_map]; exact Nat.le_refl _)]
      exact ⟨rfl, s5, rfl, h5⟩
  rintro _ _ ⟨rfl, s5, rfl, h5⟩
  have lb : ((ts'.map les).map dT).length ≤ 24 := by
    rw [List.length_map, List.length_map]
    exact lt
  have nbb : nbL ((ts'.map les).map dT) = true := nbL_map nb_T _
  refine w_sseq ?_
  refine w_mid (q := fun f ρ => f = .nx ∧ ρ = [Ob (F3 w dy (ts'.map les)), .va (.int w), .va (.dk false m0), .va (.lst false (ts'.map dT)), s4, s5]) ?_ ?_
  · refine w_if ?_
    refine w_viewL rfl ?_
    walk_at "own6"
    refine ⟨_, _, _, rfl, rfl, ?_⟩
    walk_at "own6"
    refine ⟨?_, fun z => ?_, fun _ => ?_⟩
    · rw [Bool.and_eq_true]
      exact ⟨nbs h4 h5, rfl⟩
    · have z := of_decide_eq_true z
      omega
    · walk_at "own6"
      exact ⟨rfl, rfl⟩
  rintro _ _ ⟨rfl, rfl⟩
  have es : srtD ((ts'.map les).map dT) = ts.map dT := by
    rw [srtD_map, srtF_one dT peq_T alike_T hp, M.ties.srt]
  have nbt2 : nbL (ts.map dT) = true := nbL_map nb_T _
  refine w_sseq ?_
  refine w_mid (q := fun f ρ => f = .nx ∧ ρ = [Ob (F3 w dy ts), .va (.int w), .va (.dk false m0), .va (.lst false (ts'.map dT)), s4, s5]) ?_ ?_
  · refine w_oset ?_
    refine w_viewL rfl ?_
    walk_at "own6"
    refine ⟨_, _, _, rfl, rfl, ?_⟩
    walk_at "own6"
    refine o_sort3L ?_ ?_
    · rw [es]
      refine ⟨?_, _, _, _, rfl, by (show (3 : Nat) < 1000; decide), if_pos nbt2, rfl, rfl⟩
      rw [Bool.and_eq_true]
      exact ⟨nbs h4 h5, nbt2⟩
    · refine sortB_T fun t h => ?_
      obtain ⟨t0, h0, rfl⟩ := List.mem_map.mp h
      have k := (ht t0 h0).les
      exact ⟨(M.nm _ k.u).ok, (M.nm _ k.v).ok⟩
  rintro _ _ ⟨rfl, rfl⟩
  -- what is near each
  refine w_sseq ?_
  refine w_mid (q := fun f ρ => f = .nx ∧ ρ = [Ob (F4 w dy ts []), .va (.int w), .va (.dk false m0), .va (.lst false (ts'.map dT)), s4, s5]) ?_ ?_
  · refine w_oset ?_
    refine w_viewO rfl ?_
    walk_at "own6"
    exact ⟨_, _, _, rfl, by (show (3 : Nat) < 1000; decide), rfl, rfl, rfl⟩
  rintro _ _ ⟨rfl, rfl⟩
  obtain ⟨ks2, e2, hkl2, hka, hkb⟩ := k1.keys
  have nba : ∀ {m : List (Key × D)}, (∀ p ∈ m, ∃ s, p = ((.inr s : Key), D.lst false ((near ts s).map dP))) → nbK m = true := fun {m} h => nbK_of fun p hp => by
    obtain ⟨s, rfl⟩ := h p hp
    show (!false && nbL ((near ts s).map dP)) = true
    rw [nbL_map nb_P]
    rfl
  refine w_for ?_
  refine w_iseqL ?_
  refine w_viewL rfl ?_
  refine w_fz ?_
  walk_at "own6"
  refine ⟨rfl, ?_⟩
  walk_at "own6"
  refine fw_mono (pnames_ok rfl e2 (by omega)) ?_
  rintro r o rfl
  walk_at "own6"
  refine ⟨?_, _, _, rfl, ?_⟩
  · rw [Bool.and_eq_true]
    refine ⟨nbs h4 h5, ?_⟩
    show (!false && nbL ((ssort ks2).map D.str)) = true
    rw [nbL_map fun _ => rfl]
    rfl
  walk_at "own6"
  refine w_forL (I := fun i ρ => ∃ at_ s4, ρ = [Ob (F4 w dy ts at_), .va (.int w), .va (.dk false m0), .va (.lst false (ts'.map dT)), s4, s5] ∧ s4.nbS = true ∧ at_.length ≤ i ∧ (∀ p ∈ at_, ∃ s, p = ((.inr s : Key), D.lst false ((near ts s).map dP))) ∧ ∀ s ∈ (ssort ks2).take i, (getK at_ (.inr s)).isSome = true) ?_ ⟨[], _, rfl, h4, Nat.le_refl _, (fun p hp => by cases hp), fun s hs => by cases hs⟩ ?_
  · rintro i d ρ hi ⟨at_, s4, rfl, h4, a1, a2, a3⟩
    obtain ⟨s, hs, rfl⟩ := str_at hi
    have hi3 : i < ks2.length := by
      have := (List.getElem?_eq_some_iff.mp hs).1
      rw [ssort_len] at this
      exact this
    have sN := (hka s (ssort_mem.mp (List.mem_of_getElem? hs))).1
    have hk : ∀ t ∈ ts, TOk w N t := fun t h => (M.ties.tie t h).1
    refine ⟨_, rfl, ?_⟩
    refine w_oput ?_
    refine w_fz ?_
    refine w_viewL rfl ?_
    walk_at "own6"
    refine ⟨rfl, ?_⟩
    walk_at "own6"
    refine fw_mono (ends_ok (bs := ts) (b2 := true) rfl M.nm hk sN w3 (by have := M.tlen; omega)) ?_
    rintro r o rfl
    walk_at "own6"
    refine o_sort3L ?_ ?_
    · rw [srtD_map]
      have nbn : nbL ((near ts s).map dP) = true := nbL_map nb_P _
      refine ⟨?_, ?_⟩
      · rw [Bool.and_eq_true]
        exact ⟨nbs rfl h5, nbn⟩
      · walk_at "own6"
        refine ⟨_, _, _, rfl, rfl, nba a2, ?_⟩
        refine w_viewO rfl ?_
        walk_at "own6"
        refine ⟨_, _, _, _, rfl, rfl, rfl, ⟨by omega, nba a2, ?_⟩, ?_⟩
        · show (!false && nbL ((near ts s).map dP)) = true
          rw [nbn]
          rfl
        · have pl := putKD_len at_ (.inr s) (D.lst false ((near ts s).map dP))
          refine ⟨putKD at_ (.inr s) (.lst false ((near ts s).map dP)), _, rfl, rfl, by omega, fun p hp => ?_, fun t ht => ?_⟩
          · rcases putKD_mem hp with z | z
            · exact a2 p z
            · exact ⟨s, z⟩
          · refine get_isSome_put ?_
            rcases take_succ_mem hs ht with g | g
            · exact .inl (a3 t g)
            · exact .inr (by rw [g])
    · refine sortB_P fun t h => ?_
      unfold nearL at h
      rcases in_app h with z | z
      · obtain ⟨t0, h0, rfl⟩ := List.mem_map.mp z
        exact (M.nm _ (hk t0 (List.mem_filter.mp h0).1).v).ok
      · obtain ⟨t0, h0, rfl⟩ := List.mem_map.mp z
        exact (M.nm _ (hk t0 (List.mem_filter.mp h0).1).u).ok
  · rintro ρ ⟨at_, s4, rfl, h4, a1, a2, a3⟩
    rw [List.length_map, List.take_of_length_le (Nat.le_refl _)] at a3
    refine ⟨.inl rfl, _, _, _, rfl, dy, at_, rfl, dyk, nba a2, fun s hs => ?_⟩
    obtain ⟨d, ed⟩ := Option.isSome_iff_exists.mp (a3 s (ssort_mem.mpr (hkb s (k3 s hs))))
    obtain ⟨s', e'⟩ := a2 _ (getK_mem ed)
    cases e'
    exact ed
theorem init_ok {w : Nat} {m0 : List (Key × D)} {N : List Str} {ts ts' : List Tie} (M : MOk w N m0 ts) (ht : ∀ t ∈ ts', TOk w N t) (hp : (ts'.map les).Perm ts) :
    Fw (f_Pattern___init__ [.int w, .dk false m0, .lst false (ts'.map dT)]) (fun r _ => ∃ dy at_, r = .va (dPat w dy ts at_) ∧ DyOk N m0 dy ∧ nbK at_ = true ∧ ∀ s ∈ N, getK at_ (.inr s) = some (.lst false ((near ts s).map dP))) NoX := init_ok0 M.zero ht hp
end Lw

set_option maxHeartbeats 990000
open L2 PySem PySem.Spec PyProof.Rows Fm
namespace Lw
open L2 PySem PySem.Spec PyProof.Rows Fm
theorem cutD_take (l : List D) (k : Nat) : Fm.cutD l none (some (k : Int)) = l.take k := by
  unfold Fm.cutD
  rw [HT.sIx_nat, HT.sIx_none, List.drop_zero, Nat.sub_zero]
  by_cases h : k ≤ l.length
  · rw [Nat.min_eq_left h]
  · rw [Nat.min_eq_right (by omega), List.take_of_length_le (by omega), List.take_of_length_le (by omega)]
theorem cutD_drop (l : List D) (k : Nat) : Fm.cutD l (some (k : Int)) none = l.drop k := by
  unfold Fm.cutD
  rw [HT.sIx_nat, HT.sIx_none]
  rw [List.take_of_length_le (by rw [List.length_drop]; exact Nat.le_refl _)]
  by_cases h : k ≤ l.length
  · rw [Nat.min_eq_left h]
  · rw [Nat.min_eq_right (by omega), List.drop_of_length_le (by omega), List.drop_of_length_le (by omega)]
/-- a pattern as the program holds it -/
structure POk (w : Nat) (N : List Str) (m : List (Key × D)) (ts : List Tie) (p : D) : Prop where
  all : ∃ dy at_, p = dPat w dy ts at_ ∧ DyOk N m dy ∧ nbK at_ = true ∧ ∀ s ∈ N, getK at_ (.inr s) = some (.lst false ((near ts s).map dP))
  hs : ∀ s ∈ N, (getK m (.inr s)).isSome = true
theorem POk.ex {w : Nat} {N : List Str} {m : List (Key × D)} {ts : List Tie} {p : D} (P : POk w N m ts p) : ∃ dy at_, p = dPat w dy ts at_ ∧ (∀ s ∈ N, (getK dy (.inr s)).isSome = true) ∧ ∀ s ∈ N, getK at_ (.inr s) = some (.lst false ((near ts s).map dP)) := by
  obtain ⟨dy, at_, h1, h2, _, h3⟩ := P.all
  exact ⟨dy, at_, h1, fun s hs => by rw [h2.val]; exact P.hs s hs, h3⟩
theorem POk.nb {w : Nat} {N : List Str} {m : List (Key × D)} {ts : List Tie} {p : D} (P : POk w N m ts p) : p.nb = true := by
  obtain ⟨dy, at_, rfl, h2, h3, _⟩ := P.all
  show (!false && (true && ((!false && nbK dy) && ((!false && nbL (ts.map dT)) && ((!false && nbK at_) && true))))) = true
  rw [h2.knots.nb, nbL_map nb_T, h3]
  rfl
theorem made_ok {n : Nat} {d : D} {w : Nat} {m : List (Key × D)} {b : Bool} {N : List Str} {ts : List Tie} (M : MOk w N m ts) (h : Drw n d) (hn : n ≤ 90000) : Fw (f__law_made [.ow d, .va (dM w m b ts)]) (fun r o => ∃ p, r = .va p ∧ POk w N m ts p ∧ ∃ d', o = [.ow d', .un] ∧ Drw (n + 48) d') NoX := by
  have tl := M.tlen
  refine fw_run rfl ?_
  refine w_sseq ?_
  refine w_mid (q := fun f ρ => f = .nx ∧ ρ = [.ow d, .va (dM w m b ts), .ow (.lst false []), .un, .un, .un]) ?_ ?_
  · walk_at "own6"
    exact ⟨rfl, rfl⟩
  rintro _ _ ⟨rfl, rfl⟩
  refine w_sseq ?_
  refine w_mid (q := fun f ρ => f = .nx ∧ ∃ (d' : D) (ts' : List Tie) (s3 s4 s5 : SD), ρ = [.ow d', .va (dM w m b ts), .ow (.lst false (ts'.map dT)), s3, s4, s5] ∧ (∀ t ∈ ts', TOk w N t) ∧ (ts'.map les).Perm ts ∧ Drw (n + 48) d') ?_ ?_
  · walk_at "own6"
    refine w_forL (I := fun i ρ => ∃ (d' : D) (ts' : List Tie) (s3 s4 s5 : SD), ρ = [.ow d', .va (dM w m b ts), .ow (.lst false (ts'.map dT)), s3, s4, s5] ∧ (∀ t ∈ ts', TOk w N t) ∧ (ts'.map les).Perm (ts.take i) ∧ Drw (n + 2 * i) d') ?_ ⟨d, [], _, _, _, rfl, (fun t ht => by cases ht), List.Perm.refl _, h⟩ ?_
    · rintro i e ρ hi ⟨d1, ts', s3, s4, s5, rfl, h1, h2, k1⟩
      rw [List.getElem?_map] at hi
      obtain ⟨t, ht, rfl⟩ := Option.map_eq_some_iff.mp hi
      obtain ⟨tk, tl2⟩ := M.ties.tie t (List.mem_of_getElem? ht)
      have hi6 : i < ts.length := (List.getElem?_eq_some_iff.mp ht).1
      have l2 : ts'.length = i := by
        have z := h2.length_eq
        rw [List.length_map, List.length_take] at z
        omega
      refine ⟨_, rfl, ?_⟩
      walk_at "own6"
      refine fw_drw (pick_ok k1 (by rw [List.length_map]; omega) (szS (by rw [List.length_map]; omega)) (by omega)) fun q d2 hq k2 => ?_
      rw [List.length_map] at hq
      obtain ⟨at', rfl⟩ : ∃ k : Nat, q = k := ⟨q.toNat, by omega⟩
      walk_at "own6"
      refine fw_mono (lturned_ok (s := t.2.2) (by rw [tk.len]; have := M.wl; omega)) ?_
      rintro r o ⟨rfl, rfl⟩
      walk_at "own6"
      · refine fw_drw (pick_ok k2 (by decide) (szS (by decide)) (by omega)) fun q2 d3 hq2 k3 => ?_
        obtain ⟨t2, e2, ht2⟩ : ∃ t2 : Tie, atI [dT t, dT (about t)] q2 = some (dT t2) ∧ (t2 = t ∨ t2 = about t) := by
          have : q2 = 0 ∨ q2 = 1 := by omega
          rcases this with rfl | rfl
          · exact ⟨t, rfl, .inl rfl⟩
          · exact ⟨about t, rfl, .inr rfl⟩
        walk_at "own6"
        refine o_ix3T e2 ?_
        walk_at "own6"
        · rw [cutD_take, cutD_drop]
          refine ⟨d3, ts'.take at' ++ [t2] ++ ts'.drop at', .va (dT t), .va (.int at'), .va (dT (about t)), ?_, fun x hx => ?_, ?_, k3.mono (by omega)⟩
          · rw [List.map_append, List.map_append, List.map_take, List.map_drop]
            rfl
          · have t2k : TOk w N t2 := by
              rcases ht2 with rfl | rfl
              · exact tk
              · exact tk.about
            rcases in_app hx with z | z
            · rcases in_app z with z | z
              · exact h1 x (List.mem_of_mem_take z)
              · rw [in_one z]
                exact t2k
            · exact h1 x (List.mem_of_mem_drop z)
          · have le2 : les t2 = t := by
              rcases ht2 with rfl | rfl
              · exact tl2
              · rw [les_about]
                exact tl2
            rw [List.map_append, List.map_append, List.map_cons, List.map_nil, le2, List.take_add_one, ht]
            have p1 : (ts'.take at' ++ ts'.drop at').map les = ts'.map les := by rw [List.take_append_drop]
            rw [List.map_append] at p1
            rw [List.append_assoc]
            refine (List.perm_append_comm_assoc _ _ _).trans ?_
            rw [p1]
            exact List.perm_append_comm.trans (h2.append_right _)
        · rw [cutD_take, cutD_drop]
          simp only [List.length_append, List.length_take, List.length_drop, List.length_map, List.length_singleton]
          omega
        · rw [cutD_take]
          simp only [List.length_append, List.length_take, List.length_drop, List.length_map, List.length_singleton]
          omega
    · rintro ρ ⟨d1, ts', s3, s4, s5, rfl, h1, h2, k1⟩
      rw [List.length_map] at h2 k1
      rw [List.take_of_length_le (Nat.le_refl _)] at h2
      exact ⟨rfl, d1, ts', s3, s4, s5, rfl, h1, h2, k1.mono (by omega)⟩
  rintro _ _ ⟨rfl, d1, ts', s3, s4, s5, rfl, h1, h2, k1⟩
  walk_at "own6"
  refine fw_mono (init_ok M h1 h2) ?_
  rintro r o ⟨dy, at_, rfl, g1, g3, g2⟩
  exact ⟨_, rfl, _, rfl, ⟨⟨dy, at_, rfl, g1, g3, g2⟩, M.has⟩, d1, rfl, k1⟩
end Lw

set_option maxHeartbeats 990000
namespace Lw
open L2 PySem PySem.Spec PyProof.Rows Fm
/-! ### walks: the plain law -/
def walk (ts : List Tie) : Str → List Stp → Prop
  | _, [] => True
  | n, p :: r => p ∈ near ts n ∧ walk ts p.1 r
def last : Str → List Stp → Str
  | n, [] => n
  | _, p :: r => last p.1 r
def home : Str → List Stp → List Stp
  | _, [] => []
  | n, p :: r => home p.1 r ++ [(n, neg p.2)]
/-- the i-th number of all steps, added up -/
def at0 (s : Vec) (i : Nat) : Int := s.getD i 0
def tot (i : Nat) (st : List Stp) : Int := (st.map fun p => at0 p.2 i).sum
theorem at0_neg (s : Vec) (i : Nat) : at0 (neg s) i = - at0 s i := by
  unfold at0 neg
  rw [List.getD_eq_getElem?_getD, List.getElem?_map, List.getD_eq_getElem?_getD]
  cases s[i]? with
  | none => rfl
  | some a =>
    show 0 - a = - a
    omega
theorem at0_plus {a b : Vec} (h : a.length = b.length) (i : Nat) : at0 (plus a b) i = at0 a i + at0 b i := by
  unfold at0 plus
  rw [List.getD_eq_getElem?_getD, List.getD_eq_getElem?_getD, List.getD_eq_getElem?_getD, List.getElem?_zipWith]
  by_cases hi : i < a.length
  · rw [List.getElem?_eq_getElem hi, List.getElem?_eq_getElem (by omega)]
    rfl
  · rw [List.getElem?_eq_none_iff.mpr (by omega), List.getElem?_eq_none_iff.mpr (by omega)]
    rfl
def zeros (w : Nat) : Vec := List.replicate w 0
def acc (w : Nat) (st : List Stp) : Vec := st.foldl (fun a p => plus a p.2) (zeros w)
theorem vec_ext {a b : Vec} (h : a.length = b.length) (g : ∀ i, at0 a i = at0 b i) : a = b := by
  apply List.ext_getElem h
  intro i h1 h2
  have z := g i
  unfold at0 at z
  rw [List.getD_eq_getElem?_getD, List.getD_eq_getElem?_getD, List.getElem?_eq_getElem h1, List.getElem?_eq_getElem h2] at z
  exact z
def scale (c : Int) (s : Vec) : Vec := s.map fun a => c * a
abbrev Rnd := Int × List Stp
abbrev dR (r : Rnd) : D := .tup [.int r.1, .tup (r.2.map dP)]
/-- a round from n -/
structure ROk (w : Nat) (N : List Str) (ts : List Tie) (n : Str) (r : Rnd) : Prop where
  c1 : 1 ≤ r.1
  c2 : Sz 60001 r.1
  ne : r.2 ≠ []
  few : r.2.length ≤ 24
  wk : walk ts n r.2
  back : 1 < r.1 → last n r.2 = n
def rwalk (w : Nat) (N : List Str) (ts : List Tie) : Str → List Rnd → Prop
  | _, [] => True
  | n, r :: rs => ROk w N ts n r ∧ rwalk w N ts (last n r.2) rs
def gn : Str → List Rnd → Str
  | n, [] => n
  | n, r :: rs => gn (last n r.2) rs
def gc (w : Nat) : Vec → List Rnd → Vec
  | z, [] => z
  | z, r :: rs => gc w (plus z (scale r.1 (acc w r.2))) rs
/-- the way back -/
def hr : Str → List Rnd → List Rnd
  | _, [] => []
  | n, r :: rs => hr (last n r.2) rs ++ [(r.1, home n r.2)]
/-- steps of good ties -/
theorem near_ok {w : Nat} {N : List Str} {ts : List Tie} (h : ∀ t ∈ ts, TOk w N t) {n : Str} {p : Stp} (hp : p ∈ near ts n) : p.1 ∈ N ∧ p.2.length = w ∧ Bd 1000000 p.2 := by
  obtain ⟨t, h1, h2⟩ := near_mem.mp hp
  have k := h t h1
  rcases h2 with ⟨_, rfl⟩ | ⟨_, rfl⟩
  · exact ⟨k.v, k.len, k.bd⟩
  · exact ⟨k.u, (neg_len _).trans k.len, neg_bd k.bd⟩
/-- the cells: lengths and numbers -/
def val (i : Nat) (rs : List Rnd) : Int := (rs.map fun r => r.1 * tot i r.2).sum
end Lw

set_option maxHeartbeats 990000
open L2 PySem PySem.Spec PyProof.Rows Fm
namespace Lw
open L2 PySem PySem.Spec PyProof.Rows Fm
section
variable {w : Nat} {N : List Str} {ts : List Tie} {m : List (Key × D)} {b : Bool}
theorem MOk.tk (M : MOk w N m ts) : ∀ t ∈ ts, TOk w N t := fun t h => (M.ties.tie t h).1
theorem near_strs (M : MOk w N m ts) (n : Str) : ∀ p ∈ nearL ts n, PyData.strOk p.1 = true := fun t h => by
  unfold nearL at h
  rcases in_app h with z | z
  · obtain ⟨t0, h0, rfl⟩ := List.mem_map.mp z
    exact (M.nm _ (M.tk t0 (List.mem_filter.mp h0).1).v).ok
  · obtain ⟨t0, h0, rfl⟩ := List.mem_map.mp z
    exact (M.nm _ (M.tk t0 (List.mem_filter.mp h0).1).u).ok
theorem lnear_ok (M : MOk w N m ts) {n : Str} (hn : n ∈ N) : Fw (f__law_near [.va (dM w m b ts), .va (.str n)]) (fun r o => r = .ow (.lst false ((near ts n).map dP)) ∧ o = [.un, .un]) NoX := by
  have on := (M.nm n hn).ok
  have w3 := M.wl
  have tl := M.tlen
  refine fw_run rfl ?_
  refine w_sseq ?_
  refine w_mid (q := fun f ρ => f = .nx ∧ ρ = [.va (dM w m b ts), .va (.str n), .ow (.lst false (((ts.filter fun t => decide (t.1 = n)).map fun t => (t.2.1, t.2.2)).map dP)), .un, .un, .un]) ?_ ?_
  · walk_at "own6"
    refine w_lcFG dT (fun t => decide (t.1 = n)) (fun t => dP (t.2.1, t.2.2)) (fun t ht => ?_) (by simpa using (show ts.length ≤ 1000000 by omega)) ?_
    · refine ⟨_, rfl, ?_⟩
      walk_at "own6"
      · refine ⟨rfl, fun _ => ?_, fun _ => rfl⟩
        walk_at "own6"
        exact ⟨rfl, rfl⟩
      · exact (M.nm _ (M.tk t ht).u).ok
      · exact on
    · walk_at "own6"
      refine ⟨rfl, ?_⟩
      rw [List.nil_append, List.map_map]
      rfl
  rintro _ _ ⟨rfl, rfl⟩
  walk_at "own6"
  refine w_lcFG dT (fun t => decide (t.2.1 = n)) (fun t => dP (t.1, neg t.2.2)) (fun t ht => ?_) (by simpa using (show ts.length ≤ 1000000 by omega)) ?_
  · have hk := M.tk t ht
    refine ⟨_, rfl, ?_⟩
    walk_at "own6"
    · refine ⟨rfl, fun _ => ?_, fun _ => rfl⟩
      walk_at "own6"
      refine fw_mono (lturned_ok (by rw [hk.len]; omega)) ?_
      rintro r o ⟨rfl, rfl⟩
      walk_at "own6"
      exact ⟨rfl, rfl⟩
    · exact (M.nm _ hk.v).ok
    · exact on
  · have el : List.map dP (List.map (fun t => (t.2.1, t.2.2)) (List.filter (fun t => decide (t.1 = n)) ts)) ++ ([] ++ List.map (fun t : Tie => dP (t.1, neg t.2.2)) (List.filter (fun t => decide (t.2.1 = n)) ts)) = (nearL ts n).map dP := by
      unfold nearL
      rw [List.nil_append, List.map_append, List.map_map, List.map_map]
      rfl
    walk_at "own6"
    · refine o_sort3L ?_ ?_
      · rw [el, srtD_map]
        walk_at "own6"
        exact ⟨rfl, rfl⟩
      · rw [el]
        exact sortB_P (near_strs M n)
    · rw [List.nil_append, List.length_map, List.length_map, List.length_map]
      have a := List.length_filter_le (fun t : Tie => decide (t.1 = n)) ts
      have c := List.length_filter_le (fun t : Tie => decide (t.2.1 = n)) ts
      omega
/-- of no things: a list beside the empty one -/
theorem peq_nil {α : Type} {f : α → D} (l : List α) (x y : Bool) : peq (.lst x (l.map f)) (.lst y []) = l.isEmpty := by
  cases l <;> rfl
end
end Lw

set_option maxHeartbeats 990000
open L2 PySem PySem.Spec PyProof.Rows Fm
namespace Lw
open L2 PySem PySem.Spec PyProof.Rows Fm
theorem atI_last {α : Type} (l : List α) (x : α) : atI (l ++ [x]) (-1) = some x := by
  unfold atI
  have e : ixN (l ++ [x]).length (-1) = some l.length := by
    unfold ixN
    rw [if_neg (by omega), List.length_append, List.length_singleton, if_pos (by omega)]
    congr 1
    omega
  rw [e]
  show (l ++ [x])[l.length]? = some x
  rw [List.getElem?_append_right (Nat.le_refl _), Nat.sub_self]
  rfl
section
variable {w : Nat} {N : List Str} {ts : List Tie} {m : List (Key × D)} {b : Bool}
end
section
variable {w : Nat} {N : List Str} {ts : List Tie} {m : List (Key × D)} {b : Bool} {p : D}
theorem pnear_ok (P : POk w N m ts p) {s : Str} (hs : s ∈ N) : Fw (f_Pattern_near [.va p, .va (.str s)]) (fun r o => r = .ow (.lst false ((near ts s).map dP))) NoX := by
  obtain ⟨dy, at_, rfl, h1, h2⟩ := P.ex
  refine fw_run rfl ?_
  refine w_sseq ?_
  refine w_mid (q := fun f ρ => f = .nx ∧ ρ = [.va (dPat w dy ts at_), .va (.str s)]) ?_ ?_
  · walk_at "own2"
    refine ⟨rfl, ?_⟩
    walk_at "own2"
    refine fw_mono (need_ok rfl (h1 s hs)) ?_
    rintro r o rfl
    exact ⟨rfl, rfl⟩
  rintro _ _ ⟨rfl, rfl⟩
  walk_at "own2"
  refine ⟨_, _, _, rfl, rfl, ?_⟩
  walk_at "own2"
  refine o_ix3D (show (keyOf (.str s)).bind (getK at_) = some _ from h2 s hs) ?_
  walk_at "own2"
  rfl
theorem st_dP_at {st : List Stp} {i : Nat} {d : D} (h : (st.map dP)[i]? = some d) : ∃ q, st[i]? = some q ∧ d = dP q := by
  rw [List.getElem?_map] at h
  obtain ⟨q, e, rfl⟩ := Option.map_eq_some_iff.mp h
  exact ⟨q, e, rfl⟩
end
end Lw

set_option maxHeartbeats 990000
open L2 PySem PySem.Spec PyProof.Rows Fm
namespace Lw
open L2 PySem PySem.Spec PyProof.Rows Fm
section
variable {w : Nat} {N : List Str} {ts : List Tie} {m : List (Key × D)} {b : Bool}
theorem ladded_ok {a c : Vec} (h : a.length = c.length) (hs : a.length ≤ 1000) : Fw (f__law_added [.va (dV a), .va (dV c)]) (fun r o => r = .va (dV (plus a c)) ∧ o = [.un, .un]) NoX := by
  refine fw_run rfl ?_
  walk_at "own3"
  refine ⟨by rw [List.length_map]; omega, ?_⟩
  have hlen : (((a.map D.int).length : Nat) : Int).toNat = a.length := by rw [List.length_map, Int.toNat_natCast]
  rw [hlen]
  refine w_lcG (L := plus a c) (m := D.int) (by rw [rngD_len, plus_len h]) (fun i d x hd hx => ?_) (by rw [rngD_len]; omega) ?_
  · obtain ⟨hi, rfl⟩ := rng_eq hd
    obtain ⟨p, hp⟩ := get_some (l := a) hi
    obtain ⟨q, hq⟩ := get_some (l := c) (show i < c.length by omega)
    have e : (plus a c)[i]? = some (p + q) := by
      unfold plus
      rw [List.getElem?_zipWith, hp, hq]
    rw [e] at hx
    cases hx
    refine ⟨_, rfl, ?_⟩
    walk_at "own3"
    refine o_ix3T (show atI (a.map D.int) (i : Int) = some (D.int p) by rw [Fm.atI_nat, List.getElem?_map, hp]; rfl) ?_
    walk_at "own3"
    refine o_ix3T (show atI (c.map D.int) (i : Int) = some (D.int q) by rw [Fm.atI_nat, List.getElem?_map, hq]; rfl) ?_
    walk_at "own3"
    exact ⟨rfl, rfl⟩
  · walk_at "own3"
    exact ⟨rfl, rfl⟩
end
end Lw

set_option maxHeartbeats 990000
open L2 PySem PySem.Spec PyProof.Rows Fm
namespace Lw
open L2 PySem PySem.Spec PyProof.Rows Fm
theorem same_seq {n : Nat} {l : List D} {d : D} (hd : d = .tup l ∨ ∃ b, d = .lst b l) (hl : l.length ≤ 100000) (ih : ∀ e ∈ l, Fw (f__law_same n [.va e, .va e]) (fun r o => r = .va (.bl true) ∧ o = [.un, .un]) NoX) : Fw (f__law_same (n + 1) [.va d, .va d]) (fun r o => r = .va (.bl true) ∧ o = [.un, .un]) NoX := by
  rcases hd with rfl | ⟨b, rfl⟩
  all_goals
    refine fw_run rfl ?_
    walk_at "own"
    refine ⟨small_len hl, ?_⟩
    refine w_lcG (L := List.replicate l.length true) (m := D.bl) (by rw [List.length_replicate, rngD_len, Int.toNat_natCast]) (fun i d c hd hc => ?_) (by rw [rngD_len, Int.toNat_natCast]; omega) ?_
    · obtain ⟨hi, rfl⟩ := rng_eq hd
      have hc2 := List.eq_of_mem_replicate (List.mem_of_getElem? hc)
      subst hc2
      obtain ⟨x, ex⟩ := get_some (l := l) hi
      have ax : atI l (i : Int) = some x := by rw [Fm.atI_nat, ex]
      refine ⟨_, rfl, ?_⟩
      walk_at "own"
      first | refine o_ix3T ax ?_ | refine o_ix3L ax ?_
      walk_at "own"
      first | refine o_ix3T ax ?_ | refine o_ix3L ax ?_
      walk_at "own"
      refine fw_mono (ih x (List.mem_of_getElem? ex)) ?_
      rintro res o ⟨rfl, rfl⟩
      walk_at "own"
      exact ⟨rfl, rfl⟩
    · walk_at "own"
      refine ⟨?_, rfl⟩
      rw [all_true]
theorem same_ok : ∀ (n : Nat) (d : D), okT n d = true → Fw (f__law_same (n + 1) [.va d, .va d]) (fun r o => r = .va (.bl true) ∧ o = [.un, .un]) NoX
  | n, .non, _ => by
    refine fw_run rfl ?_
    walk_at "own"
    exact ⟨rfl, rfl⟩
  | n, .bl b, _ => by
    refine fw_run rfl ?_
    walk_at "own"
    exact ⟨by simp, rfl⟩
  | n, .int b, _ => by
    refine fw_run rfl ?_
    walk_at "own"
    exact ⟨by simp, rfl⟩
  | 0, .tup l, h => by cases h
  | 0, .lst b l, h => by cases h
  | n + 1, .tup l, h => by
    obtain ⟨h1, h2⟩ := Bool.and_eq_true_iff.mp (show (decide (l.length ≤ 100000) && l.all (okT n)) = true from h)
    exact same_seq (.inl rfl) (of_decide_eq_true h1) fun e he => same_ok n e (List.all_eq_true.mp h2 e he)
  | n + 1, .lst b l, h => by
    obtain ⟨h1, h2⟩ := Bool.and_eq_true_iff.mp (show (decide (l.length ≤ 100000) && l.all (okT n)) = true from h)
    exact same_seq (.inr ⟨b, rfl⟩) (of_decide_eq_true h1) fun e he => same_ok n e (List.all_eq_true.mp h2 e he)
  | n, .str s, h => by
    have h : PyData.strOk s = true := by
      unfold okT at h
      exact h
    refine fw_run rfl ?_
    walk_at "own"
    · refine ⟨?_, rfl⟩
      rw [decide_eq_true rfl]
    · exact h
    · exact h
  | n, .dk _ _, h => by cases n <;> cases h
  | n, .ins _ _ _, h => by cases n <;> cases h
  | n, .ty _, h => by cases n <;> cases h
  | n, .adr _, h => by cases n <;> cases h
  | n, .scr _, h => by cases n <;> cases h
/-- two sequences, one beside the other -/
theorem same_seq2 {n : Nat} {l m : List D} {d e : D} (hd : (d = .tup l ∧ e = .tup m) ∨ ∃ b c, d = .lst b l ∧ e = .lst c m) (hl : l.length = m.length) (hs : m.length ≤ 100000) (ih : ∀ (i : Nat) (x y : D), l[i]? = some x → m[i]? = some y → Fw (f__law_same n [.va x, .va y]) (fun r o => r = .va (.bl true) ∧ o = [.un, .un]) NoX) :
    Fw (f__law_same (n + 1) [.va d, .va e]) (fun r o => r = .va (.bl true) ∧ o = [.un, .un]) NoX := by
  rcases hd with ⟨rfl, rfl⟩ | ⟨b, c, rfl, rfl⟩
  all_goals
    refine fw_run rfl ?_
    walk_at "own"
    rw [hl]
    walk_at "own"
    refine ⟨small_len hs, ?_⟩
    refine w_lcG (L := List.replicate m.length true) (m := D.bl) (by rw [List.length_replicate, rngD_len, Int.toNat_natCast]) (fun i d c hd hc => ?_) (by rw [rngD_len, Int.toNat_natCast]; omega) ?_
    · obtain ⟨hi, rfl⟩ := rng_eq hd
      have hc2 := List.eq_of_mem_replicate (List.mem_of_getElem? hc)
      subst hc2
      have hi : i < m.length := by rw [Int.toNat_natCast] at hi; exact hi
      obtain ⟨y, ey⟩ := get_some (l := m) hi
      obtain ⟨x, ex⟩ := get_some (l := l) (by rw [hl]; exact hi)
      have ax : atI l (i : Int) = some x := by rw [Fm.atI_nat, ex]
      have ay : atI m (i : Int) = some y := by rw [Fm.atI_nat, ey]
      refine ⟨_, rfl, ?_⟩
      walk_at "own"
      first | refine o_ix3T ax ?_ | refine o_ix3L ax ?_
      walk_at "own"
      first | refine o_ix3T ay ?_ | refine o_ix3L ay ?_
      walk_at "own"
      refine fw_mono (ih i x y ex ey) ?_
      rintro res o ⟨rfl, rfl⟩
      walk_at "own"
      exact ⟨rfl, rfl⟩
    · walk_at "own"
      refine ⟨?_, rfl⟩
      rw [all_true]
end Lw

set_option maxHeartbeats 990000
open L2 PySem PySem.Spec PyProof.Rows Fm
local macro_rules | `(tactic| walk_at "own12") => `(tactic| (repeat (first | ((with_reducible refine kE ?_); first | ((with_reducible apply w_var); · exact rfl) | ((with_reducible apply w_varO); · exact rfl) | (with_reducible refine w_op ?_) | (with_reducible refine w_c ?_) | ((with_reducible apply w_sub3V); · exact rfl) | ((with_reducible apply w_sub3L); · exact rfl) | (with_reducible refine w_call ?_) | ((with_reducible apply w_mov); · exact rfl) | ((with_reducible apply w_movO); · exact rfl) | (with_reducible refine w_tup ?_) | (with_reducible refine w_cb ?_) | ((with_reducible apply w_varD); · exact rfl) | (with_reducible refine w_meth ?_) | (with_reducible refine w_fld ?_) | (with_reducible refine w_lc ?_) | (with_reducible refine w_sl ?_) | (with_reducible refine w_un ?_) | (with_reducible refine w_lst ?_) | (with_reducible refine w_dnew ?_) | (with_reducible refine w_andV ?_) | (with_reducible refine w_orV ?_) | (with_reducible refine w_notV ?_) | (with_reducible refine w_ife ?_) | ((with_reducible apply w_app); · exact rfl) | (with_reducible refine w_make ?_) | ((with_reducible apply w_subV); · exact rfl) | ((with_reducible apply w_subO); · exact rfl) | (with_reducible refine w_chain ?_) | (with_reducible refine w_chK ?_) | (with_reducible refine w_m1 ?_) | ((with_reducible apply w_mLk); · exact rfl) | ((with_reducible apply w_dpop); · exact rfl) | ((with_reducible apply w_dpop1); · exact rfl) | ((with_reducible apply w_stP); · exact (rfl : _ = [_, _, _, _, _, _, _, _, _, _, _, _])) | ((with_reducible apply w_stS); · exact (rfl : _ = [_, _, _, _, _, _, _, _, _, _, _, _])) | ((with_reducible apply w_stA); · exact (rfl : _ = [_, _, _, _, _, _, _, _, _, _, _, _]))) | ((with_reducible refine kD ?_); first | ((with_reducible apply w_stP); · exact (rfl : _ = [_, _, _, _, _, _, _, _, _, _, _, _])) | ((with_reducible apply w_stS); · exact (rfl : _ = [_, _, _, _, _, _, _, _, _, _, _, _])) | ((with_reducible apply w_stA); · exact (rfl : _ = [_, _, _, _, _, _, _, _, _, _, _, _])) | (with_reducible refine w_fz ?_) | (with_reducible refine w_fzV ?_) | (with_reducible refine w_fzL ?_) | (with_reducible refine w_fzD ?_)) | ((with_reducible refine kS ?_); first | ((with_reducible apply w_stP); · exact (rfl : _ = [_, _, _, _, _, _, _, _, _, _, _, _])) | ((with_reducible apply w_stS); · exact (rfl : _ = [_, _, _, _, _, _, _, _, _, _, _, _])) | ((with_reducible apply w_stA); · exact (rfl : _ = [_, _, _, _, _, _, _, _, _, _, _, _])) | (with_reducible refine w_sseq ?_) | (with_reducible refine w_set ?_) | (with_reducible refine w_if ?_) | (with_reducible refine w_ret ?_) | (with_reducible refine w_nx ?_) | (with_reducible refine w_drop ?_) | (with_reducible refine w_for ?_) | (with_reducible refine w_put3L ?_) | (with_reducible refine w_asg ?_) | (with_reducible refine w_par ?_) | (with_reducible refine w_retN ?_) | (with_reducible refine w_par3 ?_) | (with_reducible refine w_put ?_) | (with_reducible refine w_ex ?_) | (with_reducible refine w_ex1 ?_) | (with_reducible refine w_tryF ?_) | ((with_reducible apply w_sLk); · exact rfl)) | ((with_reducible refine kO ?_); first | ((with_reducible refine kEq ?_); first | (with_reducible refine o_eqI ?_) | (with_reducible refine o_eqStr ?_ ?_ ?_) | (with_reducible refine o_eqB ?_)) | ((with_reducible refine kNe ?_); first | (with_reducible refine o_neI ?_) | (with_reducible refine o_neStr ?_ ?_ ?_) | (with_reducible refine o_neB ?_)) | ((with_reducible refine kAd ?_); first | (with_reducible refine o_add3I ?_) | (with_reducible refine o_add3L ?_ ?_) | (with_reducible refine o_add3S ?_ ?_) | (with_reducible refine o_add3T ?_ ?_)) | ((with_reducible refine kLn ?_); first | (with_reducible refine o_len3L ?_) | (with_reducible refine o_len3T ?_) | (with_reducible refine o_len3D ?_) | (with_reducible refine o_len3S ?_ ?_)) | ((with_reducible refine kIs ?_); first | (with_reducible refine o_isnN ?_) | (with_reducible refine o_isnK ?_) | (with_reducible refine o_isnS2 ?_) | (with_reducible refine o_isnI ?_) | (with_reducible refine o_isnB ?_) | (with_reducible refine o_isnS ?_) | (with_reducible refine o_isnT ?_) | (with_reducible refine o_isnL ?_)) | ((with_reducible refine kNt ?_); first | (with_reducible refine o_ntnN ?_) | (with_reducible refine o_ntnI ?_) | (with_reducible refine o_ntnT ?_) | (with_reducible refine o_ntnL ?_)) | ((with_reducible apply o_ix3T); · exact rfl) | ((with_reducible apply o_ix3L); · exact rfl) | (with_reducible refine o_lt ?_) | (with_reducible refine o_gt ?_) | (with_reducible refine o_sub ?_) | (with_reducible refine o_mul ?_ ?_) | (with_reducible refine o_tupT ?_) | (with_reducible refine o_tupL ?_) | ((with_reducible refine o_isi0 ?_); first | refine o_isI kit_int_int rfl ?_ | refine o_isI kit_int_bool rfl ?_ | refine o_isI kit_int_tuple rfl ?_ | refine o_isI kit_int_list rfl ?_ | refine o_isI kit_int_dict rfl ?_ | refine o_isI kit_bool_bool rfl ?_ | refine o_isI kit_bool_int rfl ?_ | refine o_isI kit_bool_tuple rfl ?_ | refine o_isI kit_bool_list rfl ?_ | refine o_isI kit_str_bool rfl ?_ | refine o_isI kit_str_int rfl ?_ | refine o_isI kit_tuple_bool rfl ?_ | refine o_isI kit_tuple_int rfl ?_ | refine o_isI kit_tuple_tuple rfl ?_ | refine o_isI kit_tuple_list rfl ?_ | refine o_isI kit_tuple_dict rfl ?_ | refine o_isI kit_list_bool rfl ?_ | refine o_isI kit_list_int rfl ?_ | refine o_isI kit_list_tuple rfl ?_ | refine o_isI kit_list_list rfl ?_ | refine o_isI kit_list_dict rfl ?_ | refine o_isI kit_non_bool rfl ?_ | refine o_isI kit_non_tuple rfl ?_ | refine o_isI kit_non_int rfl ?_ | refine o_isI kit_non_list rfl ?_ | refine o_isI kit_non_dict rfl ?_ | refine o_isI kit_dict_bool rfl ?_ | refine o_isI kit_dict_int rfl ?_ | refine o_isI kit_dict_tuple rfl ?_ | refine o_isI kit_dict_list rfl ?_ | refine o_isI kit_dict_dict rfl ?_) | (with_reducible refine o_le ?_) | (with_reducible refine o_ge ?_) | (with_reducible refine o_mod ?_ ?_) | (with_reducible refine o_div ?_ ?_) | (with_reducible refine o_neg ?_) | (with_reducible refine o_abs ?_) | (with_reducible refine o_listT ?_) | (with_reducible refine o_listL ?_) | (with_reducible refine o_all ?_) | (with_reducible refine o_any ?_) | ((with_reducible apply o_ixT); · exact rfl) | ((with_reducible apply o_ixL); · exact rfl) | (with_reducible refine o_slS ?_) | (with_reducible refine o_slL ?_) | (with_reducible refine o_slT ?_) | (with_reducible refine o_slStr ?_ ?_) | (with_reducible refine o_nin3S ?_) | (with_reducible refine o_in3S ?_) | (with_reducible refine o_pow ?_ ?_) | (with_reducible refine o_intB ?_) | ((with_reducible refine o_isit0 ?_); first | refine o_isT kits_int rfl ?_ | refine o_isT kits_str rfl ?_ | refine o_isT kits_tuple rfl ?_ | refine o_isT kits_list rfl ?_ | refine o_isT kits_dict rfl ?_ | refine o_isT kits_non rfl ?_) | (with_reducible refine o_dict3D ?_) | (with_reducible refine o_add ?_) | (with_reducible refine o_addStr ?_ ?_) | (with_reducible refine o_addL ?_ ?_) | (with_reducible refine o_inS ?_) | (with_reducible refine o_ninS ?_) | (with_reducible refine o_inL ?_ ?_) | (with_reducible refine o_split ?_ ?_ ?_) | (with_reducible refine o_part ?_ ?_ ?_) | (with_reducible refine o_join ?_ ?_) | (with_reducible refine o_strI ?_ ?_) | (with_reducible refine o_len ?_) | (with_reducible refine o_lenL ?_) | (with_reducible refine o_lenStr ?_ ?_) | (with_reducible refine o_upper ?_ ?_) | (with_reducible refine o_isC1 ?_)) | ((with_reducible refine kAn ?_); first | (with_reducible refine br_t ?_) | (with_reducible refine br_f ?_) | (with_reducible refine br_nt ?_) | (with_reducible refine br_nf ?_) | (with_reducible refine br_d ?_) | (with_reducible refine br_e ?_) | ((with_reducible apply br_T); · exact rfl) | ((with_reducible apply br_F); · exact rfl) | ((with_reducible apply x_len); · exact Nat.le_of_ble_eq_true rfl) | ((with_reducible apply x_is); · exact rfl) | ((with_reducible apply x_call0); (· exact List.nodup_nil); · exact rfl) | ((with_reducible apply x_call0); (· exact nd1 _); · exact rfl)) | ((with_reducible refine kL ?_); first | (with_reducible refine w_cons ?_) | (with_reducible refine w_nil ?_) | (with_reducible refine w_seqX ?_) | (with_reducible refine w_rng1 ?_) | (with_reducible refine w_zip ?_) | (with_reducible refine w_rng2 ?_) | (with_reducible refine w_en ?_) | (with_reducible refine w_rvr ?_) | (with_reducible refine w_en3 ?_) | (with_reducible refine w_rvl3 ?_) | ((with_reducible apply w_iKy); · exact rfl) | ((with_reducible apply w_stP); · exact (rfl : _ = [_, _, _, _, _, _, _, _, _, _, _, _])) | ((with_reducible apply w_stS); · exact (rfl : _ = [_, _, _, _, _, _, _, _, _, _, _, _])) | ((with_reducible apply w_stA); · exact (rfl : _ = [_, _, _, _, _, _, _, _, _, _, _, _]))) | ((with_reducible refine kB ?_); first | (with_reducible refine w_tst ?_) | (with_reducible refine w_not ?_) | (with_reducible refine w_andT ?_) | (with_reducible refine w_orT ?_)) | ((with_reducible refine kA ?_); first | ((with_reducible apply w_stP); · exact (rfl : _ = [_, _, _, _, _, _, _, _, _, _, _, _])) | ((with_reducible apply w_stS); · exact (rfl : _ = [_, _, _, _, _, _, _, _, _, _, _, _])) | ((with_reducible apply w_stA); · exact (rfl : _ = [_, _, _, _, _, _, _, _, _, _, _, _])) | (with_reducible refine w_ava ?_) | (with_reducible refine w_anil ?_) | ((with_reducible apply w_asl); · exact rfl) | (with_reducible refine w_aapp ?_)) | ((with_reducible refine kEx ?_); first | ((with_reducible apply x_one); · exact rfl) | ((with_reducible apply x_two); · exact rfl) | ((with_reducible apply x_put); (· exact rfl); (· exact rfl); · exact rfl)) | (with_reducible refine w_pn ?_) | (with_reducible refine w_ps ?_) | (with_reducible refine w_mw ?_) | (with_reducible refine o_enL ?_) | (with_reducible refine o_enT ?_) | (with_reducible refine o_rvL ?_))))
namespace Lw
open L2 PySem PySem.Spec PyProof.Rows Fm
/-! ### spreading, as lists -/
def nbr (ts : List Tie) (k : Stp) : List Stp := (near ts k.1).map fun q => (q.1, plus k.2 q.2)
def addN (s : List Stp × List Stp) (k : Stp) : List Stp × List Stp := if k ∈ s.1 then s else (s.1 ++ [k], s.2 ++ [k])
abbrev addL (s : List Stp × List Stp) (l : List Stp) : List Stp × List Stp := l.foldl addN s
def addR (ts : List Tie) (s : List Stp × List Stp) (l : List Stp) : List Stp × List Stp := l.foldl (fun s k => addL s (nbr ts k)) s
structure Cir where
  F : List Stp
  R : List (List Stp)
  G : List Stp
def Cir.next (ts : List Tie) (z : Cir) : Cir := ⟨(addR ts (z.F, []) z.G).1, z.R ++ [z.G], (addR ts (z.F, []) z.G).2⟩
def circ (ts : List Tie) (k : Stp) : Nat → Cir
  | 0 => ⟨[k], [], [k]⟩
  | n + 1 => (circ ts k n).next ts
abbrev Cir.all (z : Cir) : List (List Stp) := z.R ++ [z.G]
abbrev dG (r : List Stp) : D := .lst false (r.map dP)
theorem circ_len (ts : List Tie) (k : Stp) : ∀ n, (circ ts k n).R.length = n
  | 0 => rfl
  | n + 1 => by
    show ((circ ts k n).R ++ [_]).length = n + 1
    rw [List.length_append, circ_len ts k n]
    rfl
theorem circ_take (ts : List Tie) (k : Stp) (n : Nat) : ∀ m, n ≤ m → (circ ts k m).all.take (n + 1) = (circ ts k n).all
  | 0, h => by
    obtain rfl : n = 0 := by omega
    rfl
  | m + 1, h => by
    by_cases e : n = m + 1
    · subst e
      exact List.take_of_length_le (by rw [List.length_append, circ_len]; exact Nat.le_refl _)
    · rw [← circ_take ts k n m (by omega)]
      show (((circ ts k m).R ++ [(circ ts k m).G]) ++ [_]).take (n + 1) = _
      exact List.take_append_of_le_length (by rw [List.length_append, circ_len]; show n + 1 ≤ m + 1; omega)
/-- a knot of this pattern -/
structure Gd (w : Nat) (N : List Str) (k : Stp) : Prop where
  nN : k.1 ∈ N
  len : k.2.length = w
section
variable {w : Nat} {N : List Str} {ts : List Tie} {m : List (Key × D)}
theorem addL_good : ∀ {l : List Stp} {s : List Stp × List Stp}, (∀ k ∈ l, Gd w N k) → (∀ k ∈ s.1, Gd w N k) ∧ (∀ k ∈ s.2, Gd w N k) → (∀ k ∈ (addL s l).1, Gd w N k) ∧ ∀ k ∈ (addL s l).2, Gd w N k
  | [], _, _, h => h
  | a :: l, s, hl, h => addL_good (l := l) (s := addN s a) (fun k hk => hl k (List.mem_cons_of_mem _ hk)) (by
    unfold addN
    split
    · exact h
    · refine ⟨fun k hk => ?_, fun k hk => ?_⟩
      · rcases in_app hk with z | z
        · exact h.1 k z
        · rw [in_one z]
          exact hl a (List.mem_cons_self ..)
      · rcases in_app hk with z | z
        · exact h.2 k z
        · rw [in_one z]
          exact hl a (List.mem_cons_self ..))
theorem addL_len : ∀ (l : List Stp) (s : List Stp × List Stp), (addL s l).1.length ≤ s.1.length + l.length ∧ (addL s l).2.length ≤ s.2.length + l.length
  | [], _ => And.intro (Nat.le_refl _) (Nat.le_refl _)
  | a :: l, s => by
    have h := addL_len l (addN s a)
    have e : (addN s a).1.length ≤ s.1.length + 1 ∧ (addN s a).2.length ≤ s.2.length + 1 := by
      unfold addN
      split
      · exact ⟨Nat.le_succ _, Nat.le_succ _⟩
      · exact ⟨by rw [List.length_append]; exact Nat.le_refl _, by rw [List.length_append]; exact Nat.le_refl _⟩
    refine ⟨Nat.le_trans h.1 ?_, Nat.le_trans h.2 ?_⟩
    · rw [List.length_cons]; omega
    · rw [List.length_cons]; omega
theorem nbr_good (M : MOk w N m ts) {k : Stp} (h : Gd w N k) : ∀ q ∈ nbr ts k, Gd w N q := fun q hq => by
  obtain ⟨x, hx, rfl⟩ := List.mem_map.mp hq
  have qk := near_ok M.tk hx
  exact ⟨qk.1, (plus_len (h.len.trans qk.2.1.symm)).trans h.len⟩
theorem nearL_len2 (ts : List Tie) (n : Str) : (near ts n).length ≤ 2 * ts.length := by
  unfold near
  rw [(srtF_perm dP (nearL ts n)).length_eq]
  unfold nearL
  rw [List.length_append, List.length_map, List.length_map]
  have h1 := List.length_filter_le (fun t => decide (t.1 = n)) ts
  have h2 := List.length_filter_le (fun t => decide (t.2.1 = n)) ts
  omega
theorem nbr_len (h4 : ts.length ≤ 4) (k : Stp) : (nbr ts k).length ≤ 8 := by
  unfold nbr
  rw [List.length_map]
  have := nearL_len2 ts k.1
  omega
theorem addR_good (M : MOk w N m ts) : ∀ {l : List Stp} {s : List Stp × List Stp}, (∀ k ∈ l, Gd w N k) → (∀ k ∈ s.1, Gd w N k) ∧ (∀ k ∈ s.2, Gd w N k) → (∀ k ∈ (addR ts s l).1, Gd w N k) ∧ ∀ k ∈ (addR ts s l).2, Gd w N k
  | [], _, _, h => h
  | a :: l, s, hl, h => addR_good M (l := l) (s := addL s (nbr ts a)) (fun k hk => hl k (List.mem_cons_of_mem _ hk)) (addL_good (nbr_good M (hl a (List.mem_cons_self ..))) h)
theorem addR_len (h4 : ts.length ≤ 4) : ∀ (l : List Stp) (s : List Stp × List Stp), (addR ts s l).1.length ≤ s.1.length + 8 * l.length ∧ (addR ts s l).2.length ≤ s.2.length + 8 * l.length
  | [], _ => And.intro (Nat.le_refl _) (Nat.le_refl _)
  | a :: l, s => by
    have h := addR_len h4 l (addL s (nbr ts a))
    have e := addL_len (nbr ts a) s
    have n := nbr_len h4 a
    refine ⟨Nat.le_trans h.1 ?_, Nat.le_trans h.2 ?_⟩
    · rw [List.length_cons]; omega
    · rw [List.length_cons]; omega
theorem circ_good (M : MOk w N m ts) {k : Stp} (h : Gd w N k) : ∀ n, (∀ q ∈ (circ ts k n).F, Gd w N q) ∧ (∀ q ∈ (circ ts k n).G, Gd w N q) ∧ ∀ r ∈ (circ ts k n).R, ∀ q ∈ r, Gd w N q
  | 0 => ⟨fun q hq => by rw [in_one hq]; exact h, fun q hq => by rw [in_one hq]; exact h, fun r hr => by cases hr⟩
  | n + 1 => by
    have ih := circ_good M h n
    have z := addR_good M (l := (circ ts k n).G) (s := ((circ ts k n).F, [])) ih.2.1 ⟨ih.1, fun q hq => by cases hq⟩
    refine ⟨z.1, z.2, fun r hr => ?_⟩
    rcases in_app hr with y | y
    · exact ih.2.2 r y
    · rw [in_one y]
      exact ih.2.1
theorem circ_sz (h4 : ts.length ≤ 4) (k : Stp) : ∀ n, (circ ts k n).G.length ≤ 8 ^ n ∧ (circ ts k n).F.length ≤ 8 ^ (n + 1)
  | 0 => ⟨Nat.le_refl 1, by show 1 ≤ 8 ^ 1; decide⟩
  | n + 1 => by
    have ih := circ_sz h4 k n
    have z := addR_len h4 (circ ts k n).G ((circ ts k n).F, [])
    have e1 : 8 ^ (n + 1) = 8 * 8 ^ n := by rw [Nat.pow_succ]; omega
    have e2 : 8 ^ (n + 2) = 64 * 8 ^ n := by rw [Nat.pow_succ, Nat.pow_succ]; omega
    refine ⟨Nat.le_trans z.2 ?_, Nat.le_trans z.1 ?_⟩
    · rw [e1, List.length_nil]; omega
    · rw [e2]
      have : (circ ts k n).F.length ≤ 8 * 8 ^ n := by rw [← e1]; exact ih.2
      show (circ ts k n).F.length + 8 * (circ ts k n).G.length ≤ 64 * 8 ^ n
      omega
theorem addL_take {s : List Stp × List Stp} {l : List Stp} {i : Nat} {q : Stp} (h : l[i]? = some q) : addL s (l.take (i + 1)) = addN (addL s (l.take i)) q := by
  unfold addL
  rw [List.take_add_one, List.foldl_append, h]
  rfl
theorem addR_take {s : List Stp × List Stp} {l : List Stp} {i : Nat} {q : Stp} (h : l[i]? = some q) : addR ts s (l.take (i + 1)) = addL (addR ts s (l.take i)) (nbr ts q) := by
  unfold addR
  rw [List.take_add_one, List.foldl_append, h]
  rfl
theorem nbr_at {k q : Stp} {i : Nat} (h : (near ts k.1)[i]? = some q) : (nbr ts k)[i]? = some (q.1, plus k.2 q.2) := by
  unfold nbr
  rw [List.getElem?_map, h]
  rfl
theorem keyNL_ints : ∀ s : Vec, keyNL 6 (s.map D.int) = true
  | [] => rfl
  | a :: s => keyNL_ints s
theorem ky_P (k : Stp) : kyB (dP k) = true := by
  show (true && (true && (keyNL 6 (k.2.map D.int) && true))) = true
  rw [keyNL_ints]
  rfl
theorem pl_ks (M : MOk w N m ts) {l : List Stp} (h : ∀ q ∈ l, Gd w N q) {x : Bool} {n : Nat} : D.pl (n + 3) (.lst x (l.map dP)) = true := pl_lst fun d hd => by
  obtain ⟨q, hq, rfl⟩ := (List.mem_map.mp hd)
  exact pl_P (M.nm _ (h q hq).nN).ok
end
section
variable {w : Nat} {N : List Str} {ts : List Tie} {m : List (Key × D)} {b : Bool} {p : D}
theorem rings_ok (M : MOk w N m ts) (P : POk w N m ts p) (h4 : ts.length ≤ 4) {k : Stp} (hk : Gd w N k) {n : Nat} (hn : n ≤ 4) : Fw (f_rings [.va p, .va (dP k), .va (.int n)]) (fun r o => r = .ow (.lst false ((circ ts k n).all.map dG))) NoX := by
  have w3 := M.wl
  refine fw_run rfl ?_
  refine w_sseq ?_
  refine w_mid (q := fun f ρ => f = .nx ∧ ρ = [.va p, .va (dP k), .va (.int n), .ow (.scr ([k].map dP)), .un, .un, .un, .un, .un, .un, .un, .un]) ?_ ?_
  · walk_at "own12"
    refine w_nd1 ?_
    walk_at "own12"
    refine ⟨ky_P k, ?_⟩
    walk_at "own12"
    exact ⟨rfl, rfl⟩
  rintro _ _ ⟨rfl, rfl⟩
  refine w_sseq ?_
  refine w_mid (q := fun f ρ => f = .nx ∧ ρ = [.va p, .va (dP k), .va (.int n), .ow (.scr ([k].map dP)), .ow (.lst false ([[k]].map dG)), .un, .un, .un, .un, .un, .un, .un]) ?_ ?_
  · walk_at "own12"
    exact ⟨rfl, rfl⟩
  rintro _ _ ⟨rfl, rfl⟩
  refine w_sseq ?_
  refine w_mid (q := fun f ρ => f = .nx ∧ ∃ (s5 s6 s7 s8 s9 s10 s11 : SD), ρ = [.va p, .va (dP k), .va (.int n), .ow (.scr ((circ ts k n).F.map dP)), .ow (.lst false ((circ ts k n).all.map dG)), s5, s6, s7, s8, s9, s10, s11]) ?_ ?_
  · walk_at "own12"
    refine ⟨by omega, ?_⟩
    refine w_forL (I := fun i ρ => ∃ (s5 s6 s7 s8 s9 s10 s11 : SD), ρ = [.va p, .va (dP k), .va (.int n), .ow (.scr ((circ ts k i).F.map dP)), .ow (.lst false ((circ ts k i).all.map dG)), s5, s6, s7, s8, s9, s10, s11]) ?_ ⟨_, _, _, _, _, _, _, rfl⟩ ?_
    · rintro i d ρ hi ⟨s5, s6, s7, s8, s9, s10, s11, rfl⟩
      obtain ⟨hi4, rfl⟩ := rng_eq hi
      have hi4 : i < n := by omega
      have gd := circ_good M hk i
      have sz := circ_sz h4 k i
      have b5 : 8 ^ (i + 1) ≤ 8 ^ 4 := Nat.pow_le_pow_right (by decide) (by omega)
      have b4 : 8 ^ i ≤ 8 ^ 3 := Nat.pow_le_pow_right (by decide) (by omega)
      have e5 : 8 ^ 4 = 4096 := by decide
      have e4 : 8 ^ 3 = 512 := by decide
      generalize ez : circ ts k i = z at gd sz
      have ez1 : circ ts k (i + 1) = z.next ts := by
        show (circ ts k i).next ts = _
        rw [ez]
      rw [ez1]
      refine ⟨_, rfl, ?_⟩
      refine w_sseq ?_
      refine w_mid (q := fun f ρ => f = .nx ∧ ρ = [.va p, .va (dP k), .va (.int n), .ow (.scr (z.F.map dP)), .ow (.lst false (z.all.map dG)), .va (.int i), .ow (.lst false (([] : List Stp).map dP)), s7, s8, s9, s10, s11]) ?_ ?_
      · walk_at "own12"
        exact ⟨rfl, rfl⟩
      rintro _ _ ⟨rfl, rfl⟩
      refine w_sseq ?_
      refine w_mid (q := fun f ρ => f = .nx ∧ ∃ (s7 s8 s9 s10 s11 : SD), ρ = [.va p, .va (dP k), .va (.int n), .ow (.scr ((addR ts (z.F, []) z.G).1.map dP)), .ow (.lst false (z.all.map dG)), .va (.int i), .ow (.lst false ((addR ts (z.F, []) z.G).2.map dP)), s7, s8, s9, s10, s11]) ?_ ?_
      · walk_at "own12"
        refine o_ix3L (d := dG z.G) (show atI ((z.R ++ [z.G]).map dG) (-1) = _ by rw [List.map_append]; exact atI_last _ _) ?_
        walk_at "own12"
        refine w_forL (I := fun j ρ => ∃ (s7 s8 s9 s10 s11 : SD), ρ = [.va p, .va (dP k), .va (.int n), .ow (.scr ((addR ts (z.F, []) (z.G.take j)).1.map dP)), .ow (.lst false (z.all.map dG)), .va (.int i), .ow (.lst false ((addR ts (z.F, []) (z.G.take j)).2.map dP)), s7, s8, s9, s10, s11]) ?_ ⟨_, _, _, _, _, rfl⟩ ?_
        · rintro j d ρ hj ⟨s7, s8, s9, s10, s11, rfl⟩
          obtain ⟨c, hc, rfl⟩ := st_dP_at hj
          have cg := gd.2.1 c (List.mem_of_getElem? hc)
          have zg := addR_good M (l := z.G.take j) (s := (z.F, [])) (fun q hq => gd.2.1 q (List.mem_of_mem_take hq)) ⟨gd.1, fun q hq => by cases hq⟩
          have zl := addR_len h4 (z.G.take j) (z.F, [])
          have tl : (z.G.take j).length ≤ z.G.length := by rw [List.length_take]; omega
          rw [addR_take hc]
          generalize addR ts (z.F, []) (z.G.take j) = y at zg zl
          refine ⟨_, rfl, ?_⟩
          walk_at "own12"
          obtain ⟨dy, at_, ep, _⟩ := P.ex
          have ep2 : p = .ins false "Pattern" [("ways", .int w), ("dyes", .dk false dy), ("bonds", .lst false (ts.map dT)), ("at", .dk false at_)] := ep
          rw [ep2]
          walk_at "own12"
          refine ⟨rfl, ?_⟩
          walk_at "own12"
          rw [← ep2]
          refine fw_mono (pnear_ok P cg.nN) ?_
          rintro r o rfl
          walk_at "own12"
          refine w_forL (I := fun l ρ => ∃ (s9 s10 s11 : SD), ρ = [.va p, .va (dP k), .va (.int n), .ow (.scr ((addL y ((nbr ts c).take l)).1.map dP)), .ow (.lst false (z.all.map dG)), .va (.int i), .ow (.lst false ((addL y ((nbr ts c).take l)).2.map dP)), .va (.str c.1), .va (dV c.2), s9, s10, s11]) ?_ ⟨_, _, _, rfl⟩ ?_
          · rintro l d ρ hl ⟨s9, s10, s11, rfl⟩
            obtain ⟨q, hq, rfl⟩ := st_dP_at hl
            have hqn := List.mem_of_getElem? hq
            have qk := near_ok M.tk hqn
            have hx := nbr_at hq
            have xg := addL_good (l := (nbr ts c).take l) (s := y) (fun q hq => nbr_good M cg q (List.mem_of_mem_take hq)) zg
            have xl := addL_len ((nbr ts c).take l) y
            have nl := nbr_len h4 c
            have tl2 : ((nbr ts c).take l).length ≤ (nbr ts c).length := by rw [List.length_take]; omega
            rw [addL_take hx]
            generalize addL y ((nbr ts c).take l) = x at xg xl
            have sx : x.1.length ≤ 100000 := by
              have : (z.F, ([] : List Stp)).1.length = z.F.length := rfl
              omega
            have sx2 : x.2.length ≤ 100000 := by
              have : (z.F, ([] : List Stp)).2.length = 0 := rfl
              omega
            refine ⟨_, rfl, ?_⟩
            refine w_sseq ?_
            refine w_mid (q := fun f ρ => f = .nx ∧ ρ = [.va p, .va (dP k), .va (.int n), .ow (.scr (x.1.map dP)), .ow (.lst false (z.all.map dG)), .va (.int i), .ow (.lst false (x.2.map dP)), .va (.str c.1), .va (dV c.2), .va (.str q.1), .va (dV q.2), .va (dP (q.1, plus c.2 q.2))]) ?_ ?_
            · walk_at "own12"
              refine fw_mono (added_ok (cg.len.trans qk.2.1.symm) (by rw [cg.len]; omega)) ?_
              rintro r o ⟨rfl, rfl⟩
              walk_at "own12"
              exact ⟨rfl, rfl⟩
            rintro _ _ ⟨rfl, rfl⟩
            obtain ⟨bb, eb, hb⟩ := any_map dP peq_P (q.1, plus c.2 q.2) x.1
            refine w_if ?_
            refine w_ndN rfl (w_fz (w_var rfl (w_fzV ⟨_, rfl, ky_P (q.1, plus c.2 q.2), ?_⟩)))
            rw [eb]
            unfold addN
            cases bb with
            | true =>
              rw [if_pos (hb.mp rfl)]
              refine ⟨fun z => (by cases z), fun _ => ?_⟩
              walk_at "own12"
              exact ⟨_, _, _, rfl⟩
            | false =>
              rw [if_neg (fun z => by rw [← hb] at z; cases z)]
              refine ⟨fun _ => ?_, fun z => (by cases z)⟩
              refine w_sseq ?_
              refine w_ndP ?_
              walk_at "own12"
              refine ⟨ky_P (q.1, plus c.2 q.2), by rw [List.length_map]; omega, eb, ?_⟩
              walk_at "own12"
              refine ⟨_, _, _, rfl, rfl, by rw [List.length_map]; omega, ?_⟩
              exact ⟨.va (.str q.1), .va (dV q.2), .va (dP (q.1, plus c.2 q.2)), by dsimp only; rw [List.map_append (l₁ := x.1), List.map_append (l₁ := x.2)]; rfl⟩
          · rintro ρ ⟨s9, s10, s11, rfl⟩
            rw [List.length_map, show (near ts c.1).length = (nbr ts c).length from (List.length_map ..).symm, List.take_length]
            exact ⟨_, _, _, _, _, rfl⟩
        · rintro ρ ⟨s7, s8, s9, s10, s11, rfl⟩
          (rw [List.length_map, List.take_length])
          exact ⟨rfl, _, _, _, _, _, rfl⟩
      rintro _ _ ⟨rfl, s7, s8, s9, s10, s11, rfl⟩
      walk_at "own12"
      refine ⟨_, _, _, rfl, rfl, by rw [List.length_map, List.length_append]; have := circ_len ts k i; rw [ez] at this; rw [this]; show i + 1 < _; omega, ?_⟩
      refine ⟨.va (.int i), .va (dG (addR ts (z.F, []) z.G).2), s7, s8, s9, s10, s11, ?_⟩
      show _ = [.va p, .va (dP k), .va (.int n), .ow (.scr ((addR ts (z.F, []) z.G).1.map dP)), .ow (.lst false (((z.R ++ [z.G]) ++ [(addR ts (z.F, []) z.G).2]).map dG)), .va (.int i), .va (dG (addR ts (z.F, []) z.G).2), s7, s8, s9, s10, s11]
      rw [List.map_append (l₁ := z.R ++ [z.G])]
      rfl
    · rintro ρ ⟨s5, s6, s7, s8, s9, s10, s11, rfl⟩
      rw [rngD_len, Int.toNat_natCast]
      exact ⟨rfl, _, _, _, _, _, _, _, rfl⟩
  rintro _ _ ⟨rfl, s5, s6, s7, s8, s9, s10, s11, rfl⟩
  walk_at "own12"
  rfl
end
end Lw

set_option maxHeartbeats 990000
open L2 PySem PySem.Spec PyProof.Rows Fm
namespace Lw
open L2 PySem PySem.Spec PyProof.Rows Fm
section
variable {w : Nat} {N : List Str} {ts : List Tie} {m : List (Key × D)} {b : Bool} {p : D}
theorem lrings_ok (M : MOk w N m ts) (h4 : ts.length ≤ 4) {k : Stp} (hk : Gd w N k) {n : Nat} (hn : n ≤ 4) : Fw (f__law_rings [.va (dM w m b ts), .va (dP k), .va (.int n)]) (fun r o => r = .ow (.lst false ((circ ts k n).all.map dG))) NoX := by
  have w3 := M.wl
  refine fw_run rfl ?_
  refine w_sseq ?_
  refine w_mid (q := fun f ρ => f = .nx ∧ ρ = [.va (dM w m b ts), .va (dP k), .va (.int n), .ow (.lst false ([k].map dP)), .un, .un, .un, .un, .un, .un, .un, .un]) ?_ ?_
  · walk_at "own12"
    exact ⟨rfl, rfl⟩
  rintro _ _ ⟨rfl, rfl⟩
  refine w_sseq ?_
  refine w_mid (q := fun f ρ => f = .nx ∧ ρ = [.va (dM w m b ts), .va (dP k), .va (.int n), .ow (.lst false ([k].map dP)), .ow (.lst false ([[k]].map dG)), .un, .un, .un, .un, .un, .un, .un]) ?_ ?_
  · walk_at "own12"
    exact ⟨rfl, rfl⟩
  rintro _ _ ⟨rfl, rfl⟩
  refine w_sseq ?_
  refine w_mid (q := fun f ρ => f = .nx ∧ ∃ (s5 s6 s7 s8 s9 s10 s11 : SD), ρ = [.va (dM w m b ts), .va (dP k), .va (.int n), .ow (.lst false ((circ ts k n).F.map dP)), .ow (.lst false ((circ ts k n).all.map dG)), s5, s6, s7, s8, s9, s10, s11]) ?_ ?_
  · walk_at "own12"
    refine ⟨by omega, ?_⟩
    refine w_forL (I := fun i ρ => ∃ (s5 s6 s7 s8 s9 s10 s11 : SD), ρ = [.va (dM w m b ts), .va (dP k), .va (.int n), .ow (.lst false ((circ ts k i).F.map dP)), .ow (.lst false ((circ ts k i).all.map dG)), s5, s6, s7, s8, s9, s10, s11]) ?_ ⟨_, _, _, _, _, _, _, rfl⟩ ?_
    · rintro i d ρ hi ⟨s5, s6, s7, s8, s9, s10, s11, rfl⟩
      obtain ⟨hi4, rfl⟩ := rng_eq hi
      have hi4 : i < n := by omega
      have gd := circ_good M hk i
      have sz := circ_sz h4 k i
      have b5 : 8 ^ (i + 1) ≤ 8 ^ 4 := Nat.pow_le_pow_right (by decide) (by omega)
      have b4 : 8 ^ i ≤ 8 ^ 3 := Nat.pow_le_pow_right (by decide) (by omega)
      have e5 : 8 ^ 4 = 4096 := by decide
      have e4 : 8 ^ 3 = 512 := by decide
      generalize ez : circ ts k i = z at gd sz
      have ez1 : circ ts k (i + 1) = z.next ts := by
        show (circ ts k i).next ts = _
        rw [ez]
      rw [ez1]
      refine ⟨_, rfl, ?_⟩
      refine w_sseq ?_
      refine w_mid (q := fun f ρ => f = .nx ∧ ρ = [.va (dM w m b ts), .va (dP k), .va (.int n), .ow (.lst false (z.F.map dP)), .ow (.lst false (z.all.map dG)), .va (.int i), .ow (.lst false (([] : List Stp).map dP)), s7, s8, s9, s10, s11]) ?_ ?_
      · walk_at "own12"
        exact ⟨rfl, rfl⟩
      rintro _ _ ⟨rfl, rfl⟩
      refine w_sseq ?_
      refine w_mid (q := fun f ρ => f = .nx ∧ ∃ (s7 s8 s9 s10 s11 : SD), ρ = [.va (dM w m b ts), .va (dP k), .va (.int n), .ow (.lst false ((addR ts (z.F, []) z.G).1.map dP)), .ow (.lst false (z.all.map dG)), .va (.int i), .ow (.lst false ((addR ts (z.F, []) z.G).2.map dP)), s7, s8, s9, s10, s11]) ?_ ?_
      · walk_at "own12"
        refine o_ix3L (d := dG z.G) (show atI ((z.R ++ [z.G]).map dG) (-1) = _ by rw [List.map_append]; exact atI_last _ _) ?_
        walk_at "own12"
        refine w_forL (I := fun j ρ => ∃ (s7 s8 s9 s10 s11 : SD), ρ = [.va (dM w m b ts), .va (dP k), .va (.int n), .ow (.lst false ((addR ts (z.F, []) (z.G.take j)).1.map dP)), .ow (.lst false (z.all.map dG)), .va (.int i), .ow (.lst false ((addR ts (z.F, []) (z.G.take j)).2.map dP)), s7, s8, s9, s10, s11]) ?_ ⟨_, _, _, _, _, rfl⟩ ?_
        · rintro j d ρ hj ⟨s7, s8, s9, s10, s11, rfl⟩
          obtain ⟨c, hc, rfl⟩ := st_dP_at hj
          have cg := gd.2.1 c (List.mem_of_getElem? hc)
          have zg := addR_good M (l := z.G.take j) (s := (z.F, [])) (fun q hq => gd.2.1 q (List.mem_of_mem_take hq)) ⟨gd.1, fun q hq => by cases hq⟩
          have zl := addR_len h4 (z.G.take j) (z.F, [])
          have tl : (z.G.take j).length ≤ z.G.length := by rw [List.length_take]; omega
          rw [addR_take hc]
          generalize addR ts (z.F, []) (z.G.take j) = y at zg zl
          refine ⟨_, rfl, ?_⟩
          walk_at "own12"
          refine fw_mono (lnear_ok M cg.nN) ?_
          rintro r o ⟨rfl, rfl⟩
          walk_at "own12"
          refine w_forL (I := fun l ρ => ∃ (s9 s10 s11 : SD), ρ = [.va (dM w m b ts), .va (dP k), .va (.int n), .ow (.lst false ((addL y ((nbr ts c).take l)).1.map dP)), .ow (.lst false (z.all.map dG)), .va (.int i), .ow (.lst false ((addL y ((nbr ts c).take l)).2.map dP)), .va (.str c.1), .va (dV c.2), s9, s10, s11]) ?_ ⟨_, _, _, rfl⟩ ?_
          · rintro l d ρ hl ⟨s9, s10, s11, rfl⟩
            obtain ⟨q, hq, rfl⟩ := st_dP_at hl
            have hqn := List.mem_of_getElem? hq
            have qk := near_ok M.tk hqn
            have hx := nbr_at hq
            have xg := addL_good (l := (nbr ts c).take l) (s := y) (fun q hq => nbr_good M cg q (List.mem_of_mem_take hq)) zg
            have xl := addL_len ((nbr ts c).take l) y
            have nl := nbr_len h4 c
            have tl2 : ((nbr ts c).take l).length ≤ (nbr ts c).length := by rw [List.length_take]; omega
            rw [addL_take hx]
            generalize addL y ((nbr ts c).take l) = x at xg xl
            have sx : x.1.length ≤ 100000 := by
              have : (z.F, ([] : List Stp)).1.length = z.F.length := rfl
              omega
            have sx2 : x.2.length ≤ 100000 := by
              have : (z.F, ([] : List Stp)).2.length = 0 := rfl
              omega
            refine ⟨_, rfl, ?_⟩
            refine w_sseq ?_
            refine w_mid (q := fun f ρ => f = .nx ∧ ρ = [.va (dM w m b ts), .va (dP k), .va (.int n), .ow (.lst false (x.1.map dP)), .ow (.lst false (z.all.map dG)), .va (.int i), .ow (.lst false (x.2.map dP)), .va (.str c.1), .va (dV c.2), .va (.str q.1), .va (dV q.2), .va (dP (q.1, plus c.2 q.2))]) ?_ ?_
            · walk_at "own12"
              refine fw_mono (ladded_ok (cg.len.trans qk.2.1.symm) (by rw [cg.len]; omega)) ?_
              rintro r o ⟨rfl, rfl⟩
              walk_at "own12"
              exact ⟨rfl, rfl⟩
            rintro _ _ ⟨rfl, rfl⟩
            obtain ⟨bb, eb, hb⟩ := any_map dP peq_P (q.1, plus c.2 q.2) x.1
            have nbP : ∀ F : List Stp, nbL (F.map dP) = true := nbL_map nb_P
            have ow : ([.va (dM w m b ts), .va (dP k), .va (.int n), .un, .ow (.lst false (z.all.map dG)), .va (.int i), .ow (.lst false (x.2.map dP)), .va (.str c.1), .va (dV c.2), .va (.str q.1), .va (dV q.2), .va (dP (q.1, plus c.2 q.2))].all fun x => match x with | SD.ow c => c.nbO | _ => true) = true := by
              show (true && (true && (true && (true && (nbL (z.all.map dG) && (true && (nbL (x.2.map dP) && (true && (true && (true && (true && (true && true)))))))))))) = true
              rw [nbP, nbL_map (f := dG) fun r => (show (!false && nbL (r.map dP)) = true by rw [nbP]; rfl)]
              rfl
            walk_at "own12"
            refine w_lendY rfl ow ?_
            walk_at "own12"
            refine o_nin3L (x := true) (l := x.1.map dP) ⟨rfl, rfl, ?_⟩ ?_
            · rw [eb]
              walk_at "own12"
              unfold addN
              cases bb with
              | true =>
                rw [if_pos (hb.mp rfl)]
                refine ⟨fun z => (by cases z), fun _ => ?_⟩
                walk_at "own12"
                exact ⟨_, _, _, rfl⟩
              | false =>
                rw [if_neg (fun z => by rw [← hb] at z; cases z)]
                refine ⟨fun _ => ?_, fun z => (by cases z)⟩
                walk_at "own12"
                refine ⟨_, _, _, rfl, rfl, by rw [List.length_map]; omega, ?_⟩
                walk_at "own12"
                refine ⟨_, _, _, rfl, rfl, by rw [List.length_map]; omega, ?_⟩
                exact ⟨.va (.str q.1), .va (dV q.2), .va (dP (q.1, plus c.2 q.2)), by dsimp only; rw [List.map_append (l₁ := x.1), List.map_append (l₁ := x.2)]; rfl⟩
            · rw [Bool.and_eq_true]
              exact ⟨pl_P (M.nm _ qk.1).ok, pl_ks M xg.1⟩
          · rintro ρ ⟨s9, s10, s11, rfl⟩
            rw [List.length_map, show (near ts c.1).length = (nbr ts c).length from (List.length_map ..).symm, List.take_length]
            exact ⟨_, _, _, _, _, rfl⟩
        · rintro ρ ⟨s7, s8, s9, s10, s11, rfl⟩
          (rw [List.length_map, List.take_length])
          exact ⟨rfl, _, _, _, _, _, rfl⟩
      rintro _ _ ⟨rfl, s7, s8, s9, s10, s11, rfl⟩
      walk_at "own12"
      refine ⟨_, _, _, rfl, rfl, by rw [List.length_map, List.length_append]; have := circ_len ts k i; rw [ez] at this; rw [this]; show i + 1 < _; omega, ?_⟩
      refine ⟨.va (.int i), .va (dG (addR ts (z.F, []) z.G).2), s7, s8, s9, s10, s11, ?_⟩
      show _ = [.va (dM w m b ts), .va (dP k), .va (.int n), .ow (.lst false ((addR ts (z.F, []) z.G).1.map dP)), .ow (.lst false (((z.R ++ [z.G]) ++ [(addR ts (z.F, []) z.G).2]).map dG)), .va (.int i), .va (dG (addR ts (z.F, []) z.G).2), s7, s8, s9, s10, s11]
      rw [List.map_append (l₁ := z.R ++ [z.G])]
      rfl
    · rintro ρ ⟨s5, s6, s7, s8, s9, s10, s11, rfl⟩
      rw [rngD_len, Int.toNat_natCast]
      exact ⟨rfl, _, _, _, _, _, _, _, rfl⟩
  rintro _ _ ⟨rfl, s5, s6, s7, s8, s9, s10, s11, rfl⟩
  walk_at "own12"
  rfl
end
end Lw

set_option maxHeartbeats 990000
open L2 PySem PySem.Spec PyProof.Rows Fm
namespace Lw
open L2 PySem PySem.Spec PyProof.Rows Fm
/-! ### how far apart, as lists -/
theorem addL_mem {x : Stp} : ∀ {l : List Stp} {s : List Stp × List Stp}, (x ∈ (addL s l).1 ↔ x ∈ s.1 ∨ x ∈ l) ∧ (x ∈ (addL s l).2 ↔ x ∈ s.2 ∨ (x ∈ l ∧ x ∉ s.1))
  | [], s => ⟨by simp [addL], by simp [addL]⟩
  | a :: l, s => by
    have ih := addL_mem (x := x) (l := l) (s := addN s a)
    have e1 : x ∈ (addN s a).1 ↔ x ∈ s.1 ∨ x = a := by
      unfold addN
      split
      · rename_i h
        exact ⟨.inl, fun z => z.elim id fun z => by rw [z]; exact h⟩
      · simp
    have e2 : x ∈ (addN s a).2 ↔ x ∈ s.2 ∨ (x = a ∧ x ∉ s.1) := by
      unfold addN
      split
      · rename_i h
        exact ⟨.inl, fun z => z.elim id fun z => absurd (by rw [z.1]; exact h) z.2⟩
      · rename_i h
        simp only [List.mem_append, List.mem_singleton]
        exact ⟨fun z => z.imp id fun z => ⟨z, by rw [z]; exact h⟩, fun z => z.imp id And.left⟩
    have d1 : addL s (a :: l) = addL (addN s a) l := rfl
    rw [d1, ih.1, ih.2, e1, e2, List.mem_cons]
    refine ⟨by rw [or_assoc], ?_⟩
    by_cases h : x = a <;> by_cases g : x ∈ s.1 <;> by_cases k : x ∈ l <;> simp [h, g, k]
    all_goals (subst h; simp [g])
theorem addR_mem {ts : List Tie} {x : Stp} : ∀ {l : List Stp} {s : List Stp × List Stp}, (x ∈ (addR ts s l).1 ↔ x ∈ s.1 ∨ ∃ k ∈ l, x ∈ nbr ts k) ∧ (x ∈ (addR ts s l).2 ↔ x ∈ s.2 ∨ ((∃ k ∈ l, x ∈ nbr ts k) ∧ x ∉ s.1))
  | [], s => ⟨by simp [addR], by simp [addR]⟩
  | a :: l, s => by
    have ih := addR_mem (ts := ts) (x := x) (l := l) (s := addL s (nbr ts a))
    have e := addL_mem (x := x) (l := nbr ts a) (s := s)
    have d1 : addR ts s (a :: l) = addR ts (addL s (nbr ts a)) l := rfl
    rw [d1, ih.1, ih.2, e.1, e.2]
    have d2 : (∃ k ∈ a :: l, x ∈ nbr ts k) ↔ x ∈ nbr ts a ∨ ∃ k ∈ l, x ∈ nbr ts k := by simp
    rw [d2]
    refine ⟨by rw [or_assoc], ?_⟩
    by_cases h : x ∈ nbr ts a <;> by_cases g : x ∈ s.1 <;> by_cases k : (∃ k ∈ l, x ∈ nbr ts k) <;> simp [h, g, k]
/-- a walk of n ties -/
def Rw (ts : List Tie) : Nat → Stp → Stp → Prop
  | 0, a, b => a = b
  | n + 1, a, b => ∃ c, Rw ts n a c ∧ b ∈ nbr ts c
theorem Rw.cons {ts : List Tie} : ∀ {n : Nat} {a b c : Stp}, b ∈ nbr ts a → Rw ts n b c → Rw ts (n + 1) a c
  | 0, a, b, c, h, e => by
    have e : b = c := e
    subst e
    exact ⟨a, rfl, h⟩
  | n + 1, a, b, c, h, ⟨d, h1, h2⟩ => ⟨d, Rw.cons h h1, h2⟩
theorem circ_is {ts : List Tie} {a : Stp} : ∀ n, (∀ b, b ∈ (circ ts a n).F ↔ ∃ j, j ≤ n ∧ Rw ts j a b) ∧ ∀ b, b ∈ (circ ts a n).G ↔ Rw ts n a b ∧ ∀ j, j < n → ¬ Rw ts j a b
  | 0 => by
    refine ⟨fun b => ⟨fun h => ⟨0, Nat.le_refl _, (in_one h).symm⟩, fun ⟨j, hj, h⟩ => ?_⟩, fun b => ⟨fun h => ⟨(in_one h).symm, fun j hj => absurd hj (Nat.not_lt_zero _)⟩, fun h => ?_⟩⟩
    · obtain rfl : j = 0 := by omega
      have h : a = b := h
      rw [h]
      exact List.mem_singleton.mpr rfl
    · have h : a = b := h.1
      rw [h]
      exact List.mem_singleton.mpr rfl
  | n + 1 => by
    obtain ⟨i1, i2⟩ := circ_is (ts := ts) (a := a) n
    have m := fun x : Stp => addR_mem (ts := ts) (x := x) (l := (circ ts a n).G) (s := ((circ ts a n).F, []))
    have key : ∀ {b : Stp}, Rw ts (n + 1) a b → (¬ ∃ j, j ≤ n ∧ Rw ts j a b) → ∃ k ∈ (circ ts a n).G, b ∈ nbr ts k := fun {b} ⟨c, h1, h2⟩ hn =>
      ⟨c, (i2 c).mpr ⟨h1, fun j hj z => hn ⟨j + 1, hj, c, z, h2⟩⟩, h2⟩
    have f1 : ∀ b, b ∈ (circ ts a (n + 1)).F ↔ b ∈ (circ ts a n).F ∨ ∃ k ∈ (circ ts a n).G, b ∈ nbr ts k := fun b => (m b).1
    have f2 : ∀ b, b ∈ (circ ts a (n + 1)).G ↔ (∃ k ∈ (circ ts a n).G, b ∈ nbr ts k) ∧ b ∉ (circ ts a n).F := fun b => (m b).2.trans ⟨fun z => z.elim (fun y => by cases y) id, .inr⟩
    refine ⟨fun b => ?_, fun b => ?_⟩
    · rw [f1 b, i1 b]
      constructor
      · rintro (⟨j, hj, h⟩ | ⟨k, hk, h⟩)
        · exact ⟨j, by omega, h⟩
        · exact ⟨n + 1, Nat.le_refl _, k, ((i2 k).mp hk).1, h⟩
      · rintro ⟨j, hj, h⟩
        by_cases g : ∃ j, j ≤ n ∧ Rw ts j a b
        · exact .inl g
        · obtain rfl : j = n + 1 := Classical.byContradiction fun z => g ⟨j, by omega, h⟩
          exact .inr (key h g)
    · rw [f2 b, i1 b]
      constructor
      · rintro ⟨⟨k, hk, h⟩, hn⟩
        exact ⟨⟨k, ((i2 k).mp hk).1, h⟩, fun j hj z => hn ⟨j, by omega, z⟩⟩
      · rintro ⟨h, hn⟩
        have hn : ¬ ∃ j, j ≤ n ∧ Rw ts j a b := fun ⟨j, hj, z⟩ => hn j (by omega) z
        exact ⟨key h hn, hn⟩
theorem circ_at {ts : List Tie} {k : Stp} {i n : Nat} (h : i ≤ n) : (circ ts k n).all[i]? = some (circ ts k i).G := by
  have e := circ_take ts k i n h
  have l := circ_len ts k i
  have : ((circ ts k n).all.take (i + 1))[i]? = (circ ts k n).all[i]? := List.getElem?_take_of_lt (Nat.lt_succ_self i)
  rw [← this, e]
  show ((circ ts k i).R ++ [(circ ts k i).G])[i]? = _
  rw [List.getElem?_append_right (by omega), l, Nat.sub_self]
  rfl
section
variable {w : Nat} {N : List Str} {ts : List Tie} {m : List (Key × D)}
theorem nbr_back (M : MOk w N m ts) {a b : Stp} (ha : Gd w N a) (h : b ∈ nbr ts a) : a ∈ nbr ts b := by
  obtain ⟨q, hq, rfl⟩ := List.mem_map.mp h
  have qk := near_ok M.tk hq
  refine List.mem_map.mpr ⟨(a.1, neg q.2), near_back hq, ?_⟩
  have l1 : a.2.length = q.2.length := ha.len.trans qk.2.1.symm
  have e : plus (plus a.2 q.2) (neg q.2) = a.2 := by
    refine vec_ext ?_ fun i => ?_
    · rw [plus_len ((plus_len l1).trans (l1.trans (neg_len _).symm)), plus_len l1]
    · rw [at0_plus ((plus_len l1).trans (l1.trans (neg_len _).symm)), at0_plus l1, at0_neg]
      omega
  show (a.1, plus (plus a.2 q.2) (neg q.2)) = a
  rw [e]
theorem Rw.good (M : MOk w N m ts) : ∀ {n : Nat} {a b : Stp}, Gd w N a → Rw ts n a b → Gd w N b
  | 0, a, b, h, e => by
    have e : a = b := e
    rw [← e]
    exact h
  | n + 1, a, b, h, ⟨c, h1, h2⟩ => nbr_good M (Rw.good M h h1) b h2
theorem Rw.back (M : MOk w N m ts) : ∀ {n : Nat} {a b : Stp}, Gd w N a → Rw ts n a b → Rw ts n b a
  | 0, a, b, _, e => by
    have e : a = b := e
    exact e.symm
  | n + 1, a, b, h, ⟨c, h1, h2⟩ => Rw.cons (nbr_back M (Rw.good M h h1) h2) (Rw.back M h h1)
theorem circ_sym (M : MOk w N m ts) {a b : Stp} (ha : Gd w N a) (hb : Gd w N b) (n : Nat) : b ∈ (circ ts a n).G ↔ a ∈ (circ ts b n).G := by
  have s : ∀ j, Rw ts j a b ↔ Rw ts j b a := fun j => ⟨Rw.back M ha, Rw.back M hb⟩
  rw [(circ_is (ts := ts) (a := a) n).2 b, (circ_is (ts := ts) (a := b) n).2 a]
  exact and_congr (s n) (forall_congr' fun j => forall_congr' fun _ => not_congr (s j))
end
/-- the ring in which b is, up to the n-th -/
def dist (ts : List Tie) (a b : Stp) (n : Nat) : Option Nat := (List.range (n + 1)).find? fun i => decide (b ∈ (circ ts a i).G)
abbrev oD : Option Nat → D
  | none => .non
  | some i => .int i
theorem dist_hit {ts : List Tie} {a b : Stp} {n i : Nat} (hi : i ≤ n) (h : b ∈ (circ ts a i).G) (hl : ∀ j, j < i → b ∉ (circ ts a j).G) : dist ts a b n = some i := by
  refine List.find?_eq_some_iff_append.mpr ⟨decide_eq_true h, List.range i, (List.range (n + 1)).drop (i + 1), ?_, fun j hj => ?_⟩
  · have e := (List.take_append_drop i (List.range (n + 1))).symm
    rw [List.drop_eq_getElem_cons (by rw [List.length_range]; omega), List.getElem_range, List.take_range, Nat.min_eq_left (by omega)] at e
    exact e
  · rw [decide_eq_false (hl j (List.mem_range.mp hj))]
    rfl
theorem dist_none {ts : List Tie} {a b : Stp} {n : Nat} (hl : ∀ j, j ≤ n → b ∉ (circ ts a j).G) : dist ts a b n = none := List.find?_eq_none.mpr fun j hj => by
  rw [decide_eq_false (hl j (by have := List.mem_range.mp hj; omega))]
  exact Bool.false_ne_true
theorem dist_sym {w : Nat} {N : List Str} {ts : List Tie} {m : List (Key × D)} (M : MOk w N m ts) {a b : Stp} (ha : Gd w N a) (hb : Gd w N b) (n : Nat) : dist ts a b n = dist ts b a n := by
  unfold dist
  congr 1
  funext i
  exact decide_eq_decide.mpr (circ_sym M ha hb i)
theorem dist_some {ts : List Tie} {a b : Stp} {n i : Nat} (h : dist ts a b n = some i) : i ≤ n ∧ b ∈ (circ ts a i).G ∧ ∀ j, j < i → b ∉ (circ ts a j).G := by
  have h1 := List.find?_some h
  have h2 := List.mem_range.mp (List.mem_of_find?_eq_some h)
  have h3 : b ∈ (circ ts a i).G := of_decide_eq_true h1
  exact ⟨by omega, h3, fun j hj z => ((circ_is (ts := ts) (a := a) i).2 b).mp h3 |>.2 j hj ((circ_is (ts := ts) (a := a) j).2 b |>.mp z).1⟩
/-- a nearer bound: what it tells is told or nothing -/
theorem dist_less {ts : List Tie} {a b : Stp} {n c : Nat} (h : c ≤ n) : dist ts a b c = match dist ts a b n with
    | none => none
    | some i => if i ≤ c then some i else none := by
  cases e : dist ts a b n with
  | none =>
    have := List.find?_eq_none.mp (show (List.range (n + 1)).find? _ = none from e)
    refine dist_none fun j hj z => ?_
    exact this j (List.mem_range.mpr (by omega)) (decide_eq_true z)
  | some i =>
    obtain ⟨h1, h2, h3⟩ := dist_some e
    by_cases hi : i ≤ c
    · rw [show (match some i with | none => none | some i => if i ≤ c then some i else none) = (some i : Option Nat) from if_pos hi]
      exact dist_hit hi h2 h3
    · rw [show (match some i with | none => none | some i => if i ≤ c then some i else none) = (none : Option Nat) from if_neg hi]
      exact dist_none fun j hj => h3 j (by omega)
section
variable {w : Nat} {N : List Str} {ts : List Tie} {m : List (Key × D)} {b : Bool} {p : D}
theorem pneed_knot_ok (P : POk w N m ts p) {k : Stp} (hk : Gd w N k) : Fw (f_Pattern_need_knot [.va p, .va (dP k)]) (fun r o => r = .va .non) NoX := by
  obtain ⟨dy, at_, rfl, h1, h2⟩ := P.ex
  refine fw_run rfl ?_
  walk_at "own2"
  refine ⟨rfl, ?_⟩
  walk_at "own2"
  refine fw_mono (need_ok rfl (h1 k.1 hk.nN)) ?_
  rintro r o rfl
  walk_at "own2"
  refine ⟨rfl, ?_⟩
  walk_at "own2"
  refine fw_mono (need_shift_ok rfl hk.len) ?_
  rintro r o rfl
  walk_at "own2"
  rfl
theorem in_ring (M : MOk w N m ts) {l : List Stp} (hl : ∀ q ∈ l, Gd w N q) {k : Stp} (hk : Gd w N k) {x : Bool} {q : SD → Prop} (h : q (.va (.bl (decide (k ∈ l))))) : Ow (in3D (dP k) (.lst x (l.map dP))) q := by
  obtain ⟨bb, eb, hb⟩ := any_map dP peq_P k l
  refine o_in3L (x := x) (l := l.map dP) ?_ ?_
  · rw [eb]
    have : bb = decide (k ∈ l) := by
      cases bb with
      | true => exact (decide_eq_true (hb.mp rfl)).symm
      | false => exact (decide_eq_false fun z => by rw [← hb] at z; cases z).symm
    rw [this]
    exact h
  · rw [Bool.and_eq_true]
    exact ⟨pl_P (M.nm _ hk.nN).ok, pl_ks M hl⟩
theorem distance_ok (M : MOk w N m ts) (P : POk w N m ts p) (h4 : ts.length ≤ 4) {k g : Stp} (hk : Gd w N k) (hg : Gd w N g) {n : Nat} (hn : n ≤ 4) : Fw (f_distance [.va p, .va (dP k), .va (dP g), .va (.int n)]) (fun r o => r = .va (oD (dist ts k g n))) NoX := by
  obtain ⟨dy, at_, ep, h1, h2⟩ := P.ex
  have ep2 : p = .ins false "Pattern" [("ways", .int w), ("dyes", .dk false dy), ("bonds", .lst false (ts.map dT)), ("at", .dk false at_)] := ep
  refine fw_run rfl ?_
  refine w_sseq ?_
  refine w_mid (q := fun f ρ => f = .nx ∧ ρ = [.va p, .va (dP k), .va (dP g), .va (.int n), .un, .un]) ?_ ?_
  · rw [ep2]
    walk_at "own6"
    refine ⟨rfl, ?_⟩
    walk_at "own6"
    rw [← ep2]
    refine fw_mono (pneed_knot_ok P hk) ?_
    rintro r o rfl
    walk_at "own6"
    exact ⟨rfl, rfl⟩
  rintro _ _ ⟨rfl, rfl⟩
  refine w_sseq ?_
  refine w_mid (q := fun f ρ => f = .nx ∧ ρ = [.va p, .va (dP k), .va (dP g), .va (.int n), .un, .un]) ?_ ?_
  · rw [ep2]
    walk_at "own6"
    refine ⟨rfl, ?_⟩
    walk_at "own6"
    rw [← ep2]
    refine fw_mono (pneed_knot_ok P hg) ?_
    rintro r o rfl
    walk_at "own6"
    exact ⟨rfl, rfl⟩
  rintro _ _ ⟨rfl, rfl⟩
  have gd := circ_good M hk n
  have cl := circ_len ts k n
  refine w_sseq ?_
  refine w_mid (q := fun f ρ => (f = .rt (.va (oD (dist ts k g n))) ∨ f = .nx ∧ dist ts k g n = none)) ?_ ?_
  · refine w_for ?_
    walk_at "own6"
    refine fw_mono (rings_ok M P h4 hk hn) ?_
    rintro r o rfl
    walk_at "own6"
    refine w_forL (I := fun i ρ => (∃ s4 s5, ρ = [.va p, .va (dP k), .va (dP g), .va (.int n), s4, s5]) ∧ ∀ j, j < i → g ∉ (circ ts k j).G) ?_ ⟨⟨_, _, rfl⟩, fun j hj => absurd hj (Nat.not_lt_zero _)⟩ ?_
    · rintro i d ρ hi ⟨⟨s4, s5, rfl⟩, hl⟩
      rw [enP_at, Nat.zero_add] at hi
      obtain ⟨y, hy, rfl⟩ := Option.map_eq_some_iff.mp hi
      rw [List.getElem?_map] at hy
      obtain ⟨r, hr, rfl⟩ := Option.map_eq_some_iff.mp hy
      have hin : i ≤ n := by
        have := (List.getElem?_eq_some_iff.mp hr).1
        rw [List.length_append, cl] at this
        have : i < n + 1 := this
        omega
      rw [circ_at hin] at hr
      cases hr
      have gi := circ_good M hk i
      refine ⟨_, rfl, ?_⟩
      walk_at "own6"
      refine in_ring M gi.2.1 hg ?_
      walk_at "own6"
      refine ⟨fun z => ?_, fun z => ?_⟩
      · have z := of_decide_eq_true z
        walk_at "own6"
        rw [dist_hit hin z hl]
        exact .inl rfl
      · have z := of_decide_eq_false z
        walk_at "own6"
        refine ⟨⟨_, _, rfl⟩, fun j hj => ?_⟩
        by_cases e : j = i
        · rw [e]
          exact z
        · exact hl j (by omega)
    · rintro ρ ⟨⟨s4, s5, rfl⟩, hl⟩
      rw [enP_len, List.length_map, List.length_append, cl] at hl
      have hl : ∀ j, j < n + 1 → g ∉ (circ ts k j).G := hl
      exact .inr ⟨rfl, dist_none fun j hj => hl j (by omega)⟩
  rintro f ρ (rfl | ⟨rfl, e⟩)
  · exact rfl
  · rw [e]
    walk_at "own6"
    rfl
end
end Lw

set_option maxHeartbeats 3990000
open L2 PySem PySem.Spec PyProof.Rows Fm
namespace Lw
open L2 PySem PySem.Spec PyProof.Rows Fm
section
variable {w : Nat} {N : List Str} {ts : List Tie} {m : List (Key × D)} {b : Bool} {p : D}
theorem take_ok (M : MOk w N m ts) (k : Nat) : MOk w N m (ts.take k) := by
  refine ⟨M.wl, M.nm, M.pos, M.few, M.knots, M.klen, M.has, ⟨fun t ht => M.ties.tie t (List.mem_of_mem_take ht), List.Sublist.nodup (List.take_sublist ..) M.ties.nd, ?_⟩, by rw [List.length_take]; have := M.tlen; omega⟩
  have pw : ts.Pairwise fun a b => PySem.W.dataLe false D.py (dT a) (dT b) = true := by
    rw [← M.ties.srt]
    exact List.pairwise_mergeSort (le := fun a b => PySem.W.dataLe false D.py (dT a) (dT b)) (fun a b c => le_trans_ (dT a) (dT b) (dT c)) (fun a b => le_total_ (dT a) (dT b)) ts
  exact List.mergeSort_of_pairwise (List.Pairwise.sublist (List.take_sublist ..) pw)
theorem rng_map (n : Nat) : rngD 0 n = (List.range n).map fun i : Nat => D.int i := by
  unfold rngD
  exact List.map_congr_left fun i _ => by rw [Int.zero_add]
theorem ring_of_ok (M : MOk w N m ts) {k g : Stp} (hk : Gd w N k) (hg : Gd w N g) {x : Bool} : Fw (f__law_ring_of [.va (.lst x ((circ ts k 4).all.map dG)), .va (dP g)]) (fun r o => r = .va (oD (dist ts k g 4)) ∧ o = [.un, .un]) NoX := by
  have cl := circ_len ts k 4
  have al : (circ ts k 4).all.length = 5 := by rw [List.length_append, cl]; rfl
  have e0 : ((List.range 5).filter fun i => decide (g ∈ (circ ts k i).G)).head? = dist ts k g 4 := by
    rw [List.head?_filter]
    rfl
  refine fw_run rfl ?_
  refine w_sseq ?_
  refine w_mid (q := fun f ρ => f = .nx ∧ ρ = [.va (.lst x ((circ ts k 4).all.map dG)), .va (dP g), .ow (.lst false (((List.range 5).filter fun i => decide (g ∈ (circ ts k i).G)).map fun i : Nat => D.int i)), .un]) ?_ ?_
  · walk_at "own4"
    rw [List.length_map, al]
    refine ⟨by decide, ?_⟩
    rw [show (((5 : Nat) : Int)).toNat = 5 from rfl, rng_map]
    refine w_lcFG (fun i : Nat => D.int i) (fun i => decide (g ∈ (circ ts k i).G)) (fun i : Nat => D.int i) (fun i hi => ?_) (by decide) ?_
    · have hi := List.mem_range.mp hi
      refine ⟨_, rfl, ?_⟩
      walk_at "own4"
      refine o_ix3L (d := dG (circ ts k i).G) ?_ ?_
      · rw [Fm.atI_nat, List.getElem?_map, circ_at (show i ≤ 4 by omega)]
        rfl
      walk_at "own4"
      refine in_ring M (circ_good M hk i).2.1 hg ?_
      walk_at "own4"
      refine ⟨rfl, fun _ => ?_, fun _ => rfl⟩
      walk_at "own4"
      exact ⟨rfl, rfl⟩
    · walk_at "own4"
      exact ⟨rfl, rfl⟩
  rintro _ _ ⟨rfl, rfl⟩
  walk_at "own4"
  refine o_ne ?_ ?_ rfl
  · rw [peq_nil]
    generalize (List.range 5).filter (fun i => decide (g ∈ (circ ts k i).G)) = L at e0
    cases L with
    | nil =>
      refine ⟨_, rfl, fun z => (by cases z), fun _ => ?_⟩
      walk_at "own4"
      rw [← e0]
      exact ⟨rfl, rfl⟩
    | cons a L =>
      refine ⟨_, rfl, fun _ => ?_, fun z => (by cases z)⟩
      walk_at "own4"
      refine o_ix3L (d := .int a) (by exact Fm.atI_nat ((a :: L).map fun i : Nat => D.int i) 0) ?_
      walk_at "own4"
      rw [← e0]
      exact ⟨rfl, rfl⟩
  · exact pl_lst fun d hd => by
      obtain ⟨i, _, rfl⟩ := List.mem_map.mp hd
      rfl
end
theorem law_ok {ns : List Int} {d : D} (hd : d = .scr (ns.map D.int) ∨ d = .lst false (ns.map D.int)) : Fw (f_law [.va d]) (fun r _ => r = .va (.bl true)) NoX := by
  refine fw_run rfl ?_
  refine w_sseq ?_
  refine w_mid (q := fun f ρ => f = .nx ∧ ∃ d', ρ = [.va d, .ow d', .un, .un, .un, .un, .un, .un, .un, .un, .un, .un] ∧ Drw 0 d') ?_ ?_
  · walk_at "own12"
    refine fw_mono (begin_ok hd) ?_
    rintro r o ⟨D0, rfl, rfl, k0⟩
    walk_at "own12"
    exact ⟨rfl, D0, rfl, k0⟩
  rintro _ _ ⟨rfl, D0, rfl, k0⟩
  refine w_sseq ?_
  refine w_mid (q := fun f ρ => f = .nx ∧ ∃ d' w m ts N, ρ = [.va d, .ow d', .va (dM w m false ts), .un, .un, .un, .un, .un, .un, .un, .un, .un] ∧ (MOk w N m ts ∧ ts.length ≤ 4) ∧ Drw 300 d') ?_ ?_
  · walk_at "own12"
    refine fw_drw (pick_ok k0 (by decide) (szS (by decide)) (by omega)) fun q d2 hq k2 => ?_
    obtain ⟨w, hw⟩ : ∃ w : Nat, q = w := ⟨q.toNat, by omega⟩
    subst hw
    walk_at "own12"
    refine fw_drw (pick_ok k2 (by decide) (szS (by decide)) (by omega)) fun q2 d3 hq2 k3 => ?_
    walk_at "own12"
    refine fw_mono (names_ok (many := 1 + q2) (by omega) k3 (by omega)) ?_
    rintro r o ⟨N, rfl, ⟨nl, nm⟩, d4, rfl, k4⟩
    walk_at "own12"
    refine fw_mono (loose_okF (lim := 4) (by decide) (by omega) nm (by omega) (by omega) k4 (by omega)) ?_
    rintro r o ⟨m, ts, rfl, M, d5, rfl, k5⟩
    walk_at "own12"
    exact ⟨rfl, d5, w, m, ts, N, rfl, M, k5.mono (by omega)⟩
  rintro _ _ ⟨rfl, D2, w, m, ts0, N, rfl, ⟨M0, h40⟩, k2⟩
  have w3 := M0.wl
  refine w_sseq ?_
  refine w_mid (q := fun f ρ => f = .nx ∧ ρ = [.va d, .ow D2, .va (dM w m false (ts0.take 3)), .un, .un, .un, .un, .un, .un, .un, .un, .un]) ?_ ?_
  · walk_at "own12"
    refine ⟨rfl, ?_⟩
    show _ = ([.va d, .ow D2, .va (.tup [.int w, .dk false m, .lst false ((ts0.take 3).map dT)]), .un, .un, .un, .un, .un, .un, .un, .un, .un] : List SD)
    rw [List.map_take, ← cutD_take]
    rfl
  rintro _ _ ⟨rfl, rfl⟩
  have M := take_ok M0 3
  have h4 : (ts0.take 3).length ≤ 4 := by rw [List.length_take]; omega
  generalize ts0.take 3 = ts at M h4
  refine w_sseq ?_
  refine w_mid (q := fun f ρ => f = .nx ∧ ∃ d' p, ρ = [.va d, .ow d', .va (dM w m false ts), .va p, .un, .un, .un, .un, .un, .un, .un, .un] ∧ POk w N m ts p ∧ Drw 400 d') ?_ ?_
  · walk_at "own12"
    refine fw_mono (made_ok M k2 (by omega)) ?_
    rintro r o ⟨p, rfl, P, d6, rfl, k6⟩
    walk_at "own12"
    exact ⟨rfl, d6, p, rfl, P, k6.mono (by omega)⟩
  rintro _ _ ⟨rfl, D3, p, rfl, P, k3⟩
  have one : ∀ {n : Nat} {d : D}, Drw n d → n ≤ 1000000 → ∃ ks, strsK m = some ks ∧ ks.length < 64 ∧ Fw (f__law_one [.ow d, .va (.lst false ((ssort ks).map D.str))]) (fun r o => ∃ s, r = .va (.str s) ∧ s ∈ N ∧ ∃ d', o = [.ow d', .un] ∧ Drw (n + 1) d') NoX := fun {n d} k hn => by
    obtain ⟨ks, e, hkl, hks, hks2⟩ := M.knots.keys
    have kl := M.klen
    refine ⟨ks, e, by omega, fw_mono (oneL_ok (f := D.str) (l := ssort ks) k (by
      obtain ⟨s, hs⟩ := List.exists_mem_of_length_pos M.pos
      exact List.length_pos_of_mem (ssort_mem.mpr (hks2 s (M.has s hs)))) (by rw [ssort_len]; omega) hn) ?_⟩
    rintro r o ⟨n0, rfl, hn0, d7, rfl, k7⟩
    exact ⟨n0, rfl, (hks n0 (ssort_mem.mp hn0)).1, d7, rfl, k7⟩
  refine w_sseq ?_
  refine w_mid (q := fun f ρ => f = .nx ∧ ∃ d' k, ρ = [.va d, .ow d', .va (dM w m false ts), .va p, .va (dP k), .un, .un, .un, .un, .un, .un, .un] ∧ Gd w N k ∧ Drw 500 d') ?_ ?_
  · walk_at "own12"
    obtain ⟨ks, e, hkl, ho⟩ := one k3 (by omega)
    refine o_sort3D e hkl ?_
    walk_at "own12"
    refine fw_mono ho ?_
    rintro r o ⟨n0, rfl, n0N, d7, rfl, k7⟩
    walk_at "own12"
    · refine fw_drw (pick_ok k7 (by decide) (szS (by decide)) (by omega)) fun q2 d8 hq2 k8 => ?_
      obtain ⟨z, hm, ez⟩ := tup_at (l := [1, 10 ^ Int.toNat 6]) hq2
      have hz : 0 ≤ z ∧ z ≤ 1000000 := by
        simp only [List.mem_cons, or_false, List.not_mem_nil] at hm
        rcases hm with rfl | rfl <;> decide
      walk_at "own12"
      refine o_ix3T ez ?_
      walk_at "own12"
      refine fw_mono (numbers_ok w3 ⟨hz.1, by omega⟩ k8 (by omega)) ?_
      rintro r o ⟨c, rfl, ⟨zl, zb⟩, d9, rfl, k9⟩
      walk_at "own12"
      exact ⟨rfl, d9, (n0, c), rfl, ⟨n0N, zl⟩, k9.mono (by omega)⟩
    · exact ⟨by decide, by decide, by omega⟩
  rintro _ _ ⟨rfl, D4, k, rfl, hk, k4⟩
  have cg := circ_good M hk
  have cz := circ_sz h4 k
  refine w_sseq ?_
  refine w_mid (q := fun f ρ => f = .nx ∧ ρ = [.va d, .ow D4, .va (dM w m false ts), .va p, .va (dP k), .ow (.lst false ((circ ts k 4).all.map dG)), .un, .un, .un, .un, .un, .un]) ?_ ?_
  · walk_at "own12"
    refine fw_mono (lrings_ok M h4 hk (n := 4) (by decide)) ?_
    rintro r o rfl
    walk_at "own12"
    exact ⟨rfl, rfl⟩
  rintro _ _ ⟨rfl, rfl⟩
  refine w_sseq ?_
  refine w_mid (q := fun f ρ => f = .nx) ?_ ?_
  · walk_at "own12"
    refine ⟨by decide, ?_⟩
    refine w_forL (I := fun i ρ => ∃ d' s5 s6 s7 s8 s9 s10 s11, ρ = [.va d, .ow d', .va (dM w m false ts), .va p, .va (dP k), s5, s6, s7, s8, s9, s10, s11] ∧ (s5 = .ow (.lst false ((circ ts k 4).all.map dG)) ∨ s5 = .va (.lst false ((circ ts k 4).all.map dG))) ∧ Drw (500 + 10 * i) d') ?_ ⟨_, _, _, _, _, _, _, _, rfl, .inl rfl, k4⟩ ?_
    · rintro i e ρ hi ⟨D5, s5, s6, s7, s8, s9, s10, s11, rfl, h5, k5⟩
      obtain ⟨hi3, rfl⟩ := rng_eq hi
      have hi3 : i < 4 := hi3
      refine ⟨_, rfl, ?_⟩
      have al : (circ ts k 4).all.length = 5 := by rw [List.length_append, circ_len]; rfl
      refine w_sseq ?_
      refine w_mid (q := fun f ρ => f = .nx ∧ ∃ d' r, ρ = [.va d, .ow d', .va (dM w m false ts), .va p, .va (dP k), .va (.lst false ((circ ts k 4).all.map dG)), .va (.int i), .va (dG r), s8, s9, s10, s11] ∧ r ∈ (circ ts k 4).all ∧ Drw (500 + 10 * i + 1) d') ?_ ?_
      · rcases h5 with rfl | rfl
        all_goals
          walk_at "own12"
          refine fw_mono (oneL_ok (f := dG) (l := (circ ts k 4).all) k5 (by rw [al]; decide) (by rw [al]; decide) (by omega)) ?_
          rintro r o ⟨r0, rfl, hr, d7, rfl, k7⟩
          walk_at "own12"
          exact ⟨rfl, d7, r0, rfl, hr, k7⟩
      rintro _ _ ⟨rfl, D6, r, rfl, hr, k6⟩
      obtain ⟨j, hj, er⟩ : ∃ j, j ≤ 4 ∧ r = (circ ts k j).G := by
        obtain ⟨j, hj, e⟩ := List.mem_iff_getElem.mp hr
        have hj4 : j ≤ 4 := by omega
        have := circ_at (ts := ts) (k := k) hj4
        rw [List.getElem?_eq_getElem hj, e] at this
        exact ⟨j, hj4, Option.some.inj this⟩
      have rl : r.length ≤ 100000 := by
        rw [er]
        have := (cz j).1
        have : 8 ^ j ≤ 8 ^ 4 := Nat.pow_le_pow_right (by decide) hj
        have e : 8 ^ 4 = 4096 := by decide
        omega
      have rg : ∀ q ∈ r, Gd w N q := by
        rw [er]
        exact (cg j).2.1
      refine w_sseq ?_
      refine w_mid (q := fun f ρ => f = .nx ∧ ∃ d' g, ρ = [.va d, .ow d', .va (dM w m false ts), .va p, .va (dP k), .va (.lst false ((circ ts k 4).all.map dG)), .va (.int i), .va (dG r), .va (dP g), s9, s10, s11] ∧ Gd w N g ∧ Drw (500 + 10 * i + 2) d') ?_ ?_
      · walk_at "own12"
        refine o_eq ?_ (pl_ks M rg) rfl
        rw [peq_nil]
        walk_at "own12"
        cases r with
        | nil =>
          refine ⟨fun _ => ?_, fun z => by cases z⟩
          walk_at "own12"
          exact ⟨rfl, D6, k, rfl, hk, k6.mono (by omega)⟩
        | cons r0 rs =>
          refine ⟨fun z => (by cases z), fun _ => ?_⟩
          walk_at "own12"
          refine fw_mono (oneL_ok (f := dP) (l := r0 :: rs) k6 (by rw [List.length_cons]; omega) rl (by omega)) ?_
          rintro r1 o ⟨g, rfl, hg, d7, rfl, k7⟩
          walk_at "own12"
          exact ⟨rfl, d7, g, rfl, rg g hg, k7⟩
      rintro _ _ ⟨rfl, D7, g0, rfl, hg0, k7⟩
      refine w_sseq ?_
      refine w_mid (q := fun f ρ => f = .nx ∧ ∃ d' g, ρ = [.va d, .ow d', .va (dM w m false ts), .va p, .va (dP k), .va (.lst false ((circ ts k 4).all.map dG)), .va (.int i), .va (dG r), .va (dP g), s9, s10, s11] ∧ Gd w N g ∧ Drw (500 + 10 * i + 10) d') ?_ ?_
      · walk_at "own12"
        refine fw_drw (pick_ok k7 (by decide) (szS (by decide)) (by omega)) fun q2 d8 hq2 k8 => ?_
        walk_at "own12"
        refine ⟨fun _ => ?_, fun _ => ?_⟩
        · walk_at "own12"
          obtain ⟨ks, e, hkl, ho⟩ := one k8 (by omega)
          refine o_sort3D e hkl ?_
          walk_at "own12"
          refine fw_mono ho ?_
          rintro r1 o ⟨n0, rfl, n0N, d9, rfl, k9⟩
          walk_at "own12"
          refine fw_mono (numbers_ok w3 (lim := 3) (by decide) k9 (by omega)) ?_
          rintro r1 o ⟨c, rfl, ⟨zl, zb⟩, da, rfl, ka⟩
          walk_at "own12"
          exact ⟨rfl, da, (n0, c), rfl, ⟨n0N, zl⟩, ka.mono (by omega)⟩
        · walk_at "own12"
          exact ⟨rfl, d8, g0, rfl, hg0, k8.mono (by omega)⟩
      rintro _ _ ⟨rfl, D8, g, rfl, hg, k8⟩
      refine w_sseq ?_
      refine w_mid (q := fun f ρ => f = .nx ∧ ρ = [.va d, .ow D8, .va (dM w m false ts), .va p, .va (dP k), .va (.lst false ((circ ts k 4).all.map dG)), .va (.int i), .va (dG r), .va (dP g), .va (oD (dist ts k g 4)), s10, s11]) ?_ ?_
      · walk_at "own12"
        refine fw_mono (ring_of_ok M hk hg) ?_
        rintro r1 o ⟨rfl, rfl⟩
        walk_at "own12"
        exact ⟨rfl, rfl⟩
      rintro _ _ ⟨rfl, rfl⟩
      have ok1 : ∀ (n : Nat) (x : Option Nat), Fw (f__law_same (n + 1) [.va (oD x), .va (oD x)]) (fun r o => r = .va (.bl true) ∧ o = [.un, .un]) NoX := fun n x => same_ok n (oD x) (by
        cases x <;> cases n <;> rfl)
      refine w_sseq ?_
      refine w_mid (q := fun f ρ => f = .nx ∧ ρ = [.va d, .ow D8, .va (dM w m false ts), .va p, .va (dP k), .va (.lst false ((circ ts k 4).all.map dG)), .va (.int i), .va (dG r), .va (dP g), .va (oD (dist ts k g 4)), s10, s11]) ?_ ?_
      · walk_at "own12"
        refine fw_mono (distance_ok M P h4 hk hg (n := 4) (by decide)) ?_
        rintro r1 o rfl
        walk_at "own12"
        refine fw_mono (distance_ok M P h4 hg hk (n := 4) (by decide)) ?_
        rintro r1 o rfl
        rw [dist_sym M hg hk]
        walk_at "own12"
        refine fw_mono (same_seq2 (n := 59) (l := [oD (dist ts k g 4), oD (dist ts k g 4)]) (m := [oD (dist ts k g 4), oD (dist ts k g 4)]) (.inr ⟨_, _, rfl, rfl⟩) rfl (by show 2 ≤ 100000; decide) fun i x y hx hy => ?_) ?_
        · rw [hx] at hy
          cases hy
          have : x = oD (dist ts k g 4) := by
            have := List.mem_of_getElem? hx
            simpa using this
          subst this
          exact ok1 58 _
        · rintro r1 o ⟨rfl, rfl⟩
          walk_at "own12"
          exact ⟨rfl, rfl⟩
      rintro _ _ ⟨rfl, rfl⟩
      walk_at "own12"
      refine ⟨by decide, ?_⟩
      refine w_forL (I := fun c ρ => ∃ s10 s11, ρ = [.va d, .ow D8, .va (dM w m false ts), .va p, .va (dP k), .va (.lst false ((circ ts k 4).all.map dG)), .va (.int i), .va (dG r), .va (dP g), .va (oD (dist ts k g 4)), s10, s11]) ?_ ⟨_, _, rfl⟩ ?_
      · rintro c e ρ hc ⟨s10, s11, rfl⟩
        obtain ⟨hc3, rfl⟩ := rng_eq hc
        have hc3 : c < 4 := hc3
        refine ⟨_, rfl, ?_⟩
        have dl := dist_less (ts := ts) (a := k) (b := g) (n := 4) (c := c) (by omega)
        refine w_sseq ?_
        refine w_mid (q := fun f ρ => f = .nx ∧ ρ = [.va d, .ow D8, .va (dM w m false ts), .va p, .va (dP k), .va (.lst false ((circ ts k 4).all.map dG)), .va (.int i), .va (dG r), .va (dP g), .va (oD (dist ts k g 4)), .va (.int c), .va (oD (dist ts k g c))]) ?_ ?_
        · rw [dl]
          cases e : dist ts k g 4 with
          | none =>
            walk_at "own12"
            exact ⟨rfl, rfl⟩
          | some x =>
            walk_at "own12"
            refine ⟨fun z => ?_, fun z => ?_⟩
            · have z := of_decide_eq_true z
              have hx : x ≤ c := by omega
              walk_at "own12"
              show _ ∧ _ = [_, _, _, _, _, _, _, _, _, _, _, SD.va (oD (if x ≤ c then some x else none))]
              rw [if_pos hx]
              exact ⟨rfl, rfl⟩
            · have z := of_decide_eq_false z
              have hx : ¬ x ≤ c := by omega
              walk_at "own12"
              show _ ∧ _ = [_, _, _, _, _, _, _, _, _, _, _, SD.va (oD (if x ≤ c then some x else none))]
              rw [if_neg hx]
              exact ⟨rfl, rfl⟩
        rintro _ _ ⟨rfl, rfl⟩
        walk_at "own12"
        refine fw_mono (distance_ok M P h4 hk hg (n := c) (by omega)) ?_
        rintro r1 o rfl
        walk_at "own12"
        refine fw_mono (ok1 59 _) ?_
        rintro r1 o ⟨rfl, rfl⟩
        walk_at "own12"
        exact ⟨_, _, rfl⟩
      · rintro ρ ⟨s10, s11, rfl⟩
        exact ⟨_, _, _, _, _, _, _, _, rfl, .inr rfl, k8.mono (by omega)⟩
    · rintro ρ _
      rfl
  rintro _ _ rfl
  walk_at "own12"
  rfl
theorem truth : Truth f_law := fun ns _ _ d hd => by
  obtain ⟨r, o, e, h⟩ := (law_ok hd).ok
  rw [e, h]
  exact ⟨o, rfl⟩
end Lw

set_option maxHeartbeats 4000007
namespace Lw
open L2 PySem PySem.Spec PyProof.Rows Fm
theorem facts {w : World} {K : PySem.W.Frag} {h : Heap} {mg : Str → Option Value} {a : Addr} (X : K.In h) (G : h.Ns mainGlobals mg) (hfa : mg ("law" : Str) = some (.ref a)) (c : He.SaysX fa fn [] tf ex w h K) : LamX.LawAtS PySem.Challenge.rw_farmesh_k48_distances_told w K (L2.CX PySem.Challenge.rw_farmesh_k48_distances_told.prog w) 66 63 "_law_script" mg a h := by
  obtain ⟨fd_Pattern_need, F_Pattern_need⟩ := c.t.d.def_ 0 (d := dd_Pattern_need) rfl
  obtain ⟨fd_Pattern_need_shift, F_Pattern_need_shift⟩ := c.t.d.def_ 1 (d := dd_Pattern_need_shift) rfl
  obtain ⟨fd_Pattern_need_knot, F_Pattern_need_knot⟩ := c.t.d.def_ 2 (d := dd_Pattern_need_knot) rfl
  obtain ⟨fd_added, F_added⟩ := c.t.d.def_ 3 (d := dd_added) rfl
  obtain ⟨fd_Pattern_near, F_Pattern_near⟩ := c.t.d.def_ 4 (d := dd_Pattern_near) rfl
  obtain ⟨fd_rings, F_rings⟩ := c.t.d.def_ 5 (d := dd_rings) rfl
  obtain ⟨fd_distance, F_distance⟩ := c.t.d.def_ 6 (d := dd_distance) rfl
  obtain ⟨fd__law_begin, F__law_begin⟩ := c.t.d.def_ 7 (d := dd__law_begin) rfl
  obtain ⟨fd__law_pick, F__law_pick⟩ := c.t.d.def_ 8 (d := dd__law_pick) rfl
  obtain ⟨fd__law_one, F__law_one⟩ := c.t.d.def_ 9 (d := dd__law_one) rfl
  obtain ⟨fd__law_numbers, F__law_numbers⟩ := c.t.d.def_ 10 (d := dd__law_numbers) rfl
  obtain ⟨fd__law_turned, F__law_turned⟩ := c.t.d.def_ 11 (d := dd__law_turned) rfl
  obtain ⟨fd__law_lesser, F__law_lesser⟩ := c.t.d.def_ 12 (d := dd__law_lesser) rfl
  obtain ⟨fd__law_put, F__law_put⟩ := c.t.d.def_ 13 (d := dd__law_put) rfl
  obtain ⟨fd__law_loose, F__law_loose⟩ := c.t.d.def_ 14 (d := dd__law_loose) rfl
  obtain ⟨fd__law_names, F__law_names⟩ := c.t.d.def_ 15 (d := dd__law_names) rfl
  obtain ⟨fd_is_name, F_is_name⟩ := c.t.d.def_ 16 (d := dd_is_name) rfl
  obtain ⟨fd_need_name, F_need_name⟩ := c.t.d.def_ 17 (d := dd_need_name) rfl
  obtain ⟨fd_need_dye, F_need_dye⟩ := c.t.d.def_ 18 (d := dd_need_dye) rfl
  obtain ⟨fd_turned, F_turned⟩ := c.t.d.def_ 19 (d := dd_turned) rfl
  obtain ⟨fd_Pattern_ends, F_Pattern_ends⟩ := c.t.d.def_ 20 (d := dd_Pattern_ends) rfl
  obtain ⟨fd_lesser, F_lesser⟩ := c.t.d.def_ 21 (d := dd_lesser) rfl
  obtain ⟨fd_Pattern_fitting, F_Pattern_fitting⟩ := c.t.d.def_ 22 (d := dd_Pattern_fitting) rfl
  obtain ⟨fd_Pattern_names, F_Pattern_names⟩ := c.t.d.def_ 23 (d := dd_Pattern_names) rfl
  obtain ⟨fd_Pattern___init__, F_Pattern___init__⟩ := c.t.d.def_ 24 (d := dd_Pattern___init__) rfl
  obtain ⟨fd__law_made, F__law_made⟩ := c.t.d.def_ 25 (d := dd__law_made) rfl
  obtain ⟨fd__law_near, F__law_near⟩ := c.t.d.def_ 26 (d := dd__law_near) rfl
  obtain ⟨fd__law_added, F__law_added⟩ := c.t.d.def_ 27 (d := dd__law_added) rfl
  obtain ⟨fd__law_rings, F__law_rings⟩ := c.t.d.def_ 28 (d := dd__law_rings) rfl
  obtain ⟨fd__law_same, F__law_same⟩ := c.t.d.def_ 29 (d := dd__law_same) rfl
  obtain ⟨fd__law_ring_of, F__law_ring_of⟩ := c.t.d.def_ 30 (d := dd__law_ring_of) rfl
  obtain ⟨fd_law, F_law⟩ := c.t.d.def_ 31 (d := dd_law) rfl
  have g_added := He.glo_ok X G (c.t.d.fact 0 (f := .glo "added") rfl)
  have g_rings := He.glo_ok X G (c.t.d.fact 1 (f := .glo "rings") rfl)
  have g_distance := He.glo_ok X G (c.t.d.fact 2 (f := .glo "distance") rfl)
  have g__law_begin := He.glo_ok X G (c.t.d.fact 3 (f := .glo "_law_begin") rfl)
  have g__law_pick := He.glo_ok X G (c.t.d.fact 4 (f := .glo "_law_pick") rfl)
  have g__law_one := He.glo_ok X G (c.t.d.fact 5 (f := .glo "_law_one") rfl)
  have g__law_numbers := He.glo_ok X G (c.t.d.fact 6 (f := .glo "_law_numbers") rfl)
  have g__law_turned := He.glo_ok X G (c.t.d.fact 7 (f := .glo "_law_turned") rfl)
  have g__law_lesser := He.glo_ok X G (c.t.d.fact 8 (f := .glo "_law_lesser") rfl)
  have g__law_put := He.glo_ok X G (c.t.d.fact 9 (f := .glo "_law_put") rfl)
  have g__law_loose := He.glo_ok X G (c.t.d.fact 10 (f := .glo "_law_loose") rfl)
  have g__law_names := He.glo_ok X G (c.t.d.fact 11 (f := .glo "_law_names") rfl)
  have g_is_name := He.glo_ok X G (c.t.d.fact 12 (f := .glo "is_name") rfl)
  have g_need_name := He.glo_ok X G (c.t.d.fact 13 (f := .glo "need_name") rfl)
  have g_need_dye := He.glo_ok X G (c.t.d.fact 14 (f := .glo "need_dye") rfl)
  have g_turned := He.glo_ok X G (c.t.d.fact 15 (f := .glo "turned") rfl)
  have g_lesser := He.glo_ok X G (c.t.d.fact 16 (f := .glo "lesser") rfl)
  have g__law_made := He.glo_ok X G (c.t.d.fact 17 (f := .glo "_law_made") rfl)
  have g__law_near := He.glo_ok X G (c.t.d.fact 18 (f := .glo "_law_near") rfl)
  have g__law_added := He.glo_ok X G (c.t.d.fact 19 (f := .glo "_law_added") rfl)
  have g__law_rings := He.glo_ok X G (c.t.d.fact 20 (f := .glo "_law_rings") rfl)
  have g__law_same := He.glo_ok X G (c.t.d.fact 21 (f := .glo "_law_same") rfl)
  have g__law_ring_of := He.glo_ok X G (c.t.d.fact 22 (f := .glo "_law_ring_of") rfl)
  have g_law := He.glo_ok X G (c.t.d.fact 23 (f := .glo "law") rfl)
  have m_all := He.free_ok X G (c.t.d.fact 24 (f := .free "all") rfl)
  have m_any := He.free_ok X G (c.t.d.fact 25 (f := .free "any") rfl)
  have m_bool := He.free_ok X G (c.t.d.fact 26 (f := .free "bool") rfl)
  have m_dict := He.free_ok X G (c.t.d.fact 27 (f := .free "dict") rfl)
  have m_enumerate := He.free_ok X G (c.t.d.fact 28 (f := .free "enumerate") rfl)
  have m_int := He.free_ok X G (c.t.d.fact 29 (f := .free "int") rfl)
  have m_isinstance := He.free_ok X G (c.t.d.fact 30 (f := .free "isinstance") rfl)
  have m_len := He.free_ok X G (c.t.d.fact 31 (f := .free "len") rfl)
  have m_list := He.free_ok X G (c.t.d.fact 32 (f := .free "list") rfl)
  have m_min := He.free_ok X G (c.t.d.fact 33 (f := .free "min") rfl)
  have m_range := He.free_ok X G (c.t.d.fact 34 (f := .free "range") rfl)
  have m_sorted := He.free_ok X G (c.t.d.fact 35 (f := .free "sorted") rfl)
  have m_str := He.free_ok X G (c.t.d.fact 36 (f := .free "str") rfl)
  have m_tuple := He.free_ok X G (c.t.d.fact 37 (f := .free "tuple") rfl)
  have m_zip := He.free_ok X G (c.t.d.fact 38 (f := .free "zip") rfl)
  have g_Pattern := He.glo_ok X G (c.t.d.fact 39 (f := .glo "Pattern") rfl)
  obtain ⟨z_FARTHEST, g_FARTHEST⟩ := He.int_ok X G (c.t.d.fact 40 (f := .int "FARTHEST" 1000000) rfl)
  obtain ⟨z_LETTERS, g_LETTERS⟩ := He.str_ok X G (c.t.d.fact 41 (f := .str "LETTERS" "abcdefghijklmnopqrstuvwxyz") rfl)
  obtain ⟨z_LONGEST, g_LONGEST⟩ := He.int_ok X G (c.t.d.fact 42 (f := .int "LONGEST" 8) rfl)
  obtain ⟨z_MOST_DYE, g_MOST_DYE⟩ := He.int_ok X G (c.t.d.fact 43 (f := .int "MOST_DYE" 9) rfl)
  obtain ⟨z_MOST_KNOTS, g_MOST_KNOTS⟩ := He.int_ok X G (c.t.d.fact 44 (f := .int "MOST_KNOTS" 12) rfl)
  obtain ⟨z_MOST_TIES, g_MOST_TIES⟩ := He.int_ok X G (c.t.d.fact 45 (f := .int "MOST_TIES" 24) rfl)
  obtain ⟨z_MOST_WAYS, g_MOST_WAYS⟩ := He.int_ok X G (c.t.d.fact 46 (f := .int "MOST_WAYS" 3) rfl)
  have cls_Pattern := He.cls_ok (c.t.d.fact 47 (f := .cls "Pattern") rfl)
  have na_Pattern_at := He.noat_ok (c.t.d.fact 48 (f := .noat "Pattern" "at") rfl)
  have na_Pattern_bonds := He.noat_ok (c.t.d.fact 49 (f := .noat "Pattern" "bonds") rfl)
  have na_Pattern_dyes := He.noat_ok (c.t.d.fact 50 (f := .noat "Pattern" "dyes") rfl)
  have na_Pattern_ways := He.noat_ok (c.t.d.fact 51 (f := .noat "Pattern" "ways") rfl)
  have me_Pattern_need := He.meth_ok (c.t.d.fact 52 (f := .meth "Pattern" "need") rfl)
  have me_Pattern_need_shift := He.meth_ok (c.t.d.fact 53 (f := .meth "Pattern" "need_shift") rfl)
  have me_Pattern_need_knot := He.meth_ok (c.t.d.fact 54 (f := .meth "Pattern" "need_knot") rfl)
  have me_Pattern_near := He.meth_ok (c.t.d.fact 55 (f := .meth "Pattern" "near") rfl)
  have me_Pattern_ends := He.meth_ok (c.t.d.fact 56 (f := .meth "Pattern" "ends") rfl)
  have me_Pattern_fitting := He.meth_ok (c.t.d.fact 57 (f := .meth "Pattern" "fitting") rfl)
  have me_Pattern_names := He.meth_ok (c.t.d.fact 58 (f := .meth "Pattern" "names") rfl)
  have mk_Pattern___init__ := He.mkr_ok (c.t.d.fact 59 (f := .mkr "Pattern") rfl)
  have B_Pattern_need : Binds K fd_Pattern_need ["self", "name"] [] := L2.FunD.bindsN F_Pattern_need fun _ _ _ _ _ _ us hl => match us, hl with | [_, _], _ => rfl
  have B_Pattern_need_shift : Binds K fd_Pattern_need_shift ["self", "shift"] [] := L2.FunD.bindsN F_Pattern_need_shift fun _ _ _ _ _ _ us hl => match us, hl with | [_, _], _ => rfl
  have B_Pattern_need_knot : Binds K fd_Pattern_need_knot ["self", "knot"] [] := L2.FunD.bindsN F_Pattern_need_knot fun _ _ _ _ _ _ us hl => match us, hl with | [_, _], _ => rfl
  have B_added : Binds K fd_added ["cell", "shift"] [] := L2.FunD.bindsN F_added fun _ _ _ _ _ _ us hl => match us, hl with | [_, _], _ => rfl
  have B_Pattern_near : Binds K fd_Pattern_near ["self", "name"] [] := L2.FunD.bindsN F_Pattern_near fun _ _ _ _ _ _ us hl => match us, hl with | [_, _], _ => rfl
  have B_rings : Binds K fd_rings ["pattern", "start", "far"] [] := L2.FunD.bindsN F_rings fun _ _ _ _ _ _ us hl => match us, hl with | [_, _, _], _ => rfl
  have B_distance_3 : BindsV K fd_distance ["pattern", "one", "other", "most"] [V.int 4] := L2.FunD.binds0 F_distance 3 (by simp [He.DefD.kws, dd_distance]) rfl fun _ _ _ _ _ _ us ks h1 h2 => match us, ks, h1, h2 with | [_, _, _], [_], _, _ => ⟨_, _, _, _, _, _, rfl, rfl, rfl⟩
  have BP_distance_3 : BindsPK K fd_distance ["pattern", "one", "other", "most"] 3 ["most"] := Fm.FunD.bindsPK F_distance fun _ _ _ _ _ _ us ws h1 h2 => match us, ws, h1, h2 with | [_, _, _], [_], _, _ => rfl
  have B__law_begin : Binds K fd__law_begin ["_law_script"] [] := L2.FunD.bindsN F__law_begin fun _ _ _ _ _ _ us hl => match us, hl with | [_], _ => rfl
  have B__law_pick : Binds K fd__law_pick ["_law_draw", "_law_many"] [] := L2.FunD.bindsN F__law_pick fun _ _ _ _ _ _ us hl => match us, hl with | [_, _], _ => rfl
  have B__law_one : Binds K fd__law_one ["_law_draw", "_law_some"] [] := L2.FunD.bindsN F__law_one fun _ _ _ _ _ _ us hl => match us, hl with | [_, _], _ => rfl
  have B__law_numbers : Binds K fd__law_numbers ["_law_draw", "_law_ways", "_law_limit"] [] := L2.FunD.bindsN F__law_numbers fun _ _ _ _ _ _ us hl => match us, hl with | [_, _, _], _ => rfl
  have B__law_turned : Binds K fd__law_turned ["_law_shift"] [] := L2.FunD.bindsN F__law_turned fun _ _ _ _ _ _ us hl => match us, hl with | [_], _ => rfl
  have B__law_lesser : Binds K fd__law_lesser ["_law_tie"] [] := L2.FunD.bindsN F__law_lesser fun _ _ _ _ _ _ us hl => match us, hl with | [_], _ => rfl
  have B__law_put : Binds K fd__law_put ["_law_ties", "_law_tie"] [] := L2.FunD.bindsN F__law_put fun _ _ _ _ _ _ us hl => match us, hl with | [_, _], _ => rfl
  have B__law_loose : Binds K fd__law_loose ["_law_draw", "_law_ways", "_law_names_here", "_law_limit"] [] := L2.FunD.bindsN F__law_loose fun _ _ _ _ _ _ us hl => match us, hl with | [_, _, _, _], _ => rfl
  have B__law_names : Binds K fd__law_names ["_law_draw", "_law_many"] [] := L2.FunD.bindsN F__law_names fun _ _ _ _ _ _ us hl => match us, hl with | [_, _], _ => rfl
  have B_is_name : Binds K fd_is_name ["text"] [] := L2.FunD.bindsN F_is_name fun _ _ _ _ _ _ us hl => match us, hl with | [_], _ => rfl
  have B_need_name : Binds K fd_need_name ["name"] [] := L2.FunD.bindsN F_need_name fun _ _ _ _ _ _ us hl => match us, hl with | [_], _ => rfl
  have B_need_dye : Binds K fd_need_dye ["dye"] [] := L2.FunD.bindsN F_need_dye fun _ _ _ _ _ _ us hl => match us, hl with | [_], _ => rfl
  have B_turned : Binds K fd_turned ["shift"] [] := L2.FunD.bindsN F_turned fun _ _ _ _ _ _ us hl => match us, hl with | [_], _ => rfl
  have B_Pattern_ends : Binds K fd_Pattern_ends ["self", "name"] [] := L2.FunD.bindsN F_Pattern_ends fun _ _ _ _ _ _ us hl => match us, hl with | [_, _], _ => rfl
  have B_lesser : Binds K fd_lesser ["tie"] [] := L2.FunD.bindsN F_lesser fun _ _ _ _ _ _ us hl => match us, hl with | [_], _ => rfl
  have B_Pattern_fitting : Binds K fd_Pattern_fitting ["self", "tie"] [] := L2.FunD.bindsN F_Pattern_fitting fun _ _ _ _ _ _ us hl => match us, hl with | [_, _], _ => rfl
  have B_Pattern_names : Binds K fd_Pattern_names ["self"] [] := L2.FunD.bindsN F_Pattern_names fun _ _ _ _ _ _ us hl => match us, hl with | [_], _ => rfl
  have B_Pattern___init__ : Binds K fd_Pattern___init__ ["self", "ways", "knots", "ties"] [] := L2.FunD.bindsN F_Pattern___init__ fun _ _ _ _ _ _ us hl => match us, hl with | [_, _, _, _], _ => rfl
  have B__law_made : Binds K fd__law_made ["_law_draw", "_law_mesh"] [] := L2.FunD.bindsN F__law_made fun _ _ _ _ _ _ us hl => match us, hl with | [_, _], _ => rfl
  have B__law_near : Binds K fd__law_near ["_law_mesh", "_law_name"] [] := L2.FunD.bindsN F__law_near fun _ _ _ _ _ _ us hl => match us, hl with | [_, _], _ => rfl
  have B__law_added : Binds K fd__law_added ["_law_cell", "_law_shift"] [] := L2.FunD.bindsN F__law_added fun _ _ _ _ _ _ us hl => match us, hl with | [_, _], _ => rfl
  have B__law_rings : Binds K fd__law_rings ["_law_mesh", "_law_start", "_law_count"] [] := L2.FunD.bindsN F__law_rings fun _ _ _ _ _ _ us hl => match us, hl with | [_, _, _], _ => rfl
  have B__law_same : Binds K fd__law_same ["_law_found", "_law_due"] [] := L2.FunD.bindsN F__law_same fun _ _ _ _ _ _ us hl => match us, hl with | [_, _], _ => rfl
  have B__law_ring_of : Binds K fd__law_ring_of ["_law_circles", "_law_knot"] [] := L2.FunD.bindsN F__law_ring_of fun _ _ _ _ _ _ us hl => match us, hl with | [_, _], _ => rfl
  have B_law : Binds K fd_law ["_law_script"] [] := L2.FunD.bindsN F_law fun _ _ _ _ _ _ us hl => match us, hl with | [_], _ => rfl
  cases hfa.symm.trans g_law
  refine law_at (cl := clx K) (tabs := tabx K) (cs := []) (fun p h => by cases h) (fun p h => by cases h) (fun p h => by cases h) (fun p h => by cases h) (fun s u => L2.FunD.bindsA (ps := ["_law_script"]) F_law (fun _ _ _ _ _ _ us hl => match us, hl with | [_], _ => rfl) s [u] rfl) truth fun base kb gb _ => ?_
  have M_Pattern_need : MethD PySem.Challenge.rw_farmesh_k48_distances_told.prog w K mg base (kx w K (clx K) (tabx K)) "Pattern" "need" 1 ["self", "name"] f_Pattern_need _ fd_Pattern_need := ⟨ok_Pattern_need F_Pattern_need cls_Pattern na_Pattern_dyes, cls_Pattern, me_Pattern_need⟩
  have M_Pattern_need_shift : MethD PySem.Challenge.rw_farmesh_k48_distances_told.prog w K mg base (kx w K (clx K) (tabx K)) "Pattern" "need_shift" 1 ["self", "shift"] f_Pattern_need_shift _ fd_Pattern_need_shift := ⟨ok_Pattern_need_shift F_Pattern_need_shift m_len cls_Pattern na_Pattern_ways, cls_Pattern, me_Pattern_need_shift⟩
  have M_Pattern_need_knot : MethD PySem.Challenge.rw_farmesh_k48_distances_told.prog w K mg base (kx w K (clx K) (tabx K)) "Pattern" "need_knot" 2 ["self", "knot"] f_Pattern_need_knot _ fd_Pattern_need_knot := ⟨ok_Pattern_need_knot F_Pattern_need_knot M_Pattern_need B_Pattern_need M_Pattern_need_shift B_Pattern_need_shift, cls_Pattern, me_Pattern_need_knot⟩
  have C_added : Callee PySem.Challenge.rw_farmesh_k48_distances_told.prog w K mg base (kx w K (clx K) (tabx K)) "added" 1 ["cell", "shift"] f_added _ fd_added := ⟨ok_added F_added m_tuple m_zip, g_added, F_added.kp⟩
  have M_Pattern_near : MethD PySem.Challenge.rw_farmesh_k48_distances_told.prog w K mg base (kx w K (clx K) (tabx K)) "Pattern" "near" 2 ["self", "name"] f_Pattern_near _ fd_Pattern_near := ⟨ok_Pattern_near F_Pattern_near m_list cls_Pattern na_Pattern_at M_Pattern_need B_Pattern_need, cls_Pattern, me_Pattern_near⟩
  have C_rings : Callee PySem.Challenge.rw_farmesh_k48_distances_told.prog w K mg base (kx w K (clx K) (tabx K)) "rings" 3 ["pattern", "start", "far"] f_rings _ fd_rings := ⟨ok_rings F_rings m_range C_added B_added M_Pattern_near B_Pattern_near, g_rings, F_rings.kp⟩
  have C_distance : Callee PySem.Challenge.rw_farmesh_k48_distances_told.prog w K mg base (kx w K (clx K) (tabx K)) "distance" 4 ["pattern", "one", "other", "most"] f_distance _ fd_distance := ⟨ok_distance F_distance m_enumerate M_Pattern_need_knot B_Pattern_need_knot C_rings B_rings, g_distance, F_distance.kp⟩
  have C__law_begin : Callee PySem.Challenge.rw_farmesh_k48_distances_told.prog w K mg base (kx w K (clx K) (tabx K)) "_law_begin" 1 ["_law_script"] f__law_begin _ fd__law_begin := ⟨ok__law_begin F__law_begin m_list, g__law_begin, F__law_begin.kp⟩
  have C__law_pick : Callee PySem.Challenge.rw_farmesh_k48_distances_told.prog w K mg base (kx w K (clx K) (tabx K)) "_law_pick" 1 ["_law_draw", "_law_many"] f__law_pick _ fd__law_pick := ⟨ok__law_pick F__law_pick m_len, g__law_pick, F__law_pick.kp⟩
  have C__law_one : Callee PySem.Challenge.rw_farmesh_k48_distances_told.prog w K mg base (kx w K (clx K) (tabx K)) "_law_one" 2 ["_law_draw", "_law_some"] f__law_one _ fd__law_one := ⟨ok__law_one F__law_one m_len C__law_pick B__law_pick, g__law_one, F__law_one.kp⟩
  have C__law_numbers : Callee PySem.Challenge.rw_farmesh_k48_distances_told.prog w K mg base (kx w K (clx K) (tabx K)) "_law_numbers" 2 ["_law_draw", "_law_ways", "_law_limit"] f__law_numbers _ fd__law_numbers := ⟨ok__law_numbers F__law_numbers m_range m_tuple C__law_pick B__law_pick, g__law_numbers, F__law_numbers.kp⟩
  have C__law_turned : Callee PySem.Challenge.rw_farmesh_k48_distances_told.prog w K mg base (kx w K (clx K) (tabx K)) "_law_turned" 1 ["_law_shift"] f__law_turned _ fd__law_turned := ⟨ok__law_turned F__law_turned m_tuple, g__law_turned, F__law_turned.kp⟩
  have C__law_lesser : Callee PySem.Challenge.rw_farmesh_k48_distances_told.prog w K mg base (kx w K (clx K) (tabx K)) "_law_lesser" 2 ["_law_tie"] f__law_lesser _ fd__law_lesser := ⟨ok__law_lesser F__law_lesser m_min C__law_turned B__law_turned, g__law_lesser, F__law_lesser.kp⟩
  have C__law_put : Callee PySem.Challenge.rw_farmesh_k48_distances_told.prog w K mg base (kx w K (clx K) (tabx K)) "_law_put" 3 ["_law_ties", "_law_tie"] f__law_put _ fd__law_put := ⟨ok__law_put F__law_put m_all m_sorted C__law_lesser B__law_lesser, g__law_put, F__law_put.kp⟩
  have C__law_loose : Callee PySem.Challenge.rw_farmesh_k48_distances_told.prog w K mg base (kx w K (clx K) (tabx K)) "_law_loose" 4 ["_law_draw", "_law_ways", "_law_names_here", "_law_limit"] f__law_loose _ fd__law_loose := ⟨ok__law_loose F__law_loose m_range C__law_pick B__law_pick C__law_put B__law_put C__law_one B__law_one C__law_numbers B__law_numbers, g__law_loose, F__law_loose.kp⟩
  have C__law_names : Callee PySem.Challenge.rw_farmesh_k48_distances_told.prog w K mg base (kx w K (clx K) (tabx K)) "_law_names" 3 ["_law_draw", "_law_many"] f__law_names _ fd__law_names := ⟨ok__law_names F__law_names m_len m_range C__law_pick B__law_pick C__law_one B__law_one, g__law_names, F__law_names.kp⟩
  have C_is_name : Callee PySem.Challenge.rw_farmesh_k48_distances_told.prog w K mg base (kx w K (clx K) (tabx K)) "is_name" 1 ["text"] f_is_name _ fd_is_name := ⟨ok_is_name F_is_name m_all g_LETTERS g_LONGEST m_len, g_is_name, F_is_name.kp⟩
  have C_need_name : Callee PySem.Challenge.rw_farmesh_k48_distances_told.prog w K mg base (kx w K (clx K) (tabx K)) "need_name" 2 ["name"] f_need_name _ fd_need_name := ⟨ok_need_name F_need_name C_is_name B_is_name, g_need_name, F_need_name.kp⟩
  have C_need_dye : Callee PySem.Challenge.rw_farmesh_k48_distances_told.prog w K mg base (kx w K (clx K) (tabx K)) "need_dye" 1 ["dye"] f_need_dye _ fd_need_dye := ⟨ok_need_dye F_need_dye g_MOST_DYE, g_need_dye, F_need_dye.kp⟩
  have C_turned : Callee PySem.Challenge.rw_farmesh_k48_distances_told.prog w K mg base (kx w K (clx K) (tabx K)) "turned" 1 ["shift"] f_turned _ fd_turned := ⟨ok_turned F_turned m_tuple, g_turned, F_turned.kp⟩
  have M_Pattern_ends : MethD PySem.Challenge.rw_farmesh_k48_distances_told.prog w K mg base (kx w K (clx K) (tabx K)) "Pattern" "ends" 2 ["self", "name"] f_Pattern_ends _ fd_Pattern_ends := ⟨ok_Pattern_ends F_Pattern_ends cls_Pattern na_Pattern_bonds C_turned B_turned, cls_Pattern, me_Pattern_ends⟩
  have C_lesser : Callee PySem.Challenge.rw_farmesh_k48_distances_told.prog w K mg base (kx w K (clx K) (tabx K)) "lesser" 2 ["tie"] f_lesser _ fd_lesser := ⟨ok_lesser F_lesser m_min C_turned B_turned, g_lesser, F_lesser.kp⟩
  have M_Pattern_fitting : MethD PySem.Challenge.rw_farmesh_k48_distances_told.prog w K mg base (kx w K (clx K) (tabx K)) "Pattern" "fitting" 3 ["self", "tie"] f_Pattern_fitting _ fd_Pattern_fitting := ⟨ok_Pattern_fitting F_Pattern_fitting m_all m_any g_FARTHEST cls_Pattern na_Pattern_bonds C_lesser B_lesser M_Pattern_need B_Pattern_need M_Pattern_need_shift B_Pattern_need_shift, cls_Pattern, me_Pattern_fitting⟩
  have M_Pattern_names : MethD PySem.Challenge.rw_farmesh_k48_distances_told.prog w K mg base (kx w K (clx K) (tabx K)) "Pattern" "names" 1 ["self"] f_Pattern_names _ fd_Pattern_names := ⟨ok_Pattern_names F_Pattern_names m_sorted cls_Pattern na_Pattern_dyes, cls_Pattern, me_Pattern_names⟩
  have I_Pattern___init__ : InitD PySem.Challenge.rw_farmesh_k48_distances_told.prog w K mg base (kx w K (clx K) (tabx K)) "Pattern" "Pattern" 4 3 ["self", "ways", "knots", "ties"] f_Pattern___init__ _ fd_Pattern___init__ := ⟨ok_Pattern___init__ F_Pattern___init__ g_MOST_KNOTS g_MOST_TIES g_MOST_WAYS m_len m_sorted cls_Pattern na_Pattern_at na_Pattern_bonds na_Pattern_dyes na_Pattern_ways C_need_name B_need_name C_need_dye B_need_dye M_Pattern_ends B_Pattern_ends M_Pattern_fitting B_Pattern_fitting M_Pattern_names B_Pattern_names, g_Pattern, mk_Pattern___init__⟩
  have C__law_made : Callee PySem.Challenge.rw_farmesh_k48_distances_told.prog w K mg base (kx w K (clx K) (tabx K)) "_law_made" 6 ["_law_draw", "_law_mesh"] f__law_made _ fd__law_made := ⟨ok__law_made F__law_made m_dict m_len I_Pattern___init__ B_Pattern___init__ C__law_pick B__law_pick C__law_turned B__law_turned, g__law_made, F__law_made.kp⟩
  have C__law_near : Callee PySem.Challenge.rw_farmesh_k48_distances_told.prog w K mg base (kx w K (clx K) (tabx K)) "_law_near" 2 ["_law_mesh", "_law_name"] f__law_near _ fd__law_near := ⟨ok__law_near F__law_near m_sorted C__law_turned B__law_turned, g__law_near, F__law_near.kp⟩
  have C__law_added : Callee PySem.Challenge.rw_farmesh_k48_distances_told.prog w K mg base (kx w K (clx K) (tabx K)) "_law_added" 1 ["_law_cell", "_law_shift"] f__law_added _ fd__law_added := ⟨ok__law_added F__law_added m_len m_range m_tuple, g__law_added, F__law_added.kp⟩
  have C__law_rings : Callee PySem.Challenge.rw_farmesh_k48_distances_told.prog w K mg base (kx w K (clx K) (tabx K)) "_law_rings" 3 ["_law_mesh", "_law_start", "_law_count"] f__law_rings _ fd__law_rings := ⟨ok__law_rings F__law_rings m_range C__law_near B__law_near C__law_added B__law_added, g__law_rings, F__law_rings.kp⟩
  have C__law_same : Callee PySem.Challenge.rw_farmesh_k48_distances_told.prog w K mg base (kx w K (clx K) (tabx K)) "_law_same" 65 ["_law_found", "_law_due"] (f__law_same 60) _ fd__law_same := ⟨(ok__law_same F__law_same g__law_same F__law_same.kp B__law_same m_all m_bool m_dict m_int m_isinstance m_len m_list m_range m_sorted m_str m_tuple 60).mono (show 60 + 1 ≤ 65 from by decide), g__law_same, F__law_same.kp⟩
  have C__law_ring_of : Callee PySem.Challenge.rw_farmesh_k48_distances_told.prog w K mg base (kx w K (clx K) (tabx K)) "_law_ring_of" 1 ["_law_circles", "_law_knot"] f__law_ring_of _ fd__law_ring_of := ⟨ok__law_ring_of F__law_ring_of m_len m_range, g__law_ring_of, F__law_ring_of.kp⟩
  exact ok_law F_law m_range m_sorted C_distance B_distance_3 BP_distance_3 C__law_begin B__law_begin C__law_pick B__law_pick C__law_one B__law_one C__law_numbers B__law_numbers C__law_loose B__law_loose C__law_names B__law_names C__law_made B__law_made C__law_rings B__law_rings C__law_same B__law_same C__law_ring_of B__law_ring_of
end Lw
open PyProof.Rows PySem PySem.W PySem.Calls
theorem PySem.Challenge.cw_farmesh_k48_distances_told_holds : PySem.Challenge.rw_farmesh_k48_distances_told.Holds := by
  refine Lw.pre ?_
  refine LamX.walk_ofTsE (l := PySem.Challenge.rw_farmesh_k48_distances_told) (n := 63) (k := 66) (x := "_law_script") (CX := fun w => L2.CX PySem.Challenge.rw_farmesh_k48_distances_told.prog w) rfl (by decide) (by kernel_rfl) ⟨rfl, by decide, by decide⟩ ?F (fun w H s e s' z => Fm.cx_no z)
  intro w mg fa h Y G hmg0
  obtain ⟨K, KX, c⟩ := Y
  have hmg : mg ("law" : PySem.Str) = some (PySem.Value.ref fa) := by
    have e : (HandSHeadRun.topDef (OpenLaw.row PySem.Challenge.rw_farmesh_k48_distances_told).prog 48).name = ("law" : PySem.Str) := by kernel_rfl
    rw [← e]
    exact hmg0
  exact ⟨K, KX, Lw.facts KX G hmg c⟩


