import PyProof.Rows.All
import Wide.All
import OpenK.AllK
import Wide.FinOn
import PyProof.EqAt
import PyProof.EqKinds
import PyProof.TupleCall
import PyProof.InstNe
import KE.KStateDown
import KE.KDictKeyed
import KE.KDictLaw
import KE.SortData
import KE.KExcInit
import HandS.ForMost
import HandS.Exc
import HandS.TryOnly
import HandS.DictComp
import HandS.Deep
import HandS.Property
import HandS.Star
import HandS.Defaults
import HandS.SetKeys
import HandS.Codes
import HandS.Strs
import HandS.Style
import HandS.Zip
import HandS.Flow
import HandS.Wide
import HandS.More
import HandS.Conv
import HandS.NoneIn
import HandS.DictEq
import HandS.IsInst
import HandS.ExcOwn
import HandS.ExcInit
import HandS.ExcSuper
import HandS.ClsMeth
import HandS.OwnEq
import HandS.RaiseOp
import HandS.Walk
import HandS.TupAny
import HandS.Small
import HandS.DictTup
import HandS.HeadNt
import HandS.Head0
import HandS.Head1
import HandS.Head2
import HandS.HeadEnd
import HandS.HeadHook1
import HandS.HeadHook2
import KE.KOpsOwn
import KE.GoesMore
import KE.KRevSl
import HandS.WordsExc
import KE.KeyNested
import PySem.Challenge.RW_roomdials_k64_whole_least_totals
set_option Elab.async false
set_option linter.all false
set_option maxRecDepth 100000
set_option maxHeartbeats 4000000
/-! The text by places, the facts that the top leaves, the Hook. -/
namespace Rd
open PySem PySem.Spec PyProof.Rows L2
def top (i : Nat) : Stmt := PySem.Challenge.pw_roomdials_k64_whole_least_totals.main.body.getD i (.Pass ⟨0, 0, 0, 0⟩)
abbrev s_gcd_of : Stmt := top 19
abbrev s_lcm_of : Stmt := top 20
abbrev s_joined_rooms : Stmt := top 21
abbrev s_steps_from : Stmt := top 22
abbrev s_reached_from : Stmt := top 23
abbrev s_level_corridor : Stmt := top 24
abbrev s_sides_of : Stmt := top 25
abbrev s_odd_ring_of : Stmt := top 26
abbrev s_on_rings : Stmt := top 27
abbrev s_bridges_of : Stmt := top 28
abbrev s_is_name : Stmt := top 32
abbrev s_is_integer : Stmt := top 33
abbrev s_is_between : Stmt := top 34
abbrev s_need_possible : Stmt := top 36
abbrev s_combined : Stmt := top 37
abbrev s_divisor_of : Stmt := top 38
abbrev s_wanted_sums : Stmt := top 39
abbrev s_tree_values : Stmt := top 40
abbrev s_solution : Stmt := top 41
abbrev s_pair_of : Stmt := top 44
abbrev s_Building_dinit : Stmt := inClass (top 48) 3
abbrev s_Building_prepare : Stmt := inClass (top 48) 4
abbrev s_Building_sorted_pairs : Stmt := inClass (top 48) 5
abbrev s_Building_check_connected : Stmt := inClass (top 48) 6
abbrev s_Building_rooms : Stmt := inClass (top 48) 10
abbrev s_Building_corridors : Stmt := inClass (top 48) 11
abbrev s_Building_sides : Stmt := inClass (top 48) 12
abbrev s_Building_corridor_of : Stmt := inClass (top 48) 15
abbrev s_Building_bank : Stmt := inClass (top 48) 17
abbrev s_Building_dcontains : Stmt := inClass (top 48) 22
abbrev s_Building_dgetitem : Stmt := inClass (top 48) 23
abbrev s_Building_deq : Stmt := inClass (top 48) 24
abbrev s_Trace_dinit : Stmt := inClass (top 52) 0
abbrev s_Trace_building : Stmt := inClass (top 52) 3
abbrev s_Trace_first : Stmt := inClass (top 52) 4
abbrev s_Trace_last : Stmt := inClass (top 52) 5
abbrev s_Trace_changes : Stmt := inClass (top 52) 6
abbrev s_Trace_found_balance : Stmt := inClass (top 52) 7
abbrev s_Trace_balance : Stmt := inClass (top 52) 8
abbrev s_Trace_paper : Stmt := inClass (top 52) 9
abbrev s_Trace_dgetitem : Stmt := inClass (top 52) 11
abbrev s_Trace_dadd : Stmt := inClass (top 52) 12
abbrev s_is_pair : Stmt := top 54
abbrev s_need_closed : Stmt := top 55
abbrev s_open_trace : Stmt := top 56
abbrev s_paper_of : Stmt := top 57
abbrev s_avoiding_paper : Stmt := top 58
abbrev s_Numbers_dinit : Stmt := inClass (top 62) 0
abbrev s_Numbers_least : Stmt := inClass (top 62) 1
abbrev s_Numbers_dadd : Stmt := inClass (top 62) 8
abbrev s_Numbers_deq : Stmt := inClass (top 62) 10
abbrev s_gcd_of_bank : Stmt := top 63
abbrev s_corridor_modulus : Stmt := top 64
abbrev s_corridor_numbers : Stmt := top 65
abbrev s_log_total : Stmt := top 67
abbrev s_log_numbers : Stmt := top 68
abbrev s_z_begin : Stmt := top 70
abbrev s_z_draw : Stmt := top 71
abbrev s_z_pick : Stmt := top 72
abbrev s_z_shuffled : Stmt := top 73
abbrev s_z_names : Stmt := top 74
abbrev s_z_pair : Stmt := top 75
abbrev s_z_drawn : Stmt := top 76
abbrev s_z_built : Stmt := top 77
abbrev s_z_near : Stmt := top 78
abbrev s_z_sides_due : Stmt := top 79
abbrev s_z_wandered : Stmt := top 80
abbrev s_z_left : Stmt := top 81
abbrev s_z_gcd : Stmt := top 82
abbrev s_z_gcd_all : Stmt := top 83
abbrev s_z_lcm : Stmt := top 84
abbrev s_z_bank_gcd : Stmt := top 85
abbrev s_z_corridor_due : Stmt := top 86
abbrev s_z_least : Stmt := top 87
abbrev s_z_rows : Stmt := top 88
abbrev s_z_told : Stmt := top 89
abbrev s_law : Stmt := top 90
abbrev s_Impossible_dinit : Stmt := inClass (top 14) 0
/-! ### where things stand -/
/-- the getter of the property f of the class x -/
def pgA (x f : Str) (K : PySem.W.Frag) : Addr := match PySem.W.findIn K (.ref (He.ga K x)) f with
  | some (some (.ref p)) => (match PySem.W.recIn K p "property" with
    | some (.ref g :: _) => g
    | _ => 0)
  | _ => 0
def glA (x : Str) (K : PySem.W.Frag) : Addr := He.ga K x
def meA (x m : Str) (K : PySem.W.Frag) : Addr := He.ma K (He.ga K x) m
/-- what stands as f in the class x is a property -/
def propB (x f : Str) (K : PySem.W.Frag) : Bool := match PySem.W.findIn K (.ref (He.ga K x)) f with
  | some (some (.ref p)) => decide (PySem.W.specialIn K (.ref p) "__get__" = some (some (.builtin "property.__get__"))) &&
      (decide (PySem.W.takesIn K (.ref p) = some true) && (match PySem.W.recIn K p "property" with
        | some (.ref _ :: _) => true
        | _ => false))
  | _ => false
theorem propB_ok {x f : Str} {K : PySem.W.Frag} (h : propB x f K = true) : ∃ p, PropOf K (He.ga K x) f p (pgA x f K) := by
  unfold propB at h
  split at h
  · rename_i p e
    obtain ⟨h1, h2⟩ := He.ba h
    obtain ⟨h3, h4⟩ := He.ba h2
    split at h4
    · rename_i g r e2
      have eg : pgA x f K = g := by
        unfold pgA
        simp only [e, e2]
      exact ⟨p, e, of_decide_eq_true h1, of_decide_eq_true h3, r, by rw [eg]; exact e2⟩
    · cases h4
  · cases h
/-- an int constant of the class x -/
def conB (x f : Str) (i : Int) (K : PySem.W.Frag) : Bool := match PySem.W.findIn K (.ref (He.ga K x)) f with
  | some (some (.int j t)) => decide (j = i) && (decide (PySem.W.specialIn K (.int j t) "__get__" = some none) && !(PySem.W.copiedNames.contains f))
  | _ => false
theorem conB_ok {x f : Str} {i : Int} {K : PySem.W.Frag} (h : conB x f i K = true) : ∃ u, Con K (He.ga K x) f (.int i) u := by
  unfold conB at h
  split at h
  · rename_i j t e
    obtain ⟨h1, h2⟩ := He.ba h
    obtain ⟨h3, h4⟩ := He.ba h2
    have ej : j = i := of_decide_eq_true h1
    subst ej
    refine ⟨_, e, ⟨t, rfl⟩, of_decide_eq_true h3, ?_⟩
    cases q : PySem.W.copiedNames.contains f with
    | false => rfl
    | true =>
      rw [q] at h4
      cases h4
  · cases h
/-- a class of one's own over object alone, its own __eq__, no __ne__ -/
def eqB (x : Str) (K : PySem.W.Frag) : Bool := match K.lookup (He.ga K x) with
  | some ⟨.type "type", _, .cls cd, sl⟩ => decide (cd.mro = [.ref (He.ga K x), .type "object"]) && (decide (PySem.W.nsIn K cd.ns "__ne__" = some none) &&
      (decide (PySem.W.nsIn K cd.ns "__eq__" = some (some (.ref (meA x "__eq__" K)))) && (!cd.hasDel && (PySem.W.nsOkIn K cd.ns && (match sl.toList with
        | [_, _, _, _, some (.builtin n), _] => decide (n = "object.__new__")
        | _ => false)))))
  | _ => false
/-- what isinstance asks of an instance's class -/
def insB (x : Str) (K : PySem.W.Frag) : Bool := decide (PySem.W.findIn K (.ref (He.ga K x)) "__class__" = some (some (.builtin "object.__class__"))) &&
  (decide (PySem.W.specialIn K (.builtin "object.__class__") "__get__" = some (some (.builtin "getset_descriptor.__get__"))) && (decide (PySem.W.takesIn K (.builtin "object.__class__") = some true) && decide (PySem.W.mroIn K (He.ga K x) (.type "object") = some true)))
/-- what x + 1 asks of the class besides -/
def addB (x : Str) (K : PySem.W.Frag) : Bool := decide (PySem.W.findIn K (.ref (He.ga K x)) "__radd__" = some none) && decide (PySem.W.subIn K (.type "int") (.ref (He.ga K x)) = some false)
/-- where the keyword-only default p of the def x stands -/
def kwdA (x p : Str) (K : PySem.W.Frag) : Addr := match K.lookup (He.ga K x) with
  | some ⟨_, _, .func fd, _⟩ => (match fd.kwdefaults with
    | .ref D => (match PySem.W.nsIn K D p with
      | some (some (.ref a)) => a
      | _ => 0)
    | _ => 0)
  | _ => 0
/-- at a stands the empty tuple -/
def etB (a : Addr) (K : PySem.W.Frag) : Bool := match K.lookup a with
  | some ⟨.type c, _, .seq its _, _⟩ => decide (c = "tuple") && decide (its.toList = [])
  | _ => false
theorem etB_ok {a : Addr} {K : PySem.W.Frag} (h : etB a K = true) (H : Hp) : SqT K H a [] := by
  unfold etB at h
  split at h
  · rename_i c od its n sl e
    obtain ⟨h1, h2⟩ := He.ba h
    have h3 : its.toList = [] := of_decide_eq_true h2
    refine .inr ⟨_, its, n, e, congrArg Value.type (of_decide_eq_true h1), rfl, ?_, by rw [h3]; exact .nil⟩
    rw [← Array.length_toList, h3]
    exact Nat.zero_le _
  · cases h
abbrev exT : List Value := [.type "Exception", .type "BaseException", .type "object"]
/-- the class x is an own exception over Exception by way of own bases; its __init__ stores f first -/
def oexB (x f : Str) (K : PySem.W.Frag) : Bool := PySem.W.excInitIn K (He.ga K x) exT "Exception.__new__" && (PySem.W.excOver K (He.ga K x) exT && (PySem.W.hasDictIn K (He.ga K x) &&
  (decide (PySem.W.findIn K (.ref (He.ga K x)) "__setattr__" = some (some (.builtin "object.__setattr__"))) && (decide (PySem.W.subIn K (.ref (He.ga K x)) (.type "BaseException") = some true) && (decide (PySem.W.typeIn K (.ref (He.ga K x)) = some (.type "type")) &&
  (PySem.W.keepIn K (.ref (He.ga K x)) && (decide (PySem.W.takerIn K (He.ga K x) f = some none) && (decide (PySem.W.findIn K (.ref (He.ga K x)) "__init__" = some (some (.ref (meA x "__init__" K)))) &&
  (decide (PySem.W.typeIn K (.ref (meA x "__init__" K)) = some (.type "function")) && decide (PySem.W.exmOne K (.ref (He.ga K x)) (.ref (He.ga K x)) = some true))))))))))
/-- the class x, whose __init__ is Exception's, read as a class -/
def baseB (x : Str) (K : PySem.W.Frag) : Bool := PySem.W.readsIn K (He.ga K x) (.type "type") && (decide (PySem.W.specialIn K (.ref (He.ga K x)) "__getattribute__" = some (some (.builtin "type.__getattribute__"))) &&
  (match PySem.W.findCls K (.ref (He.ga K x)) (.type "type") "__init__" with
    | some (.val (.builtin n)) => decide (n = "Exception.__init__")
    | _ => false))
/-- beside the facts by names: operators of own classes -/
def opB (x : Str) (K : PySem.W.Frag) : Bool := PySem.W.noSeq K (He.ga K x) && (PySem.W.selfFirst K (He.ga K x) && PySem.W.isClsIn K (He.ga K x))
def d_gcd_of : He5.DefA := ⟨glA "gcd_of", "gcd_of", "gcd_of", defArgs s_gcd_of, defBody s_gcd_of, defScope s_gcd_of, [], []⟩
def d_lcm_of : He5.DefA := ⟨glA "lcm_of", "lcm_of", "lcm_of", defArgs s_lcm_of, defBody s_lcm_of, defScope s_lcm_of, [], []⟩
def d_joined_rooms : He5.DefA := ⟨glA "joined_rooms", "joined_rooms", "joined_rooms", defArgs s_joined_rooms, defBody s_joined_rooms, defScope s_joined_rooms, [], []⟩
def d_steps_from : He5.DefA := ⟨glA "steps_from", "steps_from", "steps_from", defArgs s_steps_from, defBody s_steps_from, defScope s_steps_from, [.adr (He.dflAt ("steps_from", none) 0)], []⟩
def d_reached_from : He5.DefA := ⟨glA "reached_from", "reached_from", "reached_from", defArgs s_reached_from, defBody s_reached_from, defScope s_reached_from, [.adr (He.dflAt ("reached_from", none) 0)], []⟩
def d_level_corridor : He5.DefA := ⟨glA "level_corridor", "level_corridor", "level_corridor", defArgs s_level_corridor, defBody s_level_corridor, defScope s_level_corridor, [], []⟩
def d_sides_of : He5.DefA := ⟨glA "sides_of", "sides_of", "sides_of", defArgs s_sides_of, defBody s_sides_of, defScope s_sides_of, [], []⟩
def d_odd_ring_of : He5.DefA := ⟨glA "odd_ring_of", "odd_ring_of", "odd_ring_of", defArgs s_odd_ring_of, defBody s_odd_ring_of, defScope s_odd_ring_of, [], []⟩
def d_on_rings : He5.DefA := ⟨glA "on_rings", "on_rings", "on_rings", defArgs s_on_rings, defBody s_on_rings, defScope s_on_rings, [], []⟩
def d_bridges_of : He5.DefA := ⟨glA "bridges_of", "bridges_of", "bridges_of", defArgs s_bridges_of, defBody s_bridges_of, defScope s_bridges_of, [], []⟩
def d_is_name : He5.DefA := ⟨glA "is_name", "is_name", "is_name", defArgs s_is_name, defBody s_is_name, defScope s_is_name, [], []⟩
def d_is_integer : He5.DefA := ⟨glA "is_integer", "is_integer", "is_integer", defArgs s_is_integer, defBody s_is_integer, defScope s_is_integer, [], []⟩
def d_is_between : He5.DefA := ⟨glA "is_between", "is_between", "is_between", defArgs s_is_between, defBody s_is_between, defScope s_is_between, [], []⟩
def d_need_possible : He5.DefA := ⟨glA "need_possible", "need_possible", "need_possible", defArgs s_need_possible, defBody s_need_possible, defScope s_need_possible, [], []⟩
def d_combined : He5.DefA := ⟨glA "combined", "combined", "combined", defArgs s_combined, defBody s_combined, defScope s_combined, [], []⟩
def d_divisor_of : He5.DefA := ⟨glA "divisor_of", "divisor_of", "divisor_of", defArgs s_divisor_of, defBody s_divisor_of, defScope s_divisor_of, [], []⟩
def d_wanted_sums : He5.DefA := ⟨glA "wanted_sums", "wanted_sums", "wanted_sums", defArgs s_wanted_sums, defBody s_wanted_sums, defScope s_wanted_sums, [], []⟩
def d_tree_values : He5.DefA := ⟨glA "tree_values", "tree_values", "tree_values", defArgs s_tree_values, defBody s_tree_values, defScope s_tree_values, [], []⟩
def d_solution : He5.DefA := ⟨glA "solution", "solution", "solution", defArgs s_solution, defBody s_solution, defScope s_solution, [], []⟩
def d_pair_of : He5.DefA := ⟨glA "pair_of", "pair_of", "pair_of", defArgs s_pair_of, defBody s_pair_of, defScope s_pair_of, [], []⟩
def d_Building_dinit : He5.DefA := ⟨meA "Building" "__init__", "__init__", "Building.__init__", defArgs s_Building_dinit, defBody s_Building_dinit, defScope s_Building_dinit, [], []⟩
def d_Building_prepare : He5.DefA := ⟨meA "Building" "prepare", "prepare", "Building.prepare", defArgs s_Building_prepare, defBody s_Building_prepare, defScope s_Building_prepare, [], []⟩
def d_Building_sorted_pairs : He5.DefA := ⟨meA "Building" "sorted_pairs", "sorted_pairs", "Building.sorted_pairs", defArgs s_Building_sorted_pairs, defBody s_Building_sorted_pairs, defScope s_Building_sorted_pairs, [], []⟩
def d_Building_check_connected : He5.DefA := ⟨meA "Building" "check_connected", "check_connected", "Building.check_connected", defArgs s_Building_check_connected, defBody s_Building_check_connected, defScope s_Building_check_connected, [], []⟩
def d_Building_rooms : He5.DefA := ⟨pgA "Building" "rooms", "rooms", "Building.rooms", defArgs s_Building_rooms, defBody s_Building_rooms, defScope s_Building_rooms, [], []⟩
def d_Building_corridors : He5.DefA := ⟨pgA "Building" "corridors", "corridors", "Building.corridors", defArgs s_Building_corridors, defBody s_Building_corridors, defScope s_Building_corridors, [], []⟩
def d_Building_sides : He5.DefA := ⟨pgA "Building" "sides", "sides", "Building.sides", defArgs s_Building_sides, defBody s_Building_sides, defScope s_Building_sides, [], []⟩
def d_Building_corridor_of : He5.DefA := ⟨meA "Building" "corridor_of", "corridor_of", "Building.corridor_of", defArgs s_Building_corridor_of, defBody s_Building_corridor_of, defScope s_Building_corridor_of, [], []⟩
def d_Building_bank : He5.DefA := ⟨meA "Building" "bank", "bank", "Building.bank", defArgs s_Building_bank, defBody s_Building_bank, defScope s_Building_bank, [], []⟩
def d_Building_dcontains : He5.DefA := ⟨meA "Building" "__contains__", "__contains__", "Building.__contains__", defArgs s_Building_dcontains, defBody s_Building_dcontains, defScope s_Building_dcontains, [], []⟩
def d_Building_dgetitem : He5.DefA := ⟨meA "Building" "__getitem__", "__getitem__", "Building.__getitem__", defArgs s_Building_dgetitem, defBody s_Building_dgetitem, defScope s_Building_dgetitem, [], []⟩
def d_Building_deq : He5.DefA := ⟨meA "Building" "__eq__", "__eq__", "Building.__eq__", defArgs s_Building_deq, defBody s_Building_deq, defScope s_Building_deq, [], []⟩
def d_Trace_dinit : He5.DefA := ⟨meA "Trace" "__init__", "__init__", "Trace.__init__", defArgs s_Trace_dinit, defBody s_Trace_dinit, defScope s_Trace_dinit, [], []⟩
def d_Trace_building : He5.DefA := ⟨pgA "Trace" "building", "building", "Trace.building", defArgs s_Trace_building, defBody s_Trace_building, defScope s_Trace_building, [], []⟩
def d_Trace_first : He5.DefA := ⟨pgA "Trace" "first", "first", "Trace.first", defArgs s_Trace_first, defBody s_Trace_first, defScope s_Trace_first, [], []⟩
def d_Trace_last : He5.DefA := ⟨pgA "Trace" "last", "last", "Trace.last", defArgs s_Trace_last, defBody s_Trace_last, defScope s_Trace_last, [], []⟩
def d_Trace_changes : He5.DefA := ⟨pgA "Trace" "changes", "changes", "Trace.changes", defArgs s_Trace_changes, defBody s_Trace_changes, defScope s_Trace_changes, [], []⟩
def d_Trace_found_balance : He5.DefA := ⟨meA "Trace" "found_balance", "found_balance", "Trace.found_balance", defArgs s_Trace_found_balance, defBody s_Trace_found_balance, defScope s_Trace_found_balance, [], []⟩
def d_Trace_balance : He5.DefA := ⟨pgA "Trace" "balance", "balance", "Trace.balance", defArgs s_Trace_balance, defBody s_Trace_balance, defScope s_Trace_balance, [], []⟩
def d_Trace_paper : He5.DefA := ⟨pgA "Trace" "paper", "paper", "Trace.paper", defArgs s_Trace_paper, defBody s_Trace_paper, defScope s_Trace_paper, [], []⟩
def d_Trace_dgetitem : He5.DefA := ⟨meA "Trace" "__getitem__", "__getitem__", "Trace.__getitem__", defArgs s_Trace_dgetitem, defBody s_Trace_dgetitem, defScope s_Trace_dgetitem, [], []⟩
def d_Trace_dadd : He5.DefA := ⟨meA "Trace" "__add__", "__add__", "Trace.__add__", defArgs s_Trace_dadd, defBody s_Trace_dadd, defScope s_Trace_dadd, [], []⟩
def d_is_pair : He5.DefA := ⟨glA "is_pair", "is_pair", "is_pair", defArgs s_is_pair, defBody s_is_pair, defScope s_is_pair, [], []⟩
def d_need_closed : He5.DefA := ⟨glA "need_closed", "need_closed", "need_closed", defArgs s_need_closed, defBody s_need_closed, defScope s_need_closed, [], []⟩
def d_open_trace : He5.DefA := ⟨glA "open_trace", "open_trace", "open_trace", defArgs s_open_trace, defBody s_open_trace, defScope s_open_trace, [], []⟩
def d_paper_of : He5.DefA := ⟨glA "paper_of", "paper_of", "paper_of", defArgs s_paper_of, defBody s_paper_of, defScope s_paper_of, [], []⟩
def d_avoiding_paper : He5.DefA := ⟨glA "avoiding_paper", "avoiding_paper", "avoiding_paper", defArgs s_avoiding_paper, defBody s_avoiding_paper, defScope s_avoiding_paper, [], [("rooms", .adr (kwdA "avoiding_paper" "rooms"))]⟩
def d_Numbers_dinit : He5.DefA := ⟨meA "Numbers" "__init__", "__init__", "Numbers.__init__", defArgs s_Numbers_dinit, defBody s_Numbers_dinit, defScope s_Numbers_dinit, [], []⟩
def d_Numbers_least : He5.DefA := ⟨pgA "Numbers" "least", "least", "Numbers.least", defArgs s_Numbers_least, defBody s_Numbers_least, defScope s_Numbers_least, [], []⟩
def d_Numbers_dadd : He5.DefA := ⟨meA "Numbers" "__add__", "__add__", "Numbers.__add__", defArgs s_Numbers_dadd, defBody s_Numbers_dadd, defScope s_Numbers_dadd, [], []⟩
def d_Numbers_deq : He5.DefA := ⟨meA "Numbers" "__eq__", "__eq__", "Numbers.__eq__", defArgs s_Numbers_deq, defBody s_Numbers_deq, defScope s_Numbers_deq, [], []⟩
def d_gcd_of_bank : He5.DefA := ⟨glA "gcd_of_bank", "gcd_of_bank", "gcd_of_bank", defArgs s_gcd_of_bank, defBody s_gcd_of_bank, defScope s_gcd_of_bank, [], []⟩
def d_corridor_modulus : He5.DefA := ⟨glA "corridor_modulus", "corridor_modulus", "corridor_modulus", defArgs s_corridor_modulus, defBody s_corridor_modulus, defScope s_corridor_modulus, [], []⟩
def d_corridor_numbers : He5.DefA := ⟨glA "corridor_numbers", "corridor_numbers", "corridor_numbers", defArgs s_corridor_numbers, defBody s_corridor_numbers, defScope s_corridor_numbers, [], []⟩
def d_log_total : He5.DefA := ⟨glA "log_total", "log_total", "log_total", defArgs s_log_total, defBody s_log_total, defScope s_log_total, [], []⟩
def d_log_numbers : He5.DefA := ⟨glA "log_numbers", "log_numbers", "log_numbers", defArgs s_log_numbers, defBody s_log_numbers, defScope s_log_numbers, [], []⟩
def d_z_begin : He5.DefA := ⟨glA "_law_begin", "_law_begin", "_law_begin", defArgs s_z_begin, defBody s_z_begin, defScope s_z_begin, [], []⟩
def d_z_draw : He5.DefA := ⟨glA "_law_draw", "_law_draw", "_law_draw", defArgs s_z_draw, defBody s_z_draw, defScope s_z_draw, [], []⟩
def d_z_pick : He5.DefA := ⟨glA "_law_pick", "_law_pick", "_law_pick", defArgs s_z_pick, defBody s_z_pick, defScope s_z_pick, [], []⟩
def d_z_shuffled : He5.DefA := ⟨glA "_law_shuffled", "_law_shuffled", "_law_shuffled", defArgs s_z_shuffled, defBody s_z_shuffled, defScope s_z_shuffled, [], []⟩
def d_z_names : He5.DefA := ⟨glA "_law_names", "_law_names", "_law_names", defArgs s_z_names, defBody s_z_names, defScope s_z_names, [], []⟩
def d_z_pair : He5.DefA := ⟨glA "_law_pair", "_law_pair", "_law_pair", defArgs s_z_pair, defBody s_z_pair, defScope s_z_pair, [], []⟩
def d_z_drawn : He5.DefA := ⟨glA "_law_drawn", "_law_drawn", "_law_drawn", defArgs s_z_drawn, defBody s_z_drawn, defScope s_z_drawn, [], []⟩
def d_z_built : He5.DefA := ⟨glA "_law_built", "_law_built", "_law_built", defArgs s_z_built, defBody s_z_built, defScope s_z_built, [], []⟩
def d_z_near : He5.DefA := ⟨glA "_law_near", "_law_near", "_law_near", defArgs s_z_near, defBody s_z_near, defScope s_z_near, [], []⟩
def d_z_sides_due : He5.DefA := ⟨glA "_law_sides_due", "_law_sides_due", "_law_sides_due", defArgs s_z_sides_due, defBody s_z_sides_due, defScope s_z_sides_due, [], []⟩
def d_z_wandered : He5.DefA := ⟨glA "_law_wandered", "_law_wandered", "_law_wandered", defArgs s_z_wandered, defBody s_z_wandered, defScope s_z_wandered, [], []⟩
def d_z_left : He5.DefA := ⟨glA "_law_left", "_law_left", "_law_left", defArgs s_z_left, defBody s_z_left, defScope s_z_left, [], []⟩
def d_z_gcd : He5.DefA := ⟨glA "_law_gcd", "_law_gcd", "_law_gcd", defArgs s_z_gcd, defBody s_z_gcd, defScope s_z_gcd, [], []⟩
def d_z_gcd_all : He5.DefA := ⟨glA "_law_gcd_all", "_law_gcd_all", "_law_gcd_all", defArgs s_z_gcd_all, defBody s_z_gcd_all, defScope s_z_gcd_all, [], []⟩
def d_z_lcm : He5.DefA := ⟨glA "_law_lcm", "_law_lcm", "_law_lcm", defArgs s_z_lcm, defBody s_z_lcm, defScope s_z_lcm, [], []⟩
def d_z_bank_gcd : He5.DefA := ⟨glA "_law_bank_gcd", "_law_bank_gcd", "_law_bank_gcd", defArgs s_z_bank_gcd, defBody s_z_bank_gcd, defScope s_z_bank_gcd, [], []⟩
def d_z_corridor_due : He5.DefA := ⟨glA "_law_corridor_due", "_law_corridor_due", "_law_corridor_due", defArgs s_z_corridor_due, defBody s_z_corridor_due, defScope s_z_corridor_due, [], []⟩
def d_z_least : He5.DefA := ⟨glA "_law_least", "_law_least", "_law_least", defArgs s_z_least, defBody s_z_least, defScope s_z_least, [], []⟩
def d_z_rows : He5.DefA := ⟨glA "_law_rows", "_law_rows", "_law_rows", defArgs s_z_rows, defBody s_z_rows, defScope s_z_rows, [], []⟩
def d_z_told : He5.DefA := ⟨glA "_law_told", "_law_told", "_law_told", defArgs s_z_told, defBody s_z_told, defScope s_z_told, [], []⟩
def d_law : He5.DefA := ⟨glA "law", "law", "law", defArgs s_law, defBody s_law, defScope s_law, [], []⟩
def d_Impossible_dinit : He5.DefA := ⟨meA "Impossible" "__init__", "__init__", "Impossible.__init__", defArgs s_Impossible_dinit, defBody s_Impossible_dinit, defScope s_Impossible_dinit, [], []⟩
def fn0 : List He5.DefA := [d_gcd_of, d_lcm_of, d_joined_rooms, d_steps_from, d_reached_from, d_level_corridor, d_sides_of, d_odd_ring_of, d_on_rings, d_bridges_of, d_is_name, d_is_integer, d_is_between, d_need_possible, d_combined, d_divisor_of]
def fn1 : List He5.DefA := [d_wanted_sums, d_tree_values, d_solution, d_pair_of, d_Building_dinit, d_Building_prepare, d_Building_sorted_pairs, d_Building_check_connected, d_Building_rooms, d_Building_corridors, d_Building_sides, d_Building_corridor_of, d_Building_bank, d_Building_dcontains, d_Building_dgetitem, d_Building_deq]
def fn2 : List He5.DefA := [d_Trace_dinit, d_Trace_building, d_Trace_first, d_Trace_last, d_Trace_changes, d_Trace_found_balance, d_Trace_balance, d_Trace_paper, d_Trace_dgetitem, d_Trace_dadd, d_is_pair, d_need_closed, d_open_trace, d_paper_of, d_avoiding_paper, d_Numbers_dinit]
def fn3 : List He5.DefA := [d_Numbers_least, d_Numbers_dadd, d_Numbers_deq, d_gcd_of_bank, d_corridor_modulus, d_corridor_numbers, d_log_total, d_log_numbers, d_z_begin, d_z_draw, d_z_pick, d_z_shuffled, d_z_names, d_z_pair, d_z_drawn, d_z_built]
def fn4 : List He5.DefA := [d_z_near, d_z_sides_due, d_z_wandered, d_z_left, d_z_gcd, d_z_gcd_all, d_z_lcm, d_z_bank_gcd, d_z_corridor_due, d_z_least, d_z_rows, d_z_told, d_law, d_Impossible_dinit]
def fn : List He5.DefA := (fn0 ++ (fn1 ++ (fn2 ++ (fn3 ++ fn4))))
def fa0 : List He.Fa := [.glo "gcd_of", .glo "lcm_of", .glo "joined_rooms", .glo "steps_from", .glo "reached_from", .glo "level_corridor", .glo "sides_of", .glo "odd_ring_of", .glo "on_rings", .glo "bridges_of", .glo "is_name", .glo "is_integer", .glo "is_between", .glo "need_possible", .glo "combined", .glo "divisor_of"]
def fa1 : List He.Fa := [.glo "wanted_sums", .glo "tree_values", .glo "solution", .glo "pair_of", .glo "is_pair", .glo "need_closed", .glo "open_trace", .glo "paper_of", .glo "avoiding_paper", .glo "gcd_of_bank", .glo "corridor_modulus", .glo "corridor_numbers", .glo "log_total", .glo "log_numbers", .glo "_law_begin", .glo "_law_draw"]
def fa2 : List He.Fa := [.glo "_law_pick", .glo "_law_shuffled", .glo "_law_names", .glo "_law_pair", .glo "_law_drawn", .glo "_law_built", .glo "_law_near", .glo "_law_sides_due", .glo "_law_wandered", .glo "_law_left", .glo "_law_gcd", .glo "_law_gcd_all", .glo "_law_lcm", .glo "_law_bank_gcd", .glo "_law_corridor_due", .glo "_law_least"]
def fa3 : List He.Fa := [.glo "_law_rows", .glo "_law_told", .glo "law", .glo "Building", .glo "Trace", .glo "Numbers", .glo "Impossible", .glo "RoomdialsError", .free "abs", .free "len", .free "list", .free "min", .free "tuple", .free "sorted", .free "isinstance", .free "str"]
def fa4 : List He.Fa := [.free "int", .free "bool", .free "all", .free "dict", .free "zip", .free "max", .free "range", .free "sum", .int "LONGEST_NAME" 8, .int "MOST_SIZE_buildings" 1000000000, .int "LARGEST" 1000000000, .str "LETTERS" "abcdefghijklmnopqrstuvwxyz", .cls "Building", .mkr "Building", .noat "Building" "sizes", .noat "Building" "pairs"]
def fa5 : List He.Fa := [.noat "Building" "near", .noat "Building" "own_sides", .noat "Building" "own_ring", .noat "Building" "own_bridges", .cls "Trace", .mkr "Trace", .noat "Trace" "own_building", .noat "Trace" "own_first", .noat "Trace" "own_last", .noat "Trace" "own_changes", .noat "Trace" "key", .noat "Trace" "own_balance", .noat "Trace" "own_gcd", .cls "Numbers", .mkr "Numbers", .noat "Numbers" "own_least"]
def fa6 : List He.Fa := [.noat "Numbers" "own_modulus", .meth "Building" "prepare", .meth "Building" "sorted_pairs", .meth "Building" "check_connected", .meth "Building" "corridor_of", .meth "Building" "bank", .meth "Building" "__contains__", .meth "Building" "__getitem__", .meth "Building" "__eq__", .meth "Trace" "found_balance", .meth "Trace" "__getitem__", .meth "Trace" "__add__", .meth "Numbers" "__add__", .meth "Numbers" "__eq__"]
def fa : List He.Fa := (fa0 ++ (fa1 ++ (fa2 ++ (fa3 ++ (fa4 ++ (fa5 ++ fa6))))))
def exB (K : PySem.W.Frag) : Bool := (propB "Building" "rooms" K && (propB "Building" "corridors" K && (propB "Building" "sides" K && (propB "Trace" "building" K && (propB "Trace" "first" K && (propB "Trace" "last" K && (propB "Trace" "changes" K && (propB "Trace" "balance" K && (propB "Trace" "paper" K && (propB "Numbers" "least" K && (conB "Building" "MOST_ROOMS" 24 K && (conB "Building" "MOST_CORRIDORS" 40 K && (eqB "Building" K && (eqB "Numbers" K && (opB "Building" K && (opB "Trace" K && (opB "Numbers" K && (insB "Building" K && (insB "Numbers" K && (addB "Numbers" K && (etB (He.dflAt ("steps_from", none) 0 K) K && (etB (He.dflAt ("reached_from", none) 0 K) K && (etB (kwdA "avoiding_paper" "rooms" K) K && (oexB "Impossible" "reason" K && baseB "RoomdialsError" K))))))))))))))))))))))))
theorem ex_0 {K : PySem.W.Frag} (c : exB K = true) : (propB "Building" "rooms" K) = true := by
  unfold exB at c
  have h := c
  exact (He.ba h).1
theorem ex_1 {K : PySem.W.Frag} (c : exB K = true) : (propB "Building" "corridors" K) = true := by
  unfold exB at c
  have h := c
  have h := (He.ba h).2
  exact (He.ba h).1
theorem ex_2 {K : PySem.W.Frag} (c : exB K = true) : (propB "Building" "sides" K) = true := by
  unfold exB at c
  have h := c
  have h := (He.ba h).2
  have h := (He.ba h).2
  exact (He.ba h).1
theorem ex_3 {K : PySem.W.Frag} (c : exB K = true) : (propB "Trace" "building" K) = true := by
  unfold exB at c
  have h := c
  have h := (He.ba h).2
  have h := (He.ba h).2
  have h := (He.ba h).2
  exact (He.ba h).1
theorem ex_4 {K : PySem.W.Frag} (c : exB K = true) : (propB "Trace" "first" K) = true := by
  unfold exB at c
  have h := c
  have h := (He.ba h).2
  have h := (He.ba h).2
  have h := (He.ba h).2
  have h := (He.ba h).2
  exact (He.ba h).1
theorem ex_5 {K : PySem.W.Frag} (c : exB K = true) : (propB "Trace" "last" K) = true := by
  unfold exB at c
  have h := c
  have h := (He.ba h).2
  have h := (He.ba h).2
  have h := (He.ba h).2
  have h := (He.ba h).2
  have h := (He.ba h).2
  exact (He.ba h).1
theorem ex_6 {K : PySem.W.Frag} (c : exB K = true) : (propB "Trace" "changes" K) = true := by
  unfold exB at c
  have h := c
  have h := (He.ba h).2
  have h := (He.ba h).2
  have h := (He.ba h).2
  have h := (He.ba h).2
  have h := (He.ba h).2
  have h := (He.ba h).2
  exact (He.ba h).1
theorem ex_7 {K : PySem.W.Frag} (c : exB K = true) : (propB "Trace" "balance" K) = true := by
  unfold exB at c
  have h := c
  have h := (He.ba h).2
  have h := (He.ba h).2
  have h := (He.ba h).2
  have h := (He.ba h).2
  have h := (He.ba h).2
  have h := (He.ba h).2
  have h := (He.ba h).2
  exact (He.ba h).1
theorem ex_8 {K : PySem.W.Frag} (c : exB K = true) : (propB "Trace" "paper" K) = true := by
  unfold exB at c
  have h := c
  have h := (He.ba h).2
  have h := (He.ba h).2
  have h := (He.ba h).2
  have h := (He.ba h).2
  have h := (He.ba h).2
  have h := (He.ba h).2
  have h := (He.ba h).2
  have h := (He.ba h).2
  exact (He.ba h).1
theorem ex_9 {K : PySem.W.Frag} (c : exB K = true) : (propB "Numbers" "least" K) = true := by
  unfold exB at c
  have h := c
  have h := (He.ba h).2
  have h := (He.ba h).2
  have h := (He.ba h).2
  have h := (He.ba h).2
  have h := (He.ba h).2
  have h := (He.ba h).2
  have h := (He.ba h).2
  have h := (He.ba h).2
  have h := (He.ba h).2
  exact (He.ba h).1
theorem ex_10 {K : PySem.W.Frag} (c : exB K = true) : (conB "Building" "MOST_ROOMS" 24 K) = true := by
  unfold exB at c
  have h := c
  have h := (He.ba h).2
  have h := (He.ba h).2
  have h := (He.ba h).2
  have h := (He.ba h).2
  have h := (He.ba h).2
  have h := (He.ba h).2
  have h := (He.ba h).2
  have h := (He.ba h).2
  have h := (He.ba h).2
  have h := (He.ba h).2
  exact (He.ba h).1
theorem ex_11 {K : PySem.W.Frag} (c : exB K = true) : (conB "Building" "MOST_CORRIDORS" 40 K) = true := by
  unfold exB at c
  have h := c
  have h := (He.ba h).2
  have h := (He.ba h).2
  have h := (He.ba h).2
  have h := (He.ba h).2
  have h := (He.ba h).2
  have h := (He.ba h).2
  have h := (He.ba h).2
  have h := (He.ba h).2
  have h := (He.ba h).2
  have h := (He.ba h).2
  have h := (He.ba h).2
  exact (He.ba h).1
theorem ex_12 {K : PySem.W.Frag} (c : exB K = true) : (eqB "Building" K) = true := by
  unfold exB at c
  have h := c
  have h := (He.ba h).2
  have h := (He.ba h).2
  have h := (He.ba h).2
  have h := (He.ba h).2
  have h := (He.ba h).2
  have h := (He.ba h).2
  have h := (He.ba h).2
  have h := (He.ba h).2
  have h := (He.ba h).2
  have h := (He.ba h).2
  have h := (He.ba h).2
  have h := (He.ba h).2
  exact (He.ba h).1
theorem ex_13 {K : PySem.W.Frag} (c : exB K = true) : (eqB "Numbers" K) = true := by
  unfold exB at c
  have h := c
  have h := (He.ba h).2
  have h := (He.ba h).2
  have h := (He.ba h).2
  have h := (He.ba h).2
  have h := (He.ba h).2
  have h := (He.ba h).2
  have h := (He.ba h).2
  have h := (He.ba h).2
  have h := (He.ba h).2
  have h := (He.ba h).2
  have h := (He.ba h).2
  have h := (He.ba h).2
  have h := (He.ba h).2
  exact (He.ba h).1
theorem ex_14 {K : PySem.W.Frag} (c : exB K = true) : (opB "Building" K) = true := by
  unfold exB at c
  have h := c
  have h := (He.ba h).2
  have h := (He.ba h).2
  have h := (He.ba h).2
  have h := (He.ba h).2
  have h := (He.ba h).2
  have h := (He.ba h).2
  have h := (He.ba h).2
  have h := (He.ba h).2
  have h := (He.ba h).2
  have h := (He.ba h).2
  have h := (He.ba h).2
  have h := (He.ba h).2
  have h := (He.ba h).2
  have h := (He.ba h).2
  exact (He.ba h).1
theorem ex_15 {K : PySem.W.Frag} (c : exB K = true) : (opB "Trace" K) = true := by
  unfold exB at c
  have h := c
  have h := (He.ba h).2
  have h := (He.ba h).2
  have h := (He.ba h).2
  have h := (He.ba h).2
  have h := (He.ba h).2
  have h := (He.ba h).2
  have h := (He.ba h).2
  have h := (He.ba h).2
  have h := (He.ba h).2
  have h := (He.ba h).2
  have h := (He.ba h).2
  have h := (He.ba h).2
  have h := (He.ba h).2
  have h := (He.ba h).2
  have h := (He.ba h).2
  exact (He.ba h).1
theorem ex_16 {K : PySem.W.Frag} (c : exB K = true) : (opB "Numbers" K) = true := by
  unfold exB at c
  have h := c
  have h := (He.ba h).2
  have h := (He.ba h).2
  have h := (He.ba h).2
  have h := (He.ba h).2
  have h := (He.ba h).2
  have h := (He.ba h).2
  have h := (He.ba h).2
  have h := (He.ba h).2
  have h := (He.ba h).2
  have h := (He.ba h).2
  have h := (He.ba h).2
  have h := (He.ba h).2
  have h := (He.ba h).2
  have h := (He.ba h).2
  have h := (He.ba h).2
  have h := (He.ba h).2
  exact (He.ba h).1
theorem ex_17 {K : PySem.W.Frag} (c : exB K = true) : (insB "Building" K) = true := by
  unfold exB at c
  have h := c
  have h := (He.ba h).2
  have h := (He.ba h).2
  have h := (He.ba h).2
  have h := (He.ba h).2
  have h := (He.ba h).2
  have h := (He.ba h).2
  have h := (He.ba h).2
  have h := (He.ba h).2
  have h := (He.ba h).2
  have h := (He.ba h).2
  have h := (He.ba h).2
  have h := (He.ba h).2
  have h := (He.ba h).2
  have h := (He.ba h).2
  have h := (He.ba h).2
  have h := (He.ba h).2
  have h := (He.ba h).2
  exact (He.ba h).1
theorem ex_18 {K : PySem.W.Frag} (c : exB K = true) : (insB "Numbers" K) = true := by
  unfold exB at c
  have h := c
  have h := (He.ba h).2
  have h := (He.ba h).2
  have h := (He.ba h).2
  have h := (He.ba h).2
  have h := (He.ba h).2
  have h := (He.ba h).2
  have h := (He.ba h).2
  have h := (He.ba h).2
  have h := (He.ba h).2
  have h := (He.ba h).2
  have h := (He.ba h).2
  have h := (He.ba h).2
  have h := (He.ba h).2
  have h := (He.ba h).2
  have h := (He.ba h).2
  have h := (He.ba h).2
  have h := (He.ba h).2
  have h := (He.ba h).2
  exact (He.ba h).1
theorem ex_19 {K : PySem.W.Frag} (c : exB K = true) : (addB "Numbers" K) = true := by
  unfold exB at c
  have h := c
  have h := (He.ba h).2
  have h := (He.ba h).2
  have h := (He.ba h).2
  have h := (He.ba h).2
  have h := (He.ba h).2
  have h := (He.ba h).2
  have h := (He.ba h).2
  have h := (He.ba h).2
  have h := (He.ba h).2
  have h := (He.ba h).2
  have h := (He.ba h).2
  have h := (He.ba h).2
  have h := (He.ba h).2
  have h := (He.ba h).2
  have h := (He.ba h).2
  have h := (He.ba h).2
  have h := (He.ba h).2
  have h := (He.ba h).2
  have h := (He.ba h).2
  exact (He.ba h).1
theorem ex_20 {K : PySem.W.Frag} (c : exB K = true) : (etB (He.dflAt ("steps_from", none) 0 K) K) = true := by
  unfold exB at c
  have h := c
  have h := (He.ba h).2
  have h := (He.ba h).2
  have h := (He.ba h).2
  have h := (He.ba h).2
  have h := (He.ba h).2
  have h := (He.ba h).2
  have h := (He.ba h).2
  have h := (He.ba h).2
  have h := (He.ba h).2
  have h := (He.ba h).2
  have h := (He.ba h).2
  have h := (He.ba h).2
  have h := (He.ba h).2
  have h := (He.ba h).2
  have h := (He.ba h).2
  have h := (He.ba h).2
  have h := (He.ba h).2
  have h := (He.ba h).2
  have h := (He.ba h).2
  have h := (He.ba h).2
  exact (He.ba h).1
theorem ex_21 {K : PySem.W.Frag} (c : exB K = true) : (etB (He.dflAt ("reached_from", none) 0 K) K) = true := by
  unfold exB at c
  have h := c
  have h := (He.ba h).2
  have h := (He.ba h).2
  have h := (He.ba h).2
  have h := (He.ba h).2
  have h := (He.ba h).2
  have h := (He.ba h).2
  have h := (He.ba h).2
  have h := (He.ba h).2
  have h := (He.ba h).2
  have h := (He.ba h).2
  have h := (He.ba h).2
  have h := (He.ba h).2
  have h := (He.ba h).2
  have h := (He.ba h).2
  have h := (He.ba h).2
  have h := (He.ba h).2
  have h := (He.ba h).2
  have h := (He.ba h).2
  have h := (He.ba h).2
  have h := (He.ba h).2
  have h := (He.ba h).2
  exact (He.ba h).1
theorem ex_22 {K : PySem.W.Frag} (c : exB K = true) : (etB (kwdA "avoiding_paper" "rooms" K) K) = true := by
  unfold exB at c
  have h := c
  have h := (He.ba h).2
  have h := (He.ba h).2
  have h := (He.ba h).2
  have h := (He.ba h).2
  have h := (He.ba h).2
  have h := (He.ba h).2
  have h := (He.ba h).2
  have h := (He.ba h).2
  have h := (He.ba h).2
  have h := (He.ba h).2
  have h := (He.ba h).2
  have h := (He.ba h).2
  have h := (He.ba h).2
  have h := (He.ba h).2
  have h := (He.ba h).2
  have h := (He.ba h).2
  have h := (He.ba h).2
  have h := (He.ba h).2
  have h := (He.ba h).2
  have h := (He.ba h).2
  have h := (He.ba h).2
  have h := (He.ba h).2
  exact (He.ba h).1
theorem ex_23 {K : PySem.W.Frag} (c : exB K = true) : (oexB "Impossible" "reason" K) = true := by
  unfold exB at c
  have h := c
  have h := (He.ba h).2
  have h := (He.ba h).2
  have h := (He.ba h).2
  have h := (He.ba h).2
  have h := (He.ba h).2
  have h := (He.ba h).2
  have h := (He.ba h).2
  have h := (He.ba h).2
  have h := (He.ba h).2
  have h := (He.ba h).2
  have h := (He.ba h).2
  have h := (He.ba h).2
  have h := (He.ba h).2
  have h := (He.ba h).2
  have h := (He.ba h).2
  have h := (He.ba h).2
  have h := (He.ba h).2
  have h := (He.ba h).2
  have h := (He.ba h).2
  have h := (He.ba h).2
  have h := (He.ba h).2
  have h := (He.ba h).2
  have h := (He.ba h).2
  exact (He.ba h).1
theorem ex_24 {K : PySem.W.Frag} (c : exB K = true) : (baseB "RoomdialsError" K) = true := by
  unfold exB at c
  have h := c
  have h := (He.ba h).2
  have h := (He.ba h).2
  have h := (He.ba h).2
  have h := (He.ba h).2
  have h := (He.ba h).2
  have h := (He.ba h).2
  have h := (He.ba h).2
  have h := (He.ba h).2
  have h := (He.ba h).2
  have h := (He.ba h).2
  have h := (He.ba h).2
  have h := (He.ba h).2
  have h := (He.ba h).2
  have h := (He.ba h).2
  have h := (He.ba h).2
  have h := (He.ba h).2
  have h := (He.ba h).2
  have h := (He.ba h).2
  have h := (He.ba h).2
  have h := (He.ba h).2
  have h := (He.ba h).2
  have h := (He.ba h).2
  have h := (He.ba h).2
  have h := (He.ba h).2
  exact h
/-! ### the Hook -/
abbrev Seen : Type := He.AlD × Bool
/-- what an object names, as far as the facts want it: a def's code and defaults, a class's names, a property's defs, the items of tuples and dicts -/
def refsR (g : Addr → Option Obj) (a : Addr) : List Addr := match g a with
  | some ⟨c, _, .func fd, _⟩ => He.refV fd.code ++ (He.refV fd.defaults ++ He.refV fd.kwdefaults)
  | some ⟨c, _, .cls cd, _⟩ => [cd.ns]
  | some ⟨c, _, .dict es _, _⟩ => es.toList.flatMap fun e => He.refV e.val
  | some ⟨.type c, _, .seq its _, _⟩ => its.toList.flatMap He.refV
  | some ⟨.type c, _, .fields vs, _⟩ => if c = "property" then vs.toList.flatMap He.refV else []
  | _ => []
def asR (g : Addr → Option Obj) : Nat → List Addr → List Addr
  | 0, l => l
  | n + 1, l => l ++ asR g n (l.flatMap (refsR g))
def seeG (n : Nat) (g : Addr → Option Obj) : Seen := (He5.obsA fa fn (He.frG g (asR g n [mainGlobals] ++ [PySem.cStatics])), exB (He.frG g (asR g n [mainGlobals] ++ [PySem.cStatics])))
/-- what the top has left, in K -/
structure Left (K : PySem.W.Frag) : Prop where
  says : He5.SaysA fa fn K
  more : exB K = true
def hook (n : Nat) : PySem.W.Hook where
  α := Seen
  obs := fun s => seeG n s.heap.get?
  val := fun _ => (He5.valA fn, true)
  says := fun _ h => ∃ K : PySem.W.Frag, K.In h ∧ Left K
  of := fun _ _ e => ⟨_, He.frG_in, congrArg Prod.fst e, congrArg Prod.snd e⟩
  keeps := fun _ _ _ ⟨K, hK, c⟩ k => ⟨K, PySem.W.Frag.In.keeps hK k, c⟩
def seeT (s : PySem.W.SharedT) : Seen := seeG 5 (HandSHeadRun.getT s)
theorem seeT_eq (s : PySem.W.SharedT) : seeT s = (hook 5).obs s.abs := by
  have e : HandSHeadRun.getT s = s.abs.heap.get? := funext (HandSHeadRun.getT_eq s)
  show seeG 5 (HandSHeadRun.getT s) = seeG 5 s.abs.heap.get?
  rw [e]
section
variable {K : PySem.W.Frag} {h : Heap} {mg : Str → Option Value}
theorem Left.fact (L : Left K) {f : He.Fa} (i : Nat) (e : fa[i]? = some f := by rfl) : f.ok K = true := L.says.fact i e
theorem Left.g_gcd_of (L : Left K) (X : K.In h) (G : h.Ns mainGlobals mg) : mg "gcd_of" = some (.ref (He.ga K "gcd_of")) := He.glo_ok X G (L.fact 0)
theorem Left.g_lcm_of (L : Left K) (X : K.In h) (G : h.Ns mainGlobals mg) : mg "lcm_of" = some (.ref (He.ga K "lcm_of")) := He.glo_ok X G (L.fact 1)
theorem Left.g_joined_rooms (L : Left K) (X : K.In h) (G : h.Ns mainGlobals mg) : mg "joined_rooms" = some (.ref (He.ga K "joined_rooms")) := He.glo_ok X G (L.fact 2)
theorem Left.g_steps_from (L : Left K) (X : K.In h) (G : h.Ns mainGlobals mg) : mg "steps_from" = some (.ref (He.ga K "steps_from")) := He.glo_ok X G (L.fact 3)
theorem Left.g_reached_from (L : Left K) (X : K.In h) (G : h.Ns mainGlobals mg) : mg "reached_from" = some (.ref (He.ga K "reached_from")) := He.glo_ok X G (L.fact 4)
theorem Left.g_level_corridor (L : Left K) (X : K.In h) (G : h.Ns mainGlobals mg) : mg "level_corridor" = some (.ref (He.ga K "level_corridor")) := He.glo_ok X G (L.fact 5)
theorem Left.g_sides_of (L : Left K) (X : K.In h) (G : h.Ns mainGlobals mg) : mg "sides_of" = some (.ref (He.ga K "sides_of")) := He.glo_ok X G (L.fact 6)
theorem Left.g_odd_ring_of (L : Left K) (X : K.In h) (G : h.Ns mainGlobals mg) : mg "odd_ring_of" = some (.ref (He.ga K "odd_ring_of")) := He.glo_ok X G (L.fact 7)
theorem Left.g_on_rings (L : Left K) (X : K.In h) (G : h.Ns mainGlobals mg) : mg "on_rings" = some (.ref (He.ga K "on_rings")) := He.glo_ok X G (L.fact 8)
theorem Left.g_bridges_of (L : Left K) (X : K.In h) (G : h.Ns mainGlobals mg) : mg "bridges_of" = some (.ref (He.ga K "bridges_of")) := He.glo_ok X G (L.fact 9)
theorem Left.g_is_name (L : Left K) (X : K.In h) (G : h.Ns mainGlobals mg) : mg "is_name" = some (.ref (He.ga K "is_name")) := He.glo_ok X G (L.fact 10)
theorem Left.g_is_integer (L : Left K) (X : K.In h) (G : h.Ns mainGlobals mg) : mg "is_integer" = some (.ref (He.ga K "is_integer")) := He.glo_ok X G (L.fact 11)
theorem Left.g_is_between (L : Left K) (X : K.In h) (G : h.Ns mainGlobals mg) : mg "is_between" = some (.ref (He.ga K "is_between")) := He.glo_ok X G (L.fact 12)
theorem Left.g_need_possible (L : Left K) (X : K.In h) (G : h.Ns mainGlobals mg) : mg "need_possible" = some (.ref (He.ga K "need_possible")) := He.glo_ok X G (L.fact 13)
theorem Left.g_combined (L : Left K) (X : K.In h) (G : h.Ns mainGlobals mg) : mg "combined" = some (.ref (He.ga K "combined")) := He.glo_ok X G (L.fact 14)
theorem Left.g_divisor_of (L : Left K) (X : K.In h) (G : h.Ns mainGlobals mg) : mg "divisor_of" = some (.ref (He.ga K "divisor_of")) := He.glo_ok X G (L.fact 15)
theorem Left.g_wanted_sums (L : Left K) (X : K.In h) (G : h.Ns mainGlobals mg) : mg "wanted_sums" = some (.ref (He.ga K "wanted_sums")) := He.glo_ok X G (L.fact 16)
theorem Left.g_tree_values (L : Left K) (X : K.In h) (G : h.Ns mainGlobals mg) : mg "tree_values" = some (.ref (He.ga K "tree_values")) := He.glo_ok X G (L.fact 17)
theorem Left.g_solution (L : Left K) (X : K.In h) (G : h.Ns mainGlobals mg) : mg "solution" = some (.ref (He.ga K "solution")) := He.glo_ok X G (L.fact 18)
theorem Left.g_pair_of (L : Left K) (X : K.In h) (G : h.Ns mainGlobals mg) : mg "pair_of" = some (.ref (He.ga K "pair_of")) := He.glo_ok X G (L.fact 19)
theorem Left.g_is_pair (L : Left K) (X : K.In h) (G : h.Ns mainGlobals mg) : mg "is_pair" = some (.ref (He.ga K "is_pair")) := He.glo_ok X G (L.fact 20)
theorem Left.g_need_closed (L : Left K) (X : K.In h) (G : h.Ns mainGlobals mg) : mg "need_closed" = some (.ref (He.ga K "need_closed")) := He.glo_ok X G (L.fact 21)
theorem Left.g_open_trace (L : Left K) (X : K.In h) (G : h.Ns mainGlobals mg) : mg "open_trace" = some (.ref (He.ga K "open_trace")) := He.glo_ok X G (L.fact 22)
theorem Left.g_paper_of (L : Left K) (X : K.In h) (G : h.Ns mainGlobals mg) : mg "paper_of" = some (.ref (He.ga K "paper_of")) := He.glo_ok X G (L.fact 23)
theorem Left.g_avoiding_paper (L : Left K) (X : K.In h) (G : h.Ns mainGlobals mg) : mg "avoiding_paper" = some (.ref (He.ga K "avoiding_paper")) := He.glo_ok X G (L.fact 24)
theorem Left.g_gcd_of_bank (L : Left K) (X : K.In h) (G : h.Ns mainGlobals mg) : mg "gcd_of_bank" = some (.ref (He.ga K "gcd_of_bank")) := He.glo_ok X G (L.fact 25)
theorem Left.g_corridor_modulus (L : Left K) (X : K.In h) (G : h.Ns mainGlobals mg) : mg "corridor_modulus" = some (.ref (He.ga K "corridor_modulus")) := He.glo_ok X G (L.fact 26)
theorem Left.g_corridor_numbers (L : Left K) (X : K.In h) (G : h.Ns mainGlobals mg) : mg "corridor_numbers" = some (.ref (He.ga K "corridor_numbers")) := He.glo_ok X G (L.fact 27)
theorem Left.g_log_total (L : Left K) (X : K.In h) (G : h.Ns mainGlobals mg) : mg "log_total" = some (.ref (He.ga K "log_total")) := He.glo_ok X G (L.fact 28)
theorem Left.g_log_numbers (L : Left K) (X : K.In h) (G : h.Ns mainGlobals mg) : mg "log_numbers" = some (.ref (He.ga K "log_numbers")) := He.glo_ok X G (L.fact 29)
theorem Left.g__law_begin (L : Left K) (X : K.In h) (G : h.Ns mainGlobals mg) : mg "_law_begin" = some (.ref (He.ga K "_law_begin")) := He.glo_ok X G (L.fact 30)
theorem Left.g__law_draw (L : Left K) (X : K.In h) (G : h.Ns mainGlobals mg) : mg "_law_draw" = some (.ref (He.ga K "_law_draw")) := He.glo_ok X G (L.fact 31)
theorem Left.g__law_pick (L : Left K) (X : K.In h) (G : h.Ns mainGlobals mg) : mg "_law_pick" = some (.ref (He.ga K "_law_pick")) := He.glo_ok X G (L.fact 32)
theorem Left.g__law_shuffled (L : Left K) (X : K.In h) (G : h.Ns mainGlobals mg) : mg "_law_shuffled" = some (.ref (He.ga K "_law_shuffled")) := He.glo_ok X G (L.fact 33)
theorem Left.g__law_names (L : Left K) (X : K.In h) (G : h.Ns mainGlobals mg) : mg "_law_names" = some (.ref (He.ga K "_law_names")) := He.glo_ok X G (L.fact 34)
theorem Left.g__law_pair (L : Left K) (X : K.In h) (G : h.Ns mainGlobals mg) : mg "_law_pair" = some (.ref (He.ga K "_law_pair")) := He.glo_ok X G (L.fact 35)
theorem Left.g__law_drawn (L : Left K) (X : K.In h) (G : h.Ns mainGlobals mg) : mg "_law_drawn" = some (.ref (He.ga K "_law_drawn")) := He.glo_ok X G (L.fact 36)
theorem Left.g__law_built (L : Left K) (X : K.In h) (G : h.Ns mainGlobals mg) : mg "_law_built" = some (.ref (He.ga K "_law_built")) := He.glo_ok X G (L.fact 37)
theorem Left.g__law_near (L : Left K) (X : K.In h) (G : h.Ns mainGlobals mg) : mg "_law_near" = some (.ref (He.ga K "_law_near")) := He.glo_ok X G (L.fact 38)
theorem Left.g__law_sides_due (L : Left K) (X : K.In h) (G : h.Ns mainGlobals mg) : mg "_law_sides_due" = some (.ref (He.ga K "_law_sides_due")) := He.glo_ok X G (L.fact 39)
theorem Left.g__law_wandered (L : Left K) (X : K.In h) (G : h.Ns mainGlobals mg) : mg "_law_wandered" = some (.ref (He.ga K "_law_wandered")) := He.glo_ok X G (L.fact 40)
theorem Left.g__law_left (L : Left K) (X : K.In h) (G : h.Ns mainGlobals mg) : mg "_law_left" = some (.ref (He.ga K "_law_left")) := He.glo_ok X G (L.fact 41)
theorem Left.g__law_gcd (L : Left K) (X : K.In h) (G : h.Ns mainGlobals mg) : mg "_law_gcd" = some (.ref (He.ga K "_law_gcd")) := He.glo_ok X G (L.fact 42)
theorem Left.g__law_gcd_all (L : Left K) (X : K.In h) (G : h.Ns mainGlobals mg) : mg "_law_gcd_all" = some (.ref (He.ga K "_law_gcd_all")) := He.glo_ok X G (L.fact 43)
theorem Left.g__law_lcm (L : Left K) (X : K.In h) (G : h.Ns mainGlobals mg) : mg "_law_lcm" = some (.ref (He.ga K "_law_lcm")) := He.glo_ok X G (L.fact 44)
theorem Left.g__law_bank_gcd (L : Left K) (X : K.In h) (G : h.Ns mainGlobals mg) : mg "_law_bank_gcd" = some (.ref (He.ga K "_law_bank_gcd")) := He.glo_ok X G (L.fact 45)
theorem Left.g__law_corridor_due (L : Left K) (X : K.In h) (G : h.Ns mainGlobals mg) : mg "_law_corridor_due" = some (.ref (He.ga K "_law_corridor_due")) := He.glo_ok X G (L.fact 46)
theorem Left.g__law_least (L : Left K) (X : K.In h) (G : h.Ns mainGlobals mg) : mg "_law_least" = some (.ref (He.ga K "_law_least")) := He.glo_ok X G (L.fact 47)
theorem Left.g__law_rows (L : Left K) (X : K.In h) (G : h.Ns mainGlobals mg) : mg "_law_rows" = some (.ref (He.ga K "_law_rows")) := He.glo_ok X G (L.fact 48)
theorem Left.g__law_told (L : Left K) (X : K.In h) (G : h.Ns mainGlobals mg) : mg "_law_told" = some (.ref (He.ga K "_law_told")) := He.glo_ok X G (L.fact 49)
theorem Left.g_law (L : Left K) (X : K.In h) (G : h.Ns mainGlobals mg) : mg "law" = some (.ref (He.ga K "law")) := He.glo_ok X G (L.fact 50)
theorem Left.g_Building (L : Left K) (X : K.In h) (G : h.Ns mainGlobals mg) : mg "Building" = some (.ref (He.ga K "Building")) := He.glo_ok X G (L.fact 51)
theorem Left.g_Trace (L : Left K) (X : K.In h) (G : h.Ns mainGlobals mg) : mg "Trace" = some (.ref (He.ga K "Trace")) := He.glo_ok X G (L.fact 52)
theorem Left.g_Numbers (L : Left K) (X : K.In h) (G : h.Ns mainGlobals mg) : mg "Numbers" = some (.ref (He.ga K "Numbers")) := He.glo_ok X G (L.fact 53)
theorem Left.g_Impossible (L : Left K) (X : K.In h) (G : h.Ns mainGlobals mg) : mg "Impossible" = some (.ref (He.ga K "Impossible")) := He.glo_ok X G (L.fact 54)
theorem Left.g_RoomdialsError (L : Left K) (X : K.In h) (G : h.Ns mainGlobals mg) : mg "RoomdialsError" = some (.ref (He.ga K "RoomdialsError")) := He.glo_ok X G (L.fact 55)
theorem Left.f_abs (L : Left K) (X : K.In h) (G : h.Ns mainGlobals mg) : mg "abs" = none := He.free_ok X G (L.fact 56)
theorem Left.f_len (L : Left K) (X : K.In h) (G : h.Ns mainGlobals mg) : mg "len" = none := He.free_ok X G (L.fact 57)
theorem Left.f_list (L : Left K) (X : K.In h) (G : h.Ns mainGlobals mg) : mg "list" = none := He.free_ok X G (L.fact 58)
theorem Left.f_min (L : Left K) (X : K.In h) (G : h.Ns mainGlobals mg) : mg "min" = none := He.free_ok X G (L.fact 59)
theorem Left.f_tuple (L : Left K) (X : K.In h) (G : h.Ns mainGlobals mg) : mg "tuple" = none := He.free_ok X G (L.fact 60)
theorem Left.f_sorted (L : Left K) (X : K.In h) (G : h.Ns mainGlobals mg) : mg "sorted" = none := He.free_ok X G (L.fact 61)
theorem Left.f_isinstance (L : Left K) (X : K.In h) (G : h.Ns mainGlobals mg) : mg "isinstance" = none := He.free_ok X G (L.fact 62)
theorem Left.f_str (L : Left K) (X : K.In h) (G : h.Ns mainGlobals mg) : mg "str" = none := He.free_ok X G (L.fact 63)
theorem Left.f_int (L : Left K) (X : K.In h) (G : h.Ns mainGlobals mg) : mg "int" = none := He.free_ok X G (L.fact 64)
theorem Left.f_bool (L : Left K) (X : K.In h) (G : h.Ns mainGlobals mg) : mg "bool" = none := He.free_ok X G (L.fact 65)
theorem Left.f_all (L : Left K) (X : K.In h) (G : h.Ns mainGlobals mg) : mg "all" = none := He.free_ok X G (L.fact 66)
theorem Left.f_dict (L : Left K) (X : K.In h) (G : h.Ns mainGlobals mg) : mg "dict" = none := He.free_ok X G (L.fact 67)
theorem Left.f_zip (L : Left K) (X : K.In h) (G : h.Ns mainGlobals mg) : mg "zip" = none := He.free_ok X G (L.fact 68)
theorem Left.f_max (L : Left K) (X : K.In h) (G : h.Ns mainGlobals mg) : mg "max" = none := He.free_ok X G (L.fact 69)
theorem Left.f_range (L : Left K) (X : K.In h) (G : h.Ns mainGlobals mg) : mg "range" = none := He.free_ok X G (L.fact 70)
theorem Left.f_sum (L : Left K) (X : K.In h) (G : h.Ns mainGlobals mg) : mg "sum" = none := He.free_ok X G (L.fact 71)
theorem Left.i_LONGEST_NAME (L : Left K) (X : K.In h) (G : h.Ns mainGlobals mg) : ∃ t, mg "LONGEST_NAME" = some (.int 8 t) := He.int_ok X G (L.fact 72)
theorem Left.i_MOST_SIZE_buildings (L : Left K) (X : K.In h) (G : h.Ns mainGlobals mg) : ∃ t, mg "MOST_SIZE_buildings" = some (.int 1000000000 t) := He.int_ok X G (L.fact 73)
theorem Left.i_LARGEST (L : Left K) (X : K.In h) (G : h.Ns mainGlobals mg) : ∃ t, mg "LARGEST" = some (.int 1000000000 t) := He.int_ok X G (L.fact 74)
theorem Left.s_LETTERS (L : Left K) (X : K.In h) (G : h.Ns mainGlobals mg) : ∃ t, mg "LETTERS" = some (.str "abcdefghijklmnopqrstuvwxyz" t) := He.str_ok X G (L.fact 75)
theorem Left.c_Building (L : Left K) : Cls K (He.ga K "Building") := He.cls_ok (L.fact 76)
theorem Left.k_Building (L : Left K) : Mk K (He.ga K "Building") (meA "Building" "__init__" K) := He.mkr_ok (L.fact 77)
theorem Left.n_Building_sizes (L : Left K) : NoAttr K (He.ga K "Building") "sizes" := He.noat_ok (L.fact 78)
theorem Left.n_Building_pairs (L : Left K) : NoAttr K (He.ga K "Building") "pairs" := He.noat_ok (L.fact 79)
theorem Left.n_Building_near (L : Left K) : NoAttr K (He.ga K "Building") "near" := He.noat_ok (L.fact 80)
theorem Left.n_Building_own_sides (L : Left K) : NoAttr K (He.ga K "Building") "own_sides" := He.noat_ok (L.fact 81)
theorem Left.n_Building_own_ring (L : Left K) : NoAttr K (He.ga K "Building") "own_ring" := He.noat_ok (L.fact 82)
theorem Left.n_Building_own_bridges (L : Left K) : NoAttr K (He.ga K "Building") "own_bridges" := He.noat_ok (L.fact 83)
theorem Left.c_Trace (L : Left K) : Cls K (He.ga K "Trace") := He.cls_ok (L.fact 84)
theorem Left.k_Trace (L : Left K) : Mk K (He.ga K "Trace") (meA "Trace" "__init__" K) := He.mkr_ok (L.fact 85)
theorem Left.n_Trace_own_building (L : Left K) : NoAttr K (He.ga K "Trace") "own_building" := He.noat_ok (L.fact 86)
theorem Left.n_Trace_own_first (L : Left K) : NoAttr K (He.ga K "Trace") "own_first" := He.noat_ok (L.fact 87)
theorem Left.n_Trace_own_last (L : Left K) : NoAttr K (He.ga K "Trace") "own_last" := He.noat_ok (L.fact 88)
theorem Left.n_Trace_own_changes (L : Left K) : NoAttr K (He.ga K "Trace") "own_changes" := He.noat_ok (L.fact 89)
theorem Left.n_Trace_key (L : Left K) : NoAttr K (He.ga K "Trace") "key" := He.noat_ok (L.fact 90)
theorem Left.n_Trace_own_balance (L : Left K) : NoAttr K (He.ga K "Trace") "own_balance" := He.noat_ok (L.fact 91)
theorem Left.n_Trace_own_gcd (L : Left K) : NoAttr K (He.ga K "Trace") "own_gcd" := He.noat_ok (L.fact 92)
theorem Left.c_Numbers (L : Left K) : Cls K (He.ga K "Numbers") := He.cls_ok (L.fact 93)
theorem Left.k_Numbers (L : Left K) : Mk K (He.ga K "Numbers") (meA "Numbers" "__init__" K) := He.mkr_ok (L.fact 94)
theorem Left.n_Numbers_own_least (L : Left K) : NoAttr K (He.ga K "Numbers") "own_least" := He.noat_ok (L.fact 95)
theorem Left.n_Numbers_own_modulus (L : Left K) : NoAttr K (He.ga K "Numbers") "own_modulus" := He.noat_ok (L.fact 96)
theorem Left.m_Building_prepare (L : Left K) : Meth K (He.ga K "Building") "prepare" (meA "Building" "prepare" K) := He.meth_ok (L.fact 97)
theorem Left.m_Building_sorted_pairs (L : Left K) : Meth K (He.ga K "Building") "sorted_pairs" (meA "Building" "sorted_pairs" K) := He.meth_ok (L.fact 98)
theorem Left.m_Building_check_connected (L : Left K) : Meth K (He.ga K "Building") "check_connected" (meA "Building" "check_connected" K) := He.meth_ok (L.fact 99)
theorem Left.m_Building_corridor_of (L : Left K) : Meth K (He.ga K "Building") "corridor_of" (meA "Building" "corridor_of" K) := He.meth_ok (L.fact 100)
theorem Left.m_Building_bank (L : Left K) : Meth K (He.ga K "Building") "bank" (meA "Building" "bank" K) := He.meth_ok (L.fact 101)
theorem Left.m_Building_dcontainsd (L : Left K) : Meth K (He.ga K "Building") "__contains__" (meA "Building" "__contains__" K) := He.meth_ok (L.fact 102)
theorem Left.m_Building_dgetitemd (L : Left K) : Meth K (He.ga K "Building") "__getitem__" (meA "Building" "__getitem__" K) := He.meth_ok (L.fact 103)
theorem Left.m_Building_deqd (L : Left K) : Meth K (He.ga K "Building") "__eq__" (meA "Building" "__eq__" K) := He.meth_ok (L.fact 104)
theorem Left.m_Trace_found_balance (L : Left K) : Meth K (He.ga K "Trace") "found_balance" (meA "Trace" "found_balance" K) := He.meth_ok (L.fact 105)
theorem Left.m_Trace_dgetitemd (L : Left K) : Meth K (He.ga K "Trace") "__getitem__" (meA "Trace" "__getitem__" K) := He.meth_ok (L.fact 106)
theorem Left.m_Trace_daddd (L : Left K) : Meth K (He.ga K "Trace") "__add__" (meA "Trace" "__add__" K) := He.meth_ok (L.fact 107)
theorem Left.m_Numbers_daddd (L : Left K) : Meth K (He.ga K "Numbers") "__add__" (meA "Numbers" "__add__" K) := He.meth_ok (L.fact 108)
theorem Left.m_Numbers_deqd (L : Left K) : Meth K (He.ga K "Numbers") "__eq__" (meA "Numbers" "__eq__" K) := He.meth_ok (L.fact 109)
theorem Left.fd_gcd_of (L : Left K) : ∃ fd, FunD K d_gcd_of.name d_gcd_of.qual d_gcd_of.params d_gcd_of.body d_gcd_of.scope (d_gcd_of.dvs K) (d_gcd_of.kws K) (d_gcd_of.at_ K) fd := L.says.def_ 0 (d := Rd.d_gcd_of)
theorem Left.F_gcd_of (L : Left K) : ∃ fd, Fun K "gcd_of" "gcd_of" s_gcd_of (He.ga K "gcd_of") fd :=
  let ⟨fd, F⟩ := L.fd_gcd_of
  ⟨fd, He5.fun_of (kws := Rd.d_gcd_of.kws K) F⟩
theorem Left.fd_lcm_of (L : Left K) : ∃ fd, FunD K d_lcm_of.name d_lcm_of.qual d_lcm_of.params d_lcm_of.body d_lcm_of.scope (d_lcm_of.dvs K) (d_lcm_of.kws K) (d_lcm_of.at_ K) fd := L.says.def_ 1 (d := Rd.d_lcm_of)
theorem Left.F_lcm_of (L : Left K) : ∃ fd, Fun K "lcm_of" "lcm_of" s_lcm_of (He.ga K "lcm_of") fd :=
  let ⟨fd, F⟩ := L.fd_lcm_of
  ⟨fd, He5.fun_of (kws := Rd.d_lcm_of.kws K) F⟩
theorem Left.fd_joined_rooms (L : Left K) : ∃ fd, FunD K d_joined_rooms.name d_joined_rooms.qual d_joined_rooms.params d_joined_rooms.body d_joined_rooms.scope (d_joined_rooms.dvs K) (d_joined_rooms.kws K) (d_joined_rooms.at_ K) fd := L.says.def_ 2 (d := Rd.d_joined_rooms)
theorem Left.F_joined_rooms (L : Left K) : ∃ fd, Fun K "joined_rooms" "joined_rooms" s_joined_rooms (He.ga K "joined_rooms") fd :=
  let ⟨fd, F⟩ := L.fd_joined_rooms
  ⟨fd, He5.fun_of (kws := Rd.d_joined_rooms.kws K) F⟩
theorem Left.fd_steps_from (L : Left K) : ∃ fd, FunD K d_steps_from.name d_steps_from.qual d_steps_from.params d_steps_from.body d_steps_from.scope (d_steps_from.dvs K) (d_steps_from.kws K) (d_steps_from.at_ K) fd := L.says.def_ 3 (d := Rd.d_steps_from)
theorem Left.fd_reached_from (L : Left K) : ∃ fd, FunD K d_reached_from.name d_reached_from.qual d_reached_from.params d_reached_from.body d_reached_from.scope (d_reached_from.dvs K) (d_reached_from.kws K) (d_reached_from.at_ K) fd := L.says.def_ 4 (d := Rd.d_reached_from)
theorem Left.fd_level_corridor (L : Left K) : ∃ fd, FunD K d_level_corridor.name d_level_corridor.qual d_level_corridor.params d_level_corridor.body d_level_corridor.scope (d_level_corridor.dvs K) (d_level_corridor.kws K) (d_level_corridor.at_ K) fd := L.says.def_ 5 (d := Rd.d_level_corridor)
theorem Left.F_level_corridor (L : Left K) : ∃ fd, Fun K "level_corridor" "level_corridor" s_level_corridor (He.ga K "level_corridor") fd :=
  let ⟨fd, F⟩ := L.fd_level_corridor
  ⟨fd, He5.fun_of (kws := Rd.d_level_corridor.kws K) F⟩
theorem Left.fd_sides_of (L : Left K) : ∃ fd, FunD K d_sides_of.name d_sides_of.qual d_sides_of.params d_sides_of.body d_sides_of.scope (d_sides_of.dvs K) (d_sides_of.kws K) (d_sides_of.at_ K) fd := L.says.def_ 6 (d := Rd.d_sides_of)
theorem Left.F_sides_of (L : Left K) : ∃ fd, Fun K "sides_of" "sides_of" s_sides_of (He.ga K "sides_of") fd :=
  let ⟨fd, F⟩ := L.fd_sides_of
  ⟨fd, He5.fun_of (kws := Rd.d_sides_of.kws K) F⟩
theorem Left.fd_odd_ring_of (L : Left K) : ∃ fd, FunD K d_odd_ring_of.name d_odd_ring_of.qual d_odd_ring_of.params d_odd_ring_of.body d_odd_ring_of.scope (d_odd_ring_of.dvs K) (d_odd_ring_of.kws K) (d_odd_ring_of.at_ K) fd := L.says.def_ 7 (d := Rd.d_odd_ring_of)
theorem Left.F_odd_ring_of (L : Left K) : ∃ fd, Fun K "odd_ring_of" "odd_ring_of" s_odd_ring_of (He.ga K "odd_ring_of") fd :=
  let ⟨fd, F⟩ := L.fd_odd_ring_of
  ⟨fd, He5.fun_of (kws := Rd.d_odd_ring_of.kws K) F⟩
theorem Left.fd_on_rings (L : Left K) : ∃ fd, FunD K d_on_rings.name d_on_rings.qual d_on_rings.params d_on_rings.body d_on_rings.scope (d_on_rings.dvs K) (d_on_rings.kws K) (d_on_rings.at_ K) fd := L.says.def_ 8 (d := Rd.d_on_rings)
theorem Left.F_on_rings (L : Left K) : ∃ fd, Fun K "on_rings" "on_rings" s_on_rings (He.ga K "on_rings") fd :=
  let ⟨fd, F⟩ := L.fd_on_rings
  ⟨fd, He5.fun_of (kws := Rd.d_on_rings.kws K) F⟩
theorem Left.fd_bridges_of (L : Left K) : ∃ fd, FunD K d_bridges_of.name d_bridges_of.qual d_bridges_of.params d_bridges_of.body d_bridges_of.scope (d_bridges_of.dvs K) (d_bridges_of.kws K) (d_bridges_of.at_ K) fd := L.says.def_ 9 (d := Rd.d_bridges_of)
theorem Left.F_bridges_of (L : Left K) : ∃ fd, Fun K "bridges_of" "bridges_of" s_bridges_of (He.ga K "bridges_of") fd :=
  let ⟨fd, F⟩ := L.fd_bridges_of
  ⟨fd, He5.fun_of (kws := Rd.d_bridges_of.kws K) F⟩
theorem Left.fd_is_name (L : Left K) : ∃ fd, FunD K d_is_name.name d_is_name.qual d_is_name.params d_is_name.body d_is_name.scope (d_is_name.dvs K) (d_is_name.kws K) (d_is_name.at_ K) fd := L.says.def_ 10 (d := Rd.d_is_name)
theorem Left.F_is_name (L : Left K) : ∃ fd, Fun K "is_name" "is_name" s_is_name (He.ga K "is_name") fd :=
  let ⟨fd, F⟩ := L.fd_is_name
  ⟨fd, He5.fun_of (kws := Rd.d_is_name.kws K) F⟩
theorem Left.fd_is_integer (L : Left K) : ∃ fd, FunD K d_is_integer.name d_is_integer.qual d_is_integer.params d_is_integer.body d_is_integer.scope (d_is_integer.dvs K) (d_is_integer.kws K) (d_is_integer.at_ K) fd := L.says.def_ 11 (d := Rd.d_is_integer)
theorem Left.F_is_integer (L : Left K) : ∃ fd, Fun K "is_integer" "is_integer" s_is_integer (He.ga K "is_integer") fd :=
  let ⟨fd, F⟩ := L.fd_is_integer
  ⟨fd, He5.fun_of (kws := Rd.d_is_integer.kws K) F⟩
theorem Left.fd_is_between (L : Left K) : ∃ fd, FunD K d_is_between.name d_is_between.qual d_is_between.params d_is_between.body d_is_between.scope (d_is_between.dvs K) (d_is_between.kws K) (d_is_between.at_ K) fd := L.says.def_ 12 (d := Rd.d_is_between)
theorem Left.F_is_between (L : Left K) : ∃ fd, Fun K "is_between" "is_between" s_is_between (He.ga K "is_between") fd :=
  let ⟨fd, F⟩ := L.fd_is_between
  ⟨fd, He5.fun_of (kws := Rd.d_is_between.kws K) F⟩
theorem Left.fd_need_possible (L : Left K) : ∃ fd, FunD K d_need_possible.name d_need_possible.qual d_need_possible.params d_need_possible.body d_need_possible.scope (d_need_possible.dvs K) (d_need_possible.kws K) (d_need_possible.at_ K) fd := L.says.def_ 13 (d := Rd.d_need_possible)
theorem Left.F_need_possible (L : Left K) : ∃ fd, Fun K "need_possible" "need_possible" s_need_possible (He.ga K "need_possible") fd :=
  let ⟨fd, F⟩ := L.fd_need_possible
  ⟨fd, He5.fun_of (kws := Rd.d_need_possible.kws K) F⟩
theorem Left.fd_combined (L : Left K) : ∃ fd, FunD K d_combined.name d_combined.qual d_combined.params d_combined.body d_combined.scope (d_combined.dvs K) (d_combined.kws K) (d_combined.at_ K) fd := L.says.def_ 14 (d := Rd.d_combined)
theorem Left.F_combined (L : Left K) : ∃ fd, Fun K "combined" "combined" s_combined (He.ga K "combined") fd :=
  let ⟨fd, F⟩ := L.fd_combined
  ⟨fd, He5.fun_of (kws := Rd.d_combined.kws K) F⟩
theorem Left.fd_divisor_of (L : Left K) : ∃ fd, FunD K d_divisor_of.name d_divisor_of.qual d_divisor_of.params d_divisor_of.body d_divisor_of.scope (d_divisor_of.dvs K) (d_divisor_of.kws K) (d_divisor_of.at_ K) fd := L.says.def_ 15 (d := Rd.d_divisor_of)
theorem Left.F_divisor_of (L : Left K) : ∃ fd, Fun K "divisor_of" "divisor_of" s_divisor_of (He.ga K "divisor_of") fd :=
  let ⟨fd, F⟩ := L.fd_divisor_of
  ⟨fd, He5.fun_of (kws := Rd.d_divisor_of.kws K) F⟩
theorem Left.fd_wanted_sums (L : Left K) : ∃ fd, FunD K d_wanted_sums.name d_wanted_sums.qual d_wanted_sums.params d_wanted_sums.body d_wanted_sums.scope (d_wanted_sums.dvs K) (d_wanted_sums.kws K) (d_wanted_sums.at_ K) fd := L.says.def_ 16 (d := Rd.d_wanted_sums)
theorem Left.F_wanted_sums (L : Left K) : ∃ fd, Fun K "wanted_sums" "wanted_sums" s_wanted_sums (He.ga K "wanted_sums") fd :=
  let ⟨fd, F⟩ := L.fd_wanted_sums
  ⟨fd, He5.fun_of (kws := Rd.d_wanted_sums.kws K) F⟩
theorem Left.fd_tree_values (L : Left K) : ∃ fd, FunD K d_tree_values.name d_tree_values.qual d_tree_values.params d_tree_values.body d_tree_values.scope (d_tree_values.dvs K) (d_tree_values.kws K) (d_tree_values.at_ K) fd := L.says.def_ 17 (d := Rd.d_tree_values)
theorem Left.F_tree_values (L : Left K) : ∃ fd, Fun K "tree_values" "tree_values" s_tree_values (He.ga K "tree_values") fd :=
  let ⟨fd, F⟩ := L.fd_tree_values
  ⟨fd, He5.fun_of (kws := Rd.d_tree_values.kws K) F⟩
theorem Left.fd_solution (L : Left K) : ∃ fd, FunD K d_solution.name d_solution.qual d_solution.params d_solution.body d_solution.scope (d_solution.dvs K) (d_solution.kws K) (d_solution.at_ K) fd := L.says.def_ 18 (d := Rd.d_solution)
theorem Left.F_solution (L : Left K) : ∃ fd, Fun K "solution" "solution" s_solution (He.ga K "solution") fd :=
  let ⟨fd, F⟩ := L.fd_solution
  ⟨fd, He5.fun_of (kws := Rd.d_solution.kws K) F⟩
theorem Left.fd_pair_of (L : Left K) : ∃ fd, FunD K d_pair_of.name d_pair_of.qual d_pair_of.params d_pair_of.body d_pair_of.scope (d_pair_of.dvs K) (d_pair_of.kws K) (d_pair_of.at_ K) fd := L.says.def_ 19 (d := Rd.d_pair_of)
theorem Left.F_pair_of (L : Left K) : ∃ fd, Fun K "pair_of" "pair_of" s_pair_of (He.ga K "pair_of") fd :=
  let ⟨fd, F⟩ := L.fd_pair_of
  ⟨fd, He5.fun_of (kws := Rd.d_pair_of.kws K) F⟩
theorem Left.fd_Building_dinit (L : Left K) : ∃ fd, FunD K d_Building_dinit.name d_Building_dinit.qual d_Building_dinit.params d_Building_dinit.body d_Building_dinit.scope (d_Building_dinit.dvs K) (d_Building_dinit.kws K) (d_Building_dinit.at_ K) fd := L.says.def_ 20 (d := Rd.d_Building_dinit)
theorem Left.F_Building_dinit (L : Left K) : ∃ fd, Fun K "__init__" "Building.__init__" s_Building_dinit (meA "Building" "__init__" K) fd :=
  let ⟨fd, F⟩ := L.fd_Building_dinit
  ⟨fd, He5.fun_of (kws := Rd.d_Building_dinit.kws K) F⟩
theorem Left.fd_Building_prepare (L : Left K) : ∃ fd, FunD K d_Building_prepare.name d_Building_prepare.qual d_Building_prepare.params d_Building_prepare.body d_Building_prepare.scope (d_Building_prepare.dvs K) (d_Building_prepare.kws K) (d_Building_prepare.at_ K) fd := L.says.def_ 21 (d := Rd.d_Building_prepare)
theorem Left.F_Building_prepare (L : Left K) : ∃ fd, Fun K "prepare" "Building.prepare" s_Building_prepare (meA "Building" "prepare" K) fd :=
  let ⟨fd, F⟩ := L.fd_Building_prepare
  ⟨fd, He5.fun_of (kws := Rd.d_Building_prepare.kws K) F⟩
theorem Left.fd_Building_sorted_pairs (L : Left K) : ∃ fd, FunD K d_Building_sorted_pairs.name d_Building_sorted_pairs.qual d_Building_sorted_pairs.params d_Building_sorted_pairs.body d_Building_sorted_pairs.scope (d_Building_sorted_pairs.dvs K) (d_Building_sorted_pairs.kws K) (d_Building_sorted_pairs.at_ K) fd := L.says.def_ 22 (d := Rd.d_Building_sorted_pairs)
theorem Left.F_Building_sorted_pairs (L : Left K) : ∃ fd, Fun K "sorted_pairs" "Building.sorted_pairs" s_Building_sorted_pairs (meA "Building" "sorted_pairs" K) fd :=
  let ⟨fd, F⟩ := L.fd_Building_sorted_pairs
  ⟨fd, He5.fun_of (kws := Rd.d_Building_sorted_pairs.kws K) F⟩
theorem Left.fd_Building_check_connected (L : Left K) : ∃ fd, FunD K d_Building_check_connected.name d_Building_check_connected.qual d_Building_check_connected.params d_Building_check_connected.body d_Building_check_connected.scope (d_Building_check_connected.dvs K) (d_Building_check_connected.kws K) (d_Building_check_connected.at_ K) fd := L.says.def_ 23 (d := Rd.d_Building_check_connected)
theorem Left.F_Building_check_connected (L : Left K) : ∃ fd, Fun K "check_connected" "Building.check_connected" s_Building_check_connected (meA "Building" "check_connected" K) fd :=
  let ⟨fd, F⟩ := L.fd_Building_check_connected
  ⟨fd, He5.fun_of (kws := Rd.d_Building_check_connected.kws K) F⟩
theorem Left.fd_Building_rooms (L : Left K) : ∃ fd, FunD K d_Building_rooms.name d_Building_rooms.qual d_Building_rooms.params d_Building_rooms.body d_Building_rooms.scope (d_Building_rooms.dvs K) (d_Building_rooms.kws K) (d_Building_rooms.at_ K) fd := L.says.def_ 24 (d := Rd.d_Building_rooms)
theorem Left.F_Building_rooms (L : Left K) : ∃ fd, Fun K "rooms" "Building.rooms" s_Building_rooms (pgA "Building" "rooms" K) fd :=
  let ⟨fd, F⟩ := L.fd_Building_rooms
  ⟨fd, He5.fun_of (kws := Rd.d_Building_rooms.kws K) F⟩
theorem Left.fd_Building_corridors (L : Left K) : ∃ fd, FunD K d_Building_corridors.name d_Building_corridors.qual d_Building_corridors.params d_Building_corridors.body d_Building_corridors.scope (d_Building_corridors.dvs K) (d_Building_corridors.kws K) (d_Building_corridors.at_ K) fd := L.says.def_ 25 (d := Rd.d_Building_corridors)
theorem Left.F_Building_corridors (L : Left K) : ∃ fd, Fun K "corridors" "Building.corridors" s_Building_corridors (pgA "Building" "corridors" K) fd :=
  let ⟨fd, F⟩ := L.fd_Building_corridors
  ⟨fd, He5.fun_of (kws := Rd.d_Building_corridors.kws K) F⟩
theorem Left.fd_Building_sides (L : Left K) : ∃ fd, FunD K d_Building_sides.name d_Building_sides.qual d_Building_sides.params d_Building_sides.body d_Building_sides.scope (d_Building_sides.dvs K) (d_Building_sides.kws K) (d_Building_sides.at_ K) fd := L.says.def_ 26 (d := Rd.d_Building_sides)
theorem Left.F_Building_sides (L : Left K) : ∃ fd, Fun K "sides" "Building.sides" s_Building_sides (pgA "Building" "sides" K) fd :=
  let ⟨fd, F⟩ := L.fd_Building_sides
  ⟨fd, He5.fun_of (kws := Rd.d_Building_sides.kws K) F⟩
theorem Left.fd_Building_corridor_of (L : Left K) : ∃ fd, FunD K d_Building_corridor_of.name d_Building_corridor_of.qual d_Building_corridor_of.params d_Building_corridor_of.body d_Building_corridor_of.scope (d_Building_corridor_of.dvs K) (d_Building_corridor_of.kws K) (d_Building_corridor_of.at_ K) fd := L.says.def_ 27 (d := Rd.d_Building_corridor_of)
theorem Left.F_Building_corridor_of (L : Left K) : ∃ fd, Fun K "corridor_of" "Building.corridor_of" s_Building_corridor_of (meA "Building" "corridor_of" K) fd :=
  let ⟨fd, F⟩ := L.fd_Building_corridor_of
  ⟨fd, He5.fun_of (kws := Rd.d_Building_corridor_of.kws K) F⟩
theorem Left.fd_Building_bank (L : Left K) : ∃ fd, FunD K d_Building_bank.name d_Building_bank.qual d_Building_bank.params d_Building_bank.body d_Building_bank.scope (d_Building_bank.dvs K) (d_Building_bank.kws K) (d_Building_bank.at_ K) fd := L.says.def_ 28 (d := Rd.d_Building_bank)
theorem Left.F_Building_bank (L : Left K) : ∃ fd, Fun K "bank" "Building.bank" s_Building_bank (meA "Building" "bank" K) fd :=
  let ⟨fd, F⟩ := L.fd_Building_bank
  ⟨fd, He5.fun_of (kws := Rd.d_Building_bank.kws K) F⟩
theorem Left.fd_Building_dcontains (L : Left K) : ∃ fd, FunD K d_Building_dcontains.name d_Building_dcontains.qual d_Building_dcontains.params d_Building_dcontains.body d_Building_dcontains.scope (d_Building_dcontains.dvs K) (d_Building_dcontains.kws K) (d_Building_dcontains.at_ K) fd := L.says.def_ 29 (d := Rd.d_Building_dcontains)
theorem Left.F_Building_dcontains (L : Left K) : ∃ fd, Fun K "__contains__" "Building.__contains__" s_Building_dcontains (meA "Building" "__contains__" K) fd :=
  let ⟨fd, F⟩ := L.fd_Building_dcontains
  ⟨fd, He5.fun_of (kws := Rd.d_Building_dcontains.kws K) F⟩
theorem Left.fd_Building_dgetitem (L : Left K) : ∃ fd, FunD K d_Building_dgetitem.name d_Building_dgetitem.qual d_Building_dgetitem.params d_Building_dgetitem.body d_Building_dgetitem.scope (d_Building_dgetitem.dvs K) (d_Building_dgetitem.kws K) (d_Building_dgetitem.at_ K) fd := L.says.def_ 30 (d := Rd.d_Building_dgetitem)
theorem Left.F_Building_dgetitem (L : Left K) : ∃ fd, Fun K "__getitem__" "Building.__getitem__" s_Building_dgetitem (meA "Building" "__getitem__" K) fd :=
  let ⟨fd, F⟩ := L.fd_Building_dgetitem
  ⟨fd, He5.fun_of (kws := Rd.d_Building_dgetitem.kws K) F⟩
theorem Left.fd_Building_deq (L : Left K) : ∃ fd, FunD K d_Building_deq.name d_Building_deq.qual d_Building_deq.params d_Building_deq.body d_Building_deq.scope (d_Building_deq.dvs K) (d_Building_deq.kws K) (d_Building_deq.at_ K) fd := L.says.def_ 31 (d := Rd.d_Building_deq)
theorem Left.F_Building_deq (L : Left K) : ∃ fd, Fun K "__eq__" "Building.__eq__" s_Building_deq (meA "Building" "__eq__" K) fd :=
  let ⟨fd, F⟩ := L.fd_Building_deq
  ⟨fd, He5.fun_of (kws := Rd.d_Building_deq.kws K) F⟩
theorem Left.fd_Trace_dinit (L : Left K) : ∃ fd, FunD K d_Trace_dinit.name d_Trace_dinit.qual d_Trace_dinit.params d_Trace_dinit.body d_Trace_dinit.scope (d_Trace_dinit.dvs K) (d_Trace_dinit.kws K) (d_Trace_dinit.at_ K) fd := L.says.def_ 32 (d := Rd.d_Trace_dinit)
theorem Left.F_Trace_dinit (L : Left K) : ∃ fd, Fun K "__init__" "Trace.__init__" s_Trace_dinit (meA "Trace" "__init__" K) fd :=
  let ⟨fd, F⟩ := L.fd_Trace_dinit
  ⟨fd, He5.fun_of (kws := Rd.d_Trace_dinit.kws K) F⟩
theorem Left.fd_Trace_building (L : Left K) : ∃ fd, FunD K d_Trace_building.name d_Trace_building.qual d_Trace_building.params d_Trace_building.body d_Trace_building.scope (d_Trace_building.dvs K) (d_Trace_building.kws K) (d_Trace_building.at_ K) fd := L.says.def_ 33 (d := Rd.d_Trace_building)
theorem Left.F_Trace_building (L : Left K) : ∃ fd, Fun K "building" "Trace.building" s_Trace_building (pgA "Trace" "building" K) fd :=
  let ⟨fd, F⟩ := L.fd_Trace_building
  ⟨fd, He5.fun_of (kws := Rd.d_Trace_building.kws K) F⟩
theorem Left.fd_Trace_first (L : Left K) : ∃ fd, FunD K d_Trace_first.name d_Trace_first.qual d_Trace_first.params d_Trace_first.body d_Trace_first.scope (d_Trace_first.dvs K) (d_Trace_first.kws K) (d_Trace_first.at_ K) fd := L.says.def_ 34 (d := Rd.d_Trace_first)
theorem Left.F_Trace_first (L : Left K) : ∃ fd, Fun K "first" "Trace.first" s_Trace_first (pgA "Trace" "first" K) fd :=
  let ⟨fd, F⟩ := L.fd_Trace_first
  ⟨fd, He5.fun_of (kws := Rd.d_Trace_first.kws K) F⟩
theorem Left.fd_Trace_last (L : Left K) : ∃ fd, FunD K d_Trace_last.name d_Trace_last.qual d_Trace_last.params d_Trace_last.body d_Trace_last.scope (d_Trace_last.dvs K) (d_Trace_last.kws K) (d_Trace_last.at_ K) fd := L.says.def_ 35 (d := Rd.d_Trace_last)
theorem Left.F_Trace_last (L : Left K) : ∃ fd, Fun K "last" "Trace.last" s_Trace_last (pgA "Trace" "last" K) fd :=
  let ⟨fd, F⟩ := L.fd_Trace_last
  ⟨fd, He5.fun_of (kws := Rd.d_Trace_last.kws K) F⟩
theorem Left.fd_Trace_changes (L : Left K) : ∃ fd, FunD K d_Trace_changes.name d_Trace_changes.qual d_Trace_changes.params d_Trace_changes.body d_Trace_changes.scope (d_Trace_changes.dvs K) (d_Trace_changes.kws K) (d_Trace_changes.at_ K) fd := L.says.def_ 36 (d := Rd.d_Trace_changes)
theorem Left.F_Trace_changes (L : Left K) : ∃ fd, Fun K "changes" "Trace.changes" s_Trace_changes (pgA "Trace" "changes" K) fd :=
  let ⟨fd, F⟩ := L.fd_Trace_changes
  ⟨fd, He5.fun_of (kws := Rd.d_Trace_changes.kws K) F⟩
theorem Left.fd_Trace_found_balance (L : Left K) : ∃ fd, FunD K d_Trace_found_balance.name d_Trace_found_balance.qual d_Trace_found_balance.params d_Trace_found_balance.body d_Trace_found_balance.scope (d_Trace_found_balance.dvs K) (d_Trace_found_balance.kws K) (d_Trace_found_balance.at_ K) fd := L.says.def_ 37 (d := Rd.d_Trace_found_balance)
theorem Left.F_Trace_found_balance (L : Left K) : ∃ fd, Fun K "found_balance" "Trace.found_balance" s_Trace_found_balance (meA "Trace" "found_balance" K) fd :=
  let ⟨fd, F⟩ := L.fd_Trace_found_balance
  ⟨fd, He5.fun_of (kws := Rd.d_Trace_found_balance.kws K) F⟩
theorem Left.fd_Trace_balance (L : Left K) : ∃ fd, FunD K d_Trace_balance.name d_Trace_balance.qual d_Trace_balance.params d_Trace_balance.body d_Trace_balance.scope (d_Trace_balance.dvs K) (d_Trace_balance.kws K) (d_Trace_balance.at_ K) fd := L.says.def_ 38 (d := Rd.d_Trace_balance)
theorem Left.F_Trace_balance (L : Left K) : ∃ fd, Fun K "balance" "Trace.balance" s_Trace_balance (pgA "Trace" "balance" K) fd :=
  let ⟨fd, F⟩ := L.fd_Trace_balance
  ⟨fd, He5.fun_of (kws := Rd.d_Trace_balance.kws K) F⟩
theorem Left.fd_Trace_paper (L : Left K) : ∃ fd, FunD K d_Trace_paper.name d_Trace_paper.qual d_Trace_paper.params d_Trace_paper.body d_Trace_paper.scope (d_Trace_paper.dvs K) (d_Trace_paper.kws K) (d_Trace_paper.at_ K) fd := L.says.def_ 39 (d := Rd.d_Trace_paper)
theorem Left.F_Trace_paper (L : Left K) : ∃ fd, Fun K "paper" "Trace.paper" s_Trace_paper (pgA "Trace" "paper" K) fd :=
  let ⟨fd, F⟩ := L.fd_Trace_paper
  ⟨fd, He5.fun_of (kws := Rd.d_Trace_paper.kws K) F⟩
theorem Left.fd_Trace_dgetitem (L : Left K) : ∃ fd, FunD K d_Trace_dgetitem.name d_Trace_dgetitem.qual d_Trace_dgetitem.params d_Trace_dgetitem.body d_Trace_dgetitem.scope (d_Trace_dgetitem.dvs K) (d_Trace_dgetitem.kws K) (d_Trace_dgetitem.at_ K) fd := L.says.def_ 40 (d := Rd.d_Trace_dgetitem)
theorem Left.F_Trace_dgetitem (L : Left K) : ∃ fd, Fun K "__getitem__" "Trace.__getitem__" s_Trace_dgetitem (meA "Trace" "__getitem__" K) fd :=
  let ⟨fd, F⟩ := L.fd_Trace_dgetitem
  ⟨fd, He5.fun_of (kws := Rd.d_Trace_dgetitem.kws K) F⟩
theorem Left.fd_Trace_dadd (L : Left K) : ∃ fd, FunD K d_Trace_dadd.name d_Trace_dadd.qual d_Trace_dadd.params d_Trace_dadd.body d_Trace_dadd.scope (d_Trace_dadd.dvs K) (d_Trace_dadd.kws K) (d_Trace_dadd.at_ K) fd := L.says.def_ 41 (d := Rd.d_Trace_dadd)
theorem Left.F_Trace_dadd (L : Left K) : ∃ fd, Fun K "__add__" "Trace.__add__" s_Trace_dadd (meA "Trace" "__add__" K) fd :=
  let ⟨fd, F⟩ := L.fd_Trace_dadd
  ⟨fd, He5.fun_of (kws := Rd.d_Trace_dadd.kws K) F⟩
theorem Left.fd_is_pair (L : Left K) : ∃ fd, FunD K d_is_pair.name d_is_pair.qual d_is_pair.params d_is_pair.body d_is_pair.scope (d_is_pair.dvs K) (d_is_pair.kws K) (d_is_pair.at_ K) fd := L.says.def_ 42 (d := Rd.d_is_pair)
theorem Left.F_is_pair (L : Left K) : ∃ fd, Fun K "is_pair" "is_pair" s_is_pair (He.ga K "is_pair") fd :=
  let ⟨fd, F⟩ := L.fd_is_pair
  ⟨fd, He5.fun_of (kws := Rd.d_is_pair.kws K) F⟩
theorem Left.fd_need_closed (L : Left K) : ∃ fd, FunD K d_need_closed.name d_need_closed.qual d_need_closed.params d_need_closed.body d_need_closed.scope (d_need_closed.dvs K) (d_need_closed.kws K) (d_need_closed.at_ K) fd := L.says.def_ 43 (d := Rd.d_need_closed)
theorem Left.F_need_closed (L : Left K) : ∃ fd, Fun K "need_closed" "need_closed" s_need_closed (He.ga K "need_closed") fd :=
  let ⟨fd, F⟩ := L.fd_need_closed
  ⟨fd, He5.fun_of (kws := Rd.d_need_closed.kws K) F⟩
theorem Left.fd_open_trace (L : Left K) : ∃ fd, FunD K d_open_trace.name d_open_trace.qual d_open_trace.params d_open_trace.body d_open_trace.scope (d_open_trace.dvs K) (d_open_trace.kws K) (d_open_trace.at_ K) fd := L.says.def_ 44 (d := Rd.d_open_trace)
theorem Left.F_open_trace (L : Left K) : ∃ fd, Fun K "open_trace" "open_trace" s_open_trace (He.ga K "open_trace") fd :=
  let ⟨fd, F⟩ := L.fd_open_trace
  ⟨fd, He5.fun_of (kws := Rd.d_open_trace.kws K) F⟩
theorem Left.fd_paper_of (L : Left K) : ∃ fd, FunD K d_paper_of.name d_paper_of.qual d_paper_of.params d_paper_of.body d_paper_of.scope (d_paper_of.dvs K) (d_paper_of.kws K) (d_paper_of.at_ K) fd := L.says.def_ 45 (d := Rd.d_paper_of)
theorem Left.F_paper_of (L : Left K) : ∃ fd, Fun K "paper_of" "paper_of" s_paper_of (He.ga K "paper_of") fd :=
  let ⟨fd, F⟩ := L.fd_paper_of
  ⟨fd, He5.fun_of (kws := Rd.d_paper_of.kws K) F⟩
theorem Left.fd_avoiding_paper (L : Left K) : ∃ fd, FunD K d_avoiding_paper.name d_avoiding_paper.qual d_avoiding_paper.params d_avoiding_paper.body d_avoiding_paper.scope (d_avoiding_paper.dvs K) (d_avoiding_paper.kws K) (d_avoiding_paper.at_ K) fd := L.says.def_ 46 (d := Rd.d_avoiding_paper)
theorem Left.F_avoiding_paper (L : Left K) : ∃ fd, Fun K "avoiding_paper" "avoiding_paper" s_avoiding_paper (He.ga K "avoiding_paper") fd :=
  let ⟨fd, F⟩ := L.fd_avoiding_paper
  ⟨fd, He5.fun_of (kws := Rd.d_avoiding_paper.kws K) F⟩
theorem Left.fd_Numbers_dinit (L : Left K) : ∃ fd, FunD K d_Numbers_dinit.name d_Numbers_dinit.qual d_Numbers_dinit.params d_Numbers_dinit.body d_Numbers_dinit.scope (d_Numbers_dinit.dvs K) (d_Numbers_dinit.kws K) (d_Numbers_dinit.at_ K) fd := L.says.def_ 47 (d := Rd.d_Numbers_dinit)
theorem Left.F_Numbers_dinit (L : Left K) : ∃ fd, Fun K "__init__" "Numbers.__init__" s_Numbers_dinit (meA "Numbers" "__init__" K) fd :=
  let ⟨fd, F⟩ := L.fd_Numbers_dinit
  ⟨fd, He5.fun_of (kws := Rd.d_Numbers_dinit.kws K) F⟩
theorem Left.fd_Numbers_least (L : Left K) : ∃ fd, FunD K d_Numbers_least.name d_Numbers_least.qual d_Numbers_least.params d_Numbers_least.body d_Numbers_least.scope (d_Numbers_least.dvs K) (d_Numbers_least.kws K) (d_Numbers_least.at_ K) fd := L.says.def_ 48 (d := Rd.d_Numbers_least)
theorem Left.F_Numbers_least (L : Left K) : ∃ fd, Fun K "least" "Numbers.least" s_Numbers_least (pgA "Numbers" "least" K) fd :=
  let ⟨fd, F⟩ := L.fd_Numbers_least
  ⟨fd, He5.fun_of (kws := Rd.d_Numbers_least.kws K) F⟩
theorem Left.fd_Numbers_dadd (L : Left K) : ∃ fd, FunD K d_Numbers_dadd.name d_Numbers_dadd.qual d_Numbers_dadd.params d_Numbers_dadd.body d_Numbers_dadd.scope (d_Numbers_dadd.dvs K) (d_Numbers_dadd.kws K) (d_Numbers_dadd.at_ K) fd := L.says.def_ 49 (d := Rd.d_Numbers_dadd)
theorem Left.F_Numbers_dadd (L : Left K) : ∃ fd, Fun K "__add__" "Numbers.__add__" s_Numbers_dadd (meA "Numbers" "__add__" K) fd :=
  let ⟨fd, F⟩ := L.fd_Numbers_dadd
  ⟨fd, He5.fun_of (kws := Rd.d_Numbers_dadd.kws K) F⟩
theorem Left.fd_Numbers_deq (L : Left K) : ∃ fd, FunD K d_Numbers_deq.name d_Numbers_deq.qual d_Numbers_deq.params d_Numbers_deq.body d_Numbers_deq.scope (d_Numbers_deq.dvs K) (d_Numbers_deq.kws K) (d_Numbers_deq.at_ K) fd := L.says.def_ 50 (d := Rd.d_Numbers_deq)
theorem Left.F_Numbers_deq (L : Left K) : ∃ fd, Fun K "__eq__" "Numbers.__eq__" s_Numbers_deq (meA "Numbers" "__eq__" K) fd :=
  let ⟨fd, F⟩ := L.fd_Numbers_deq
  ⟨fd, He5.fun_of (kws := Rd.d_Numbers_deq.kws K) F⟩
theorem Left.fd_gcd_of_bank (L : Left K) : ∃ fd, FunD K d_gcd_of_bank.name d_gcd_of_bank.qual d_gcd_of_bank.params d_gcd_of_bank.body d_gcd_of_bank.scope (d_gcd_of_bank.dvs K) (d_gcd_of_bank.kws K) (d_gcd_of_bank.at_ K) fd := L.says.def_ 51 (d := Rd.d_gcd_of_bank)
theorem Left.F_gcd_of_bank (L : Left K) : ∃ fd, Fun K "gcd_of_bank" "gcd_of_bank" s_gcd_of_bank (He.ga K "gcd_of_bank") fd :=
  let ⟨fd, F⟩ := L.fd_gcd_of_bank
  ⟨fd, He5.fun_of (kws := Rd.d_gcd_of_bank.kws K) F⟩
theorem Left.fd_corridor_modulus (L : Left K) : ∃ fd, FunD K d_corridor_modulus.name d_corridor_modulus.qual d_corridor_modulus.params d_corridor_modulus.body d_corridor_modulus.scope (d_corridor_modulus.dvs K) (d_corridor_modulus.kws K) (d_corridor_modulus.at_ K) fd := L.says.def_ 52 (d := Rd.d_corridor_modulus)
theorem Left.F_corridor_modulus (L : Left K) : ∃ fd, Fun K "corridor_modulus" "corridor_modulus" s_corridor_modulus (He.ga K "corridor_modulus") fd :=
  let ⟨fd, F⟩ := L.fd_corridor_modulus
  ⟨fd, He5.fun_of (kws := Rd.d_corridor_modulus.kws K) F⟩
theorem Left.fd_corridor_numbers (L : Left K) : ∃ fd, FunD K d_corridor_numbers.name d_corridor_numbers.qual d_corridor_numbers.params d_corridor_numbers.body d_corridor_numbers.scope (d_corridor_numbers.dvs K) (d_corridor_numbers.kws K) (d_corridor_numbers.at_ K) fd := L.says.def_ 53 (d := Rd.d_corridor_numbers)
theorem Left.F_corridor_numbers (L : Left K) : ∃ fd, Fun K "corridor_numbers" "corridor_numbers" s_corridor_numbers (He.ga K "corridor_numbers") fd :=
  let ⟨fd, F⟩ := L.fd_corridor_numbers
  ⟨fd, He5.fun_of (kws := Rd.d_corridor_numbers.kws K) F⟩
theorem Left.fd_log_total (L : Left K) : ∃ fd, FunD K d_log_total.name d_log_total.qual d_log_total.params d_log_total.body d_log_total.scope (d_log_total.dvs K) (d_log_total.kws K) (d_log_total.at_ K) fd := L.says.def_ 54 (d := Rd.d_log_total)
theorem Left.F_log_total (L : Left K) : ∃ fd, Fun K "log_total" "log_total" s_log_total (He.ga K "log_total") fd :=
  let ⟨fd, F⟩ := L.fd_log_total
  ⟨fd, He5.fun_of (kws := Rd.d_log_total.kws K) F⟩
theorem Left.fd_log_numbers (L : Left K) : ∃ fd, FunD K d_log_numbers.name d_log_numbers.qual d_log_numbers.params d_log_numbers.body d_log_numbers.scope (d_log_numbers.dvs K) (d_log_numbers.kws K) (d_log_numbers.at_ K) fd := L.says.def_ 55 (d := Rd.d_log_numbers)
theorem Left.F_log_numbers (L : Left K) : ∃ fd, Fun K "log_numbers" "log_numbers" s_log_numbers (He.ga K "log_numbers") fd :=
  let ⟨fd, F⟩ := L.fd_log_numbers
  ⟨fd, He5.fun_of (kws := Rd.d_log_numbers.kws K) F⟩
theorem Left.fd_z_begin (L : Left K) : ∃ fd, FunD K d_z_begin.name d_z_begin.qual d_z_begin.params d_z_begin.body d_z_begin.scope (d_z_begin.dvs K) (d_z_begin.kws K) (d_z_begin.at_ K) fd := L.says.def_ 56 (d := Rd.d_z_begin)
theorem Left.F_z_begin (L : Left K) : ∃ fd, Fun K "_law_begin" "_law_begin" s_z_begin (He.ga K "_law_begin") fd :=
  let ⟨fd, F⟩ := L.fd_z_begin
  ⟨fd, He5.fun_of (kws := Rd.d_z_begin.kws K) F⟩
theorem Left.fd_z_draw (L : Left K) : ∃ fd, FunD K d_z_draw.name d_z_draw.qual d_z_draw.params d_z_draw.body d_z_draw.scope (d_z_draw.dvs K) (d_z_draw.kws K) (d_z_draw.at_ K) fd := L.says.def_ 57 (d := Rd.d_z_draw)
theorem Left.F_z_draw (L : Left K) : ∃ fd, Fun K "_law_draw" "_law_draw" s_z_draw (He.ga K "_law_draw") fd :=
  let ⟨fd, F⟩ := L.fd_z_draw
  ⟨fd, He5.fun_of (kws := Rd.d_z_draw.kws K) F⟩
theorem Left.fd_z_pick (L : Left K) : ∃ fd, FunD K d_z_pick.name d_z_pick.qual d_z_pick.params d_z_pick.body d_z_pick.scope (d_z_pick.dvs K) (d_z_pick.kws K) (d_z_pick.at_ K) fd := L.says.def_ 58 (d := Rd.d_z_pick)
theorem Left.F_z_pick (L : Left K) : ∃ fd, Fun K "_law_pick" "_law_pick" s_z_pick (He.ga K "_law_pick") fd :=
  let ⟨fd, F⟩ := L.fd_z_pick
  ⟨fd, He5.fun_of (kws := Rd.d_z_pick.kws K) F⟩
theorem Left.fd_z_shuffled (L : Left K) : ∃ fd, FunD K d_z_shuffled.name d_z_shuffled.qual d_z_shuffled.params d_z_shuffled.body d_z_shuffled.scope (d_z_shuffled.dvs K) (d_z_shuffled.kws K) (d_z_shuffled.at_ K) fd := L.says.def_ 59 (d := Rd.d_z_shuffled)
theorem Left.F_z_shuffled (L : Left K) : ∃ fd, Fun K "_law_shuffled" "_law_shuffled" s_z_shuffled (He.ga K "_law_shuffled") fd :=
  let ⟨fd, F⟩ := L.fd_z_shuffled
  ⟨fd, He5.fun_of (kws := Rd.d_z_shuffled.kws K) F⟩
theorem Left.fd_z_names (L : Left K) : ∃ fd, FunD K d_z_names.name d_z_names.qual d_z_names.params d_z_names.body d_z_names.scope (d_z_names.dvs K) (d_z_names.kws K) (d_z_names.at_ K) fd := L.says.def_ 60 (d := Rd.d_z_names)
theorem Left.F_z_names (L : Left K) : ∃ fd, Fun K "_law_names" "_law_names" s_z_names (He.ga K "_law_names") fd :=
  let ⟨fd, F⟩ := L.fd_z_names
  ⟨fd, He5.fun_of (kws := Rd.d_z_names.kws K) F⟩
theorem Left.fd_z_pair (L : Left K) : ∃ fd, FunD K d_z_pair.name d_z_pair.qual d_z_pair.params d_z_pair.body d_z_pair.scope (d_z_pair.dvs K) (d_z_pair.kws K) (d_z_pair.at_ K) fd := L.says.def_ 61 (d := Rd.d_z_pair)
theorem Left.F_z_pair (L : Left K) : ∃ fd, Fun K "_law_pair" "_law_pair" s_z_pair (He.ga K "_law_pair") fd :=
  let ⟨fd, F⟩ := L.fd_z_pair
  ⟨fd, He5.fun_of (kws := Rd.d_z_pair.kws K) F⟩
theorem Left.fd_z_drawn (L : Left K) : ∃ fd, FunD K d_z_drawn.name d_z_drawn.qual d_z_drawn.params d_z_drawn.body d_z_drawn.scope (d_z_drawn.dvs K) (d_z_drawn.kws K) (d_z_drawn.at_ K) fd := L.says.def_ 62 (d := Rd.d_z_drawn)
theorem Left.F_z_drawn (L : Left K) : ∃ fd, Fun K "_law_drawn" "_law_drawn" s_z_drawn (He.ga K "_law_drawn") fd :=
  let ⟨fd, F⟩ := L.fd_z_drawn
  ⟨fd, He5.fun_of (kws := Rd.d_z_drawn.kws K) F⟩
theorem Left.fd_z_built (L : Left K) : ∃ fd, FunD K d_z_built.name d_z_built.qual d_z_built.params d_z_built.body d_z_built.scope (d_z_built.dvs K) (d_z_built.kws K) (d_z_built.at_ K) fd := L.says.def_ 63 (d := Rd.d_z_built)
theorem Left.F_z_built (L : Left K) : ∃ fd, Fun K "_law_built" "_law_built" s_z_built (He.ga K "_law_built") fd :=
  let ⟨fd, F⟩ := L.fd_z_built
  ⟨fd, He5.fun_of (kws := Rd.d_z_built.kws K) F⟩
theorem Left.fd_z_near (L : Left K) : ∃ fd, FunD K d_z_near.name d_z_near.qual d_z_near.params d_z_near.body d_z_near.scope (d_z_near.dvs K) (d_z_near.kws K) (d_z_near.at_ K) fd := L.says.def_ 64 (d := Rd.d_z_near)
theorem Left.F_z_near (L : Left K) : ∃ fd, Fun K "_law_near" "_law_near" s_z_near (He.ga K "_law_near") fd :=
  let ⟨fd, F⟩ := L.fd_z_near
  ⟨fd, He5.fun_of (kws := Rd.d_z_near.kws K) F⟩
theorem Left.fd_z_sides_due (L : Left K) : ∃ fd, FunD K d_z_sides_due.name d_z_sides_due.qual d_z_sides_due.params d_z_sides_due.body d_z_sides_due.scope (d_z_sides_due.dvs K) (d_z_sides_due.kws K) (d_z_sides_due.at_ K) fd := L.says.def_ 65 (d := Rd.d_z_sides_due)
theorem Left.F_z_sides_due (L : Left K) : ∃ fd, Fun K "_law_sides_due" "_law_sides_due" s_z_sides_due (He.ga K "_law_sides_due") fd :=
  let ⟨fd, F⟩ := L.fd_z_sides_due
  ⟨fd, He5.fun_of (kws := Rd.d_z_sides_due.kws K) F⟩
theorem Left.fd_z_wandered (L : Left K) : ∃ fd, FunD K d_z_wandered.name d_z_wandered.qual d_z_wandered.params d_z_wandered.body d_z_wandered.scope (d_z_wandered.dvs K) (d_z_wandered.kws K) (d_z_wandered.at_ K) fd := L.says.def_ 66 (d := Rd.d_z_wandered)
theorem Left.F_z_wandered (L : Left K) : ∃ fd, Fun K "_law_wandered" "_law_wandered" s_z_wandered (He.ga K "_law_wandered") fd :=
  let ⟨fd, F⟩ := L.fd_z_wandered
  ⟨fd, He5.fun_of (kws := Rd.d_z_wandered.kws K) F⟩
theorem Left.fd_z_left (L : Left K) : ∃ fd, FunD K d_z_left.name d_z_left.qual d_z_left.params d_z_left.body d_z_left.scope (d_z_left.dvs K) (d_z_left.kws K) (d_z_left.at_ K) fd := L.says.def_ 67 (d := Rd.d_z_left)
theorem Left.F_z_left (L : Left K) : ∃ fd, Fun K "_law_left" "_law_left" s_z_left (He.ga K "_law_left") fd :=
  let ⟨fd, F⟩ := L.fd_z_left
  ⟨fd, He5.fun_of (kws := Rd.d_z_left.kws K) F⟩
theorem Left.fd_z_gcd (L : Left K) : ∃ fd, FunD K d_z_gcd.name d_z_gcd.qual d_z_gcd.params d_z_gcd.body d_z_gcd.scope (d_z_gcd.dvs K) (d_z_gcd.kws K) (d_z_gcd.at_ K) fd := L.says.def_ 68 (d := Rd.d_z_gcd)
theorem Left.F_z_gcd (L : Left K) : ∃ fd, Fun K "_law_gcd" "_law_gcd" s_z_gcd (He.ga K "_law_gcd") fd :=
  let ⟨fd, F⟩ := L.fd_z_gcd
  ⟨fd, He5.fun_of (kws := Rd.d_z_gcd.kws K) F⟩
theorem Left.fd_z_gcd_all (L : Left K) : ∃ fd, FunD K d_z_gcd_all.name d_z_gcd_all.qual d_z_gcd_all.params d_z_gcd_all.body d_z_gcd_all.scope (d_z_gcd_all.dvs K) (d_z_gcd_all.kws K) (d_z_gcd_all.at_ K) fd := L.says.def_ 69 (d := Rd.d_z_gcd_all)
theorem Left.F_z_gcd_all (L : Left K) : ∃ fd, Fun K "_law_gcd_all" "_law_gcd_all" s_z_gcd_all (He.ga K "_law_gcd_all") fd :=
  let ⟨fd, F⟩ := L.fd_z_gcd_all
  ⟨fd, He5.fun_of (kws := Rd.d_z_gcd_all.kws K) F⟩
theorem Left.fd_z_lcm (L : Left K) : ∃ fd, FunD K d_z_lcm.name d_z_lcm.qual d_z_lcm.params d_z_lcm.body d_z_lcm.scope (d_z_lcm.dvs K) (d_z_lcm.kws K) (d_z_lcm.at_ K) fd := L.says.def_ 70 (d := Rd.d_z_lcm)
theorem Left.F_z_lcm (L : Left K) : ∃ fd, Fun K "_law_lcm" "_law_lcm" s_z_lcm (He.ga K "_law_lcm") fd :=
  let ⟨fd, F⟩ := L.fd_z_lcm
  ⟨fd, He5.fun_of (kws := Rd.d_z_lcm.kws K) F⟩
theorem Left.fd_z_bank_gcd (L : Left K) : ∃ fd, FunD K d_z_bank_gcd.name d_z_bank_gcd.qual d_z_bank_gcd.params d_z_bank_gcd.body d_z_bank_gcd.scope (d_z_bank_gcd.dvs K) (d_z_bank_gcd.kws K) (d_z_bank_gcd.at_ K) fd := L.says.def_ 71 (d := Rd.d_z_bank_gcd)
theorem Left.F_z_bank_gcd (L : Left K) : ∃ fd, Fun K "_law_bank_gcd" "_law_bank_gcd" s_z_bank_gcd (He.ga K "_law_bank_gcd") fd :=
  let ⟨fd, F⟩ := L.fd_z_bank_gcd
  ⟨fd, He5.fun_of (kws := Rd.d_z_bank_gcd.kws K) F⟩
theorem Left.fd_z_corridor_due (L : Left K) : ∃ fd, FunD K d_z_corridor_due.name d_z_corridor_due.qual d_z_corridor_due.params d_z_corridor_due.body d_z_corridor_due.scope (d_z_corridor_due.dvs K) (d_z_corridor_due.kws K) (d_z_corridor_due.at_ K) fd := L.says.def_ 72 (d := Rd.d_z_corridor_due)
theorem Left.F_z_corridor_due (L : Left K) : ∃ fd, Fun K "_law_corridor_due" "_law_corridor_due" s_z_corridor_due (He.ga K "_law_corridor_due") fd :=
  let ⟨fd, F⟩ := L.fd_z_corridor_due
  ⟨fd, He5.fun_of (kws := Rd.d_z_corridor_due.kws K) F⟩
theorem Left.fd_z_least (L : Left K) : ∃ fd, FunD K d_z_least.name d_z_least.qual d_z_least.params d_z_least.body d_z_least.scope (d_z_least.dvs K) (d_z_least.kws K) (d_z_least.at_ K) fd := L.says.def_ 73 (d := Rd.d_z_least)
theorem Left.F_z_least (L : Left K) : ∃ fd, Fun K "_law_least" "_law_least" s_z_least (He.ga K "_law_least") fd :=
  let ⟨fd, F⟩ := L.fd_z_least
  ⟨fd, He5.fun_of (kws := Rd.d_z_least.kws K) F⟩
theorem Left.fd_z_rows (L : Left K) : ∃ fd, FunD K d_z_rows.name d_z_rows.qual d_z_rows.params d_z_rows.body d_z_rows.scope (d_z_rows.dvs K) (d_z_rows.kws K) (d_z_rows.at_ K) fd := L.says.def_ 74 (d := Rd.d_z_rows)
theorem Left.F_z_rows (L : Left K) : ∃ fd, Fun K "_law_rows" "_law_rows" s_z_rows (He.ga K "_law_rows") fd :=
  let ⟨fd, F⟩ := L.fd_z_rows
  ⟨fd, He5.fun_of (kws := Rd.d_z_rows.kws K) F⟩
theorem Left.fd_z_told (L : Left K) : ∃ fd, FunD K d_z_told.name d_z_told.qual d_z_told.params d_z_told.body d_z_told.scope (d_z_told.dvs K) (d_z_told.kws K) (d_z_told.at_ K) fd := L.says.def_ 75 (d := Rd.d_z_told)
theorem Left.F_z_told (L : Left K) : ∃ fd, Fun K "_law_told" "_law_told" s_z_told (He.ga K "_law_told") fd :=
  let ⟨fd, F⟩ := L.fd_z_told
  ⟨fd, He5.fun_of (kws := Rd.d_z_told.kws K) F⟩
theorem Left.fd_law (L : Left K) : ∃ fd, FunD K d_law.name d_law.qual d_law.params d_law.body d_law.scope (d_law.dvs K) (d_law.kws K) (d_law.at_ K) fd := L.says.def_ 76 (d := Rd.d_law)
theorem Left.F_law (L : Left K) : ∃ fd, Fun K "law" "law" s_law (He.ga K "law") fd :=
  let ⟨fd, F⟩ := L.fd_law
  ⟨fd, He5.fun_of (kws := Rd.d_law.kws K) F⟩
theorem Left.fd_Impossible_dinit (L : Left K) : ∃ fd, FunD K d_Impossible_dinit.name d_Impossible_dinit.qual d_Impossible_dinit.params d_Impossible_dinit.body d_Impossible_dinit.scope (d_Impossible_dinit.dvs K) (d_Impossible_dinit.kws K) (d_Impossible_dinit.at_ K) fd := L.says.def_ 77 (d := Rd.d_Impossible_dinit)
theorem Left.F_Impossible_dinit (L : Left K) : ∃ fd, Fun K "__init__" "Impossible.__init__" s_Impossible_dinit (meA "Impossible" "__init__" K) fd :=
  let ⟨fd, F⟩ := L.fd_Impossible_dinit
  ⟨fd, He5.fun_of (kws := Rd.d_Impossible_dinit.kws K) F⟩
end
/-- where the defs run: what the top left, the module's names -/
structure Wd (K : PySem.W.Frag) (mg : Str → Option Value) (base : Heap) : Prop where
  L : Left K
  X : K.In base
  G : base.Ns mainGlobals mg
section
variable {K : PySem.W.Frag} {mg : Str → Option Value} {base : Heap}
theorem Wd.g_gcd_of (T : Wd K mg base) : mg "gcd_of" = some (.ref (He.ga K "gcd_of")) := T.L.g_gcd_of T.X T.G
theorem Wd.g_lcm_of (T : Wd K mg base) : mg "lcm_of" = some (.ref (He.ga K "lcm_of")) := T.L.g_lcm_of T.X T.G
theorem Wd.g_joined_rooms (T : Wd K mg base) : mg "joined_rooms" = some (.ref (He.ga K "joined_rooms")) := T.L.g_joined_rooms T.X T.G
theorem Wd.g_steps_from (T : Wd K mg base) : mg "steps_from" = some (.ref (He.ga K "steps_from")) := T.L.g_steps_from T.X T.G
theorem Wd.g_reached_from (T : Wd K mg base) : mg "reached_from" = some (.ref (He.ga K "reached_from")) := T.L.g_reached_from T.X T.G
theorem Wd.g_level_corridor (T : Wd K mg base) : mg "level_corridor" = some (.ref (He.ga K "level_corridor")) := T.L.g_level_corridor T.X T.G
theorem Wd.g_sides_of (T : Wd K mg base) : mg "sides_of" = some (.ref (He.ga K "sides_of")) := T.L.g_sides_of T.X T.G
theorem Wd.g_odd_ring_of (T : Wd K mg base) : mg "odd_ring_of" = some (.ref (He.ga K "odd_ring_of")) := T.L.g_odd_ring_of T.X T.G
theorem Wd.g_on_rings (T : Wd K mg base) : mg "on_rings" = some (.ref (He.ga K "on_rings")) := T.L.g_on_rings T.X T.G
theorem Wd.g_bridges_of (T : Wd K mg base) : mg "bridges_of" = some (.ref (He.ga K "bridges_of")) := T.L.g_bridges_of T.X T.G
theorem Wd.g_is_name (T : Wd K mg base) : mg "is_name" = some (.ref (He.ga K "is_name")) := T.L.g_is_name T.X T.G
theorem Wd.g_is_integer (T : Wd K mg base) : mg "is_integer" = some (.ref (He.ga K "is_integer")) := T.L.g_is_integer T.X T.G
theorem Wd.g_is_between (T : Wd K mg base) : mg "is_between" = some (.ref (He.ga K "is_between")) := T.L.g_is_between T.X T.G
theorem Wd.g_need_possible (T : Wd K mg base) : mg "need_possible" = some (.ref (He.ga K "need_possible")) := T.L.g_need_possible T.X T.G
theorem Wd.g_combined (T : Wd K mg base) : mg "combined" = some (.ref (He.ga K "combined")) := T.L.g_combined T.X T.G
theorem Wd.g_divisor_of (T : Wd K mg base) : mg "divisor_of" = some (.ref (He.ga K "divisor_of")) := T.L.g_divisor_of T.X T.G
theorem Wd.g_wanted_sums (T : Wd K mg base) : mg "wanted_sums" = some (.ref (He.ga K "wanted_sums")) := T.L.g_wanted_sums T.X T.G
theorem Wd.g_tree_values (T : Wd K mg base) : mg "tree_values" = some (.ref (He.ga K "tree_values")) := T.L.g_tree_values T.X T.G
theorem Wd.g_solution (T : Wd K mg base) : mg "solution" = some (.ref (He.ga K "solution")) := T.L.g_solution T.X T.G
theorem Wd.g_pair_of (T : Wd K mg base) : mg "pair_of" = some (.ref (He.ga K "pair_of")) := T.L.g_pair_of T.X T.G
theorem Wd.g_is_pair (T : Wd K mg base) : mg "is_pair" = some (.ref (He.ga K "is_pair")) := T.L.g_is_pair T.X T.G
theorem Wd.g_need_closed (T : Wd K mg base) : mg "need_closed" = some (.ref (He.ga K "need_closed")) := T.L.g_need_closed T.X T.G
theorem Wd.g_open_trace (T : Wd K mg base) : mg "open_trace" = some (.ref (He.ga K "open_trace")) := T.L.g_open_trace T.X T.G
theorem Wd.g_paper_of (T : Wd K mg base) : mg "paper_of" = some (.ref (He.ga K "paper_of")) := T.L.g_paper_of T.X T.G
theorem Wd.g_avoiding_paper (T : Wd K mg base) : mg "avoiding_paper" = some (.ref (He.ga K "avoiding_paper")) := T.L.g_avoiding_paper T.X T.G
theorem Wd.g_gcd_of_bank (T : Wd K mg base) : mg "gcd_of_bank" = some (.ref (He.ga K "gcd_of_bank")) := T.L.g_gcd_of_bank T.X T.G
theorem Wd.g_corridor_modulus (T : Wd K mg base) : mg "corridor_modulus" = some (.ref (He.ga K "corridor_modulus")) := T.L.g_corridor_modulus T.X T.G
theorem Wd.g_corridor_numbers (T : Wd K mg base) : mg "corridor_numbers" = some (.ref (He.ga K "corridor_numbers")) := T.L.g_corridor_numbers T.X T.G
theorem Wd.g_log_total (T : Wd K mg base) : mg "log_total" = some (.ref (He.ga K "log_total")) := T.L.g_log_total T.X T.G
theorem Wd.g_log_numbers (T : Wd K mg base) : mg "log_numbers" = some (.ref (He.ga K "log_numbers")) := T.L.g_log_numbers T.X T.G
theorem Wd.g__law_begin (T : Wd K mg base) : mg "_law_begin" = some (.ref (He.ga K "_law_begin")) := T.L.g__law_begin T.X T.G
theorem Wd.g__law_draw (T : Wd K mg base) : mg "_law_draw" = some (.ref (He.ga K "_law_draw")) := T.L.g__law_draw T.X T.G
theorem Wd.g__law_pick (T : Wd K mg base) : mg "_law_pick" = some (.ref (He.ga K "_law_pick")) := T.L.g__law_pick T.X T.G
theorem Wd.g__law_shuffled (T : Wd K mg base) : mg "_law_shuffled" = some (.ref (He.ga K "_law_shuffled")) := T.L.g__law_shuffled T.X T.G
theorem Wd.g__law_names (T : Wd K mg base) : mg "_law_names" = some (.ref (He.ga K "_law_names")) := T.L.g__law_names T.X T.G
theorem Wd.g__law_pair (T : Wd K mg base) : mg "_law_pair" = some (.ref (He.ga K "_law_pair")) := T.L.g__law_pair T.X T.G
theorem Wd.g__law_drawn (T : Wd K mg base) : mg "_law_drawn" = some (.ref (He.ga K "_law_drawn")) := T.L.g__law_drawn T.X T.G
theorem Wd.g__law_built (T : Wd K mg base) : mg "_law_built" = some (.ref (He.ga K "_law_built")) := T.L.g__law_built T.X T.G
theorem Wd.g__law_near (T : Wd K mg base) : mg "_law_near" = some (.ref (He.ga K "_law_near")) := T.L.g__law_near T.X T.G
theorem Wd.g__law_sides_due (T : Wd K mg base) : mg "_law_sides_due" = some (.ref (He.ga K "_law_sides_due")) := T.L.g__law_sides_due T.X T.G
theorem Wd.g__law_wandered (T : Wd K mg base) : mg "_law_wandered" = some (.ref (He.ga K "_law_wandered")) := T.L.g__law_wandered T.X T.G
theorem Wd.g__law_left (T : Wd K mg base) : mg "_law_left" = some (.ref (He.ga K "_law_left")) := T.L.g__law_left T.X T.G
theorem Wd.g__law_gcd (T : Wd K mg base) : mg "_law_gcd" = some (.ref (He.ga K "_law_gcd")) := T.L.g__law_gcd T.X T.G
theorem Wd.g__law_gcd_all (T : Wd K mg base) : mg "_law_gcd_all" = some (.ref (He.ga K "_law_gcd_all")) := T.L.g__law_gcd_all T.X T.G
theorem Wd.g__law_lcm (T : Wd K mg base) : mg "_law_lcm" = some (.ref (He.ga K "_law_lcm")) := T.L.g__law_lcm T.X T.G
theorem Wd.g__law_bank_gcd (T : Wd K mg base) : mg "_law_bank_gcd" = some (.ref (He.ga K "_law_bank_gcd")) := T.L.g__law_bank_gcd T.X T.G
theorem Wd.g__law_corridor_due (T : Wd K mg base) : mg "_law_corridor_due" = some (.ref (He.ga K "_law_corridor_due")) := T.L.g__law_corridor_due T.X T.G
theorem Wd.g__law_least (T : Wd K mg base) : mg "_law_least" = some (.ref (He.ga K "_law_least")) := T.L.g__law_least T.X T.G
theorem Wd.g__law_rows (T : Wd K mg base) : mg "_law_rows" = some (.ref (He.ga K "_law_rows")) := T.L.g__law_rows T.X T.G
theorem Wd.g__law_told (T : Wd K mg base) : mg "_law_told" = some (.ref (He.ga K "_law_told")) := T.L.g__law_told T.X T.G
theorem Wd.g_law (T : Wd K mg base) : mg "law" = some (.ref (He.ga K "law")) := T.L.g_law T.X T.G
theorem Wd.g_Building (T : Wd K mg base) : mg "Building" = some (.ref (He.ga K "Building")) := T.L.g_Building T.X T.G
theorem Wd.g_Trace (T : Wd K mg base) : mg "Trace" = some (.ref (He.ga K "Trace")) := T.L.g_Trace T.X T.G
theorem Wd.g_Numbers (T : Wd K mg base) : mg "Numbers" = some (.ref (He.ga K "Numbers")) := T.L.g_Numbers T.X T.G
theorem Wd.g_Impossible (T : Wd K mg base) : mg "Impossible" = some (.ref (He.ga K "Impossible")) := T.L.g_Impossible T.X T.G
theorem Wd.g_RoomdialsError (T : Wd K mg base) : mg "RoomdialsError" = some (.ref (He.ga K "RoomdialsError")) := T.L.g_RoomdialsError T.X T.G
theorem Wd.f_abs (T : Wd K mg base) : mg "abs" = none := T.L.f_abs T.X T.G
theorem Wd.f_len (T : Wd K mg base) : mg "len" = none := T.L.f_len T.X T.G
theorem Wd.f_list (T : Wd K mg base) : mg "list" = none := T.L.f_list T.X T.G
theorem Wd.f_min (T : Wd K mg base) : mg "min" = none := T.L.f_min T.X T.G
theorem Wd.f_tuple (T : Wd K mg base) : mg "tuple" = none := T.L.f_tuple T.X T.G
theorem Wd.f_sorted (T : Wd K mg base) : mg "sorted" = none := T.L.f_sorted T.X T.G
theorem Wd.f_isinstance (T : Wd K mg base) : mg "isinstance" = none := T.L.f_isinstance T.X T.G
theorem Wd.f_str (T : Wd K mg base) : mg "str" = none := T.L.f_str T.X T.G
theorem Wd.f_int (T : Wd K mg base) : mg "int" = none := T.L.f_int T.X T.G
theorem Wd.f_bool (T : Wd K mg base) : mg "bool" = none := T.L.f_bool T.X T.G
theorem Wd.f_all (T : Wd K mg base) : mg "all" = none := T.L.f_all T.X T.G
theorem Wd.f_dict (T : Wd K mg base) : mg "dict" = none := T.L.f_dict T.X T.G
theorem Wd.f_zip (T : Wd K mg base) : mg "zip" = none := T.L.f_zip T.X T.G
theorem Wd.f_max (T : Wd K mg base) : mg "max" = none := T.L.f_max T.X T.G
theorem Wd.f_range (T : Wd K mg base) : mg "range" = none := T.L.f_range T.X T.G
theorem Wd.f_sum (T : Wd K mg base) : mg "sum" = none := T.L.f_sum T.X T.G
theorem Wd.i_LONGEST_NAME (T : Wd K mg base) : ∃ t, mg "LONGEST_NAME" = some (.int 8 t) := T.L.i_LONGEST_NAME T.X T.G
theorem Wd.i_MOST_SIZE_buildings (T : Wd K mg base) : ∃ t, mg "MOST_SIZE_buildings" = some (.int 1000000000 t) := T.L.i_MOST_SIZE_buildings T.X T.G
theorem Wd.i_LARGEST (T : Wd K mg base) : ∃ t, mg "LARGEST" = some (.int 1000000000 t) := T.L.i_LARGEST T.X T.G
theorem Wd.s_LETTERS (T : Wd K mg base) : ∃ t, mg "LETTERS" = some (.str "abcdefghijklmnopqrstuvwxyz" t) := T.L.s_LETTERS T.X T.G
end
end Rd
set_option maxHeartbeats 0
/-! The head: the top run once in the kernel, and what the Hook sees of it. -/
namespace Rd
open PySem PySem.W PySem.Calls PyProof.Rows
abbrev rowR : OpenRow := OpenLaw.row PySem.Challenge.rw_roomdials_k64_whole_least_totals
def nm0 : List PySem.Str := ["_wall", "RoomdialsError", "InvalidName", "InvalidSize", "InvalidCorridor", "TooLarge", "NotConnected", "InvalidText", "UnknownRoom", "UnknownCorridor", "InvalidWalk", "NotJoined", "InvalidChange", "Impossible", "FirstClosed", "TooMany"]
def nm1 : List PySem.Str := ["OutOfRange", "gcd_of", "lcm_of", "joined_rooms", "steps_from", "reached_from", "level_corridor", "sides_of", "odd_ring_of", "on_rings", "bridges_of", "LETTERS", "LONGEST_NAME", "is_name", "is_integer", "is_between"]
def nm2 : List PySem.Str := ["need_possible", "combined", "divisor_of", "wanted_sums", "tree_values", "solution", "MOST_SIZE_buildings", "pair_of", "size_in", "is_room_line", "is_corridor_line", "Building", "LARGEST", "change_in", "Trace", "is_pair"]
def nm3 : List PySem.Str := ["need_closed", "open_trace", "paper_of", "avoiding_paper", "MOST_LISTED", "inverse", "Numbers", "gcd_of_bank", "corridor_modulus", "corridor_numbers", "log_total", "log_numbers", "_law_begin", "_law_draw", "_law_pick", "_law_shuffled"]
def nm4 : List PySem.Str := ["_law_names", "_law_pair", "_law_drawn", "_law_built", "_law_near", "_law_sides_due", "_law_wandered", "_law_left", "_law_gcd", "_law_gcd_all", "_law_lcm", "_law_bank_gcd", "_law_corridor_due", "_law_least", "_law_rows", "_law_told"]
def nms : List PySem.Str := (nm0 ++ (nm1 ++ (nm2 ++ (nm3 ++ nm4))))
section
open HandSHeadRun
theorem opt_three {α β γ δ ε : Type} {o : Option α} {f : α → β} {g : α → γ} {k : α → δ × ε} {b : β} {c : γ} {d : δ} {e : ε} (h1 : o.map (fun s => (f s, g s)) = some (b, c)) (h2 : o.map (fun s => (k s).1) = some d) (h3 : o.map (fun s => (k s).2) = some e) :
    o.map (fun s => (f s, g s, k s)) = some (b, c, (d, e)) := by
  cases o with
  | none => cases h1
  | some s =>
    have e1 := Option.some.inj h1
    have e2 : (k s).1 = d := Option.some.inj h2
    have e3 : (k s).2 = e := Option.some.inj h3
    injection e1 with e4 e5
    show some (f s, g s, k s) = _
    rw [e4, e5, ← e2, ← e3]
/-- the run, as the view sees it -/
theorem run1 (w : World) (os : OsState) : (endF (stepQ (denQ tabQ) rowR.prog w) 30000 rowR.prog w os).map (fun s => (looksF rowR.prog (boot_heap w.params) s.abs, seenQ (view rowR.prog [90]) nms (importedModules rowR.prog.main.body) (fun s => xlAt (view rowR.prog [90]) [] s && recOk rowR.toRowW.records s) s.abs)) = some (true, openGood (view rowR.prog [90]) nms) := by
  kernel_rfl
/-- the defs and facts behind it -/
theorem run2 (w : World) (os : OsState) : (endF (stepQ (denQ tabQ) rowR.prog w) 30000 rowR.prog w os).map (fun s => (seeT s).1) = some (He5.valA fn) := by
  kernel_rfl
/-- more facts -/
theorem run3 (w : World) (os : OsState) : (endF (stepQ (denQ tabQ) rowR.prog w) 30000 rowR.prog w os).map (fun s => (seeT s).2) = some true := by
  kernel_rfl
/-- the run, and what is looked at behind it -/
theorem topRuns (w : World) : HandSHeadRun.RunEq rowR (view rowR.prog [90]) (hook 5) seeT 30000 nms w := fun os => opt_three (run1 w os) (run2 w os) (run3 w os)
end
end Rd
set_option maxHeartbeats 4000000
/-! Rules of my own over the layer: bundles of promises; operators of own classes. -/
namespace L2
open PySem PySem.Spec PyProof.Rows
theorem Same.new {H0 H : Hp} {p : Addr} {o : HO} (s : Same H0 H) (hp : H p = none) : Same H0 (upd H p o) := fun b u e => by
  rw [upd_ne (ne_of_none (s b u e) hp)]
  exact s b u e
theorem Same.put {H0 H : Hp} {p : Addr} {o : HO} (s : Same H0 H) (hp : H0 p = none) : Same H0 (upd H p o) := fun b u e => by
  rw [upd_ne (ne_of_none e hp)]
  exact s b u e
theorem sm_new {H : Hp} {p : Addr} {o : HO} (hp : H p = none) : Same H (upd H p o) := (Same.refl H).new hp
theorem Same.tup {K : PySem.W.Frag} {H H' : Hp} {a : Addr} {xs : List V} (e : Same H H') (h : SqT K H a xs) : SqT K H' a xs := by
  rcases h with (h | ⟨o, h⟩) | h
  · exact .inl (.inl (e _ _ h))
  · exact .inl (.inr ⟨o, e _ _ h⟩)
  · exact .inr h
end L2
namespace Rd
open PySem PySem.Spec PyProof.Rows L2
section
variable (P : Program) (w : World) (K : PySem.W.Frag) (mg : Str → Option Value) (base : Heap)
/-- a def of the module, called by its name; dvs fill up -/
structure Ca (k : Nat) (x : Str) (sp : Sp) (dvs : List V) : Prop where
  ex : ∃ (f : Addr) (fd : FuncData) (ps : List Str) (ds : List Value), FnOk P w K mg base CX0 k f fd ps sp ∧ mg x = some (.ref f) ∧ PySem.W.keepIn K (.ref f) = true ∧ Binds K fd ps ds ∧ Vals dvs ds
/-- a method -/
structure Mt (k : Nat) (C : Addr) (m : Str) (sp : Sp) : Prop where
  ex : ∃ (f : Addr) (fd : FuncData) (ps : List Str), Cls K C ∧ Meth K C m f ∧ PySem.W.fnIn K f = true ∧ FnOk P w K mg base CX0 k f fd ps sp ∧ Binds K fd ps []
/-- a property -/
structure Pr (k : Nat) (C : Addr) (f : Str) (sp : Sp) : Prop where
  ex : ∃ (p g : Addr) (fd : FuncData), Cls K C ∧ PropOf K C f p g ∧ FnOk P w K mg base CX0 k g fd ["self"] sp ∧ Binds K fd ["self"] []
/-- a class that is made by its name; sp: its __init__ -/
structure Ma (k : Nat) (x : Str) (C : Addr) (sp : Sp) : Prop where
  ex : ∃ (f : Addr) (fd : FuncData) (ps : List Str), Mk K C f ∧ FnOk P w K mg base CX0 k f fd ps sp ∧ mg x = some (.ref C) ∧ Binds K fd ps []
end
abbrev CaX (X : Cx) := Ca X.prog X.w X.K X.mg X.base
abbrev MtX (X : Cx) := Mt X.prog X.w X.K X.mg X.base
abbrev PrX (X : Cx) := Pr X.prog X.w X.K X.mg X.base
abbrev MaX (X : Cx) := Ma X.prog X.w X.K X.mg X.base
section
variable {X : Cx} {k j : Nat} {C : Addr} {sp : Sp} {x m f : Str} {dvs : List V} {p pos apos : Pos} {e o : Expr} {es : List Expr} {ta tb : TE} {t : TA}
/-- f(e, ..) -/
theorem pe_ca (c : CaX X k x sp dvs) (hr : Room j X.A) (hk : k ≤ j) (hg : Gl X x) (ha : PA X (e :: es) t) (hdb : (x == ("__debug__" : Str)) = false := by decide)
    (he : starEach (e :: es) X.env = (false, eval e X.env) :: starEach es X.env := by rfl) (hpl : (backTo pos (starEach es X.env)).any (·.1) = false := by rfl) :
    PE X (.Call (.Name x p) (e :: es) [] pos) (tCall sp dvs E0 t) :=
  let ⟨_, _, _, _, F, hm, kp, b, d⟩ := c.ex
  pe_call F (hr.mono hk) hg hm kp b d pass0 ha hdb he hpl
/-- o.m(e, ..) -/
theorem pe_mt {pl : Sem Bool} (c : MtX X k C m sp) (hr : Room j X.A) (hk : k ≤ j) (he : PE X o ta) (ha : PA X (e :: es) t)
    (hst : starEach (e :: es) X.env = (false, eval e X.env) :: starEach es X.env := by rfl) (hpl : (backTo pos (starEach es X.env)).any (·.1) = false := by rfl)
    (ht : eval (.Call (.Attribute o m apos) (e :: es) [] pos) X.env = (do
      let ov ← eval o X.env
      standAt apos.atName
      let (g, own) ← holding [ov] (getMethod ov m pl)
      callWith pos g own (backTo pos (starEach (e :: es) X.env)) (backToKw pos (keywordEach [] X.env))) := by rfl) :
    PE X (.Call (.Attribute o m apos) (e :: es) [] pos) (tMeth C m sp [] E0 ta t) :=
  let ⟨_, _, _, hc, hm, _, F, b⟩ := c.ex
  pe_meth (pl := pl) he hc hm F (hr.mono hk) b .nil pass0 ha hst hpl ht
theorem pe_mt0 {pl : Sem Bool} (c : MtX X k C m sp) (hr : Room j X.A) (hk : k ≤ j) (he : PE X o ta)
    (ht : eval (.Call (.Attribute o m apos) [] [] pos) X.env = (do
      let ov ← eval o X.env
      standAt apos.atName
      let (g, own) ← holding [ov] (getMethod ov m pl)
      callWith pos g own (backTo pos (starEach [] X.env)) (backToKw pos (keywordEach [] X.env))) := by rfl) :
    PE X (.Call (.Attribute o m apos) [] [] pos) (tMeth C m sp [] E0 ta tNil) :=
  let ⟨_, _, _, hc, hm, _, F, b⟩ := c.ex
  pe_meth0 (pl := pl) he hc hm F (hr.mono hk) b .nil pass0 ht
/-- o.f, a property -/
theorem pe_pr (c : PrX X k C f sp) (hr : Room j X.A) (hk : k + 1 ≤ j) (he : PE X o ta) (hab : attributeBase o f X.env (eval o X.env) = eval o X.env := by rfl) : PE X (.Attribute o f pos) (tProp C sp [] E0 ta) :=
  let ⟨_, _, _, hc, hp, F, b⟩ := c.ex
  pe_prop he hc hp F (hr.mono hk) b .nil pass0 hab
/-- C(e, ..) -/
theorem pe_ma (c : MaX X k x C sp) (hr : Room j X.A) (hk : k + 1 ≤ j) (hg : Gl X x) (ha : PA X (e :: es) t) (hdb : (x == ("__debug__" : Str)) = false := by decide)
    (he : starEach (e :: es) X.env = (false, eval e X.env) :: starEach es X.env := by rfl) (hpl : (backTo pos (starEach es X.env)).any (·.1) = false := by rfl) :
    PE X (.Call (.Name x p) (e :: es) [] pos) (tMake C sp [] E0 t) :=
  let ⟨_, _, _, M, F, hm, b⟩ := c.ex
  pe_make M F (hr.mono hk) hg hm b .nil pass0 ha hdb he hpl
/-- y an instance of C whose own __contains__ (promise sp) answers -/
def rIsIn (C : Addr) (sp : Sp) (neg : Bool) : R2 := fun x y H Q => ∃ a dx fs, y = .ref a ∧ H a = some (.ins C dx fs) ∧ sp [.ref a, x] H (fun v H' => ∃ b, v = .bl b ∧ Q (.bl (if neg then !b else b)) H') E0
theorem op_in_own (M : MtX X k C "__contains__" sp) (hr : Room j X.A) (hk : k ≤ j) : OpR X (compareOp .In) (rIsIn C sp false) := by
  intro pins s σ H x y v u Q I rx ry hh
  obtain ⟨a, dx, fs, rfl, ea, q⟩ := hh
  obtain ⟨f, fd, ps, hc, hm, hfn, F, hb⟩ := M.ex
  obtain rfl : u = Value.ref a := ry
  obtain ⟨mA, O, _⟩ := ins_get I.hok ea
  obtain ⟨od, J, _⟩ := O.look
  obtain ⟨m, Fr0⟩ := I.fr
  refine PySem.W.in_K Fr0 I.mod.kin J hm.at_ hm.fn (thn (run_fn (us := [.ref a, v]) (vs := [.ref a, x]) F (hr.mono hk) hb .nil pass0 I (.cons rfl (.cons rx .nil)) q) ?_)
  rintro r s' ⟨w', H', I', rv, b, rfl, qq⟩
  obtain rfl : r = Value.bool b := rv
  exact wpAny_truthy_bool ⟨.bl b, H', I', rfl, qq⟩
theorem op_nin_own (M : MtX X k C "__contains__" sp) (hr : Room j X.A) (hk : k ≤ j) : OpR X (compareOp .NotIn) (rIsIn C sp true) := by
  intro pins s σ H x y v u Q I rx ry hh
  obtain ⟨a, dx, fs, rfl, ea, q⟩ := hh
  obtain ⟨f, fd, ps, hc, hm, hfn, F, hb⟩ := M.ex
  obtain rfl : u = Value.ref a := ry
  obtain ⟨mA, O, _⟩ := ins_get I.hok ea
  obtain ⟨od, J, _⟩ := O.look
  obtain ⟨m, Fr0⟩ := I.fr
  refine PySem.W.notIn_K Fr0 I.mod.kin J hm.at_ hm.fn (thn (run_fn (us := [.ref a, v]) (vs := [.ref a, x]) F (hr.mono hk) hb .nil pass0 I (.cons rfl (.cons rx .nil)) q) ?_)
  rintro r s' ⟨w', H', I', rv, b, rfl, qq⟩
  obtain rfl : r = Value.bool b := rv
  exact wpAny_truthy_bool ⟨.bl (!b), H', I', rfl, qq⟩
/-- o[i] by an own __getitem__ -/
def rGetOwn (C : Addr) (sp : Sp) : R2 := fun x y H Q => ∃ a dx fs, x = .ref a ∧ H a = some (.ins C dx fs) ∧ sp [.ref a, y] H Q E0
theorem run_fn1 {f : Addr} {fd : FuncData} {ps : List Str} {pins : List (Addr × Obj)} {σ : L2.St} {H : Hp} {s : Shared} {Q : VK} {us : List Value} {vs : List V} (F : FnOk X.prog X.w X.K X.mg X.base CX0 k f fd ps sp) (hr : Room (k + 1) X.A) (hb : Binds X.K fd ps [])
    (I : Inv X pins σ H s) (r : Vals vs us) (h : sp vs H Q E0) : wpAny (model X.prog X.w) X.A.in1 (call (.ref f) us) (EP X pins σ Q) X.xe s := by
  have hl : us.length = ps.length := by rw [← r.length]; exact F.len _ _ _ _ h
  refine wpAny_call (codeAny_mono (F.run X.A.in1 X.stack s H ⟨us, []⟩ us vs Q E0 hr.in1 I.env0.in1 (by have z := hb s us I.kIn (by simpa using hl); simpa using z) r h) fun r s' hq => ?_)
  cases r with
  | error e => exact False.elim hq
  | ok fl =>
    cases fl with
    | ret u => exact I.after hq
    | next => exact False.elim hq
    | brk => exact False.elim hq
    | cont => exact False.elim hq
theorem pe_get_own {e1 e2 : Expr} (M : MtX X k C "__getitem__" sp) (hr : Room j X.A) (hk : k + 1 ≤ j) (ha : PE X e1 ta) (hb : PE X e2 tb)
    (hsl : ∀ (x : Addr) (i : Value), subscripted e2 true (.ref x) i = runValue (.builtin "lifetime.subscript" ⟨[.ref x, i], []⟩) := by intro _ _; rfl) :
    PE X (.Subscript e1 e2 pos) (tOp (rGetOwn C sp) ta tb) := by
  refine ⟨fun pins s σ H Q I hh => ?_⟩
  refine Subscript_ (binT ha hb I hh fun v u s2 x y H2 I2 rx ry q => ?_)
  obtain ⟨a, dx, fs, rfl, ea, q⟩ := q
  obtain ⟨f, fd, ps, hc, hm, hfn, F, hbi⟩ := M.ex
  obtain rfl : v = Value.ref a := rx
  obtain ⟨mA, O, _⟩ := ins_get I2.hok ea
  obtain ⟨od, J, _⟩ := O.look
  obtain ⟨m, Fr0⟩ := I2.fr
  exact PySem.W.sub_K Fr0 I2.mod.kin J hm.at_ hfn hm.fn (run_fn1 (us := [.ref a, u]) (vs := [.ref a, y]) F (hr.mono hk) hbi I2 (.cons rfl (.cons ry .nil)) q) (hsl a u)
/-- x + y by an own __add__: y an instance of the same class -/
def rAddOwn (C : Addr) (sp : Sp) : R2 := fun x y H Q => ∃ a dx fs b dy gs, x = .ref a ∧ H a = some (.ins C dx fs) ∧ y = .ref b ∧ H b = some (.ins C dy gs) ∧ sp [.ref a, .ref b] H (fun v H' => ∃ c, v = .ref c ∧ Q (.ref c) H') E0
theorem op_add_own (M : MtX X k C "__add__" sp) (hs : PySem.W.selfFirst X.K C = true) (hr : Room j X.A) (hk : k ≤ j) : OpR X (binaryOp .Add) (rAddOwn C sp) := by
  intro pins s σ H x y v u Q I rx ry hh
  obtain ⟨a, dx, fs, b, dy, gs, rfl, ea, rfl, eb, q⟩ := hh
  obtain ⟨f, fd, ps, hc, hm, hfn, F, hb⟩ := M.ex
  obtain rfl : v = Value.ref a := rx
  obtain rfl : u = Value.ref b := ry
  obtain ⟨mA, O, _⟩ := ins_get I.hok ea
  obtain ⟨od, J, _⟩ := O.look
  obtain ⟨mB, O2, _⟩ := ins_get I.hok eb
  obtain ⟨od2, J2, _⟩ := O2.look
  obtain ⟨m, Fr0⟩ := I.fr
  refine PySem.W.binop_K Fr0 I.mod.kin J J2.type hs hm.at_ hm.fn (thn (run_fn (us := [.ref a, .ref b]) (vs := [.ref a, .ref b]) F (hr.mono hk) hb .nil pass0 I (.cons rfl (.cons rfl .nil)) q) ?_)
  rintro r s' ⟨w', H', I', rv, c, rfl, qq⟩
  obtain rfl : r = Value.ref c := rv
  exact ⟨.ref c, H', I', rfl, qq⟩
/-- x + y by an own __add__: y an int -/
def rAddInt (C : Addr) (sp : Sp) : R2 := fun x y H Q => ∃ a dx fs i, x = .ref a ∧ H a = some (.ins C dx fs) ∧ y = .int i ∧ sp [.ref a, .int i] H (fun v H' => ∃ c, v = .ref c ∧ Q (.ref c) H') E0
theorem op_add_int (M : MtX X k C "__add__" sp) (hs : PySem.W.selfFirst X.K C = true) (hn : PySem.W.findIn X.K (.ref C) "__radd__" = some none) (hsub : PySem.W.subIn X.K (.type "int") (.ref C) = some false) (hr : Room j X.A) (hk : k ≤ j) : OpR X (binaryOp .Add) (rAddInt C sp) := by
  intro pins s σ H x y v u Q I rx ry hh
  obtain ⟨a, dx, fs, i, rfl, ea, rfl, q⟩ := hh
  obtain ⟨f, fd, ps, hc, hm, hfn, F, hb⟩ := M.ex
  obtain rfl : v = Value.ref a := rx
  obtain ⟨tk, rfl⟩ := ry
  obtain ⟨mA, O, _⟩ := ins_get I.hok ea
  obtain ⟨od, J, _⟩ := O.look
  obtain ⟨m, Fr0⟩ := I.fr
  refine PySem.W.ksp_binT (T := "int") (fo := some (.builtin "int.__add__")) (ro := some (.builtin "int.__radd__")) Fr0 I.mod.kin J (by rfl) hs hm.at_ hm.fn hn (.inl rfl) (by kernel_rfl) (by kernel_rfl) hsub (thn (run_fn (us := [.ref a, .int i tk]) (vs := [.ref a, .int i]) F (hr.mono hk) hb .nil pass0 I (.cons rfl (.cons ⟨_, rfl⟩ .nil)) q) ?_)
  rintro r s' ⟨w', H', I', rv, c, rfl, qq⟩
  obtain rfl : r = Value.ref c := rv
  exact ⟨.ref c, H', I', rfl, qq⟩
end
section
variable {P : Program} {w : World} {K : PySem.W.Frag} {mg : Str → Option Value} {base : Heap} {x m qual : Str} {st : Stmt} {f C : Addr} {fd : FuncData} {N ps : List Str} {k : Nat} {sp : Sp}
abbrev BodyOk (P : Program) (w : World) (K : PySem.W.Frag) (mg : Str → Option Value) (base : Heap) (k : Nat) (f : Addr) (qual : Str) (st : Stmt) (N : List Str) (sp : Sp) : Prop :=
  ∀ (cdv : Value) (A : Around) (outer : List Env) (s : Shared) (H : Hp) (vs : List V) (Q : VK) (E : XK), Room k (A.deeper (envOfC qual (defScope st) s.heap.objs.size f cdv)) → sp vs H Q E →
    ∃ t, PSs (cxOf CX0 P w K mg base N qual (defScope st) f cdv A outer s H E).nox (defBody st) t ∧ t { nx := fun _ H' => Q .non H', rt := Q } (start N vs) H
theorem ca_of (F : Fun K x x st f fd) (hm : mg x = some (.ref f)) (b : Binds K fd ps []) (S : FnScope N ps (defScope st)) (len : ∀ vs H Q E, sp vs H Q E → vs.length = ps.length) (h : BodyOk P w K mg base k f x st N sp) : Ca P w K mg base (k + 1) x sp [] :=
  ⟨f, fd, ps, [], F.ok S len h, hm, F.kp, b, .nil⟩
theorem fnIn_of (F : Fun K x qual st f fd) : PySem.W.fnIn K f = true := by
  obtain ⟨oc, od, kV, doc, pm, an, cdv, ct, osl, rfl, lk, _⟩ := F.ex
  unfold PySem.W.fnIn
  rw [lk]
theorem mt_of (F : Fun K m qual st f fd) (c : Cls K C) (me : Meth K C m f) (b : Binds K fd ps []) (S : FnScope N ps (defScope st)) (len : ∀ vs H Q E, sp vs H Q E → vs.length = ps.length) (h : BodyOk P w K mg base k f qual st N sp) : Mt P w K mg base (k + 1) C m sp :=
  ⟨f, fd, ps, c, me, fnIn_of F, F.ok S len h, b⟩
theorem pr_of {p : Addr} (F : Fun K m qual st f fd) (c : Cls K C) (hp : PropOf K C m p f) (b : Binds K fd ["self"] []) (S : FnScope N ["self"] (defScope st)) (len : ∀ vs H Q E, sp vs H Q E → vs.length = 1) (h : BodyOk P w K mg base k f qual st N sp) : Pr P w K mg base (k + 1) C m sp :=
  ⟨p, f, fd, c, hp, F.ok S len h, b⟩
theorem ma_of (F : Fun K "__init__" qual st f fd) (M : Mk K C f) (hm : mg x = some (.ref C)) (b : Binds K fd ps []) (S : FnScope N ps (defScope st)) (len : ∀ vs H Q E, sp vs H Q E → vs.length = ps.length) (h : BodyOk P w K mg base k f qual st N sp) : Ma P w K mg base (k + 1) x C sp :=
  ⟨f, fd, ps, M, F.ok S len h, hm, b⟩
end
end Rd
/-! Numbers: gcd_of, lcm_of. -/
namespace Rd
open PySem PySem.Spec PyProof.Rows L2
/-- the gcd of ints, by the order of a list -/
def gcdL (ns : List Int) : Int := ns.foldl (fun f n => (Int.gcd f n : Int)) 0
theorem gcdL_snoc (ns : List Int) (n : Int) : gcdL (ns ++ [n]) = (Int.gcd (gcdL ns) n : Int) := by
  unfold gcdL
  rw [List.foldl_append]
  rfl
theorem take_snoc {α : Type} {l : List α} {i : Nat} {x : α} (h : l[i]? = some x) : l.take (i + 1) = l.take i ++ [x] := by
  rw [List.take_add_one, h]
  rfl
theorem gcdL_nonneg (ns : List Int) : 0 ≤ gcdL ns := by
  rcases List.eq_nil_or_concat ns with rfl | ⟨l, n, rfl⟩
  · exact Int.le_refl 0
  · rw [List.concat_eq_append, gcdL_snoc]
    exact Int.natCast_nonneg _
theorem map_get {α β : Type} {f : α → β} {l : List α} {i : Nat} {y : β} (h : (l.map f)[i]? = some y) : ∃ x, l[i]? = some x ∧ y = f x := by
  rw [List.getElem?_map] at h
  cases e : l[i]? with
  | none =>
    rw [e] at h
    cases h
  | some x =>
    rw [e] at h
    exact ⟨x, rfl, (Option.some.inj h).symm⟩
theorem mono_test {ta tb : TE} {r : R2} (ha : ∀ σ H (Q Q' : VK), (∀ v H', Q v H' → Q' v H') → ta σ H Q → ta σ H Q') (hb : ∀ σ H (Q Q' : VK), (∀ v H', Q v H' → Q' v H') → tb σ H Q → tb σ H Q')
    (hr : ∀ x y H (Q Q' : VK), (∀ v H', Q v H' → Q' v H') → r x y H Q → r x y H Q') : ∀ (σ : L2.St) (H : Hp) (Q Q' : Bool → Hp → Prop), (∀ b H1, Q b H1 → Q' b H1) → tTest (tOp r ta tb) σ H Q → tTest (tOp r ta tb) σ H Q' :=
  fun σ H Q Q' h t => ha σ H _ _ (fun x H1 q => hb σ H1 _ _ (fun y H2 q2 => hr x y H2 _ _ (fun v H3 q3 => by
    obtain ⟨k, e, q4⟩ := q3
    exact ⟨k, e, h k H3 q4⟩) q2) q) t
theorem mono_var {i : Nat} : ∀ (σ : L2.St) (H : Hp) (Q Q' : VK), (∀ v H', Q v H' → Q' v H') → tVar i σ H Q → tVar i σ H Q' := fun σ H Q Q' h ⟨v, e, q⟩ => ⟨v, e, h _ _ q⟩
theorem mono_c {v : V} : ∀ (σ : L2.St) (H : Hp) (Q Q' : VK), (∀ v H', Q v H' → Q' v H') → tC v σ H Q → tC v σ H Q' := fun σ H Q Q' h q => h _ _ q
theorem iabs_eq (i : Int) : (if i < 0 then -i else i) = (i.natAbs : Int) := by
  by_cases h : i < 0
  · rw [if_pos h]
    omega
  · rw [if_neg h]
    omega
/-! ### gcd_of -/
def spGcd (K : PySem.W.Frag) : Sp := fun vs H Q _ => ∃ (a : Addr) (ns : List Int), vs = [.ref a] ∧ SqL K H a (ns.map V.int) ∧ Q (.int (gcdL ns)) H
-- slots of gcd_of: 0 numbers 1 found 2 number 3 one 4 other
theorem sc_gcd_of : FnScope ["numbers", "found", "number", "one", "other"] ["numbers"] (defScope s_gcd_of) := ⟨rfl, rfl, rfl, by decide +kernel, rfl, by decide +kernel, by decide +kernel⟩
section
variable {P : Program} {w : World} {K : PySem.W.Frag} {mg : Str → Option Value} {base : Heap}
theorem ca_gcd_of (T : Wd K mg base) : Ca P w K mg base 1 "gcd_of" (spGcd K) [] := by
  obtain ⟨fd, F⟩ := T.L.F_gcd_of
  refine ca_of F T.g_gcd_of (F.binds (ps := ["numbers"]) fun _ _ _ _ _ _ us hl => match us, hl with | [_], _ => rfl) sc_gcd_of (fun vs H Q E ⟨_, _, e, _⟩ => by rw [e]; rfl) ?_
  rintro cdv A outer s H vs Q E hr ⟨a, ns, rfl, hS, k⟩
  refine ⟨_, (pss_cons (ps_set (i := 1) sc_gcd_of.nd rfl (Or.inl rfl) pe_int) (pss_cons (ps_for PassesOwn.never rfl (pi_list (pv 0)) (pg_name (i := 2) sc_gcd_of.nd rfl (Or.inl rfl)) (pss_cons (ps_par (i := 3) (j := 4) (by rfl) sc_gcd_of.nd rfl rfl (by decide) rfl rfl (pa_cons (pe_callB (call_abs) (by rfl) T.f_abs (by decide +kernel) (pa_cons (pv 1) pa_nil)) (pa_cons (pe_callB (call_abs) (by rfl) T.f_abs (by decide +kernel) (pa_cons (pv 2) pa_nil)) pa_nil)) (by rfl)) (pss_cons (ps_while PassesOwn.never (pt_cmpR op_ne (pv 4) pe_int (by rfl)) (pss_one (ps_par (i := 3) (j := 4) (by rfl) sc_gcd_of.nd rfl rfl (by decide) rfl rfl (pa_cons (pv 4) (pa_cons (pe_op op_modN (pv 3) (pv 4)) pa_nil)) (by rfl)))) (pss_one (ps_set (i := 1) sc_gcd_of.nd rfl (Or.inl rfl) (pv 3)))))) (pss_one (ps_ret (pv 1))))), ?_⟩
  refine ⟨_, rfl, a, rfl, ⟨_, hS⟩, for_list (K := K) (a := a) (xs := ns.map V.int) (fun i σ H' => H' = H ∧ ∃ x y z, σ = [some (.ref a), some (.int (gcdL (ns.take i))), x, y, z])
    ⟨rfl, none, none, none, rfl⟩ (fun i σ H' _ ⟨e, _⟩ => e ▸ hS) ?_ ?_⟩
  · rintro i v σ H' hi ⟨rfl, x, y, z, rfl⟩
    obtain ⟨n, hn, rfl⟩ := map_get hi
    refine ⟨_, rfl, _, rfl, _, rfl, _, rfl, _, _, rfl, ?_⟩
    refine while_by (fun σ H'' => H'' = H' ∧ ∃ p q : Nat, σ = [some (.ref a), some (.int (gcdL (ns.take i))), some (.int n), some (.int p), some (.int q)] ∧ Nat.gcd p q = Int.gcd (gcdL (ns.take i)) n)
      (fun σ _ => match σ with | [_, _, _, _, some (.int q)] => q.toNat | _ => 0) ⟨rfl, (gcdL (ns.take i)).natAbs, n.natAbs, by rw [iabs_eq, iabs_eq]; rfl, rfl⟩ ?_ (mono_test mono_var mono_c (fun _ _ _ _ _ h ⟨e, q⟩ => ⟨e, h _ _ q⟩))
    rintro σ H'' ⟨rfl, p, q, rfl, hg⟩
    refine ⟨_, rfl, rfl, _, rfl, ?_⟩
    by_cases hq : q = 0
    · subst hq
      refine iteNS (by rfl) ?_
      refine ⟨_, rfl, rfl, some (.int n), some (.int p), some (.int ((0 : Nat) : Int)), ?_⟩
      rw [Nat.gcd_zero_right] at hg
      rw [take_snoc hn, gcdL_snoc, ← hg]
      rfl
    · have hne : (V.int (q : Int)) ≠ V.int 0 := fun e => hq (by have := V.int.inj e; omega)
      rw [decide_eq_false hne]
      refine ⟨_, rfl, _, rfl, _, rfl, _, _, rfl, rfl, (by omega), _, _, rfl, ⟨rfl, q, p % q, ?_, ?_⟩, ?_⟩
      · show [some (V.ref a), some (.int (gcdL (ns.take i))), some (.int n), some (.int (q : Int)), some (.int (Int.fmod p q))] = _
        rw [Int.fmod_eq_emod_of_nonneg _ (by omega)]
        rfl
      · rw [← hg, Nat.gcd_comm p q, Nat.gcd_rec q p, Nat.gcd_comm]
      · show (Int.fmod p q).toNat < (q : Int).toNat
        rw [Int.fmod_eq_emod_of_nonneg _ (by omega)]
        have := Nat.mod_lt p (Nat.pos_of_ne_zero hq)
        omega
  · rintro σ H' ⟨rfl, x, y, z, rfl⟩
    refine ⟨_, rfl, ?_⟩
    rw [List.length_map, List.take_length]
    exact k
/-! ### lcm_of -/
def spLcm : Sp := fun vs H Q _ => ∃ (i j : Nat), vs = [.int i, .int j] ∧ i < 1000000000 ∧ j < 1000000000 ∧ ∀ H', Same H H' → Q (.int (Nat.lcm i j : Nat)) H'
end
-- slots of lcm_of: 0 one 1 other
theorem sc_lcm_of : FnScope ["one", "other"] ["one", "other"] (defScope s_lcm_of) := ⟨rfl, rfl, rfl, by decide +kernel, rfl, by decide +kernel, by decide +kernel⟩
section
variable {P : Program} {w : World} {K : PySem.W.Frag} {mg : Str → Option Value} {base : Heap}
theorem ca_lcm_of (T : Wd K mg base) : Ca P w K mg base 2 "lcm_of" spLcm [] := by
  obtain ⟨fd, F⟩ := T.L.F_lcm_of
  refine ca_of F T.g_lcm_of (F.binds (ps := ["one", "other"]) fun _ _ _ _ _ _ us hl => match us, hl with | [_, _], _ => rfl) sc_lcm_of (fun vs H Q E ⟨_, _, e, _⟩ => by rw [e]; rfl) ?_
  rintro cdv A outer s H vs Q E hr ⟨i, j, rfl, hi, hj, k⟩
  refine ⟨_, (pss_one (ps_ret (pe_ifExp (PW.pt (pw_or (pt_cmpR op_eq (pv 0) pe_int (by rfl)) (pw_or1 (pt_cmpR op_eq (pv 1) pe_int (by rfl))))) pe_int (pe_op op_fdivN (pe_callB (call_abs) (by rfl) T.f_abs (by decide +kernel) (pa_cons (pe_op op_mul (pv 0) (pv 1)) pa_nil)) (pe_ca (ca_gcd_of T) hr (by decide) rfl (pa_cons (pe_lst (pa_cons (pv 0) (pa_cons (pv 1) pa_nil))) pa_nil)))))), ?_⟩
  refine ⟨_, rfl, rfl, _, rfl, ?_⟩
  by_cases h1 : i = 0
  · subst h1
    refine iteT ?_
    have e : Nat.lcm 0 j = 0 := Nat.lcm_zero_left j
    have z := k H (Same.refl H)
    rw [e] at z
    exact z
  · rw [decide_eq_false (fun e => h1 (by have := V.int.inj e; omega))]
    refine iteF ?_
    refine ⟨_, rfl, rfl, _, rfl, ?_⟩
    by_cases h2 : j = 0
    · subst h2
      have e : Nat.lcm i 0 = 0 := Nat.lcm_zero_right i
      have z := k H (Same.refl H)
      rw [e] at z
      exact z
    · rw [decide_eq_false (fun e => h2 (by have := V.int.inj e; omega))]
      refine ⟨_, rfl, _, rfl, _, _, rfl, rfl, .inl ⟨by omega, by omega⟩, _, rfl, ?_⟩
      refine ⟨_, rfl, _, rfl, (by show 2 ≤ sizeLine; decide), fun p hp => ?_⟩
      refine ⟨p, [(i : Int), (j : Int)], rfl, SqL.of upd_same, ?_⟩
      have eg : gcdL [(i : Int), (j : Int)] = (Nat.gcd i j : Nat) := by
        show (Int.gcd (Int.gcd 0 i : Nat) j : Int) = _
        rw [Int.zero_gcd]
        rfl
      have hpos : 0 < Nat.gcd i j := Nat.gcd_pos_of_pos_left j (Nat.pos_of_ne_zero h1)
      have hle : Nat.gcd i j ≤ i := Nat.gcd_le_left j (Nat.pos_of_ne_zero h1)
      rw [eg]
      refine ⟨_, _, rfl, rfl, ⟨by omega, by omega⟩, ?_⟩
      have e : Int.fdiv (if (i : Int) * (j : Int) < 0 then -((i : Int) * (j : Int)) else (i : Int) * (j : Int)) (Nat.gcd i j : Nat) = (Nat.lcm i j : Nat) := by
        rw [iabs_eq, Int.fdiv_eq_ediv_of_nonneg _ (by omega)]
        rw [show ((i : Int) * (j : Int)).natAbs = i * j from by rw [Int.natAbs_mul]; rfl]
        rfl
      exact Eq.mp (congrArg (fun z => Q (.int z) _) e.symm) (k _ (sm_new hp))
end
end Rd
/-! Heaps that grow; data told by what it says; sequences of either kind; sorted data. -/
namespace L2
open PySem PySem.Spec PyProof.Rows
mutual
theorem Dp.same {K : PySem.W.Frag} {H H' : Hp} (e : Same H H') : ∀ {v : V} {d : PyData}, Dp K H v d → Dp K H' v d
  | _, _, .non => .non
  | _, _, .bl b => .bl b
  | _, _, .int i => .int i
  | _, _, .str x => .str x
  | _, _, .lst h a => .lst (e.seq h) (DpAll.same e a)
  | _, _, .tup h a => .tup (e.tup h) (DpAll.same e a)
theorem DpAll.same {K : PySem.W.Frag} {H H' : Hp} (e : Same H H') : ∀ {vs : List V} {ds : List PyData}, DpAll K H vs ds → DpAll K H' vs ds
  | _, _, .nil => .nil
  | _, _, .cons h a => .cons (Dp.same e h) (DpAll.same e a)
end
end L2
namespace Rd
open PySem PySem.Spec PyProof.Rows L2
variable {K : PySem.W.Frag} {H H' : Hp}
theorem DpAll.len : ∀ {vs : List V} {ds : List PyData}, DpAll K H vs ds → vs.length = ds.length
  | _, _, .nil => rfl
  | _, _, .cons _ a => congrArg Nat.succ (DpAll.len a)
theorem DpAll.get : ∀ {vs : List V} {ds : List PyData} {i : Nat} {v : V}, DpAll K H vs ds → vs[i]? = some v → ∃ d, ds[i]? = some d ∧ Dp K H v d
  | _, _, i, v, .nil, e => by simp at e
  | _, _, 0, v, .cons h a, e => by
    simp at e
    subst e
    exact ⟨_, rfl, h⟩
  | _, _, i + 1, v, .cons h a, e => by
    obtain ⟨d, h1, h2⟩ := DpAll.get (i := i) (v := v) a (by simpa using e)
    exact ⟨d, by simpa using h1, h2⟩
theorem DpAll.getD : ∀ {vs : List V} {ds : List PyData} {i : Nat} {d : PyData}, DpAll K H vs ds → ds[i]? = some d → ∃ v, vs[i]? = some v ∧ Dp K H v d
  | _, _, i, v, .nil, e => by simp at e
  | _, _, 0, v, .cons h a, e => by
    simp at e
    subst e
    exact ⟨_, rfl, h⟩
  | _, _, i + 1, v, .cons h a, e => by
    obtain ⟨d, h1, h2⟩ := DpAll.getD (i := i) (d := v) a (by simpa using e)
    exact ⟨d, by simpa using h1, h2⟩
theorem DpAll.app : ∀ {vs ws : List V} {ds es : List PyData}, DpAll K H vs ds → DpAll K H ws es → DpAll K H (vs ++ ws) (ds ++ es)
  | _, _, _, _, .nil, b => b
  | _, _, _, _, .cons h a, b => .cons h (DpAll.app a b)
theorem DpAll.take (n : Nat) : ∀ {vs : List V} {ds : List PyData}, DpAll K H vs ds → DpAll K H (vs.take n) (ds.take n) := by
  induction n with
  | zero => intro vs ds _; exact .nil
  | succ n ih =>
    intro vs ds h
    cases h with
    | nil => exact .nil
    | cons h a => exact .cons h (ih a)
theorem DpAll.strs : ∀ xs : List Str, DpAll K H (xs.map V.str) (xs.map PyData.str)
  | [] => .nil
  | x :: xs => .cons (.str x) (DpAll.strs xs)
theorem DpAll.strs_inv : ∀ {vs : List V} {xs : List Str}, DpAll K H vs (xs.map PyData.str) → vs = xs.map V.str
  | _, [], h => by cases h; rfl
  | _, x :: xs, h => by
    cases h with
    | cons h a =>
      cases h
      rw [DpAll.strs_inv a]
      rfl
/-- a pair of names, as data -/
def pD (p : Str × Str) : PyData := .tuple [.str p.1, .str p.2]
theorem pD_inv {v : V} {p : Str × Str} (h : Dp K H v (pD p)) : ∃ t, v = .ref t ∧ SqT K H t [.str p.1, .str p.2] := by
  cases h with
  | tup s a =>
    cases a with
    | cons h1 a =>
      cases a with
      | cons h2 a =>
        cases a
        cases h1
        cases h2
        exact ⟨_, rfl, s⟩
theorem pD_mk {t : Addr} {p : Str × Str} (h : SqT K H t [.str p.1, .str p.2]) : Dp K H (.ref t) (pD p) := .tup h (.cons (.str _) (.cons (.str _) .nil))
/-- a name: one to eight letters from a to z -/
def Nm (x : Str) : Prop := (1 ≤ x.length ∧ x.length ≤ 8) ∧ ∀ c ∈ x.cps.toList, 97 ≤ c ∧ c ≤ 122
def Nms (ps : List (Str × Str)) : Prop := ∀ p ∈ ps, Nm p.1 ∧ Nm p.2
theorem Nm.ok {x : Str} (h : Nm x) : PyData.strOk x = true := by
  unfold PyData.strOk
  rw [← Array.all_toList, List.all_eq_true]
  intro c hc
  have := h.2 c hc
  exact decide_eq_true (by omega)
theorem pD_lay {p : Str × Str} (h : Nm p.1 ∧ Nm p.2) : (pD p).canLay0 = true := by simp [pD, PyData.canLay0, PyData.canLayAll0, h.1.ok, h.2.ok]
theorem pD_shaped {p : Str × Str} (h : Nm p.1 ∧ Nm p.2) : SeqAt.shaped (pD p) = true := by
  show ((pD p).canLay0 && decide ((pD p).depth ≤ 64)) = true
  rw [pD_lay h]
  simp [pD, PyData.depth, PyData.depthAll]
theorem pDs_lay : ∀ {ps : List (Str × Str)}, Nms ps → PyData.canLayAll0 (ps.map pD) = true
  | [], _ => by simp [PyData.canLayAll0]
  | p :: ps, h => by simp [PyData.canLayAll0, pD_lay (h p List.mem_cons_self), pDs_lay (ps := ps) fun q hq => h q (List.mem_cons_of_mem _ hq)]
theorem pDs_depth : ∀ ps : List (Str × Str), PyData.depthAll (ps.map pD) ≤ 2
  | [] => by simp [PyData.depthAll]
  | p :: ps => by
    have h1 := pDs_depth ps
    have h2 : (pD p).depth ≤ 2 := by
      show PyData.depth (.tuple [.str p.1, .str p.2]) ≤ 2
      simp [PyData.depth, PyData.depthAll]
    simp only [List.map_cons, PyData.depthAll]
    omega
theorem pDs_shaped {ps : List (Str × Str)} (h : Nms ps) : SeqAt.shaped (.list (ps.map pD)) = true := by
  have h1 := pDs_depth ps
  show (PyData.canLay0 (.list (ps.map pD)) && decide (PyData.depth (.list (ps.map pD)) ≤ 64)) = true
  rw [decide_eq_true (by simp only [PyData.depth]; omega), Bool.and_true]
  simp only [PyData.canLay0]
  exact pDs_lay h
theorem pDs_shapedT {ps : List (Str × Str)} (h : Nms ps) : SeqAt.shaped (.tuple (ps.map pD)) = true := by
  have h1 := pDs_depth ps
  show (PyData.canLay0 (.tuple (ps.map pD)) && decide (PyData.depth (.tuple (ps.map pD)) ≤ 64)) = true
  rw [decide_eq_true (by simp only [PyData.depth]; omega), Bool.and_true]
  simp only [PyData.canLay0]
  exact pDs_lay h
theorem pD_eqv (p q : Str × Str) : PyData.eqv (pD p) (pD q) = decide (p = q) := by
  obtain ⟨a, b⟩ := p
  obtain ⟨c, d⟩ := q
  have e : PyData.eqv (pD (a, b)) (pD (c, d)) = ((a == c) && ((b == d) && true)) := by simp only [pD, PyData.eqv, PyData.eqvAll]
  rw [e]
  by_cases h : (a, b) = (c, d)
  · cases h
    simp
  · rw [decide_eq_false h]
    by_cases h1 : a = c
    · have h2 : ¬ b = d := fun z => h (by rw [h1, z])
      simp [h2]
    · simp [h1]
/-- a list or a tuple -/
def SqA (K : PySem.W.Frag) (H : Hp) (a : Addr) (xs : List V) : Prop := SqL K H a xs ∨ SqT K H a xs
theorem SqA.same {a : Addr} {xs : List V} (e : Same H H') (h : SqA K H a xs) : SqA K H' a xs := h.elim (fun h => .inl (e.seq h)) fun h => .inr (e.tup h)
/-- pairs of names in a list or a tuple -/
def PsAt (K : PySem.W.Frag) (H : Hp) (a : Addr) (ps : List (Str × Str)) : Prop := ∃ xs, SqA K H a xs ∧ DpAll K H xs (ps.map pD)
theorem PsAt.same {a : Addr} {ps : List (Str × Str)} (e : Same H H') : PsAt K H a ps → PsAt K H' a ps := fun ⟨xs, h, d⟩ => ⟨xs, h.same e, d.same e⟩
theorem PsAt.item {xs : List V} {ps : List (Str × Str)} {i : Nat} {v : V} (d : DpAll K H xs (ps.map pD)) (h : xs[i]? = some v) : ∃ p t, ps[i]? = some p ∧ v = .ref t ∧ SqT K H t [.str p.1, .str p.2] := by
  obtain ⟨e, h1, h2⟩ := DpAll.get d h
  obtain ⟨p, h3, rfl⟩ := map_get h1
  obtain ⟨t, rfl, h4⟩ := pD_inv h2
  exact ⟨p, t, h3, rfl, h4⟩
section
variable {X : Cx}
/-- for x in e, e a list or a tuple -/
def iSeq (K : PySem.W.Frag) (tl : TE) : TI := fun σ H R => tl σ H fun x H1 => ∃ a, x = .ref a ∧ ((∃ xs, SqL K H1 a xs) ∧ R (Itl K a) H1 ∨ (∃ xs, SqT K H1 a xs) ∧ R (Itt K a) H1)
theorem pi_seq {tg l : Expr} {tl : TE} (hl : PE X l tl) : PI X tg l (iSeq X.K tl) := by
  refine ⟨fun pins s σ H R I h => ?_⟩
  refine thn (hl.run pins s σ H _ I h) fun v s1 ⟨x, H1, I1, r1, a, ex, q⟩ => ?_
  subst ex
  obtain rfl : v = Value.ref a := r1
  have fresh : ∀ b ∈ [s1.heap.objs.size], FpOk X pins H1 b := fun b hb => by
    rw [List.mem_singleton.mp hb]
    exact I1.fpOk (Nat.le_refl _) (I1.hok.fresh (Nat.le_refl _))
  rcases q with ⟨⟨xs, hq⟩, q⟩ | ⟨⟨xs, hq⟩, q⟩
  · obtain ⟨its, _, p, _⟩ := I1.list hq
    exact wpAny_pyIter_list p.isList ⟨_, _, _, _, H1, rfl, I1.kept (t' := s1.toks) fun b o e => Heap.get?_push_of_some _ e, turn_list a _, ⟨_, Heap.get?_push_size _ rfl, rfl, rfl⟩, fresh, q⟩
  · obtain ⟨its, _, p, _⟩ := I1.tuple hq
    exact wpAny_pyIter_tuple (show s1.heap.IsTuple a its.toArray from p) ⟨_, _, _, _, H1, rfl, I1.kept (t' := s1.toks) fun b o e => Heap.get?_push_of_some _ e, turn_tuple a _, ⟨_, Heap.get?_push_size _ rfl, rfl, rfl⟩, fresh, q⟩
/-- what a for asks of its walk -/
abbrev ForW (J : It) (g : TG) (tb : TS) (D : Ends) (σ : L2.St) (H : Hp) : Prop := ∃ W : Nat → Nat → L2.St → Hp → Prop, (∃ m, W 0 m σ H) ∧ ∀ i m σ H, W i m σ H →
  (J.stop i H ∧ D.nx σ H) ∨ (J.go i H ∧ ∃ N : L2.St → Hp → Prop, (∀ σ' H', N σ' H' → ∃ m', m' < m ∧ W (i + 1) m' σ' H') ∧ ∀ x H', J.yld i H x H' → g x σ H' fun σ2 H2 => tb { D with nx := N, ct := N, bk := D.nx } σ2 H2)
/-- for x in a list or a tuple, with an invariant over the turns -/
theorem for_seq {a : Addr} {xs : List V} {g : TG} {tb : TS} {D : Ends} {σ : L2.St} {H H1 : Hp} (h : SqA K H1 a xs) (Pv : Nat → L2.St → Hp → Prop) (h0 : Pv 0 σ H) (hl : ∀ i σ' H', i ≤ xs.length → Pv i σ' H' → Same H1 H')
    (hs : ∀ i x σ H, xs[i]? = some x → Pv i σ H → g x σ H fun σ2 H2 => tb { D with nx := Pv (i + 1), ct := Pv (i + 1), bk := D.nx } σ2 H2) (hd : ∀ σ H, Pv xs.length σ H → D.nx σ H) :
    (∃ xs, SqL K H a xs) ∧ ForW (Itl K a) g tb D σ H ∨ (∃ xs, SqT K H a xs) ∧ ForW (Itt K a) g tb D σ H := by
  have s0 := hl 0 σ H (Nat.zero_le _) h0
  rcases h with h | h
  · exact .inl ⟨⟨_, s0.seq h⟩, for_list (K := K) (a := a) (xs := xs) Pv h0 (fun i σ' H' hi p => (hl i σ' H' hi p).seq h) hs hd⟩
  · exact .inr ⟨⟨_, s0.tup h⟩, for_tup (K := K) (a := a) (xs := xs) Pv h0 (fun i σ' H' hi p => (hl i σ' H' hi p).tup h) hs hd⟩
/-- x in xs, data of any depth, xs a list or a tuple -/
def rInA (K : PySem.W.Frag) (neg : Bool) : R2 := fun x y H Q => ∃ a xs d ds, y = .ref a ∧ SqA K H a xs ∧ DpAll K H xs ds ∧ Dp K H x d ∧ SeqAt.shaped (.list ds) = true ∧ SeqAt.shaped (.tuple ds) = true ∧ SeqAt.shaped d = true ∧
  Q (.bl (if neg then !(ds.any fun e => PyData.eqv e d) else ds.any fun e => PyData.eqv e d)) H
theorem op_inA (hu : X.A.units + 65 < cLine) : OpR X (compareOp .In) (rInA X.K false) := by
  intro pins s σ H x y v u Q I rx ry h
  obtain ⟨a, xs, d, ds, rfl, hs, ha, hd, sl, st, sd, q⟩ := h
  obtain ⟨as, r1⟩ := Dp.reads I d x v hd rx
  have fin : EP X pins σ Q (.bool (ds.any fun e => PyData.eqv e d)) s := ⟨.bl (ds.any fun e => PyData.eqv e d), H, I, rfl, q⟩
  rcases hs with hs | hs
  · obtain ⟨bs, r2⟩ := Dp.reads I (.list ds) (.ref a) u (.lst hs ha) ry
    exact SeqAt.in_list_reads r2 r1 (SeqAt.canLay_of_shaped sl) (SeqAt.canLay_of_shaped sd) (room_in_shaped sd hu) fin
  · obtain ⟨bs, r2⟩ := Dp.reads I (.tuple ds) (.ref a) u (.tup hs ha) ry
    exact SeqAt.in_tuple_reads r2 r1 (SeqAt.canLay_of_shaped sl) (SeqAt.canLay_of_shaped sd) (room_in_shaped sd hu) fin
theorem op_ninA (hu : X.A.units + 65 < cLine) : OpR X (compareOp .NotIn) (rInA X.K true) := by
  intro pins s σ H x y v u Q I rx ry h
  obtain ⟨a, xs, d, ds, rfl, hs, ha, hd, sl, st, sd, q⟩ := h
  obtain ⟨as, r1⟩ := Dp.reads I d x v hd rx
  have fin : EP X pins σ Q (.bool (!(ds.any fun e => PyData.eqv e d))) s := ⟨.bl (!(ds.any fun e => PyData.eqv e d)), H, I, rfl, q⟩
  rcases hs with hs | hs
  · obtain ⟨bs, r2⟩ := Dp.reads I (.list ds) (.ref a) u (.lst hs ha) ry
    exact SeqAt.notIn_list_reads r2 r1 (SeqAt.canLay_of_shaped sl) (SeqAt.canLay_of_shaped sd) (room_in_shaped sd hu) fin
  · obtain ⟨bs, r2⟩ := Dp.reads I (.tuple ds) (.ref a) u (.tup hs ha) ry
    exact SeqAt.notIn_tuple_reads r2 r1 (SeqAt.canLay_of_shaped sl) (SeqAt.canLay_of_shaped sd) (room_in_shaped sd hu) fin
theorem hu65 {A : Around} {k : Nat} (hr : Room k A) : A.units + 65 < cLine := by
  have := hr.un
  omega
/-- a pair in a row of pairs -/
theorem any_pD (ps : List (Str × Str)) (p : Str × Str) : ((ps.map pD).any fun e => PyData.eqv e (pD p)) = decide (p ∈ ps) := by
  induction ps with
  | nil => rfl
  | cons q ps ih =>
    rw [List.map_cons, List.any_cons, ih, pD_eqv]
    by_cases h : q = p
    · subst h
      simp
    · have h' : ¬ p = q := fun e => h e.symm
      simp [h, h']
theorem rInA_pair {x : V} {p : Str × Str} {a : Addr} {ps : List (Str × Str)} {neg : Bool} {H : Hp} {Q : VK} (hx : Dp K H x (pD p)) (h : PsAt K H a ps) (n1 : Nm p.1 ∧ Nm p.2) (n2 : Nms ps) (q : Q (.bl (if neg then !decide (p ∈ ps) else decide (p ∈ ps))) H) : rInA K neg x (.ref a) H Q := by
  obtain ⟨xs, h1, h2⟩ := h
  refine ⟨a, xs, _, _, rfl, h1, h2, hx, pDs_shaped n2, pDs_shapedT n2, pD_shaped n1, ?_⟩
  rw [any_pD]
  exact q
/-! ### sorted data -/
/-- sorted(xs), xs a list of data told by ds (x :: its data): some arrangement, the same for the same data -/
def rSortD (K : PySem.W.Frag) : List V → Hp → VK → Prop := fun vs H Q => ∃ (a : Addr) (bs : List (V × PyData)), vs = [V.ref a] ∧ SqL K H a (bs.map Prod.fst) ∧ (∀ b ∈ bs, Dp K H b.1 b.2 ∧ b.2.depth ≤ 64) ∧ PySem.W.AllAlike (bs.map Prod.snd) ∧ PySem.W.Sortable (bs.map Prod.snd) ∧
  ∀ p, H p = none → Q (.ref p) (upd H p (.lst ((bs.mergeSort (PySem.W.dataLe false Prod.snd)).map Prod.fst)))
theorem eachIs_vals {bs : List (V × PyData)} : ∀ {us : List Value}, Vals (bs.map Prod.fst) us → PySem.W.EachIs (fun v (b : V × PyData) => RelV b.1 v) us bs := by
  induction bs with
  | nil => intro us h; cases h; exact .nil
  | cons b bs ih => intro us h; cases h with | cons r t => exact .cons r (ih t)
theorem vals_eachIs {bs : List (V × PyData)} : ∀ {us : List Value}, PySem.W.EachIs (fun v (b : V × PyData) => RelV b.1 v) us bs → Vals (bs.map Prod.fst) us := by
  induction bs with
  | nil => intro us h; cases h; exact .nil
  | cons b bs ih => intro us h; cases h with | cons r t => exact .cons r (ih t)
theorem cr_sortD {k : Nat} (hr : Room k X.A) : CallR X (.builtin "sorted") (rSortD X.K) := by
  intro pins s σ H vs us Q I r h
  obtain ⟨a, bs, rfl, hs, hb, hal, hk, q⟩ := h
  obtain ⟨its, rv, hl, hz⟩ := I.list hs
  rw [Vals.ref1 r]
  have e1 := eachIs_vals rv
  have e2 : PySem.W.EachIs (fun v (b : V × PyData) => ∃ as, Reads s.heap v b.2 as) its bs := by
    clear hs q hl hz hal hk r
    induction bs generalizing its with
    | nil => cases rv; exact .nil
    | cons b bs ih =>
      cases rv with
      | cons r t =>
        cases e1 with
        | cons _ e1 => exact .cons (Dp.reads I b.2 b.1 _ (hb b List.mem_cons_self).1 r) (ih (fun c hc => hb c (List.mem_cons_of_mem _ hc)) _ t e1)
  refine PySem.W.sorted_data hl.isList e1 e2 hal hk (by rw [List.length_map] at hz; exact hz) (fun b hb' => ?_) fun out ho eo => ?_
  · have := (hb b hb').2
    have := hr.un
    omega
  · obtain ⟨c, hc⟩ := PyProof.Rows.sortedAll_at s.heap its out.toArray
    have hlen : ((bs.mergeSort (PySem.W.dataLe false Prod.snd)).map Prod.fst).length ≤ sizeLine := by
      rw [List.length_map, List.length_mergeSort]
      rw [List.length_map] at hz
      exact hz
    exact ⟨.ref _, upd H (s.heap.objs.size + 1) (.lst ((bs.mergeSort (PySem.W.dataLe false Prod.snd)).map Prod.fst)), I.laid (t' := s.toks) (fun _ _ => PyProof.Rows.sortedAll_old) (Nat.le_succ _) ⟨hlen, out, c, vals_eachIs eo, hc⟩, rfl, q _ (I.hok.fresh (Nat.le_succ _))⟩
end
end Rd
/-! More rules: min and max of texts, comprehensions that make dicts over any walk. -/
namespace Rd
open PySem PySem.Spec PyProof.Rows L2
/-- the order of texts -/
def ltS (x y : Str) : Bool := decide (x.cps.toList < y.cps.toList)
section
variable {prog : Program} {w : World} {A : Around} {P : Nat → Value → Prop}
theorem cmp_lt (val : Nat → Str) (hval : ∀ i v, P i v → ∃ t, v = .str (val i) t) : CmpOf prog w A .Lt P (fun i j => ltS (val i) (val j)) := fun i j vi vj s Q E hi hj h => by
  obtain ⟨t, rfl⟩ := hval i vi hi
  obtain ⟨u, rfl⟩ := hval j vj hj
  exact (show wpAny (model prog w) A (compareOp .Lt (.str (val i) t) (.str (val j) u)) Q E s from PyProof.Rows.lt_str h)
theorem cmp_gt (val : Nat → Str) (hval : ∀ i v, P i v → ∃ t, v = .str (val i) t) : CmpOf prog w A .Gt P (fun i j => ltS (val j) (val i)) := fun i j vi vj s Q E hi hj h => by
  obtain ⟨t, rfl⟩ := hval i vi hi
  obtain ⟨u, rfl⟩ := hval j vj hj
  exact (show wpAny (model prog w) A (compareOp .Gt (.str (val i) t) (.str (val j) u)) Q E s from PySem.P.gt_str h)
theorem argBest_le (bt : Nat → Nat → Bool) : ∀ k, argBest bt k ≤ k
  | 0 => Nat.le_refl 0
  | k + 1 => by
    unfold argBest
    have := argBest_le bt k
    split <;> omega
end
section
variable {X : Cx}
/-- min(xs), xs a list of texts: one of them -/
def rMinS (K : PySem.W.Frag) : List V → Hp → VK → Prop := fun vs H Q => ∃ (a : Addr) (xs : List Str), vs = [V.ref a] ∧ SqL K H a (xs.map V.str) ∧ xs ≠ [] ∧ ∀ m ∈ xs, Q (.str m) H
theorem vals_strs {xs : List Str} {us : List Value} (r : Vals (xs.map V.str) us) {i : Nat} {v : Value} (h : us[i]? = some v) : ∃ x, xs[i]? = some x ∧ ∃ t, v = .str x t := by
  have hl := r.length
  rw [List.length_map] at hl
  obtain ⟨hi, _⟩ := List.getElem?_eq_some_iff.mp h
  have hx : xs[i]? = some xs[i] := List.getElem?_eq_getElem (by omega)
  obtain ⟨u, hu, ru⟩ := r.get (i := i) (x := .str xs[i]) (by rw [List.getElem?_map, hx]; rfl)
  rw [h] at hu
  cases hu
  exact ⟨_, hx, ru⟩
theorem cr_minS (hc : X.calm = true) : CallR X (.builtin "min") (rMinS X.K) := by
  intro pins s σ H vs us Q I r h
  obtain ⟨a, xs, rfl, hs, hne, q⟩ := h
  obtain ⟨its, rv, hl, _⟩ := I.list hs
  rw [Vals.ref1 r]
  have hlt : a < s.heap.objs.size := by obtain ⟨_, e, _⟩ := hl.isList; exact Heap.lt_size e
  have hn : its.length = xs.length := by rw [← rv.length, List.length_map]
  have hpos : 0 < xs.length := List.length_pos_iff.mpr hne
  have hval : ∀ (i : Nat) (v : Value), its.toArray[i]? = some v → ∃ t, v = .str (xs.getD i Str.empty) t := fun i v e => by
    obtain ⟨x, hx, t, ht⟩ := vals_strs rv (by simpa using e)
    exact ⟨t, by rw [ht, List.getD_eq_getElem?_getD, hx]; rfl⟩
  refine call_min_walk (wpAny_pyIter_list hl.isList ?_)
  refine ⟨_, _, _, _, _, _, _, rfl, Walks.list (A := X.A.in1) (I.ok.hd hc) _ a (Nat.ne_of_lt hlt) its.toArray, ⟨⟨_, Heap.get?_push_size _ rfl, rfl, rfl⟩, hl.isList.push _⟩, fun b hb => ?_, by simpa [hn] using hpos, cmp_lt (fun i => xs.getD i Str.empty) hval, fun v h' tk hP hk => ?_⟩
  · show b < (s.heap.push _).objs.size
    rw [Heap.size_push]
    rcases List.mem_cons.mp hb with e | hb
    · rw [e]
      exact Nat.lt_succ_self _
    · rw [List.mem_singleton.mp hb]
      exact Nat.lt_succ_of_lt hlt
  · have hP' : its[argBest (fun i j => ltS (xs.getD i Str.empty) (xs.getD j Str.empty)) (its.toArray.size - 1)]? = some v := by simpa using hP
    obtain ⟨x, hx, t, ht⟩ := vals_strs rv hP'
    refine ⟨.str x, H, I.kept (t' := tk) fun b u e => hk b u (fun hmem => ?_) (Heap.get?_push_of_some _ e), ⟨t, ht⟩, q x (List.mem_of_getElem? hx)⟩
    have e1 : b = s.heap.objs.size := List.mem_singleton.mp hmem
    have e2 := Heap.lt_size e
    rw [e1] at e2
    exact absurd e2 (Nat.lt_irrefl _)
/-- min(d), d a dict whose keys are texts: one of them -/
def rMinD : List V → Hp → VK → Prop := fun vs H Q => ∃ (a : Addr) (kvs : List (Key × V)) (xs : List Str), vs = [V.ref a] ∧ H a = some (.dK kvs) ∧ kvs.map (·.1) = xs.map Sum.inr ∧ xs ≠ [] ∧ ∀ m ∈ xs, Q (.str m) H
theorem cr_minD (hc : X.calm = true) : CallR X (.builtin "min") rMinD := by
  intro pins s σ H vs us Q I r h
  obtain ⟨a, kvs, xs, rfl, ha, hv, hne, q⟩ := h
  rw [Vals.ref1 r]
  obtain ⟨_, hsys, vs, rel, dof⟩ := dk_of I.hok ha
  obtain ⟨ep, dat⟩ := dof.dictAt
  obtain ⟨ob, es, ho, _⟩ := id dat
  have hlt : a < s.heap.objs.size := Heap.lt_size ho
  have hkeys : vs.map (·.1) = xs.map Sum.inr := (KV.keys rel).symm.trans hv
  have hlv : vs.length = xs.length := by
    have e1 := congrArg List.length hkeys
    rw [List.length_map, List.length_map] at e1
    exact e1
  have hpos : 0 < vs.length := by
    rw [hlv]
    exact List.length_pos_iff.mpr hne
  have hval0 : ∀ (i : Nat) (v : Value), (∃ k x, vs[i]? = some (k, x) ∧ (mixKind X.prog X.w).is k v = true) → ∃ x, xs[i]? = some x ∧ ∃ t, v = Value.str x t := fun i v ⟨k, x, hk, hkey⟩ => by
    have e1 : (vs.map (·.1))[i]? = some k := by rw [List.getElem?_map, hk] <;> rfl
    rw [hkeys, List.getElem?_map] at e1
    obtain ⟨z, hz, e2⟩ := Option.map_eq_some_iff.mp e1
    subst e2
    obtain ⟨t, e3⟩ := Value.isStrOf_shape (x := z) (v := v) hkey
    exact ⟨z, hz, t, e3⟩
  have hval : ∀ (i : Nat) (v : Value), (∃ k x, vs[i]? = some (k, x) ∧ (mixKind X.prog X.w).is k v = true) → ∃ t, v = Value.str (xs.getD i Str.empty) t := fun i v h => by
    obtain ⟨x, hx, t, ht⟩ := hval0 i v h
    exact ⟨t, by rw [ht, List.getD_eq_getElem?_getD, hx]; rfl⟩
  refine call_min_walk (wpAny_pyIter_dict (knd := mixKind X.prog X.w) hsys dat ?_)
  refine ⟨_, _, _, _, _, _, _, rfl, Walks.dictKeys (knd := mixKind X.prog X.w) (A := X.A.in1) (I.ok.hd hc) s.heap.objs.size a (Nat.ne_of_lt hlt) vs ep,
    ⟨⟨_, Heap.get?_push_size _ rfl, rfl, rfl⟩, dat.keep fun b u e => Heap.get?_push_of_some _ e⟩, fun b hb => ?_, hpos, cmp_lt (fun i => xs.getD i Str.empty) hval, fun v h' tk hP hk => ?_⟩
  · show b < (s.heap.push _).objs.size
    rw [Heap.size_push]
    rcases List.mem_cons.mp hb with e | hb
    · rw [e]
      exact Nat.lt_succ_self _
    · rw [List.mem_singleton.mp hb]
      exact Nat.lt_succ_of_lt hlt
  · obtain ⟨x, hx, t, ht⟩ := hval0 _ v hP
    refine ⟨.str x, H, I.kept (t' := tk) fun b u e => hk b u (fun hmem => ?_) (Heap.get?_push_of_some _ e), ⟨t, ht⟩, q x (List.mem_of_getElem? hx)⟩
    have e1 : b = s.heap.objs.size := List.mem_singleton.mp hmem
    have e2 := Heap.lt_size e
    rw [e1] at e2
    exact absurd e2 (Nat.lt_irrefl _)
/-- min(x, y), max(x, y) of two texts -/
theorem call_minS2 (hc : X.calm = true) : CallR X (.builtin "min") (fun xs H Q => ∃ x y, xs = [.str x, .str y] ∧ Q (.str (if ltS y x then y else x)) H) := by
  intro pins s σ H xs us Q I r h
  obtain ⟨x, y, rfl, q⟩ := h
  obtain ⟨u, w', rfl, ⟨t, rfl⟩, ⟨t', rfl⟩⟩ := vals2 r
  have hT : (s.heap.push { cls := .type "tuple", data := .seq #[.str x t, .str y t'] }).IsTuple s.heap.objs.size #[.str x t, .str y t'] := ⟨_, Heap.get?_push_size _ rfl, rfl, 0, rfl⟩
  refine call_min_two (wpAny_pyIter_tuple hT ?_)
  have hsz : (s.heap.push { cls := .type "tuple", data := .seq #[.str x t, .str y t'] }).objs.size = s.heap.objs.size + 1 := Heap.size_push ..
  have hval : ∀ (i : Nat) (v : Value), (#[.str x t, .str y t'] : Array Value)[i]? = some v → ∃ t, v = .str (([x, y] : List Str).getD i Str.empty) t := fun i v e => by
    match i, e with
    | 0, e => cases e; exact ⟨_, rfl⟩
    | 1, e => cases e; exact ⟨_, rfl⟩
    | i + 2, e => simp at e
  refine ⟨_, [_, s.heap.objs.size], [_], _, _, _, _, rfl, Walks.tuple (A := X.A.in1) (I.ok.hd hc) _ s.heap.objs.size (by rw [hsz]; exact Nat.ne_of_lt (Nat.lt_succ_self _)) #[.str x t, .str y t'],
    ⟨⟨_, Heap.get?_push_size _ rfl, rfl, rfl⟩, hT.push _⟩, fun c hc => ?_, by simp, cmp_lt (fun i => ([x, y] : List Str).getD i Str.empty) hval, fun v h' tk hP hk => ?_⟩
  · show c < ((s.heap.push _).push _).objs.size
    rw [Heap.size_push, hsz]
    rcases List.mem_cons.mp hc with rfl | hc
    · rw [hsz]; exact Nat.lt_succ_self _
    · rw [List.mem_singleton.mp hc]
      exact Nat.lt_succ_of_lt (Nat.lt_succ_self _)
  · have kept : ∀ c o, s.heap.get? c = some o → h'.get? c = some o := fun c o e => by
      refine hk c o (fun hm => ?_) (Heap.get?_push_of_some _ (Heap.get?_push_of_some _ e))
      have e1 := List.mem_singleton.mp hm
      have e2 := Heap.lt_size e
      rw [e1, hsz] at e2
      exact Nat.lt_irrefl _ (Nat.lt_of_succ_lt e2)
    refine ⟨.str (if ltS y x then y else x), H, I.kept kept, ?_, q⟩
    have hP' : (#[.str x t, .str y t'] : Array Value)[argBest (fun i j => ltS (([x, y] : List Str).getD i Str.empty) (([x, y] : List Str).getD j Str.empty)) 1]? = some v := hP
    cases e : ltS y x with
    | true =>
      have e1 : argBest (fun i j => ltS (([x, y] : List Str).getD i Str.empty) (([x, y] : List Str).getD j Str.empty)) 1 = 1 := by simp [argBest, e]
      rw [e1] at hP'
      cases hP'
      exact ⟨_, rfl⟩
    | false =>
      have e1 : argBest (fun i j => ltS (([x, y] : List Str).getD i Str.empty) (([x, y] : List Str).getD j Str.empty)) 1 = 0 := by simp [argBest, e]
      rw [e1] at hP'
      cases hP'
      exact ⟨_, rfl⟩
theorem call_maxS2 (hc : X.calm = true) : CallR X (.builtin "max") (fun xs H Q => ∃ x y, xs = [.str x, .str y] ∧ Q (.str (if ltS x y then y else x)) H) := by
  intro pins s σ H xs us Q I r h
  obtain ⟨x, y, rfl, q⟩ := h
  obtain ⟨u, w', rfl, ⟨t, rfl⟩, ⟨t', rfl⟩⟩ := vals2 r
  have hT : (s.heap.push { cls := .type "tuple", data := .seq #[.str x t, .str y t'] }).IsTuple s.heap.objs.size #[.str x t, .str y t'] := ⟨_, Heap.get?_push_size _ rfl, rfl, 0, rfl⟩
  refine call_max_two (wpAny_pyIter_tuple hT ?_)
  have hsz : (s.heap.push { cls := .type "tuple", data := .seq #[.str x t, .str y t'] }).objs.size = s.heap.objs.size + 1 := Heap.size_push ..
  have hval : ∀ (i : Nat) (v : Value), (#[.str x t, .str y t'] : Array Value)[i]? = some v → ∃ t, v = .str (([x, y] : List Str).getD i Str.empty) t := fun i v e => by
    match i, e with
    | 0, e => cases e; exact ⟨_, rfl⟩
    | 1, e => cases e; exact ⟨_, rfl⟩
    | i + 2, e => simp at e
  refine ⟨_, [_, s.heap.objs.size], [_], _, _, _, _, rfl, Walks.tuple (A := X.A.in1) (I.ok.hd hc) _ s.heap.objs.size (by rw [hsz]; exact Nat.ne_of_lt (Nat.lt_succ_self _)) #[.str x t, .str y t'],
    ⟨⟨_, Heap.get?_push_size _ rfl, rfl, rfl⟩, hT.push _⟩, fun c hc => ?_, by simp, cmp_gt (fun i => ([x, y] : List Str).getD i Str.empty) hval, fun v h' tk hP hk => ?_⟩
  · show c < ((s.heap.push _).push _).objs.size
    rw [Heap.size_push, hsz]
    rcases List.mem_cons.mp hc with rfl | hc
    · rw [hsz]; exact Nat.lt_succ_self _
    · rw [List.mem_singleton.mp hc]
      exact Nat.lt_succ_of_lt (Nat.lt_succ_self _)
  · have kept : ∀ c o, s.heap.get? c = some o → h'.get? c = some o := fun c o e => by
      refine hk c o (fun hm => ?_) (Heap.get?_push_of_some _ (Heap.get?_push_of_some _ e))
      have e1 := List.mem_singleton.mp hm
      have e2 := Heap.lt_size e
      rw [e1, hsz] at e2
      exact Nat.lt_irrefl _ (Nat.lt_of_succ_lt e2)
    refine ⟨.str (if ltS x y then y else x), H, I.kept kept, ?_, q⟩
    have hP' : (#[.str x t, .str y t'] : Array Value)[argBest (fun i j => ltS (([x, y] : List Str).getD j Str.empty) (([x, y] : List Str).getD i Str.empty)) 1]? = some v := hP
    cases e : ltS x y with
    | true =>
      have e1 : argBest (fun i j => ltS (([x, y] : List Str).getD j Str.empty) (([x, y] : List Str).getD i Str.empty)) 1 = 1 := by simp [argBest, e]
      rw [e1] at hP'
      cases hP'
      exact ⟨_, rfl⟩
    | false =>
      have e1 : argBest (fun i j => ltS (([x, y] : List Str).getD j Str.empty) (([x, y] : List Str).getD i Str.empty)) 1 = 0 := by simp [argBest, e]
      rw [e1] at hP'
      cases hP'
      exact ⟨_, rfl⟩
end
/-! ### dicts made by comprehensions -/
section
variable {J : It} {n : Nat} {G : Hp → Prop} {Y : Nat → Hp → V → Hp → Prop}
/-- over any walk -/
theorem dc_it (w : Walk J n G Y) {g : TG} {tt : TT} {tk tv : TE} {vs : List Nat} {σ : L2.St} {H1 : Hp} {D : Addr} {Qd : Hp → Prop} (Pv : Nat → Hp → Prop) (h0 : Pv 0 (upd H1 D (.dK []))) (hG : ∀ i H, i ≤ n → Pv i H → G H)
    (hs : ∀ i x H H', i < n → Pv i H → Y i H x H' → g x (wipe σ vs) H' fun σ2 H2 => wipe σ2 vs = wipe σ vs ∧ tt σ2 H2 fun b H3 =>
      if b = true then tk σ2 H3 fun y H4 => tv σ2 H4 fun z H5 => ∃ kvs k, y = kV k ∧ H5 D = some (.dK kvs) ∧ kvs.length < sizeLine ∧ Pv (i + 1) (upd H5 D (.dK (putK kvs k z))) else Pv (i + 1) H3) (hd : ∀ H, Pv n H → Qd H) :
    ∃ W : Nat → Nat → Hp → Prop, (∃ m, W 0 m (upd H1 D (.dK []))) ∧ ∀ i m H, W i m H →
      (J.stop i H ∧ Qd H) ∨ (J.go i H ∧ ∃ Nx : Hp → Prop, (∀ H', Nx H' → ∃ m', m' < m ∧ W (i + 1) m' H') ∧ ∀ x H', J.yld i H x H' → g x (wipe σ vs) H' fun σ2 H2 => wipe σ2 vs = wipe σ vs ∧ tt σ2 H2 fun b H3 =>
        if b = true then tk σ2 H3 fun y H4 => tv σ2 H4 fun z H5 => ∃ kvs k, y = kV k ∧ H5 D = some (.dK kvs) ∧ kvs.length < sizeLine ∧ Nx (upd H5 D (.dK (putK kvs k z))) else Nx H3) := by
  refine ⟨fun i m H => m = n - i ∧ i ≤ n ∧ Pv i H, ⟨n, by simp, Nat.zero_le _, h0⟩, ?_⟩
  rintro i m H ⟨rfl, hi, p⟩
  by_cases hlt : i < n
  · exact .inr ⟨w.goes i H hlt (hG i H hi p), Pv (i + 1), fun H' p' => ⟨n - (i + 1), by omega, rfl, hlt, p'⟩, fun x H' y => hs i x H H' hlt p (w.yields i H x H' hlt (hG i H hi p) y)⟩
  · have e : i = n := by omega
    subst e
    exact .inl ⟨w.stops H (hG i H hi p), hd H p⟩
end
section
variable {X : Cx}
theorem sw_dc {kx vx : Expr} {gs : List Comprehension} {scope : Scope} {pos py : Pos} {y : Str} {l : Nat} {env : Env} (hk : env.scope.kind = .function) (hy : env.scope.names.lookup y = some .local) (hl : (py.line == pos.line) = true)
    (ha : (scope.names.any fun (n, k) => n == y && (k == .local || k == .cell)) = false) : swapsWith (.DictComp kx vx gs scope pos) (some (.Name y py)) l env = pure true := by
  have e1 : env.kindOf y = some .local := hy
  have e2 : env.blockKind = .function := by unfold Env.blockKind; rw [hk]; rfl
  unfold swapsWith
  simp only [e2, e1, ha, Expr.pos, hl]
  rfl
/-- y = {k: v for ..} -/
theorem ps_setDc {i : Nat} {y : Str} {py : Pos} {kx vx tg iter : Expr} {ifs : List Expr} {scope : Scope} {own : List (Str × Nat)} {pos spos : Pos} {wi : TI} {g : TG} {tt : TT} {tk tv : TE} (hc : X.calm = true) (hN : X.N.Nodup) (hy : X.N[i]? = some y) (hyl : X.env.scope.names.lookup y = some .local)
    (hsw : swapsWith (.DictComp kx vx [⟨tg, iter, ifs, 0⟩] scope pos) (some (.Name y py)) spos.line X.env = pure true) (hi : PI X tg iter wi) (ok : BlkOk X.N X.env.scope scope own)
    (hg : ∀ (s : Shared) (H : Hp) (C : Addr) (cl : List (Str × Addr)) (fp : List Addr), PG (X.blk s H scope (compEnvC scope cl C X.env) fp) tg g) (ht : ∀ (s : Shared) (H : Hp) (C : Addr) (cl : List (Str × Addr)) (fp : List Addr), PTs (X.blk s H scope (compEnvC scope cl C X.env) fp) ifs tt)
    (hk : ∀ (s : Shared) (H : Hp) (C : Addr) (cl : List (Str × Addr)) (fp : List Addr), PE (X.blk s H scope (compEnvC scope cl C X.env) fp) kx tk)
    (he : ∀ (s : Shared) (H : Hp) (C : Addr) (cl : List (Str × Addr)) (fp : List Addr), PE (X.blk s H scope (compEnvC scope cl C X.env) fp) vx tv) (hs : ∀ x, foldedSetIterable iter X.env x = pure x := by intro _; rfl) :
    PS X (.Assign [.Name y py] (.DictComp kx vx [⟨tg, iter, ifs, 0⟩] scope pos) spos) (tAsg (tDc wi g tt tk tv (own.map (·.2))) (gName i)) := by
  refine ⟨fun pins s σ H D I h => ?_⟩
  rw [exec_Assign_Name_used _ _ _ _ hsw]
  refine wpAny_bind (wpAny_standAt (wpAny_bind ?_))
  show wpAny _ X.A (do let _ ← comprehension (.DictComp kx vx [⟨tg, iter, ifs, 0⟩] scope pos) scope X.env (firstIterPos [⟨tg, iter, ifs, 0⟩] pos) newDict false (eval iter X.env) (some (assign (.Name y py) X.env))) _ _ s
  have h' : tDc wi g tt tk tv (own.map (·.2)) σ H (fun x H1 => gName i x σ H1 D.nx) := h
  refine wpAny_bind (thn (dc_core (Qf := fun _ s' => SP X pins D .next s') hc hN I hi ok hg ht hk he hs h' fun L C s' m H' I' q hn f => ?_) fun _ s' hq => wpAny_pure (wpAny_pure hq))
  show wpAny _ _ (assign (.Name y py) X.env (.ref L)) _ _ _
  refine wpAny_assign_Name (store_ok2 (v := V.ref L) I' hN hy (.inl hyl) rfl (fun s2 I2 ⟨a, sb, ha⟩ => ?_) (.inr hyl))
  obtain ⟨f0, f1, f2, f3, f4, f5⟩ := f
  have haC : C ≠ a := by
    rcases ha with z | z
    · rw [z]; exact f1
    · exact fun e => f4 y a z e.symm
  exact ⟨m, hn.sameBut sb haC, fun h3 sb3 => ⟨_, H', I2.turned (t' := s2.toks) (fun b o hb e => (sb3.2 b hb).trans e) f0 f1 f3 f4 f5, q⟩⟩
/-- o.f within a comprehension: the written part by name -/
theorem pe_fldK {K : PySem.W.Frag} {o : Expr} {ta : TE} {f : Str} {pos : Pos} (ha : PE X o ta) (hb : attributeBase o f X.env (eval o X.env) = eval o X.env) (hK : X.K = K := by rfl) : PE X (.Attribute o f pos) (tFld K ta f) := by
  subst hK
  exact pe_fld ha hb
end
end Rd
/-! is_name, is_integer, is_between, pair_of, is_pair. -/
namespace Rd
open PySem PySem.Spec PyProof.Rows L2
/-! ### is_name -/
def spIsName : Sp := fun vs H Q _ => ∃ x : Str, vs = [.str x] ∧ Nm x ∧ ∀ H', Same H H' → Q (.bl true) H'
theorem letters_mem {c : Nat} (h : 97 ≤ c ∧ c ≤ 122) : c ∈ ("abcdefghijklmnopqrstuvwxyz" : Str).cps.toList := by
  have all : ∀ k : Fin 26, (97 + k.val) ∈ ("abcdefghijklmnopqrstuvwxyz" : Str).cps.toList := by decide +kernel
  have := all ⟨c - 97, by omega⟩
  rwa [show 97 + (c - 97) = c by omega] at this
-- slots of is_name: 0 thing 1 letter
theorem sc_is_name : FnScope ["thing", "letter"] ["thing"] (defScope s_is_name) := ⟨rfl, rfl, rfl, by decide +kernel, rfl, by decide +kernel, by decide +kernel⟩
section
variable {P : Program} {w : World} {K : PySem.W.Frag} {mg : Str → Option Value} {base : Heap}
theorem ca_is_name (T : Wd K mg base) : Ca P w K mg base 1 "is_name" spIsName [] := by
  obtain ⟨fd, F⟩ := T.L.F_is_name
  refine ca_of F T.g_is_name (F.binds (ps := ["thing"]) fun _ _ _ _ _ _ us hl => match us, hl with | [_], _ => rfl) sc_is_name (fun vs H Q E ⟨_, e, _⟩ => by rw [e]; rfl) ?_
  rintro cdv A outer s H vs Q E hr ⟨x, rfl, hx, k⟩
  refine ⟨_, (pss_one (ps_ret (pe_and (pe_callB (call_isi) (by rfl) T.f_isinstance (by decide +kernel) (pa_cons (pv 0) (pa_cons (pe_bltn (v := .ty "str") (by rfl) T.f_str (by decide +kernel) rfl) pa_nil))) (pe_and (pe_chain op_le op_le pe_int (pe_callB (call_len) (by rfl) T.f_len (by decide +kernel) (pa_cons (pv 0) pa_nil)) (pe_glob (v := .int 8) rfl T.i_LONGEST_NAME.choose_spec ⟨_, rfl⟩)) (pe_one (pe_callB (cr_all rfl) (by rfl) T.f_all (by decide +kernel) (pa_cons (pe_lc (own := [("letter", 1)]) (g := gName 1) rfl sc_is_name.nd (pi_str (pv 0)) (blkOk_by (own := [("letter", 1)]) (N := ["thing", "letter"]) (sc := defScope s_is_name) (by decide +kernel)) (fun _ _ _ _ _ => (pg_name (i := 1) sc_is_name.nd rfl (Or.inl rfl))) (fun _ _ _ _ _ => pts_nil) (fun _ _ _ _ _ => (pe_cmpR op_in_sign (pv 1) (pe_glob (v := .str "abcdefghijklmnopqrstuvwxyz") rfl T.s_LETTERS.choose_spec ⟨_, rfl⟩) (by rfl)))) pa_nil))))))), ?_⟩
  refine ⟨_, rfl, _, _, _, _, true, rfl, .ty _, .base (.str x), kit_ty (by decide +kernel), true, rfl, iteT ?_⟩
  refine ⟨_, rfl, .str x, x.length, rfl, ⟨by have := hx.1.2; rw [sizeLine_eq]; omega, rfl⟩, _, _, rfl, rfl, _, rfl, ?_⟩
  have h1 : (1 : Int) ≤ (x.length : Int) := by have := hx.1.1; omega
  have h2 : (x.length : Int) ≤ 8 := by have := hx.1.2; omega
  rw [decide_eq_true h1]
  refine iteT ⟨_, _, rfl, rfl, _, rfl, ?_⟩
  rw [decide_eq_true h2]
  refine iteT ?_
  refine ⟨_, rfl, _, rfl, fun D hD => lc_it walk_str (fun i H' => H' D = some (.lst ((List.replicate i true).map V.bl)) ∧ Same H H') ⟨upd_same, sm_new hD⟩ (fun _ _ _ _ => trivial) ?_ ?_⟩
  · rintro i v H' H'' hi ⟨h3, h4⟩ ⟨rfl, c, hc, rfl⟩
    refine ⟨rfl, _, rfl, c, _, rfl, rfl, _, h3, ?_, ?_, h4.put hD⟩
    · rw [List.length_map, List.length_replicate, sizeLine_eq]
      have := hx.1.2
      have e : x.length = x.cps.size := rfl
      omega
    · rw [upd_same]
      have hm : c ∈ x.cps.toList := by
        rw [← Array.getElem?_toList] at hc
        exact List.mem_of_getElem? hc
      rw [decide_eq_true (letters_mem (hx.2 c hm)), List.replicate_succ', List.map_append]
      rfl
  · rintro H' ⟨h3, h4⟩
    refine ⟨_, _, rfl, SqL.of h3, ?_⟩
    have e : (List.replicate x.cps.size true).all id = true := by
      rw [List.all_eq_true]
      intro b hb
      exact (List.eq_of_mem_replicate hb)
    rw [e]
    exact k _ h4
/-! ### is_integer, is_between -/
def spIsInt : Sp := fun vs H Q _ => ∃ i : Int, vs = [.int i] ∧ Q (.bl true) H
end
-- slots of is_integer: 0 thing
theorem sc_is_integer : FnScope ["thing"] ["thing"] (defScope s_is_integer) := ⟨rfl, rfl, rfl, by decide +kernel, rfl, by decide +kernel, by decide +kernel⟩
section
variable {P : Program} {w : World} {K : PySem.W.Frag} {mg : Str → Option Value} {base : Heap}
theorem ca_is_integer (T : Wd K mg base) : Ca P w K mg base 1 "is_integer" spIsInt [] := by
  obtain ⟨fd, F⟩ := T.L.F_is_integer
  refine ca_of F T.g_is_integer (F.binds (ps := ["thing"]) fun _ _ _ _ _ _ us hl => match us, hl with | [_], _ => rfl) sc_is_integer (fun vs H Q E ⟨_, e, _⟩ => by rw [e]; rfl) ?_
  rintro cdv A outer s H vs Q E hr ⟨i, rfl, k⟩
  refine ⟨_, (pss_one (ps_ret (pe_and (pe_callB (call_isi) (by rfl) T.f_isinstance (by decide +kernel) (pa_cons (pv 0) (pa_cons (pe_bltn (v := .ty "int") (by rfl) T.f_int (by decide +kernel) rfl) pa_nil))) (pe_one (pe_not (pe_callB (call_isi) (by rfl) T.f_isinstance (by decide +kernel) (pa_cons (pv 0) (pa_cons (pe_bltn (v := .ty "bool") (by rfl) T.f_bool (by decide +kernel) rfl) pa_nil)))))))), ?_⟩
  refine ⟨_, rfl, _, _, _, _, true, rfl, .ty _, .base (.int i), kit_ty (by decide +kernel), true, rfl, iteT ?_⟩
  exact ⟨_, rfl, _, _, _, _, false, rfl, .ty _, .base (.int i), kit_ty (by decide +kernel), false, rfl, k⟩
def spIsBetween : Sp := fun vs H Q _ => ∃ i lo hi : Int, vs = [.int i, .int lo, .int hi] ∧ lo ≤ i ∧ i ≤ hi ∧ Q (.bl true) H
end
-- slots of is_between: 0 thing 1 low 2 high
theorem sc_is_between : FnScope ["thing", "low", "high"] ["thing", "low", "high"] (defScope s_is_between) := ⟨rfl, rfl, rfl, by decide +kernel, rfl, by decide +kernel, by decide +kernel⟩
section
variable {P : Program} {w : World} {K : PySem.W.Frag} {mg : Str → Option Value} {base : Heap}
theorem ca_is_between (T : Wd K mg base) : Ca P w K mg base 2 "is_between" spIsBetween [] := by
  obtain ⟨fd, F⟩ := T.L.F_is_between
  refine ca_of F T.g_is_between (F.binds (ps := ["thing", "low", "high"]) fun _ _ _ _ _ _ us hl => match us, hl with | [_, _, _], _ => rfl) sc_is_between (fun vs H Q E ⟨_, _, _, e, _⟩ => by rw [e]; rfl) ?_
  rintro cdv A outer s H vs Q E hr ⟨i, lo, hi, rfl, h1, h2, k⟩
  refine ⟨_, (pss_one (ps_ret (pe_and (pe_ca (ca_is_integer T) hr (by decide) rfl (pa_cons (pv 0) pa_nil)) (pe_one (pe_chain op_le op_le (pv 1) (pv 0) (pv 2)))))), ?_⟩
  refine ⟨_, rfl, i, rfl, true, rfl, iteT ?_⟩
  refine ⟨_, rfl, _, rfl, _, _, rfl, rfl, _, rfl, ?_⟩
  rw [decide_eq_true h1]
  refine iteT ⟨_, rfl, _, _, rfl, rfl, ?_⟩
  show Q (.bl (decide (i ≤ hi))) H
  rw [decide_eq_true h2]
  exact k
/-! ### pair_of, is_pair -/
/-- a corridor as it is written -/
def pairS (x y : Str) : Str × Str := if ltS x y then (x, y) else (y, x)
def spPairOf : Sp := fun vs H Q _ => ∃ x y : Str, vs = [.str x, .str y] ∧ ∀ p, H p = none → Q (.ref p) (upd H p (.tup [.str (pairS x y).1, .str (pairS x y).2]))
end
-- slots of pair_of: 0 one 1 other
theorem sc_pair_of : FnScope ["one", "other"] ["one", "other"] (defScope s_pair_of) := ⟨rfl, rfl, rfl, by decide +kernel, rfl, by decide +kernel, by decide +kernel⟩
section
variable {P : Program} {w : World} {K : PySem.W.Frag} {mg : Str → Option Value} {base : Heap}
theorem ca_pair_of (T : Wd K mg base) : Ca P w K mg base 1 "pair_of" spPairOf [] := by
  obtain ⟨fd, F⟩ := T.L.F_pair_of
  refine ca_of F T.g_pair_of (F.binds (ps := ["one", "other"]) fun _ _ _ _ _ _ us hl => match us, hl with | [_, _], _ => rfl) sc_pair_of (fun vs H Q E ⟨_, _, e, _⟩ => by rw [e]; rfl) ?_
  rintro cdv A outer s H vs Q E hr ⟨x, y, rfl, k⟩
  refine ⟨_, (pss_one (ps_ret (pe_ifExp (pt_cmpR op_lt_str (pv 0) (pv 1) (by rfl)) (pe_tup (pa_cons (pv 0) (pa_cons (pv 1) pa_nil))) (pe_tup (pa_cons (pv 1) (pa_cons (pv 0) pa_nil)))))), ?_⟩
  refine ⟨_, rfl, _, rfl, _, _, rfl, rfl, _, rfl, ?_⟩
  have e : decide (x.cps.toList < y.cps.toList) = ltS x y := rfl
  rw [e]
  unfold pairS at k
  cases q : ltS x y with
  | true =>
    rw [q] at k
    exact iteT ⟨_, rfl, _, rfl, (by show 2 ≤ sizeLine; decide), k⟩
  | false =>
    rw [q] at k
    exact iteF ⟨_, rfl, _, rfl, (by show 2 ≤ sizeLine; decide), k⟩
def spIsPair (K : PySem.W.Frag) : Sp := fun vs H Q _ => ∃ (t : Addr) (x y : V), vs = [.ref t] ∧ H t = some (.tup [x, y]) ∧ Q (.bl true) H
end
-- slots of is_pair: 0 thing
theorem sc_is_pair : FnScope ["thing"] ["thing"] (defScope s_is_pair) := ⟨rfl, rfl, rfl, by decide +kernel, rfl, by decide +kernel, by decide +kernel⟩
section
variable {P : Program} {w : World} {K : PySem.W.Frag} {mg : Str → Option Value} {base : Heap}
theorem ca_is_pair (T : Wd K mg base) : Ca P w K mg base 1 "is_pair" (spIsPair K) [] := by
  obtain ⟨fd, F⟩ := T.L.F_is_pair
  refine ca_of F T.g_is_pair (F.binds (ps := ["thing"]) fun _ _ _ _ _ _ us hl => match us, hl with | [_], _ => rfl) sc_is_pair (fun vs H Q E ⟨_, _, _, e, _⟩ => by rw [e]; rfl) ?_
  rintro cdv A outer s H vs Q E hr ⟨t, x, y, rfl, ht, k⟩
  refine ⟨_, (pss_one (ps_ret (pe_and (pe_callB (call_isi) (by rfl) T.f_isinstance (by decide +kernel) (pa_cons (pv 0) (pa_cons (pe_bltn (v := .ty "tuple") (by rfl) T.f_tuple (by decide +kernel) rfl) pa_nil))) (pe_one (pe_cmpR op_eq (pe_callB (call_len) (by rfl) T.f_len (by decide +kernel) (pa_cons (pv 0) pa_nil)) pe_int (by rfl)))))), ?_⟩
  refine ⟨_, rfl, _, _, _, _, true, rfl, .ty _, .base (.tup ht), kit_ty (by decide +kernel), true, rfl, iteT ?_⟩
  exact ⟨_, rfl, .ref t, 2, rfl, .inr ⟨_, SqT.of ht, rfl⟩, rfl, k⟩
end
end Rd
/-! Graphs, by lists of pairs: neighbours, levels of a search by breadth. Plain Lean. -/
namespace Gr
section
variable {α : Type} [DecidableEq α]
/-- joined -/
def Adj (ps : List (α × α)) (x y : α) : Prop := (x, y) ∈ ps ∨ (y, x) ∈ ps
theorem Adj.symm {ps : List (α × α)} {x y : α} (h : Adj ps x y) : Adj ps y x := h.elim .inr .inl
/-- the ends of pairs -/
def ends (ps : List (α × α)) : List α := ps.flatMap fun p => [p.1, p.2]
theorem ends_len (ps : List (α × α)) : (ends ps).length = 2 * ps.length := by
  induction ps with
  | nil => rfl
  | cons p ps ih =>
    show ([p.1, p.2] ++ ends ps).length = _
    rw [List.length_append, ih, List.length_cons]
    simp
    omega
theorem adj_ends {ps : List (α × α)} {x y : α} (h : Adj ps x y) : y ∈ ends ps := by
  unfold ends
  rcases h with h | h
  · exact List.mem_flatMap.mpr ⟨_, h, by simp⟩
  · exact List.mem_flatMap.mpr ⟨_, h, by simp⟩
/-- a list without repeats within another is no longer -/
theorem nodup_le : ∀ {l m : List α}, l.Nodup → (∀ x ∈ l, x ∈ m) → l.length ≤ m.length
  | [], m, _, _ => Nat.zero_le _
  | x :: l, m, h, hs => by
    have hx : x ∈ m := hs x List.mem_cons_self
    obtain ⟨h1, h2⟩ := List.nodup_cons.mp h
    have ih := nodup_le (l := l) (m := m.erase x) h2 fun y hy => by
      have hne : y ≠ x := fun e => h1 (e ▸ hy)
      exact (List.mem_erase_of_ne hne).mpr (hs y (List.mem_cons_of_mem _ hy))
    rw [List.length_erase_of_mem hx] at ih
    have : 0 < m.length := List.length_pos_of_mem hx
    rw [List.length_cons]
    omega
abbrev En (α : Type) := α × Nat × Option α
/-- levels: each room but the first one hangs below an earlier one; all that is joined to a room of them is among them, at most one step deeper -/
structure Lv (ps : List (α × α)) (s : α) (lv : List (En α)) : Prop where
  nd : (lv.map (·.1)).Nodup
  head : lv[0]? = some (s, 0, none)
  par : ∀ (i : Nat) (x : α) (d : Nat) (q : Option α), lv[i + 1]? = some (x, d, q) → ∃ p dp qp j, j ≤ i ∧ lv[j]? = some (p, dp, qp) ∧ q = some p ∧ d = dp + 1 ∧ Adj ps p x
  closed : ∀ x d q y, (x, d, q) ∈ lv → Adj ps x y → ∃ d' q', (y, d', q') ∈ lv ∧ d' ≤ d + 1
/-- .. on the way: the rooms ahead of at are done, of that at at the neighbours in done -/
structure BI (ps : List (α × α)) (s : α) (lv : List (En α)) (at_ : Nat) (dn : List α) : Prop where
  nd : (lv.map (·.1)).Nodup
  head : lv[0]? = some (s, 0, none)
  par : ∀ (i : Nat) (x : α) (d : Nat) (q : Option α), lv[i + 1]? = some (x, d, q) → ∃ p dp qp j, j ≤ i ∧ lv[j]? = some (p, dp, qp) ∧ q = some p ∧ d = dp + 1 ∧ Adj ps p x
  done : ∀ (i : Nat) (x : α) (d : Nat) (q : Option α) (y : α), i < at_ → lv[i]? = some (x, d, q) → Adj ps x y → ∃ d' q', (y, d', q') ∈ lv ∧ d' ≤ d + 1
  now : ∀ (x : α) (d : Nat) (q : Option α) (y : α), lv[at_]? = some (x, d, q) → y ∈ dn → ∃ d' q', (y, d', q') ∈ lv ∧ d' ≤ d + 1
  mono : ∀ (i j : Nat) (x : α) (d : Nat) (q : Option α) (y : α) (e : Nat) (r : Option α), i ≤ j → lv[i]? = some (x, d, q) → lv[j]? = some (y, e, r) → d ≤ e
  top : ∀ (x : α) (d : Nat) (q : Option α) (y : α) (e : Nat) (r : Option α), lv[at_]? = some (x, d, q) → (y, e, r) ∈ lv → e ≤ d + 1
variable {ps : List (α × α)} {s : α} {lv : List (En α)} {at_ : Nat} {dn : List α}
theorem BI.start : BI ps s [(s, 0, none)] 0 [] where
  nd := by simp
  head := rfl
  par := fun i x d q h => by simp at h
  done := fun i x d q y h => absurd h (Nat.not_lt_zero _)
  now := fun x d q y _ h => nomatch h
  mono := fun i j x d q y e r hij h1 h2 => by
    have hj : j = 0 := by
      obtain ⟨h, _⟩ := List.getElem?_eq_some_iff.mp h2
      simp at h
      exact h
    subst hj
    have hi : i = 0 := Nat.le_zero.mp hij
    subst hi
    rw [h1] at h2
    cases h2
    exact Nat.le_refl _
  top := fun x d q y e r h1 h2 => by
    simp at h1 h2
    omega
theorem BI.seen (b : BI ps s lv at_ dn) {x : α} {d : Nat} {q : Option α} (h : lv[at_]? = some (x, d, q)) {y : α} (hy : y ∈ lv.map (·.1)) : BI ps s lv at_ (dn ++ [y]) where
  nd := b.nd
  head := b.head
  par := b.par
  done := b.done
  now := fun x' d' q' z h1 h2 => by
    rw [h] at h1
    cases h1
    rcases List.mem_append.mp h2 with h2 | h2
    · exact b.now _ _ _ _ h h2
    · rw [List.mem_singleton.mp h2]
      obtain ⟨⟨y', e, r⟩, h3, h4⟩ := List.mem_map.mp hy
      cases h4
      exact ⟨e, r, h3, b.top _ _ _ _ _ _ h h3⟩
  mono := b.mono
  top := b.top
theorem mem_get {β : Type} {l : List β} {x : β} (h : x ∈ l) : ∃ i : Nat, l[i]? = some x := by
  obtain ⟨i, hi, e⟩ := List.mem_iff_getElem.mp h
  exact ⟨i, by rw [List.getElem?_eq_getElem hi, e]⟩
theorem get_app {β : Type} {l : List β} {x y : β} {i : Nat} (h : (l ++ [x])[i]? = some y) : l[i]? = some y ∨ (i = l.length ∧ y = x) := by
  rcases Nat.lt_or_ge i l.length with h1 | h1
  · rw [List.getElem?_append_left h1] at h
    exact .inl h
  · rw [List.getElem?_append_right h1] at h
    have h0 : i - l.length = 0 := by
      obtain ⟨h2, _⟩ := List.getElem?_eq_some_iff.mp h
      simp at h2
      omega
    rw [h0] at h
    exact .inr ⟨by omega, (Option.some.inj h).symm⟩
theorem get_old {β : Type} {l : List β} {x y : β} {i : Nat} (h : l[i]? = some y) : (l ++ [x])[i]? = some y := by
  obtain ⟨h1, _⟩ := List.getElem?_eq_some_iff.mp h
  rw [List.getElem?_append_left h1]
  exact h
theorem BI.add (b : BI ps s lv at_ dn) {x : α} {d : Nat} {q : Option α} (h : lv[at_]? = some (x, d, q)) {y : α} (hy : y ∉ lv.map (·.1)) (ha : Adj ps x y) : BI ps s (lv ++ [(y, d + 1, some x)]) at_ (dn ++ [y]) where
  nd := by
    rw [List.map_append, List.nodup_append]
    refine ⟨b.nd, by simp, fun a h1 c h2 e => ?_⟩
    simp at h2
    rw [e, h2] at h1
    exact hy h1
  head := get_old b.head
  par := fun i z e r h1 => by
    rcases get_app h1 with h1 | ⟨h1, h2⟩
    · obtain ⟨p, dp, qp, j, h2, h3, h4⟩ := b.par i z e r h1
      exact ⟨p, dp, qp, j, h2, get_old h3, h4⟩
    · cases h2
      refine ⟨x, d, q, at_, ?_, get_old h, rfl, rfl, ha⟩
      obtain ⟨h3, _⟩ := List.getElem?_eq_some_iff.mp h
      omega
  done := fun i z e r y' hi h1 h2 => by
    rcases get_app h1 with h1 | ⟨h1, _⟩
    · obtain ⟨d', q', h3, h4⟩ := b.done i z e r y' hi h1 h2
      exact ⟨d', q', List.mem_append_left _ h3, h4⟩
    · obtain ⟨h3, _⟩ := List.getElem?_eq_some_iff.mp h
      omega
  now := fun z e r y' h1 h2 => by
    rw [get_old h] at h1
    cases h1
    rcases List.mem_append.mp h2 with h2 | h2
    · obtain ⟨d', q', h3, h4⟩ := b.now _ _ _ _ h h2
      exact ⟨d', q', List.mem_append_left _ h3, h4⟩
    · rw [List.mem_singleton.mp h2]
      exact ⟨_, _, List.mem_append_right _ List.mem_cons_self, Nat.le_refl _⟩
  mono := fun i j z e r z' e' r' hij h1 h2 => by
    rcases get_app h1 with h1 | ⟨h1, h1'⟩
    · rcases get_app h2 with h2 | ⟨h2, h2'⟩
      · exact b.mono i j z e r z' e' r' hij h1 h2
      · cases h2'
        exact b.top _ _ _ _ _ _ h (List.mem_of_getElem? h1)
    · rcases get_app h2 with h2 | ⟨h2, h2'⟩
      · obtain ⟨h3, _⟩ := List.getElem?_eq_some_iff.mp h2
        omega
      · cases h1'
        cases h2'
        exact Nat.le_refl _
  top := fun z e r y' e' r' h1 h2 => by
    rw [get_old h] at h1
    cases h1
    rcases List.mem_append.mp h2 with h2 | h2
    · exact b.top _ _ _ _ _ _ h h2
    · simp at h2
      omega
theorem BI.next (b : BI ps s lv at_ dn) {x : α} {d : Nat} {q : Option α} (h : lv[at_]? = some (x, d, q)) (hd : ∀ y, Adj ps x y → y ∈ dn) : BI ps s lv (at_ + 1) [] where
  nd := b.nd
  head := b.head
  par := b.par
  done := fun i z e r y hi h1 h2 => by
    rcases Nat.lt_or_ge i at_ with h3 | h3
    · exact b.done i z e r y h3 h1 h2
    · have e1 : i = at_ := by omega
      rw [e1, h] at h1
      cases h1
      exact b.now _ _ _ _ h (hd y h2)
  now := fun x d q y _ h => nomatch h
  mono := b.mono
  top := fun z e r y e' r' h1 h2 => by
    have h3 := b.mono at_ (at_ + 1) _ _ _ _ _ _ (Nat.le_succ _) h h1
    have h4 := b.top _ _ _ _ _ _ h h2
    omega
theorem BI.stop (b : BI ps s lv at_ dn) (h : lv.length ≤ at_) : Lv ps s lv where
  nd := b.nd
  head := b.head
  par := b.par
  closed := fun x d q y h1 h2 => by
    obtain ⟨i, hi⟩ := mem_get h1
    obtain ⟨h3, _⟩ := List.getElem?_eq_some_iff.mp hi
    exact b.done i x d q y (by omega) hi h2
theorem BI.len (b : BI ps s lv at_ dn) : lv.length ≤ 2 * ps.length + 1 := by
  have h := nodup_le (m := s :: ends ps) b.nd fun x hx => by
    obtain ⟨⟨x', d, q⟩, h1, h2⟩ := List.mem_map.mp hx
    cases h2
    obtain ⟨i, hi⟩ := mem_get h1
    cases i with
    | zero =>
      rw [b.head] at hi
      cases hi
      exact List.mem_cons_self
    | succ i =>
      obtain ⟨p, _, _, _, _, _, _, _, ha⟩ := b.par i _ _ _ hi
      exact List.mem_cons_of_mem _ (adj_ends ha)
  rw [List.length_map, List.length_cons, ends_len] at h
  omega
end
end Gr
/-! joined_rooms, steps_from, reached_from. -/
namespace Rd
open PySem PySem.Spec PyProof.Rows L2 Gr
/-! ### joined_rooms -/
/-- a dict under way: lists of rooms, each room's list its own; R says who stands in whose list -/
structure JB (H0 H : Hp) (d : Addr) (kvs : List (Key × V)) (R : Str → Str → Prop) (n : Nat) : Prop where
  at_ : H d = some (.dK kvs)
  new : H0 d = none
  len : kvs.length ≤ n
  txt : ∀ kv ∈ kvs, ∃ x : Str, kv.1 = Sum.inr x
  nd : (kvs.map (·.1)).Nodup
  val : ∀ x v, valV kvs (Sum.inr x) = some v → ∃ (a : Addr) (xs : List Str), v = V.ref a ∧ a ≠ d ∧ H0 a = none ∧ H a = some (.lst (xs.map V.str)) ∧ xs.length ≤ n ∧ ∀ y, y ∈ xs ↔ R x y
  no : ∀ x, valV kvs (Sum.inr x) = none → ∀ y, ¬ R x y
  inj : ∀ x y a, valV kvs (Sum.inr x) = some (V.ref a) → valV kvs (Sum.inr y) = some (V.ref a) → x = y
  same : Same H0 H
def plusR (R : Str → Str → Prop) (x y : Str) : Str → Str → Prop := fun a b => R a b ∨ (a = x ∧ b = y)
theorem nodup_put {kvs : List (Key × V)} {k : Key} {v : V} (h : (kvs.map (·.1)).Nodup) : ((putK kvs k v).map (·.1)).Nodup := by
  unfold putK
  split
  · rename_i hk
    have e : (kvs.map fun kv => if kv.1 = k then (kv.1, v) else kv).map (·.1) = kvs.map (·.1) := by
      rw [List.map_map]
      refine List.map_congr_left fun kv _ => ?_
      show (if kv.1 = k then (kv.1, v) else kv).1 = kv.1
      split <;> rfl
    rw [e]
    exact h
  · rename_i hk
    rw [List.map_append, List.nodup_append]
    refine ⟨h, by simp, fun a h1 c h2 e => ?_⟩
    simp at h2
    rw [e, h2] at h1
    obtain ⟨kv, h3, h4⟩ := List.mem_map.mp h1
    refine hk ?_
    rw [List.any_eq_true]
    exact ⟨kv, h3, by simp [h4]⟩
theorem JB.old {H0 H : Hp} {d p a : Addr} {kvs : List (Key × V)} {R : Str → Str → Prop} {n : Nat} {x y : Str} {xs : List Str} (J : JB H0 H d kvs R n) (hp : H p = none) (hv : valV kvs (Sum.inr x) = some (V.ref a)) (ha : H a = some (.lst (xs.map V.str))) :
    JB H0 (upd (upd H p (.lst [])) a (.lst ((xs ++ [y]).map V.str))) d kvs (plusR R x y) (n + 1) := by
  obtain ⟨a', xs', e1, hd, h0, h1, h2, h3⟩ := J.val x _ hv
  cases e1
  rw [ha] at h1
  have exs : xs = xs' := by
    have := HO.lst.inj (Option.some.inj h1)
    exact (List.map_inj_right (fun a b e => V.str.inj e)).mp this
  subst exs
  have npd : d ≠ p := ne_of_none J.at_ hp
  refine ⟨by rw [upd_ne (Ne.symm hd), upd_ne npd]; exact J.at_, J.new, Nat.le_succ_of_le J.len, J.txt, J.nd, fun z v hz => ?_, fun z hz w hw => ?_, J.inj, (J.same.new hp).put h0⟩
  · obtain ⟨b, ys, rfl, g1, g2, g3, g4, g5⟩ := J.val z v hz
    by_cases hb : b = a
    · subst hb
      obtain rfl := J.inj _ _ _ hz hv
      rw [ha] at g3
      have eys : xs = ys := (List.map_inj_right (fun a b e => V.str.inj e)).mp (HO.lst.inj (Option.some.inj g3))
      subst eys
      refine ⟨b, _, rfl, g1, g2, upd_same, by rw [List.length_append, List.length_singleton]; omega, fun w => ?_⟩
      rw [List.mem_append, List.mem_singleton, g5]
      exact ⟨fun h => h.elim .inl fun h => .inr ⟨rfl, h⟩, fun h => h.elim .inl fun h => .inr h.2⟩
    · refine ⟨b, ys, rfl, g1, g2, by rw [upd_ne hb, upd_ne (ne_of_none g3 hp)]; exact g3, Nat.le_succ_of_le g4, fun w => ?_⟩
      rw [g5]
      refine ⟨.inl, fun h => h.elim id fun h => ?_⟩
      rw [h.1, hv] at hz
      cases hz
      exact absurd rfl hb
  · rcases hw with hw | ⟨hw, _⟩
    · exact J.no z hz w hw
    · rw [hw, hv] at hz
      cases hz
theorem JB.fresh {H0 H : Hp} {d p : Addr} {kvs : List (Key × V)} {R : Str → Str → Prop} {n : Nat} {x y : Str} (J : JB H0 H d kvs R n) (hp : H p = none) (hv : valV kvs (Sum.inr x) = none) :
    JB H0 (upd (upd (upd H p (.lst [])) d (.dK (putK kvs (Sum.inr x) (.ref p)))) p (.lst ([y].map V.str))) d (putK kvs (Sum.inr x) (.ref p)) (plusR R x y) (n + 1) := by
  have npd : d ≠ p := ne_of_none J.at_ hp
  have key : ∀ z v, valV (putK kvs (Sum.inr x) (.ref p)) (Sum.inr z) = some v → (z = x ∧ v = .ref p) ∨ (z ≠ x ∧ valV kvs (Sum.inr z) = some v) := fun z v h => by
    rw [valV_put] at h
    by_cases hz : z = x
    · subst hz
      rw [if_pos rfl] at h
      exact .inl ⟨rfl, (Option.some.inj h).symm⟩
    · rw [if_neg (fun e => hz (Sum.inr.inj e))] at h
      exact .inr ⟨hz, h⟩
  refine ⟨by rw [upd_ne npd, upd_same], J.new, Nat.le_trans (length_putK _ _ _) (Nat.succ_le_succ J.len), fun kv hkv => ?_, nodup_put J.nd, fun z v hz => ?_, fun z hz w hw => ?_, fun z z' a h1 h2 => ?_, ?_⟩
  · rw [putK_new _ hv] at hkv
    rcases List.mem_append.mp hkv with h | h
    · exact J.txt kv h
    · rw [List.mem_singleton.mp h]
      exact ⟨x, rfl⟩
  · rcases key z v hz with ⟨rfl, rfl⟩ | ⟨hne, h⟩
    · refine ⟨p, [y], rfl, npd.symm, J.same.free hp, upd_same, by simp, fun w => ?_⟩
      rw [List.mem_singleton]
      exact ⟨fun h => .inr ⟨rfl, h⟩, fun h => h.elim (fun h => absurd h (J.no z hv w)) fun h => h.2⟩
    · obtain ⟨b, ys, rfl, g1, g2, g3, g4, g5⟩ := J.val z v h
      have hbp : b ≠ p := ne_of_none g3 hp
      refine ⟨b, ys, rfl, g1, g2, by rw [upd_ne hbp, upd_ne g1, upd_ne hbp]; exact g3, Nat.le_succ_of_le g4, fun w => ?_⟩
      rw [g5]
      exact ⟨.inl, fun h => h.elim id fun h => absurd h.1 hne⟩
  · rw [valV_put] at hz
    by_cases hzx : z = x
    · rw [if_pos (by rw [hzx])] at hz
      cases hz
    · rw [if_neg (fun e => hzx (Sum.inr.inj e))] at hz
      rcases hw with hw | hw
      · exact J.no z hz w hw
      · exact hzx hw.1
  · rcases key z _ h1 with ⟨rfl, e1⟩ | ⟨g1, g2⟩
    · rcases key z' _ h2 with ⟨rfl, _⟩ | ⟨k1, k2⟩
      · rfl
      · cases e1
        obtain ⟨b, ys, e, _, _, g3, _⟩ := J.val z' _ k2
        cases e
        rw [hp] at g3
        cases g3
    · rcases key z' _ h2 with ⟨rfl, e1⟩ | ⟨k1, k2⟩
      · cases e1
        obtain ⟨b, ys, e, _, _, g3, _⟩ := J.val z _ g2
        cases e
        rw [hp] at g3
        cases g3
      · exact J.inj _ _ _ g2 k2
  · exact ((J.same.new hp).put J.new).put (J.same.free hp)
theorem JB.congr {H0 H : Hp} {d : Addr} {kvs : List (Key × V)} {R R' : Str → Str → Prop} {n m : Nat} (J : JB H0 H d kvs R n) (h : ∀ x y, R x y ↔ R' x y) (hn : n ≤ m) : JB H0 H d kvs R' m :=
  ⟨J.at_, J.new, Nat.le_trans J.len hn, J.txt, J.nd, fun x v hv => let ⟨a, xs, g1, g2, g3, g4, g5, g6⟩ := J.val x v hv; ⟨a, xs, g1, g2, g3, g4, Nat.le_trans g5 hn, fun y => (g6 y).trans (h x y)⟩, fun x hx y hy => J.no x hx y ((h x y).mpr hy), J.inj, J.same⟩
/-- found.setdefault(x, []).append(y) -/
theorem jb_stmt {K : PySem.W.Frag} {H0 H : Hp} {d : Addr} {kvs : List (Key × V)} {R : Str → Str → Prop} {n : Nat} {x y : Str} {i jx jy : Nat} {σ : L2.St} {D : Ends} (J : JB H0 H d kvs R n) (hn : n ≤ 1000) (hi : σ[i]? = some (some (.ref d))) (hx : σ[jx]? = some (some (.str x))) (hy : σ[jy]? = some (some (.str y)))
    (k : ∀ H2 kvs2, JB H0 H2 d kvs2 (plusR R x y) (n + 1) → D.nx σ H2) : tDrop (tBM K "list" rAppend (tDSetd (tVar i) (tVar jx) (tLst tNil)) (tCons (tVar jy) tNil)) D σ H := by
  refine ⟨_, hi, d, rfl, .inl ⟨kvs, .of J.at_⟩, _, hx, Nat.zero_le _, fun q hq => ?_⟩
  have nq : d ≠ q := ne_of_none J.at_ hq
  refine ⟨kvs, .inr x, by rw [upd_ne nq]; exact J.at_, rfl, by have := J.len; rw [sizeLine_eq]; omega, fun v hv => ?_, fun hv => ?_⟩
  · obtain ⟨a, xs, rfl, g1, g2, g3, g4, g5⟩ := J.val x v hv
    have naq : a ≠ q := ne_of_none g3 hq
    have g3' : upd H q (.lst []) a = some (.lst (xs.map V.str)) := by rw [upd_ne naq]; exact g3
    refine ⟨.inl ⟨rfl, _, SqL.of g3'⟩, _, hy, a, _, _, rfl, rfl, g3', by rw [List.length_map, sizeLine_eq]; omega, ?_⟩
    have z := k _ _ (J.old (y := y) hq hv g3)
    rw [List.map_append] at z
    exact z
  · refine ⟨.inl ⟨rfl, [], SqL.of (by rw [upd_ne nq.symm, upd_same])⟩, _, hy, q, [], _, rfl, rfl, by rw [upd_ne nq.symm, upd_same], by rw [sizeLine_eq]; decide, ?_⟩
    exact k _ _ (J.fresh hq hv)
theorem adj_snoc {ps : List (Str × Str)} {i : Nat} {p : Str × Str} (h : ps[i]? = some p) (x y : Str) : plusR (plusR (fun a b => Adj (ps.take i) a b) p.1 p.2) p.2 p.1 x y ↔ Adj (ps.take (i + 1)) x y := by
  obtain ⟨a, b⟩ := p
  unfold plusR Adj
  rw [take_snoc h, List.mem_append, List.mem_append, List.mem_singleton, List.mem_singleton]
  constructor
  · rintro (((h | h) | ⟨rfl, rfl⟩) | ⟨rfl, rfl⟩)
    · exact .inl (.inl h)
    · exact .inr (.inl h)
    · exact .inl (.inr rfl)
    · exact .inr (.inr rfl)
  · rintro ((h | h) | (h | h))
    · exact .inl (.inl (.inl h))
    · cases h
      exact .inl (.inr ⟨rfl, rfl⟩)
    · exact .inl (.inl (.inr h))
    · cases h
      exact .inr ⟨rfl, rfl⟩
theorem valV_mem {kvs : List (Key × V)} {k : Key} {v : V} (h : valV kvs k = some v) : (k, v) ∈ kvs := by
  unfold valV at h
  obtain ⟨kv, h1, h2⟩ := Option.map_eq_some_iff.mp h
  have h3 := List.find?_some h1
  have h4 := List.mem_of_find?_eq_some h1
  have h5 : kv.1 = k := of_decide_eq_true h3
  rw [← h5, ← h2]
  exact h4
theorem valV_no {kvs : List (Key × V)} {k : Key} (h : valV kvs k = none) {v : V} : (k, v) ∉ kvs := fun hm => by
  have h1 : kvs.find? (fun kv => decide (kv.1 = k)) = none := by
    unfold valV at h
    exact Option.map_eq_none_iff.mp h
  have h2 := List.find?_eq_none.mp h1 _ hm
  simp at h2
theorem valV_of {kvs : List (Key × V)} {k : Key} {v : V} (nd : (kvs.map (·.1)).Nodup) (h : (k, v) ∈ kvs) : valV kvs k = some v := by
  cases e : valV kvs k with
  | none => exact absurd h (valV_no e)
  | some u =>
    have h1 := valV_mem e
    obtain ⟨i, hi⟩ := mem_get h
    obtain ⟨j, hj⟩ := mem_get h1
    have ei : (kvs.map (·.1))[i]? = some k := by rw [List.getElem?_map, hi]; rfl
    have ej : (kvs.map (·.1))[j]? = some k := by rw [List.getElem?_map, hj]; rfl
    obtain ⟨li, gi⟩ := List.getElem?_eq_some_iff.mp ei
    obtain ⟨lj, gj⟩ := List.getElem?_eq_some_iff.mp ej
    have eij : i = j := (List.getElem_inj nd).mp (gi.trans gj.symm)
    rw [eij, hj] at hi
    cases hi
    rfl
/-- .. the lists sorted, in a dict of their own -/
structure SB (Hl H2 : Hp) (D : Addr) (kvs new : List (Key × V)) (R : Str → Str → Prop) (i : Nat) : Prop where
  at_ : H2 D = some (.dK new)
  len : new.length = i
  val : ∀ (j : Nat) k v, new[j]? = some (k, v) → ∃ (x : Str) (a : Addr) (ys : List Str) (u : V), k = Sum.inr x ∧ kvs[j]? = some (k, u) ∧ v = V.ref a ∧ H2 a = some (.lst (ys.map V.str)) ∧ ∀ y, y ∈ ys ↔ R x y
  same : Same Hl H2
/-- a dict from rooms to lists of the rooms joined to them -/
def JAt (K : PySem.W.Frag) (H : Hp) (d : Addr) (ps : List (Str × Str)) : Prop := ∃ kvs, H d = some (.dK kvs) ∧ (∀ x v, valV kvs (Sum.inr x) = some v → ∃ (a : Addr) (xs : List Str), v = V.ref a ∧ H a = some (.lst (xs.map V.str)) ∧ ∀ y, y ∈ xs ↔ Adj ps x y) ∧ ∀ x, valV kvs (Sum.inr x) = none → ∀ y, ¬ Adj ps x y
def spJoined (K : PySem.W.Frag) : Sp := fun vs H Q _ => ∃ (c : Addr) (ps : List (Str × Str)), vs = [.ref c] ∧ PsAt K H c ps ∧ ps.length ≤ 31 ∧ ∀ H' d, Same H H' → JAt K H' d ps → Q (.ref d) H'
-- slots of joined_rooms: 0 corridors 1 found 2 one 3 other 4 room 5 near
theorem sc_joined_rooms : FnScope ["corridors", "found", "one", "other", "room", "near"] ["corridors"] (defScope s_joined_rooms) := ⟨rfl, rfl, rfl, by decide +kernel, rfl, by decide +kernel, by decide +kernel⟩
section
variable {P : Program} {w : World} {K : PySem.W.Frag} {mg : Str → Option Value} {base : Heap}
theorem ca_joined_rooms (T : Wd K mg base) : Ca P w K mg base 1 "joined_rooms" (spJoined K) [] := by
  obtain ⟨fd, F⟩ := T.L.F_joined_rooms
  refine ca_of F T.g_joined_rooms (F.binds (ps := ["corridors"]) fun _ _ _ _ _ _ us hl => match us, hl with | [_], _ => rfl) sc_joined_rooms (fun vs H Q E ⟨_, _, e, _⟩ => by rw [e]; rfl) ?_
  rintro cdv A outer s H vs Q E hr ⟨c, ps, rfl, ⟨xs, hx, hd⟩, hlen, k⟩
  refine ⟨_, (pss_cons (ps_set (i := 1) sc_joined_rooms.nd rfl (Or.inl rfl) pe_dnewK) (pss_cons (ps_for PassesOwn.never rfl (pi_seq (pv 0)) (pg_tup rfl (pgs_cons (pg_name (i := 2) sc_joined_rooms.nd rfl (Or.inl rfl)) (pgs_cons (pg_name (i := 3) sc_joined_rooms.nd rfl (Or.inl rfl)) pgs_nil))) (pss_cons (ps_expr (pe_bm PySem.F.plainAttrs_list PySem.F.slot_list_append PySem.F.type_list_append mt_append (pe_dsetd (pv 1) (pv 2) (pe_lst pa_nil) (by constructor <;> rfl)) (pa_cons (pv 3) pa_nil))) (pss_one (ps_expr (pe_bm PySem.F.plainAttrs_list PySem.F.slot_list_append PySem.F.type_list_append mt_append (pe_dsetd (pv 1) (pv 3) (pe_lst pa_nil) (by constructor <;> rfl)) (pa_cons (pv 2) pa_nil)))))) (pss_one (ps_ret (pe_lock (pe_dc (own := [("room", 4), ("near", 5)]) (g := gTup K 2 (gCons (gName 4) (gCons (gName 5) gNil))) rfl sc_joined_rooms.nd (pi_items (pv 1)) (blkOk_by (own := [("room", 4), ("near", 5)]) (N := ["corridors", "found", "one", "other", "room", "near"]) (sc := defScope s_joined_rooms) (by decide +kernel)) (fun _ _ _ _ _ => (pg_tup rfl (pgs_cons (pg_name (i := 4) sc_joined_rooms.nd rfl (Or.inl rfl)) (pgs_cons (pg_name (i := 5) sc_joined_rooms.nd rfl (Or.inl rfl)) pgs_nil)))) (fun _ _ _ _ _ => pts_nil) (fun _ _ _ _ _ => (pv 4)) (fun _ _ _ _ _ => (pe_callB (r := rSortedS K) cr_sortedS (by rfl) T.f_sorted (by decide +kernel) (pa_cons (pv 5) pa_nil))))))))), ?_⟩
  intro d0 hd0
  refine ⟨_, rfl, c, rfl, for_seq hx (fun i σ H' => ∃ kvs x y, σ = [some (.ref c), some (.ref d0), x, y, none, none] ∧ JB H H' d0 kvs (fun a b => Adj (ps.take i) a b) (2 * i)) ?_ ?_ ?_ ?_⟩
  · refine ⟨[], none, none, rfl, ⟨upd_same, hd0, Nat.le_refl _, (fun kv h => by cases h), List.nodup_nil, (fun x v h => by cases h), (fun x _ y h => ?_), (fun x y a h => by cases h), sm_new hd0⟩⟩
    simp [Adj] at h
  · rintro i σ' H' _ ⟨kvs, x, y, rfl, J⟩
    exact J.same
  · rintro i v σ' H' hi ⟨kvs, x, y, rfl, J⟩
    obtain ⟨p, t, hp, rfl, ht⟩ := PsAt.item hd hi
    have hip : i < ps.length := (List.getElem?_eq_some_iff.mp hp).1
    refine ⟨t, _, rfl, J.same.tup ht, rfl, ?_⟩
    refine ⟨_, _, rfl, _, _, rfl, rfl, ?_⟩
    refine jb_stmt J (by omega) rfl rfl rfl fun H2 kvs2 J2 => ?_
    refine jb_stmt J2 (by omega) rfl rfl rfl fun H3 kvs3 J3 => ?_
    exact ⟨kvs3, _, _, rfl, J3.congr (adj_snoc hp) (by omega)⟩
  · rintro σ' H' ⟨kvs, x, y, rfl, J⟩
    have e : xs.length = ps.length := by rw [DpAll.len hd, List.length_map]
    rw [e, List.take_length] at J
    refine ⟨d0, _, J.at_, trivial, fun od => ?_⟩
    refine ⟨_, rfl, d0, od, kvs, rfl, upd_same, fun D hD => ?_⟩
    have nDd : D ≠ d0 := fun q => by rw [q, upd_same] at hD; cases hD
    refine dc_it walk_items (fun i H2 => ∃ new, SB (upd H' d0 (.frz od (.dK kvs))) H2 D kvs new (fun a b => Adj ps a b) i) ⟨[], upd_same, rfl, (fun j k v h => by simp at h), sm_new hD⟩ (fun i H2 _ ⟨new, S⟩ => S.same _ _ upd_same) ?_ ?_
    · rintro i v H2 H3 hi ⟨new, S⟩ ⟨T0, k0, v0, rfl, hT, rfl, h1, h2⟩
      obtain ⟨⟨kk, vv⟩, hkv, rfl⟩ := Option.map_eq_some_iff.mp h1
      obtain rfl : vv = v0 := by
        have h3 : Option.map Prod.snd kvs[i]? = some v0 := h2
        rw [hkv] at h3
        exact Option.some.inj h3
      obtain ⟨r, hr0⟩ := J.txt _ (List.mem_of_getElem? hkv)
      cases hr0
      obtain ⟨a, ns, rfl, g1, g2, g3, g4, g5⟩ := J.val r vv (valV_of J.nd (List.mem_of_getElem? hkv))
      have ga : H2 a = some (.lst (ns.map V.str)) := S.same _ _ (by rw [upd_ne g1]; exact g3)
      have naT : a ≠ T0 := ne_of_none ga hT
      have nDT : D ≠ T0 := ne_of_none S.at_ hT
      refine ⟨T0, _, rfl, SqT.of upd_same, rfl, _, _, rfl, _, _, rfl, rfl, rfl, ?_⟩
      refine ⟨_, rfl, _, rfl, a, ns, rfl, SqL.of (by rw [upd_ne naT]; exact ga), by omega, fun ys p hperm _ hp => ?_⟩
      have npT : p ≠ T0 := fun q => by rw [q, upd_same] at hp; cases hp
      have npD : D ≠ p := ne_of_none (by rw [upd_ne nDT]; exact S.at_) hp
      have hnk : valV new (Sum.inr r) = none := by
        cases e2 : valV new (Sum.inr r) with
        | none => rfl
        | some u =>
          obtain ⟨j, hj⟩ := mem_get (valV_mem e2)
          obtain ⟨x', _, _, u', _, h5, _⟩ := S.val j _ _ hj
          have lj : j < i := by
            have := (List.getElem?_eq_some_iff.mp hj).1
            rw [S.len] at this
            exact this
          have ei : (kvs.map (·.1))[i]? = some (Sum.inr r) := by rw [List.getElem?_map, hkv]; rfl
          have ej : (kvs.map (·.1))[j]? = some (Sum.inr r) := by rw [List.getElem?_map, h5]; rfl
          obtain ⟨li, gi⟩ := List.getElem?_eq_some_iff.mp ei
          obtain ⟨lj2, gj⟩ := List.getElem?_eq_some_iff.mp ej
          have eij : i = j := (List.getElem_inj J.nd).mp (gi.trans gj.symm)
          omega
      refine ⟨new, .inr r, rfl, by rw [upd_ne npD, upd_ne nDT]; exact S.at_, ?_, putK new (.inr r) (.ref p), upd_same, ?_, ?_, ?_⟩
      · rw [S.len, sizeLine_eq]
        have := J.len
        omega
      · rw [putK_new _ hnk, List.length_append, S.len]
        rfl
      · intro j k v hj
        rw [putK_new _ hnk] at hj
        rcases get_app hj with hz | ⟨rfl, hz⟩
        · obtain ⟨x', a', ys', u', h5, h6, h7, h8, h9⟩ := S.val j k v hz
          have n1 : a' ≠ T0 := ne_of_none h8 hT
          have n2 : a' ≠ p := ne_of_none (by rw [upd_ne n1]; exact h8) hp
          have n3 : a' ≠ D := fun q => by rw [q, S.at_] at h8; cases h8
          exact ⟨x', a', ys', u', h5, h6, h7, by rw [upd_ne n3, upd_ne n2, upd_ne n1]; exact h8, h9⟩
        · cases hz
          rw [S.len]
          exact ⟨r, p, ys, _, rfl, hkv, rfl, by rw [upd_ne npD.symm, upd_same], fun y => (hperm.mem_iff).trans (g5 y)⟩
      · exact ((S.same.new hT).new hp).put hD
    · rintro H2 ⟨new, S⟩
      refine ⟨S.same _ _ upd_same, k _ D ?_ ⟨new, ?_, ?_, ?_⟩⟩
      · intro b o hb
        have nb : b ≠ d0 := ne_of_none hb hd0
        rw [upd_ne nb]
        exact S.same _ _ (by rw [upd_ne nb]; exact J.same _ _ hb)
      · rw [upd_ne nDd]
        exact S.at_
      · intro x v hv
        obtain ⟨j, hj⟩ := mem_get (valV_mem hv)
        obtain ⟨x', a', ys', u', h5, h6, h7, h8, h9⟩ := S.val j _ _ hj
        cases h5
        refine ⟨a', ys', h7, ?_, h9⟩
        have n3 : a' ≠ d0 := fun q => by
          rw [q, S.same _ _ upd_same] at h8
          cases h8
        rw [upd_ne n3]
        exact h8
      · intro x hx y hy
        refine J.no x ?_ y hy
        cases e2 : valV kvs (Sum.inr x) with
        | none => rfl
        | some u =>
          obtain ⟨j, hj⟩ := mem_get (valV_mem e2)
          have lj : j < new.length := by
            rw [S.len]
            exact (List.getElem?_eq_some_iff.mp hj).1
          obtain ⟨⟨k', v'⟩, hn⟩ : ∃ z, new[j]? = some z := ⟨_, List.getElem?_eq_getElem lj⟩
          obtain ⟨x', _, _, u', h5, h6, _⟩ := S.val j _ _ hn
          rw [hj] at h6
          cases h6
          exact absurd (List.mem_of_getElem? hn) (valV_no hx)
end
end Rd
/-! steps_from, reached_from. -/
namespace Rd
open PySem PySem.Spec PyProof.Rows L2 Gr
def optV : Option Str → V
  | none => .non
  | some x => .str x
/-- levels, as a dict's entries -/
def LvK (K : PySem.W.Frag) (H : Hp) : List (En Str) → List (Key × V) → Prop := Paired fun e kv => kv.1 = Sum.inr e.1 ∧ ∃ t, kv.2 = V.ref t ∧ SqT K H t [.int (e.2.1 : Nat), optV e.2.2]
/-- levels in the dict at f -/
def LvAt (K : PySem.W.Frag) (H : Hp) (f : Addr) (lv : List (En Str)) : Prop := ∃ kvs, H f = some (.dK kvs) ∧ LvK K H lv kvs
section
variable {K : PySem.W.Frag} {H H' : Hp}
theorem LvK.same (e : Same H H') : ∀ {lv : List (En Str)} {kvs : List (Key × V)}, LvK K H lv kvs → LvK K H' lv kvs
  | _, _, .nil => .nil
  | _, _, .cons ⟨h1, t, h2, h3⟩ r => .cons ⟨h1, t, h2, e.tup h3⟩ (LvK.same e r)
/-- what is no tuple may change -/
def Chg (o : Option HO) : Prop := o = none ∨ (∃ kvs, o = some (.dK kvs)) ∨ ∃ xs, o = some (.lst xs)
theorem sqT_put {a t : Addr} {o : HO} {ys : List V} (h : Chg (H a)) (s : SqT K H t ys) : SqT K (upd H a o) t ys := by
  have key : ∀ u, H t = some u → (∀ kvs, u ≠ .dK kvs) → (∀ xs, u ≠ .lst xs) → upd H a o t = some u := fun u e h1 h2 => by
    by_cases hta : t = a
    · subst hta
      rw [e] at h
      rcases h with h | ⟨kvs, h⟩ | ⟨xs, h⟩
      · cases h
      · exact absurd (Option.some.inj h) (h1 kvs)
      · exact absurd (Option.some.inj h) (h2 xs)
    · rw [upd_ne hta]
      exact e
  rcases s with (s | ⟨ob, s⟩) | s
  · exact .inl (.inl (key _ s (fun _ q => by cases q) (fun _ q => by cases q)))
  · exact .inl (.inr ⟨ob, key _ s (fun _ q => by cases q) (fun _ q => by cases q)⟩)
  · exact .inr s
theorem LvK.put {a : Addr} {o : HO} (h : Chg (H a)) : ∀ {lv : List (En Str)} {kvs : List (Key × V)}, LvK K H lv kvs → LvK K (upd H a o) lv kvs
  | _, _, .nil => .nil
  | _, _, .cons ⟨h1, t, h2, h3⟩ r => .cons ⟨h1, t, h2, sqT_put h h3⟩ (LvK.put h r)
theorem LvK.keys : ∀ {lv : List (En Str)} {kvs : List (Key × V)}, LvK K H lv kvs → kvs.map (·.1) = (lv.map (·.1)).map Sum.inr
  | _, _, .nil => rfl
  | _, _, .cons ⟨h1, _⟩ r => by
    rw [List.map_cons, List.map_cons, List.map_cons, h1, LvK.keys r]
theorem LvK.len {lv : List (En Str)} {kvs : List (Key × V)} (h : LvK K H lv kvs) : kvs.length = lv.length := (Paired.length h).symm
theorem LvK.snoc {e : En Str} {kv : Key × V} (h1 : kv.1 = Sum.inr e.1) {t : Addr} (h2 : kv.2 = V.ref t) (h3 : SqT K H t [.int (e.2.1 : Nat), optV e.2.2]) : ∀ {lv : List (En Str)} {kvs : List (Key × V)}, LvK K H lv kvs → LvK K H (lv ++ [e]) (kvs ++ [kv])
  | _, _, .nil => .cons ⟨h1, t, h2, h3⟩ .nil
  | _, _, .cons h r => .cons h (LvK.snoc h1 h2 h3 r)
theorem LvK.mem : ∀ {lv : List (En Str)} {kvs : List (Key × V)} {e : En Str}, LvK K H lv kvs → e ∈ lv → ∃ t, (Sum.inr e.1, V.ref t) ∈ kvs ∧ SqT K H t [.int (e.2.1 : Nat), optV e.2.2]
  | _, _, e, .cons ⟨h1, t, h2, h3⟩ r, h => by
    rcases List.mem_cons.mp h with rfl | h
    · refine ⟨t, ?_, h3⟩
      rw [← h1, ← h2]
      exact List.mem_cons_self
    · obtain ⟨t', h4, h5⟩ := LvK.mem r h
      exact ⟨t', List.mem_cons_of_mem _ h4, h5⟩
theorem inr_nodup {l : List Str} (h : l.Nodup) : (l.map (Sum.inr : Str → Key)).Nodup := by
  induction l with
  | nil => exact List.nodup_nil
  | cons x l ih =>
    obtain ⟨h1, h2⟩ := List.nodup_cons.mp h
    rw [List.map_cons, List.nodup_cons]
    refine ⟨fun hm => ?_, ih h2⟩
    obtain ⟨y, hy, e⟩ := List.mem_map.mp hm
    cases e
    exact h1 hy
theorem LvK.val {lv : List (En Str)} {kvs : List (Key × V)} (h : LvK K H lv kvs) (nd : (lv.map (·.1)).Nodup) {x : Str} {d : Nat} {q : Option Str} (hm : (x, d, q) ∈ lv) : ∃ t, valV kvs (Sum.inr x) = some (V.ref t) ∧ SqT K H t [.int (d : Nat), optV q] := by
  obtain ⟨t, h1, h2⟩ := LvK.mem h hm
  exact ⟨t, valV_of (by rw [LvK.keys h]; exact inr_nodup nd) h1, h2⟩
theorem LvK.no {lv : List (En Str)} {kvs : List (Key × V)} (h : LvK K H lv kvs) {x : Str} (hx : x ∉ lv.map (·.1)) : valV kvs (Sum.inr x) = none := by
  cases e : valV kvs (Sum.inr x) with
  | none => rfl
  | some v =>
    have h1 := valV_mem e
    have h2 : (Sum.inr x : Key) ∈ kvs.map (·.1) := List.mem_map.mpr ⟨_, h1, rfl⟩
    rw [LvK.keys h] at h2
    obtain ⟨y, hy, e2⟩ := List.mem_map.mp h2
    cases e2
    exact absurd hy hx
theorem LvAt.same {f : Addr} {lv : List (En Str)} (e : Same H H') : LvAt K H f lv → LvAt K H' f lv := fun ⟨kvs, h1, h2⟩ => ⟨kvs, e _ _ h1, h2.same e⟩
end
theorem mono_cb {r : List V → Hp → VK → Prop} {t : TA} (ht : ∀ σ H (Q Q' : List V → Hp → Prop), (∀ v H', Q v H' → Q' v H') → t σ H Q → t σ H Q') (hr : ∀ vs H (Q Q' : VK), (∀ v H', Q v H' → Q' v H') → r vs H Q → r vs H Q') :
    ∀ (σ : L2.St) (H : Hp) (Q Q' : VK), (∀ v H', Q v H' → Q' v H') → tCB r t σ H Q → tCB r t σ H Q' := fun σ H Q Q' h q => ht σ H _ _ (fun vs H1 q1 => hr vs H1 _ _ h q1) q
theorem mono_cons1 {ta : TE} (ha : ∀ σ H (Q Q' : VK), (∀ v H', Q v H' → Q' v H') → ta σ H Q → ta σ H Q') : ∀ (σ : L2.St) (H : Hp) (Q Q' : List V → Hp → Prop), (∀ v H', Q v H' → Q' v H') → tCons ta tNil σ H Q → tCons ta tNil σ H Q' :=
  fun σ H Q Q' h q => ha σ H _ _ (fun x H1 q1 => h _ _ q1) q
theorem mergeK_one (k : Key) (v : V) : mergeK [] [(k, v)] = [(k, v)] := by simp [mergeK, putK]
/-- steps_from: levels -/
def spSteps (K : PySem.W.Frag) : Sp := fun vs H Q _ => ∃ (x : Str) (c e : Addr) (ps : List (Str × Str)), vs = [.str x, .ref c, .ref e] ∧ PsAt K H c ps ∧ SqT K H e [] ∧ ps.length ≤ 31 ∧ ∀ H' f lv, Same H H' → LvAt K H' f lv → Lv ps x lv → Q (.ref f) H'
-- slots of steps_from: 0 start 1 corridors 2 closed_rooms 3 joined 4 found 5 waiting 6 at 7 room 8 other
theorem sc_steps_from : FnScope ["start", "corridors", "closed_rooms", "joined", "found", "waiting", "at", "room", "other"] ["start", "corridors", "closed_rooms"] (defScope s_steps_from) := ⟨rfl, rfl, rfl, by decide +kernel, rfl, by decide +kernel, by decide +kernel⟩
section
variable {P : Program} {w : World} {K : PySem.W.Frag} {mg : Str → Option Value} {base : Heap}
theorem fn_steps_from (T : Wd K mg base) : ∃ fd, FunD K d_steps_from.name d_steps_from.qual d_steps_from.params d_steps_from.body d_steps_from.scope (d_steps_from.dvs K) (d_steps_from.kws K) (d_steps_from.at_ K) fd ∧ FnOk P w K mg base CX0 2 (He.ga K "steps_from") fd ["start", "corridors", "closed_rooms"] (spSteps K) := by
  obtain ⟨fd, F⟩ := T.L.fd_steps_from
  refine ⟨fd, F, F.ok sc_steps_from (fun vs H Q E ⟨_, _, _, _, e, _⟩ => by rw [e]; rfl) ?_⟩
  rintro cdv A outer s H vs Q E hr ⟨x, c, e, ps, rfl, hps, he, hlen, k⟩
  refine ⟨_, PSs.nox (pss_cons (ps_set (i := 3) sc_steps_from.nd rfl (Or.inl rfl) (pe_ca (ca_joined_rooms T) hr (by decide) rfl (pa_cons (pv 1) pa_nil))) (pss_cons (ps_set (i := 4) sc_steps_from.nd rfl (Or.inl rfl) (pe_disp (pps_cons (pv 0) (pe_tup (pa_cons pe_int (pa_cons pe_non pa_nil))) pps_nil) (by rfl) (by rfl) (fun z => by cases z) (by decide))) (pss_cons (ps_set (i := 5) sc_steps_from.nd rfl (Or.inl rfl) (pe_lst (pa_cons (pv 0) pa_nil))) (pss_cons (ps_set (i := 6) sc_steps_from.nd rfl (Or.inl rfl) pe_int) (pss_cons (ps_while PassesOwn.never (pt_cmpR op_lt (pv 6) (pe_callB (call_len) (by rfl) T.f_len (by decide +kernel) (pa_cons (pv 5) pa_nil)) (by rfl)) (pss_cons (ps_set (i := 7) sc_steps_from.nd rfl (Or.inl rfl) (pe_ix ix_list (pv 5) (pv 6) (fun _ _ => rfl))) (pss_cons (ps_for PassesOwn.never rfl (pi_list (pe_dget2 (hu_of hr) (pv 3) (pv 7) (pe_lst pa_nil) (by constructor <;> rfl))) (pg_name (i := 8) sc_steps_from.nd rfl (Or.inl rfl)) (pss_one (ps_if (PW.pt (pw_and (pt_cmp (pc_dnotin (hu_of hr) (pv 8) (pv 4))) (pw_and1 (pt_cmpR op_notIn_seq (pv 8) (pv 2) (by rfl))))) (pss_cons (ps_dput (hu_of hr) (pv 4) (pv 8) (pe_tup (pa_cons (pe_op op_add (pe_ix ix_tup (pe_dget (hu_of hr) (pv 4) (pv 7) (fun _ _ => rfl)) pe_int (fun _ _ => rfl)) pe_int) (pa_cons (pv 7) pa_nil))) rfl) (pss_one (ps_expr (pe_bm PySem.F.plainAttrs_list PySem.F.slot_list_append PySem.F.type_list_append mt_append (pv 5) (pa_cons (pv 8) pa_nil))))) pss_nil))) (pss_one (ps_aug (i := 6) sc_steps_from.nd rfl (Or.inl rfl) pe_int ip_add))))) (pss_one (ps_ret (pv 4)))))))), ?_⟩
  refine ⟨_, rfl, c, ps, rfl, hps, hlen, fun H1 j s1 ⟨jk, hjk, jv, jn⟩ => ?_⟩
  -- found, waiting
  intro f hf
  refine ⟨_, rfl, Nat.le_of_ble_eq_true rfl, fun t ht => ?_⟩
  have nft : f ≠ t := fun q => by rw [← q, upd_same] at ht; cases ht
  have ht0 : H1 t = none := by rw [upd_ne nft.symm] at ht; exact ht
  refine ⟨by rw [upd_ne nft, upd_same], [(Sum.inr x, V.ref t)], rfl, Nat.le_of_ble_eq_true rfl, ?_⟩
  rw [mergeK_one]
  refine ⟨_, rfl, Nat.le_of_ble_eq_true rfl, fun wt hw => ?_⟩
  have nwf : wt ≠ f := fun q => by rw [q, upd_same] at hw; cases hw
  have nwt : wt ≠ t := fun q => by rw [q, upd_ne nft.symm, upd_same] at hw; cases hw
  have hw0 : H1 wt = none := by rw [upd_ne nwf, upd_ne nwt, upd_ne nwf] at hw; exact hw
  have sStart : Same H1 (upd (upd (upd (upd H1 f (.dK [])) t (.tup [.int 0, .non])) f (.dK [(Sum.inr x, V.ref t)])) wt (.lst [.str x])) := (((Same.refl H1).put hf).put ht0).put hf |>.put hw0
  refine while_by (fun σ H' => ∃ (lv : List (En Str)) (i : Nat) (kvs : List (Key × V)) (a b : Option V), σ = [some (.str x), some (.ref c), some (.ref e), some (.ref j), some (.ref f), some (.ref wt), some (.int (i : Nat)), a, b] ∧ BI ps x lv i [] ∧ i ≤ lv.length ∧
      H' f = some (.dK kvs) ∧ LvK K H' lv kvs ∧ H' wt = some (.lst ((lv.map (·.1)).map V.str)) ∧ Same H1 H')
    (fun σ _ => match σ with | [_, _, _, _, _, _, some (.int i), _, _] => 2 * ps.length + 2 - i.toNat | _ => 0) ?_ ?_ (mono_test mono_var (mono_cb (mono_cons1 mono_var) (fun vs H Q Q' h q => ?_)) (fun _ _ _ _ _ h q => ?_))
  · refine ⟨[(x, 0, none)], 0, [(Sum.inr x, V.ref t)], none, none, rfl, BI.start, Nat.zero_le _, ?_, ?_, upd_same, sStart⟩
    · rw [upd_ne nwf.symm]
      exact upd_same
    · refine .cons ⟨rfl, t, rfl, SqT.of ?_⟩ .nil
      rw [upd_ne nwt.symm, upd_ne nft.symm, upd_same]
      rfl
  · rintro σ H' ⟨lv, i, kvs, a, b, rfl, B, hi, hf', hl, hw', ss⟩
    refine ⟨_, rfl, _, rfl, .ref wt, lv.length, rfl, .inl ⟨_, SqL.of hw', by rw [List.length_map, List.length_map]⟩, _, _, rfl, rfl, _, rfl, ?_⟩
    by_cases hlt : (i : Int) < (lv.length : Int)
    · rw [decide_eq_true hlt]
      refine iteT ?_
      obtain ⟨⟨r, d, q⟩, hr0⟩ : ∃ en, lv[i]? = some en := ⟨_, List.getElem?_eq_getElem (by omega)⟩
      have hri : ((lv.map (·.1)).map V.str)[i]? = some (.str r) := by rw [List.getElem?_map, List.getElem?_map, hr0]; rfl
      refine ⟨_, rfl, _, rfl, wt, _, (i : Int), .str r, rfl, rfl, SqL.of hw', atI_nat hri, ?_⟩
      -- the neighbours
      refine ⟨_, rfl, j, rfl, .inl ⟨jk, .of (ss _ _ hjk)⟩, _, rfl, Nat.zero_le _, fun p hp => ?_⟩
      have npj : j ≠ p := ne_of_none (ss _ _ hjk) hp
      have npf : f ≠ p := ne_of_none hf' hp
      have npw : wt ≠ p := ne_of_none hw' hp
      refine ⟨valV jk (Sum.inr r), DGet.k (k := Sum.inr r) (by rw [upd_ne npj]; exact ss _ _ hjk), ?_⟩
      obtain ⟨bl, ns, hbl, hbs, hbf, hbw, hns⟩ : ∃ (bl : Addr) (ns : List Str), (valV jk (Sum.inr r)).getD (V.ref p) = V.ref bl ∧ (upd H' p (.lst [])) bl = some (.lst (ns.map V.str)) ∧ bl ≠ f ∧ bl ≠ wt ∧ ∀ y, y ∈ ns ↔ Adj ps r y := by
        cases e1 : valV jk (Sum.inr r) with
        | none => exact ⟨p, [], rfl, upd_same, npf.symm, npw.symm, fun y => ⟨(fun h => by cases h), fun h => absurd h (jn r e1 y)⟩⟩
        | some v =>
          obtain ⟨bl, ns, rfl, h1, h2⟩ := jv r v e1
          have h3 := ss _ _ h1
          exact ⟨bl, ns, rfl, by rw [upd_ne (ne_of_none h3 hp)]; exact h3, ne_of_none h1 hf, ne_of_none h1 hw0, h2⟩
      refine ⟨bl, hbl, ⟨_, SqL.of hbs⟩, for_list (K := K) (a := bl) (xs := ns.map V.str) (fun m σ H2 => ∃ (lv' : List (En Str)) (kvs' : List (Key × V)) (b : Option V),
        σ = [some (.str x), some (.ref c), some (.ref e), some (.ref j), some (.ref f), some (.ref wt), some (.int (i : Nat)), some (.str r), b] ∧ BI ps x lv' i (ns.take m) ∧ lv'[i]? = some (r, d, q) ∧
          H2 f = some (.dK kvs') ∧ LvK K H2 lv' kvs' ∧ H2 wt = some (.lst ((lv'.map (·.1)).map V.str)) ∧ H2 bl = some (.lst (ns.map V.str)) ∧ Same H1 H2) ?_ (fun m σ H2 _ ⟨_, _, _, _, _, _, _, _, _, h, _⟩ => SqL.of h) ?_ ?_⟩
      · refine ⟨lv, kvs, b, rfl, B, hr0, by rw [upd_ne npf]; exact hf', hl.same (sm_new hp), by rw [upd_ne npw]; exact hw', hbs, ss.new hp⟩
      · rintro m v σ H2 hm ⟨lv', kvs', b', rfl, B', hr', hf2, hl2, hw2, hb2, ss2⟩
        obtain ⟨y, hy, rfl⟩ := map_get hm
        have hadj : Adj ps r y := (hns y).mp (List.mem_of_getElem? hy)
        refine ⟨_, rfl, _, rfl, f, _, rfl, DGet.k (k := Sum.inr y) hf2, _, rfl, ?_⟩
        by_cases hseen : y ∈ lv'.map (·.1)
        · obtain ⟨⟨y', d', q'⟩, h1, h2⟩ := List.mem_map.mp hseen
          cases h2
          obtain ⟨t', h3, _⟩ := hl2.val B'.nd h1
          rw [h3]
          refine iteF ?_
          exact ⟨lv', kvs', _, rfl, by rw [take_snoc hy]; exact B'.seen hr' hseen, hr', hf2, hl2, hw2, hb2, ss2⟩
        · rw [hl2.no hseen]
          refine iteT ⟨_, rfl, _, rfl, e, [], rfl, .inr ((s1.trans ss2).tup he), rfl, rfl, _, rfl, ?_⟩
          refine iteT ?_
          obtain ⟨t', h3, h4⟩ := hl2.val B'.nd (List.mem_of_getElem? hr')
          refine ⟨_, rfl, _, rfl, f, _, rfl, .inl ⟨kvs', Sum.inr r, .inl hf2, rfl, h3.symm⟩, t', _, (0 : Int), .int (d : Nat), rfl, rfl, h4, rfl, _, _, rfl, rfl, _, rfl, Nat.le_of_ble_eq_true rfl, fun u hu => ?_⟩
          have nfu : f ≠ u := ne_of_none hf2 hu
          have nwu : wt ≠ u := ne_of_none hw2 hu
          have nbu : bl ≠ u := ne_of_none hb2 hu
          have hlen2 : lv'.length ≤ 63 := by have := B'.len; omega
          refine ⟨_, rfl, _, rfl, f, _, rfl, DPut.k (k := Sum.inr y) (by rw [upd_ne nfu]; exact hf2) (by rw [hl2.len, sizeLine_eq]; omega), ?_⟩
          refine ⟨_, rfl, .inl ⟨rfl, _, SqL.of (by rw [upd_ne nwf, upd_ne nwu]; exact hw2)⟩, _, rfl, wt, _, _, rfl, rfl, by rw [upd_ne nwf, upd_ne nwu]; exact hw2, by rw [List.length_map, List.length_map, sizeLine_eq]; omega, ?_⟩
          refine ⟨lv' ++ [(y, d + 1, some r)], putK kvs' (Sum.inr y) (.ref u), _, rfl, by rw [take_snoc hy]; exact B'.add hr' hseen hadj, get_old hr', by rw [upd_ne nwf.symm, upd_same], ?_, ?_, ?_, ?_⟩
          · rw [putK_new _ (hl2.no hseen)]
            have nuf : u ≠ f := nfu.symm
            have nuw : u ≠ wt := nwu.symm
            have l1 : LvK K (upd H2 u (.tup [.int ((d : Int) + 1), .str r])) (lv' ++ [(y, d + 1, some r)]) (kvs' ++ [(Sum.inr y, V.ref u)]) := LvK.snoc (e := (y, d + 1, some r)) (kv := (Sum.inr y, V.ref u)) rfl rfl (SqT.of upd_same) (hl2.same (sm_new hu))
            refine (l1.put (a := f) (by rw [upd_ne nfu]; exact .inr (.inl ⟨_, hf2⟩))).put (a := wt) ?_
            rw [upd_ne nwf, upd_ne nwu]
            exact .inr (.inr ⟨_, hw2⟩)
          · rw [upd_same, List.map_append, List.map_append]
            rfl
          · rw [upd_ne hbw, upd_ne hbf, upd_ne nbu]
            exact hb2
          · exact ((ss2.new hu).put hf).put hw0
      · rintro σ H2 ⟨lv', kvs', b', rfl, B', hr', hf2, hl2, hw2, hb2, ss2⟩
        refine ⟨_, rfl, _, _, rfl, rfl, ?_⟩
        rw [List.length_map, List.take_length] at B'
        refine ⟨⟨lv', i + 1, kvs', _, _, rfl, B'.next hr' (fun y hy => (hns y).mpr hy), (List.getElem?_eq_some_iff.mp hr').1, hf2, hl2, hw2, ss2⟩, ?_⟩
        have := B'.len
        have := (List.getElem?_eq_some_iff.mp hr').1
        show 2 * ps.length + 2 - ((i : Int) + 1).toNat < 2 * ps.length + 2 - (i : Int).toNat
        omega
    · rw [decide_eq_false hlt]
      refine iteF ?_
      exact ⟨_, rfl, k _ f lv (s1.trans ss) ⟨kvs, hf', hl⟩ (B.stop (by omega))⟩
  · obtain ⟨z, n, e1, e2, e3⟩ := q
    exact ⟨z, n, e1, e2, h _ _ e3⟩
  · obtain ⟨a, b, e1, e2, e3⟩ := q
    exact ⟨a, b, e1, e2, h _ _ e3⟩
theorem ca_steps_from (T : Wd K mg base) : Ca P w K mg base 2 "steps_from" (spSteps K) [] := by
  obtain ⟨fd, F, G⟩ := fn_steps_from (P := P) (w := w) T
  obtain ⟨ds, hv, hb⟩ := F.binds1 (ps := ["start", "corridors", "closed_rooms"]) 3 1 (by intro e; cases e) rfl fun T kV doc pm an cdv ct us its hu hi => match us, hu, its, hi with | [_, _, _], _, [_], _ => ⟨_, rfl, rfl⟩
  cases hv
  exact ⟨_, fd, _, [], G, T.g_steps_from, F.kp, hb, .nil⟩
theorem ca_steps_from2 (T : Wd K mg base) : Ca P w K mg base 2 "steps_from" (spSteps K) [.ref (He.dflAt ("steps_from", none) 0 K)] := by
  obtain ⟨fd, F, G⟩ := fn_steps_from (P := P) (w := w) T
  obtain ⟨ds, hv, hb⟩ := F.binds1 (ps := ["start", "corridors", "closed_rooms"]) 2 0 (by intro e; cases e) rfl fun T kV doc pm an cdv ct us its hu hi => match us, hu, its, hi with | [_, _], _, [_], _ => ⟨_, rfl, rfl⟩
  exact ⟨_, fd, _, ds, G, T.g_steps_from, F.kp, hb, hv⟩
end
end Rd
/-! Graphs: joined by a walk; two sides. Plain Lean. -/
namespace Gr
section
variable {α : Type} [DecidableEq α]
/-- joined by a walk -/
inductive Conn (ps : List (α × α)) (x : α) : α → Prop
  | refl : Conn ps x x
  | step {y z : α} : Conn ps x y → Adj ps y z → Conn ps x z
variable {ps : List (α × α)} {s x y z : α} {lv : List (En α)}
theorem Conn.trans (a : Conn ps x y) (b : Conn ps y z) : Conn ps x z := by
  induction b with
  | refl => exact a
  | step _ h ih => exact ih.step h
theorem Conn.symm (a : Conn ps x y) : Conn ps y x := by
  induction a with
  | refl => exact .refl
  | step _ h ih => exact (Conn.refl.step h.symm).trans ih
theorem Conn.mono {qs : List (α × α)} (h : ∀ p ∈ ps, p ∈ qs) (a : Conn ps x y) : Conn qs x y := by
  induction a with
  | refl => exact .refl
  | step _ e ih => exact ih.step (e.elim (fun e => .inl (h _ e)) fun e => .inr (h _ e))
theorem Lv.all (l : Lv ps s lv) (c : Conn ps s x) : ∃ d q, (x, d, q) ∈ lv := by
  induction c with
  | refl => exact ⟨0, none, List.mem_of_getElem? l.head⟩
  | step _ h ih =>
    obtain ⟨d, q, h1⟩ := ih
    obtain ⟨d', q', h2, _⟩ := l.closed _ _ _ _ h1 h
    exact ⟨d', q', h2⟩
theorem Lv.up (l : Lv ps s lv) : ∀ (n i : Nat), i ≤ n → ∀ x d q, lv[i]? = some (x, d, q) → Conn ps s x ∧ (d = 0 → x = s ∧ q = none) := by
  intro n
  induction n with
  | zero =>
    intro i hi x d q h
    have e : i = 0 := Nat.le_zero.mp hi
    rw [e, l.head] at h
    cases h
    exact ⟨.refl, fun _ => ⟨rfl, rfl⟩⟩
  | succ n ih =>
    intro i hi x d q h
    cases i with
    | zero =>
      rw [l.head] at h
      cases h
      exact ⟨.refl, fun _ => ⟨rfl, rfl⟩⟩
    | succ i =>
      obtain ⟨p, dp, qp, j, h1, h2, h3, h4, h5⟩ := l.par i x d q h
      exact ⟨(ih j (by omega) p dp qp h2).1.step h5, fun e => by omega⟩
theorem Lv.conn (l : Lv ps s lv) {d : Nat} {q : Option α} (h : (x, d, q) ∈ lv) : Conn ps s x := by
  obtain ⟨i, hi⟩ := mem_get h
  exact (l.up i i (Nat.le_refl _) _ _ _ hi).1
theorem en_one (nd : (lv.map (·.1)).Nodup) {d d' : Nat} {q q' : Option α} (h : (x, d, q) ∈ lv) (h' : (x, d', q') ∈ lv) : d = d' ∧ q = q' := by
  obtain ⟨i, hi⟩ := mem_get h
  obtain ⟨j, hj⟩ := mem_get h'
  have ei : (lv.map (·.1))[i]? = some x := by rw [List.getElem?_map, hi]; rfl
  have ej : (lv.map (·.1))[j]? = some x := by rw [List.getElem?_map, hj]; rfl
  obtain ⟨li, gi⟩ := List.getElem?_eq_some_iff.mp ei
  obtain ⟨lj, gj⟩ := List.getElem?_eq_some_iff.mp ej
  have eij : i = j := (List.getElem_inj nd).mp (gi.trans gj.symm)
  rw [eij, hj] at hi
  cases hi
  exact ⟨rfl, rfl⟩
theorem Lv.one (l : Lv ps s lv) {d d' : Nat} {q q' : Option α} (h : (x, d, q) ∈ lv) (h' : (x, d', q') ∈ lv) : d = d' ∧ q = q' := en_one l.nd h h'
/-- the room above -/
theorem Lv.parent (l : Lv ps s lv) {d : Nat} {q : Option α} (h : (x, d, q) ∈ lv) : (d = 0 ∧ x = s ∧ q = none) ∨ ∃ p dp qp, (p, dp, qp) ∈ lv ∧ q = some p ∧ d = dp + 1 ∧ Adj ps p x := by
  obtain ⟨i, hi⟩ := mem_get h
  cases i with
  | zero =>
    rw [l.head] at hi
    cases hi
    exact .inl ⟨rfl, rfl, rfl⟩
  | succ i =>
    obtain ⟨p, dp, qp, j, h1, h2, h3, h4, h5⟩ := l.par i x d q hi
    exact .inr ⟨p, dp, qp, List.mem_of_getElem? h2, h3, h4, h5⟩
/-- two sides: a colour that changes along every pair -/
def Col (ps : List (α × α)) (c : α → Bool) : Prop := ∀ p ∈ ps, c p.1 ≠ c p.2
theorem Col.adj {c : α → Bool} (h : Col ps c) (a : Adj ps x y) : c y = !c x := by
  rcases a with a | a
  · have := h _ a
    simp at this
    cases e1 : c x <;> cases e2 : c y <;> simp [e1, e2] at this ⊢
  · have := h _ a
    simp at this
    cases e1 : c x <;> cases e2 : c y <;> simp [e1, e2] at this ⊢
theorem Lv.color (l : Lv ps s lv) {c : α → Bool} (hc : Col ps c) : ∀ (n i : Nat), i ≤ n → ∀ x d q, lv[i]? = some (x, d, q) → c x = (c s != decide (d % 2 = 1)) := by
  intro n
  induction n with
  | zero =>
    intro i hi x d q h
    have e : i = 0 := Nat.le_zero.mp hi
    rw [e, l.head] at h
    cases h
    simp
  | succ n ih =>
    intro i hi x d q h
    cases i with
    | zero =>
      rw [l.head] at h
      cases h
      simp
    | succ i =>
      obtain ⟨p, dp, qp, j, h1, h2, h3, h4, h5⟩ := l.par i x d q h
      have e := ih j (by omega) p dp qp h2
      rw [hc.adj h5, e, h4]
      rcases Nat.mod_two_eq_zero_or_one dp with h6 | h6
      · have h7 : (dp + 1) % 2 = 1 := by omega
        simp [h6, h7]
      · have h7 : (dp + 1) % 2 = 0 := by omega
        simp [h6, h7]
/-- a pair on one level -/
def Level (lv : List (En α)) (p : α × α) : Prop := ∃ d q r, (p.1, d, q) ∈ lv ∧ (p.2, d, r) ∈ lv
theorem Lv.odd (l : Lv ps s lv) {p : α × α} (hp : p ∈ ps) (h : Level lv p) (c : α → Bool) : ¬ Col ps c := fun hc => by
  obtain ⟨d, q, r, h1, h2⟩ := h
  obtain ⟨i, hi⟩ := mem_get h1
  obtain ⟨j, hj⟩ := mem_get h2
  exact hc p hp ((l.color hc i i (Nat.le_refl _) _ _ _ hi).trans (l.color hc j j (Nat.le_refl _) _ _ _ hj).symm)
/-- the depth of a room -/
def depth (lv : List (En α)) (x : α) : Nat := match lv.find? fun e => decide (e.1 = x) with
  | some e => e.2.1
  | none => 0
theorem Lv.dep (l : Lv ps s lv) {d : Nat} {q : Option α} (h : (x, d, q) ∈ lv) : depth lv x = d := by
  unfold depth
  cases e : lv.find? fun e => decide (e.1 = x) with
  | none =>
    have := List.find?_eq_none.mp e _ h
    simp at this
  | some en =>
    obtain ⟨x', d', q'⟩ := en
    have h1 := List.mem_of_find?_eq_some e
    have h2 : x' = x := by
      have h3 := List.find?_some e
      exact of_decide_eq_true h3
    rw [h2] at h1
    exact (l.one h1 h).1
theorem Lv.even (l : Lv ps s lv) (hk : ∀ p ∈ ps, ∃ d q, (p.1, d, q) ∈ lv) (h : ∀ p ∈ ps, ¬ Level lv p) : Col ps fun x => decide (depth lv x % 2 = 0) := fun p hp => by
  obtain ⟨d, q, h1⟩ := hk p hp
  obtain ⟨d', q', h2, h3⟩ := l.closed _ _ _ p.2 h1 (.inl hp)
  obtain ⟨d'', q'', h4, h5⟩ := l.closed _ _ _ p.1 h2 (.inr hp)
  obtain ⟨e1, _⟩ := l.one h1 h4
  have hne : d ≠ d' := fun e => h p hp ⟨d, q, q', h1, by rw [e]; exact h2⟩
  show decide (depth lv p.1 % 2 = 0) ≠ decide (depth lv p.2 % 2 = 0)
  rw [l.dep h1, l.dep h2]
  intro e
  have e2 := decide_eq_decide.mp e
  omega
end
end Gr
/-! reached_from, level_corridor, sides_of. -/
namespace Rd
open PySem PySem.Spec PyProof.Rows L2 Gr
/-! ### reached_from -/
def spReached (K : PySem.W.Frag) : Sp := fun vs H Q _ => ∃ (x : Str) (c e : Addr) (ps : List (Str × Str)), vs = [.str x, .ref c, .ref e] ∧ PsAt K H c ps ∧ SqT K H e [] ∧ ps.length ≤ 31 ∧ ∀ H' p lv, Same H H' → H' p = some (.lst ((lv.map (·.1)).map V.str)) → Lv ps x lv → Q (.ref p) H'
-- slots of reached_from: 0 start 1 corridors 2 closed_rooms
theorem sc_reached_from : FnScope ["start", "corridors", "closed_rooms"] ["start", "corridors", "closed_rooms"] (defScope s_reached_from) := ⟨rfl, rfl, rfl, by decide +kernel, rfl, by decide +kernel, by decide +kernel⟩
section
variable {P : Program} {w : World} {K : PySem.W.Frag} {mg : Str → Option Value} {base : Heap}
theorem fn_reached_from (T : Wd K mg base) : ∃ fd, FunD K d_reached_from.name d_reached_from.qual d_reached_from.params d_reached_from.body d_reached_from.scope (d_reached_from.dvs K) (d_reached_from.kws K) (d_reached_from.at_ K) fd ∧ FnOk P w K mg base CX0 3 (He.ga K "reached_from") fd ["start", "corridors", "closed_rooms"] (spReached K) := by
  obtain ⟨fd, F⟩ := T.L.fd_reached_from
  refine ⟨fd, F, F.ok sc_reached_from (fun vs H Q E ⟨_, _, _, _, e, _⟩ => by rw [e]; rfl) ?_⟩
  rintro cdv A outer s H vs Q E hr ⟨x, c, e, ps, rfl, hps, he, hlen, k⟩
  refine ⟨_, PSs.nox (pss_one (ps_ret (pe_callTy (call_listD rfl) (by rfl) T.f_list (by decide +kernel) (pa_cons (pe_ca (ca_steps_from T) hr (by decide) rfl (pa_cons (pv 0) (pa_cons (pv 1) (pa_cons (pv 2) pa_nil)))) pa_nil)))), ?_⟩
  refine ⟨_, rfl, _, rfl, _, rfl, x, c, e, ps, rfl, hps, he, hlen, fun H1 f lv s1 ⟨kvs, hf, hl⟩ L => ?_⟩
  refine ⟨f, kvs, rfl, .of hf, fun p hp => k _ p lv (s1.new hp) ?_ L⟩
  rw [upd_same]
  have e : kvs.map (fun kv => kV kv.1) = (lv.map (·.1)).map V.str := by
    have := congrArg (List.map kV) hl.keys
    rw [List.map_map, List.map_map] at this
    exact this
  rw [e]
theorem ca_reached_from (T : Wd K mg base) : Ca P w K mg base 3 "reached_from" (spReached K) [] := by
  obtain ⟨fd, F, G⟩ := fn_reached_from (P := P) (w := w) T
  obtain ⟨ds, hv, hb⟩ := F.binds1 (ps := ["start", "corridors", "closed_rooms"]) 3 1 (by intro e; cases e) rfl fun T kV doc pm an cdv ct us its hu hi => match us, hu, its, hi with | [_, _, _], _, [_], _ => ⟨_, rfl, rfl⟩
  cases hv
  exact ⟨_, fd, _, [], G, T.g_reached_from, F.kp, hb, .nil⟩
theorem ca_reached_from2 (T : Wd K mg base) : Ca P w K mg base 3 "reached_from" (spReached K) [.ref (He.dflAt ("reached_from", none) 0 K)] := by
  obtain ⟨fd, F, G⟩ := fn_reached_from (P := P) (w := w) T
  obtain ⟨ds, hv, hb⟩ := F.binds1 (ps := ["start", "corridors", "closed_rooms"]) 2 0 (by intro e; cases e) rfl fun T kV doc pm an cdv ct us its hu hi => match us, hu, its, hi with | [_, _], _, [_], _ => ⟨_, rfl, rfl⟩
  exact ⟨_, fd, _, ds, G, T.g_reached_from, F.kp, hb, hv⟩
/-! ### level_corridor -/
def spLevel (K : PySem.W.Frag) : Sp := fun vs H Q _ => ∃ (f c : Addr) (lv : List (En Str)) (ps : List (Str × Str)), vs = [.ref f, .ref c] ∧ LvAt K H f lv ∧ (lv.map (·.1)).Nodup ∧ PsAt K H c ps ∧ (∀ p ∈ ps, (∃ d q, (p.1, d, q) ∈ lv) ∧ ∃ d q, (p.2, d, q) ∈ lv) ∧
  ∀ H', Same H H' → ((∀ p ∈ ps, ¬ Level lv p) → Q .non H') ∧ ∀ p t, p ∈ ps → Level lv p → H' t = some (.tup [.str p.1, .str p.2]) → Q (.ref t) H'
end
-- slots of level_corridor: 0 levels 1 corridors 2 one 3 other
theorem sc_level_corridor : FnScope ["levels", "corridors", "one", "other"] ["levels", "corridors"] (defScope s_level_corridor) := ⟨rfl, rfl, rfl, by decide +kernel, rfl, by decide +kernel, by decide +kernel⟩
section
variable {P : Program} {w : World} {K : PySem.W.Frag} {mg : Str → Option Value} {base : Heap}
theorem ca_level_corridor (T : Wd K mg base) : Ca P w K mg base 1 "level_corridor" (spLevel K) [] := by
  obtain ⟨fd, F⟩ := T.L.F_level_corridor
  refine ca_of F T.g_level_corridor (F.binds (ps := ["levels", "corridors"]) fun _ _ _ _ _ _ us hl => match us, hl with | [_, _], _ => rfl) sc_level_corridor (fun vs H Q E ⟨_, _, _, _, e, _⟩ => by rw [e]; rfl) ?_
  rintro cdv A outer s H vs Q E hr ⟨f, c, lv, ps, rfl, ⟨kvs, hf, hl⟩, nd, ⟨xs, hx, hd⟩, hk, k⟩
  refine ⟨_, (pss_cons (ps_for PassesOwn.never rfl (pi_seq (pv 1)) (pg_tup rfl (pgs_cons (pg_name (i := 2) sc_level_corridor.nd rfl (Or.inl rfl)) (pgs_cons (pg_name (i := 3) sc_level_corridor.nd rfl (Or.inl rfl)) pgs_nil))) (pss_one (ps_if (pt_cmpR op_eq (pe_ix ix_tup (pe_dget (hu_of hr) (pv 0) (pv 2) (fun _ _ => rfl)) pe_int (fun _ _ => rfl)) (pe_ix ix_tup (pe_dget (hu_of hr) (pv 0) (pv 3) (fun _ _ => rfl)) pe_int (fun _ _ => rfl)) (by rfl)) (pss_one (ps_ret (pe_tup (pa_cons (pv 2) (pa_cons (pv 3) pa_nil))))) pss_nil))) (pss_one (ps_ret pe_non))), ?_⟩
  refine ⟨_, rfl, c, rfl, for_seq hx (fun i σ H' => Same H H' ∧ (∀ p ∈ ps.take i, ¬ Level lv p) ∧ ∃ a b, σ = [some (.ref f), some (.ref c), a, b]) ⟨Same.refl H, (fun p h => by cases h), none, none, rfl⟩ (fun i σ' H' _ h => h.1) ?_ ?_⟩
  · rintro i v σ H' hi ⟨ss, hno, a, b, rfl⟩
    obtain ⟨p, t, hp, rfl, ht⟩ := PsAt.item hd hi
    obtain ⟨⟨d1, q1, m1⟩, d2, q2, m2⟩ := hk p (List.mem_of_getElem? hp)
    obtain ⟨t1, h1, h2⟩ := (hl.same ss).val nd m1
    obtain ⟨t2, h3, h4⟩ := (hl.same ss).val nd m2
    refine ⟨t, _, rfl, ss.tup ht, rfl, _, _, rfl, _, _, rfl, rfl, ?_⟩
    refine ⟨_, rfl, _, rfl, f, _, rfl, .inl ⟨kvs, Sum.inr p.1, .inl (ss _ _ hf), rfl, h1.symm⟩, t1, _, (0 : Int), .int (d1 : Nat), rfl, rfl, h2, rfl, ?_⟩
    refine ⟨_, rfl, _, rfl, f, _, rfl, .inl ⟨kvs, Sum.inr p.2, .inl (ss _ _ hf), rfl, h3.symm⟩, t2, _, (0 : Int), .int (d2 : Nat), rfl, rfl, h4, rfl, rfl, _, rfl, ?_⟩
    by_cases e : d1 = d2
    · subst e
      rw [decide_eq_true rfl]
      refine iteT ⟨_, rfl, _, rfl, Nat.le_of_ble_eq_true rfl, fun u hu => ?_⟩
      exact (k _ (ss.new hu)).2 p u (List.mem_of_getElem? hp) ⟨d1, q1, q2, m1, m2⟩ upd_same
    · rw [decide_eq_false (fun z => e (by have := V.int.inj z; omega))]
      refine iteF ⟨ss, fun p' hp' => ?_, _, _, rfl⟩
      rw [take_snoc hp] at hp'
      rcases List.mem_append.mp hp' with h | h
      · exact hno p' h
      · rw [List.mem_singleton.mp h]
        rintro ⟨d, q, r, n1, n2⟩
        exact e ((en_one nd m1 n1).1.trans (en_one nd m2 n2).1.symm)
  · rintro σ H' ⟨ss, hno, a, b, rfl⟩
    have e : xs.length = ps.length := by rw [DpAll.len hd, List.length_map]
    rw [e, List.take_length] at hno
    exact (k _ ss).1 hno
/-! ### sides_of -/
/-- two sides: lists of the rooms of either colour -/
def SidesOk (rooms : List Str) (ps : List (Str × Str)) (s0 s1 : List Str) : Prop := ∃ c : Str → Bool, Col ps c ∧ s0.Nodup ∧ s1.Nodup ∧ (∀ x, x ∈ s0 ↔ x ∈ rooms ∧ c x = true) ∧ ∀ x, x ∈ s1 ↔ x ∈ rooms ∧ c x = false
/-- what sides_of gives -/
def SdL (H : Hp) (v : V) (rooms : List Str) (ps : List (Str × Str)) : Prop :=
  (v = .non ∧ ∀ c, ¬ Col ps c) ∨ ∃ (t a b : Addr) (s0 s1 : List Str), v = .ref t ∧ H t = some (.tup [.ref a, .ref b]) ∧ H a = some (.lst (s0.map V.str)) ∧ H b = some (.lst (s1.map V.str)) ∧ SidesOk rooms ps s0 s1
def spSides (K : PySem.W.Frag) : Sp := fun vs H Q _ => ∃ (r c : Addr) (rooms : List Str) (ps : List (Str × Str)), vs = [.ref r, .ref c] ∧ SqL K H r (rooms.map V.str) ∧ rooms ≠ [] ∧ rooms.Nodup ∧ rooms.length < 64 ∧ PsAt K H c ps ∧ ps.length ≤ 31 ∧
  (∀ p ∈ ps, p.1 ∈ rooms ∧ p.2 ∈ rooms) ∧ (∀ x ∈ rooms, ∀ y ∈ rooms, Conn ps x y) ∧
  ∀ v H', Same H H' → SdL H' v rooms ps → Q v H'
end
-- slots of sides_of: 0 rooms 1 corridors 2 levels* 3 first 4 room
theorem sc_sides_of : FnScope ["rooms", "corridors", "levels", "first", "room"] ["rooms", "corridors"] (defScope s_sides_of) := ⟨rfl, rfl, rfl, by decide +kernel, rfl, by decide +kernel, by decide +kernel⟩
section
variable {P : Program} {w : World} {K : PySem.W.Frag} {mg : Str → Option Value} {base : Heap}
theorem ca_sides_of (T : Wd K mg base) : Ca P w K mg base 3 "sides_of" (spSides K) [] := by
  obtain ⟨fd, F⟩ := T.L.F_sides_of
  refine ca_of F T.g_sides_of (F.binds (ps := ["rooms", "corridors"]) fun _ _ _ _ _ _ us hl => match us, hl with | [_, _], _ => rfl) sc_sides_of (fun vs H Q E ⟨_, _, _, _, e, _⟩ => by rw [e]; rfl) ?_
  rintro cdv A outer s H vs Q E hr ⟨r, c, rooms, ps, rfl, hR, hne, hnd, h64, hps, hlen, hin, hcn, k⟩
  refine ⟨_, (pss_cons (ps_set (i := 2) sc_sides_of.nd rfl (Or.inr rfl) (pe_ca (ca_steps_from2 T) hr (by decide) rfl (pa_cons (pe_callB (cr_minS rfl) (by rfl) T.f_min (by decide +kernel) (pa_cons (pv 0) pa_nil)) (pa_cons (pv 1) pa_nil)))) (pss_cons (ps_if (pt_cmpR op_notN (pe_ca (ca_level_corridor T) hr (by decide) rfl (pa_cons (pv 2) (pa_cons (pv 1) pa_nil))) pe_non (by rfl)) (pss_one (ps_ret pe_non)) pss_nil) (pss_cons (ps_setLc (i := 3) (own := [("room", 4)]) (g := gName 4) rfl sc_sides_of.nd rfl rfl (sw_true rfl rfl rfl (by decide +kernel)) (pi_list (pe_callB (cr_sortedS) (by rfl) T.f_sorted (by decide +kernel) (pa_cons (pv 0) pa_nil))) (blkOk_by (own := [("room", 4)]) (N := ["rooms", "corridors", "levels", "first", "room"]) (sc := defScope s_sides_of) (by decide +kernel)) (fun _ _ _ _ _ => (pg_name (i := 4) sc_sides_of.nd rfl (Or.inl rfl))) (fun _ _ _ _ _ => (pts_one (pt_cmpR op_eq (pe_op op_modN (pe_ix (r := rIxT K) ix_tup (pe_dget (hu_of hr) (pv 2) (pv 4) (fun _ _ => rfl)) pe_int (fun _ _ => rfl)) pe_int) pe_int (by rfl)))) (fun _ _ _ _ _ => (pv 4))) (pss_one (ps_ret (pe_tup (pa_cons (pv 3) (pa_cons (pe_lc (own := [("room", 4)]) (g := gName 4) rfl sc_sides_of.nd (pi_list (pe_callB (cr_sortedS) (by rfl) T.f_sorted (by decide +kernel) (pa_cons (pv 0) pa_nil))) (blkOk_by (own := [("room", 4)]) (N := ["rooms", "corridors", "levels", "first", "room"]) (sc := defScope s_sides_of) (by decide +kernel)) (fun _ _ _ _ _ => (pg_name (i := 4) sc_sides_of.nd rfl (Or.inl rfl))) (fun _ _ _ _ _ => (pts_one (pt_cmpR op_eq (pe_op op_modN (pe_ix (r := rIxT K) ix_tup (pe_dget (hu_of hr) (pv 2) (pv 4) (fun _ _ => rfl)) pe_int (fun _ _ => rfl)) pe_int) pe_int (by rfl)))) (fun _ _ _ _ _ => (pv 4))) pa_nil)))))))), ?_⟩
  refine ⟨_, rfl, r, rooms, rfl, hR, hne, fun m hm => ⟨_, rfl, ?_⟩⟩
  refine ⟨m, c, _, ps, rfl, hps, etB_ok (ex_20 T.L.more) H, hlen, fun H1 f lv s1 ⟨kvs, hf, hl⟩ L => ?_⟩
  have hall : ∀ x ∈ rooms, ∃ d q, (x, d, q) ∈ lv := fun x hx => L.all (hcn m hm x hx)
  refine ⟨_, rfl, _, rfl, f, c, lv, ps, rfl, ⟨kvs, hf, hl⟩, L.nd, hps.same s1, fun p hp => ⟨hall _ (hin p hp).1, hall _ (hin p hp).2⟩, fun H2 s2 => ⟨fun hno => ?_, fun p t hp hlv ht => ?_⟩⟩
  · refine ⟨rfl, _, rfl, iteNS rfl ?_⟩
    have hcol := L.even (fun p hp => hall _ (hin p hp).1) hno
    refine ⟨_, rfl, r, rooms, rfl, (s1.trans s2).seq hR, h64, fun ys p hperm _ hp => ?_⟩
    have s3 : Same H2 (upd H2 p (.lst (ys.map V.str))) := sm_new hp
    have hys : SqL K (upd H2 p (.lst (ys.map V.str))) p (ys.map V.str) := SqL.of upd_same
    have turn : ∀ (rem : Nat) (hrem : rem = 0 ∨ rem = 1) (x : Str), x ∈ ys → ∃ d t, depth lv x = d ∧ valV kvs (Sum.inr x) = some (V.ref t) ∧ ∃ q, SqT K H2 t [.int (d : Nat), optV q] := fun rem hrem x hx => by
      obtain ⟨d, q, h1⟩ := hall x (hperm.mem_iff.mp hx)
      obtain ⟨t, h2, h3⟩ := (hl.same s2).val L.nd h1
      exact ⟨d, t, L.dep h1, h2, q, h3⟩
    refine ⟨p, rfl, ⟨_, hys⟩, fun D hD => lc_list (K := K) (a := p) (xs := ys.map V.str) (fun i H' => H' D = some (.lst (((ys.take i).filter fun x => decide (depth lv x % 2 = 0)).map V.str)) ∧ Same (upd H2 p (.lst (ys.map V.str))) H')
      ⟨upd_same, sm_new hD⟩ (fun i H' _ h => h.2.seq hys) ?_ ?_⟩
    · rintro i v H' hi ⟨h1, h2⟩
      obtain ⟨x, hx, rfl⟩ := map_get hi
      obtain ⟨d, t, e1, e2, q, e3⟩ := turn 0 (.inl rfl) x (List.mem_of_getElem? hx)
      have ss := s3.trans h2
      refine ⟨rfl, _, rfl, _, rfl, f, _, rfl, .inl ⟨kvs, Sum.inr x, .inl (ss _ _ (s2 _ _ hf)), rfl, e2.symm⟩, t, _, (0 : Int), .int (d : Nat), rfl, rfl, ss.tup e3, rfl, _, _, rfl, rfl, (by show (2 : Int) ≠ 0; decide), rfl, _, rfl, ?_⟩
      have em : decide (V.int (Int.fmod (d : Nat) 2) = V.int 0) = decide (depth lv x % 2 = 0) := by
        rw [Int.fmod_eq_emod_of_nonneg _ (by omega), e1]
        refine decide_eq_decide.mpr ⟨fun e => ?_, fun e => congrArg V.int (by omega)⟩
        have := V.int.inj e
        omega
      rw [em, take_snoc hx, List.filter_append]
      by_cases hc : depth lv x % 2 = 0
      · rw [decide_eq_true hc]
        refine iteT ⟨_, rfl, _, h1, ?_, ?_, h2.put hD⟩
        · rw [List.length_map, sizeLine_eq]
          have := List.length_filter_le (fun x => decide (depth lv x % 2 = 0)) (ys.take i)
          have : (ys.take i).length ≤ ys.length := by rw [List.length_take]; exact Nat.min_le_right _ _
          have := hperm.length_eq
          omega
        · rw [upd_same, List.filter_cons_of_pos (by rw [decide_eq_true hc]), List.map_append]
          rfl
      · rw [decide_eq_false hc]
        refine iteF ⟨?_, h2⟩
        rw [List.filter_cons_of_neg (by rw [decide_eq_false hc]; exact Bool.false_ne_true), List.filter_nil, List.append_nil]
        exact h1
    rintro H3 ⟨h1, h2⟩
    rw [List.length_map, List.take_length] at h1
    have ss3 := s2.trans (s3.trans h2)
    refine ⟨_, rfl, _, rfl, r, rooms, rfl, (s1.trans ss3).seq hR, h64, fun zs p' hperm' _ hp' => ?_⟩
    have s4 : Same H3 (upd H3 p' (.lst (zs.map V.str))) := sm_new hp'
    have hzs : SqL K (upd H3 p' (.lst (zs.map V.str))) p' (zs.map V.str) := SqL.of upd_same
    refine ⟨p', rfl, ⟨_, hzs⟩, fun D' hD' => lc_list (K := K) (a := p') (xs := zs.map V.str) (fun i H' => H' D' = some (.lst (((zs.take i).filter fun x => decide (depth lv x % 2 = 1)).map V.str)) ∧ Same (upd H3 p' (.lst (zs.map V.str))) H')
      ⟨upd_same, sm_new hD'⟩ (fun i H' _ h => h.2.seq hzs) ?_ ?_⟩
    · rintro i v H' hi ⟨g1, g2⟩
      obtain ⟨x, hx, rfl⟩ := map_get hi
      obtain ⟨d, t, e1, e2, q, e3⟩ := turn 0 (.inl rfl) x (hperm.mem_iff.mpr (hperm'.mem_iff.mp (List.mem_of_getElem? hx)))
      have ss := (s3.trans h2).trans (s4.trans g2)
      refine ⟨rfl, _, rfl, _, rfl, f, _, rfl, .inl ⟨kvs, Sum.inr x, .inl (ss _ _ (s2 _ _ hf)), rfl, e2.symm⟩, t, _, (0 : Int), .int (d : Nat), rfl, rfl, ss.tup e3, rfl, _, _, rfl, rfl, (by show (2 : Int) ≠ 0; decide), rfl, _, rfl, ?_⟩
      have em : decide (V.int (Int.fmod (d : Nat) 2) = V.int 1) = decide (depth lv x % 2 = 1) := by
        rw [Int.fmod_eq_emod_of_nonneg _ (by omega), e1]
        refine decide_eq_decide.mpr ⟨fun e => ?_, fun e => congrArg V.int (by omega)⟩
        have := V.int.inj e
        omega
      rw [em, take_snoc hx, List.filter_append]
      by_cases hc : depth lv x % 2 = 1
      · rw [decide_eq_true hc]
        refine iteT ⟨_, rfl, _, g1, ?_, ?_, g2.put hD'⟩
        · rw [List.length_map, sizeLine_eq]
          have := List.length_filter_le (fun x => decide (depth lv x % 2 = 1)) (zs.take i)
          have : (zs.take i).length ≤ zs.length := by rw [List.length_take]; exact Nat.min_le_right _ _
          have := hperm'.length_eq
          omega
        · rw [upd_same, List.filter_cons_of_pos (by rw [decide_eq_true hc]), List.map_append]
          rfl
      · rw [decide_eq_false hc]
        refine iteF ⟨?_, g2⟩
        rw [List.filter_cons_of_neg (by rw [decide_eq_false hc]; exact Bool.false_ne_true), List.filter_nil, List.append_nil]
        exact g1
    rintro H4 ⟨g1, g2⟩
    rw [List.length_map, List.take_length] at g1
    have ss4 := s4.trans g2
    refine ⟨Nat.le_of_ble_eq_true rfl, fun u hu => ?_⟩
    refine k (.ref u) _ ((s1.trans (ss3.trans ss4)).new hu) (.inr ⟨u, D, D', _, _, rfl, upd_same, (ss4.new hu) _ _ h1, (sm_new hu) _ _ g1, fun x => decide (depth lv x % 2 = 0), hcol, ?_, ?_, fun x => ?_, fun x => ?_⟩)
    · exact (hperm.nodup_iff.mpr hnd).filter _
    · exact (hperm'.nodup_iff.mpr hnd).filter _
    · rw [List.mem_filter, hperm.mem_iff]
    · rw [List.mem_filter, hperm'.mem_iff]
      refine and_congr_right fun _ => ?_
      rw [decide_eq_true_iff, decide_eq_false_iff_not]
      omega
  · refine ⟨rfl, _, rfl, ?_⟩
    rw [decide_eq_false (by intro e; cases e)]
    exact iteT (k .non _ (s1.trans s2) (.inl ⟨rfl, fun c' => L.odd hp hlv c'⟩))
end
end Rd
namespace Gr
section
variable {α : Type} [DecidableEq α] {ps : List (α × α)} {s x y : α} {lv : List (En α)}
theorem Lv.len (l : Lv ps s lv) : lv.length ≤ 2 * ps.length + 1 := by
  have h := nodup_le (m := s :: ends ps) l.nd fun x hx => by
    obtain ⟨⟨x', d, q⟩, h1, h2⟩ := List.mem_map.mp hx
    cases h2
    rcases l.parent h1 with ⟨_, e, _⟩ | ⟨_, _, _, _, _, _, ha⟩
    · rw [e]
      exact List.mem_cons_self
    · exact List.mem_cons_of_mem _ (adj_ends ha)
  rw [List.length_map, List.length_cons, ends_len] at h
  omega
theorem Lv.deep (l : Lv ps s lv) : ∀ (n i : Nat), i ≤ n → ∀ x d q, lv[i]? = some (x, d, q) → d ≤ i := by
  intro n
  induction n with
  | zero =>
    intro i hi x d q h
    have e : i = 0 := Nat.le_zero.mp hi
    rw [e, l.head] at h
    cases h
    exact Nat.zero_le _
  | succ n ih =>
    intro i hi x d q h
    cases i with
    | zero =>
      rw [l.head] at h
      cases h
      exact Nat.zero_le _
    | succ i =>
      obtain ⟨p, dp, qp, j, h1, h2, h3, h4, h5⟩ := l.par i x d q h
      have := ih j (by omega) p dp qp h2
      omega
theorem Lv.dlt (l : Lv ps s lv) {d : Nat} {q : Option α} (h : (x, d, q) ∈ lv) : d < lv.length := by
  obtain ⟨i, hi⟩ := mem_get h
  have := l.deep i i (Nat.le_refl _) _ _ _ hi
  have := (List.getElem?_eq_some_iff.mp hi).1
  omega
end
end Gr
/-! Slices with a step of -1; odd_ring_of, on_rings, bridges_of: what they give matters to nobody. -/
namespace Rd
open PySem PySem.Spec PyProof.Rows L2 Gr
section
variable {X : Cx}
/-- the places of a slice with the step -1 -/
def backV {α : Type} (xs : List α) (lo hi : Option Int) : List α := (sliceRange (sliceBounds lo hi (some (-1)) xs.length).1 (sliceBounds lo hi (some (-1)) xs.length).2.1 (sliceBounds lo hi (some (-1)) xs.length).2.2).filterMap fun i => xs[i]?
theorem vals_pick {xs : List V} {us : List Value} (r : Vals xs us) : ∀ is : List Nat, Vals (is.filterMap fun i => xs[i]?) (is.filterMap fun i => us.toArray[i]?)
  | [] => .nil
  | i :: is => by
    have ih := vals_pick r is
    rw [List.filterMap_cons, List.filterMap_cons, List.getElem?_toArray]
    have hl := r.length
    cases e : xs[i]? with
    | none =>
      have h1 := List.getElem?_eq_none_iff.mp e
      rw [List.getElem?_eq_none_iff.mpr (by omega)]
      exact ih
    | some x =>
      obtain ⟨u, hu, ru⟩ := r.get e
      rw [hu]
      exact .cons ru ih
theorem backV_le {α : Type} (xs : List α) (lo hi : Option Int) : (backV xs lo hi).length ≤ xs.length := by
  unfold backV
  refine Nat.le_trans (List.length_filterMap_le _ _) ?_
  refine sliceRange_length_le _ _ _ _ (fun hc => ?_) fun hc => ?_
  · exfalso
    revert hc
    show ¬ ((-1 : Int) > 0)
    decide
  · simp only [sliceBounds, Option.getD_some]
    have h1 : ¬ ((-1 : Int) > 0) := by decide
    simp only [h1, if_false]
    constructor
    · cases lo with
      | none => simp
      | some i => dsimp only; omega
    · cases hi with
      | none => simp
      | some i => dsimp only; omega
def tStepL (K : PySem.W.Frag) (te : TE) (tl th : TO) : TE := fun σ H Q => te σ H fun x H1 => tl σ H1 fun lo H2 => th σ H2 fun hi H3 => ∃ a xs, x = .ref a ∧ SqL K H3 a xs ∧ ∀ p, H3 p = none → Q (.ref p) (upd H3 p (.lst (backV xs lo hi)))
theorem pe_stepL {e : Expr} {te : TE} {lo hi : Option Expr} {tl th : TO} {k : Nat} {p1 p2 p3 pos : Pos} (he : PE X e te) (hl : PO X lo tl) (hu : PO X hi th) : PE X (.Subscript e (.Slice lo hi (some (.UnaryOp .USub (.Constant (.int 1) k p1) p2)) p3) pos) (tStepL X.K te tl th) := by
  refine ⟨fun pins s σ H Q I h => ?_⟩
  refine Subscript_ (thn (he.run pins s σ H _ I h) fun v s1 ⟨x, H1, I1, r1, q1⟩ => ?_)
  have hst : PO X (some (.UnaryOp .USub (.Constant (.int 1) k p1) p2)) (tPart (tUn (rU fun i => .int (-i)) (tC (.int 1)))) := po_some (pe_un un_neg pe_int)
  refine wpAny_Slice (thn (hl.run pins s1 σ H1 _ I1 q1) fun vl s2 ⟨l, H2, I2, pl, q2⟩ => thn (hu.run pins s2 σ H2 _ I2 q2) fun vu s3 ⟨u, H3, I3, pu, q3⟩ => ?_)
  refine thn (hst.run pins s3 σ H3 (fun o H4 => o = some (-1) ∧ H4 = H3) I3 ⟨1, rfl, -1, rfl, rfl, rfl⟩) fun vs s4 ⟨o, H4, I4, ps, eo, e4⟩ => ?_
  subst eo e4
  obtain ⟨a, xs, ex, hx, q⟩ := q3
  subst ex
  cases r1
  have I5 : Inv X pins σ H4 { s4 with heap := s4.heap.push { cls := .type "slice", data := .fields #[vl, vu, vs] } } := I4.kept (t' := s4.toks) fun b ob q => Heap.get?_push_of_some _ q
  obtain ⟨its, r, ht, hz⟩ := I5.list hx
  have hlen := r.length
  show wpAny (model X.prog X.w) X.A (subscriptTail e (.Slice lo hi (some (.UnaryOp .USub (.Constant (.int 1) k p1) p2)) p3) (.ref a) (.ref s4.heap.objs.size)) (EP X pins σ Q) X.xe { s4 with heap := s4.heap.push { cls := .type "slice", data := .fields #[vl, vu, vs] } }
  refine tail_any (ops := [.ref a, .ref s4.heap.objs.size]) ht.isList.typeIs (PySem.slot_list_getitem.lookup) ?_ (by with_unfolding_all rfl)
  refine wpAny_getItem_list_slice ht.isList (Heap.IsSliceOf.new _ vl vu vs) pl pu ps (by decide) ?_ (by rw [List.size_toArray]; omega)
  refine ⟨.ref _, _, I5.laid (t' := s4.toks) (o := .lst (backV xs l u)) (fun b ob q => Heap.get?_push_of_some _ q) (Nat.le_refl _) ?_, rfl, q _ (I5.hok.fresh (Nat.le_refl _))⟩
  refine ⟨Nat.le_trans (backV_le xs l u) hz, ((sliceRange (sliceBounds l u (some (-1)) its.toArray.size).1 (sliceBounds l u (some (-1)) its.toArray.size).2.1 (sliceBounds l u (some (-1)) its.toArray.size).2.2).filterMap fun i => its.toArray[i]?), 0, ?_, Heap.get?_push_size _ rfl⟩
  unfold backV
  rw [List.size_toArray, ← hlen]
  exact vals_pick r _
/-! ### t[::-1], a pair -/
def tRevT (K : PySem.W.Frag) (te : TE) : TE := fun σ H Q => te σ H fun x H1 => ∃ a y z, x = .ref a ∧ SqT K H1 a [y, z] ∧ ∀ p, H1 p = none → Q (.ref p) (upd H1 p (.tup [z, y]))
theorem pair_back_applied {prog : Program} {w : World} {A : Around} {E : Value → Shared → Prop} {s : Shared} {sl : Addr} {vs : Value} {Q : Int × Int × Nat → Shared → Prop} (hs : s.heap.IsSliceOf sl .none .none vs) (ps : IsPart vs (some (-1)))
    (h : Q ((1 : Int), -1, 2) s) : wpAny (model prog w) A (Builtin.Slice.sliceApplied (.ref sl) (pure ((2 : Nat) : Int))) Q E s := by
  obtain ⟨os, hos, hcs, hds⟩ := id hs
  unfold Builtin.Slice.sliceApplied Builtin.Slice.sliceFields
  refine wpAny_bind (wpAny_bind (wpAny_field hos hds (x := .none) rfl (wpAny_bind (wpAny_field hos hds (x := .none) rfl (wpAny_bind (wpAny_field hos hds (x := vs) rfl (wpAny_pure ?_)))))))
  refine wpAny_bind (HT.slicePart_ ps ?_)
  show wpAny _ _ (if ((-1 : Int) == 0) = true then _ else _) _ _ s
  rw [if_neg (by decide)]
  refine wpAny_bind (HT.slicePart_ .none (wpAny_bind (HT.slicePart_ .none (wpAny_bind (wpAny_pure ?_)))))
  show wpAny _ _ (match Builtin.Slice.sliceAdjust none none (-1) ((2 : Nat) : Int) with | (lo, hi) => pure (lo, (-1 : Int), Builtin.Slice.slicePlaces lo hi (-1))) _ _ s
  rw [show Builtin.Slice.sliceAdjust none none (-1) ((2 : Nat) : Int) = (1, -1) from by decide]
  show wpAny _ _ (pure ((1 : Int), (-1 : Int), Builtin.Slice.slicePlaces 1 (-1) (-1))) _ _ s
  rw [show Builtin.Slice.slicePlaces 1 (-1) (-1) = 2 from by decide]
  exact wpAny_pure h
theorem getItem_pair_back {prog : Program} {w : World} {A : Around} {E : Value → Shared → Prop} {s : Shared} {t sl : Addr} {x y vs : Value} {Q : Value → Shared → Prop} (ht : IsTup s.heap t #[x, y]) (hs : s.heap.IsSliceOf sl .none .none vs) (ps : IsPart vs (some (-1)))
    (h : Q (.ref s.heap.objs.size) { s with heap := s.heap.push { cls := .type "tuple", data := .seq #[y, x] } }) : wpAny (model prog w) A (getItem (.ref t) (.ref sl)) Q E s := by
  have htake : sizeOk (.seq #[y, x]) := by show 2 ≤ sizeLine; decide
  obtain ⟨os, hos, hcs, hds⟩ := id hs
  have hTs : s.TypeIs (.ref sl) "slice" := ⟨os, hos, hcs⟩
  unfold getItem
  try with_reducible refine wpAny_holding ?_
  first | refine wpAny_bind (wpAny_pure ?_) | skip
  refine wpAny_bind (wpAny_sequenceKey ht.typeIs (by decide) ?_)
  refine wpAny_bind (wpAny_callSpecial?_slot (name := Str.ofString "__getitem__") ht.typeIs PyProof.Rows.slot_tuple_getitem
    (wpAny_call_entry PyProof.Rows.slot_tuple_getitem ht.typeIs entry_tuple_getitem ?_ (args_tuple_getitem _ _)))
  show wpAny _ _ (Builtin.Tuple.tupleItemsOf (.ref t) >>= _) _ _ s
  refine wpAny_bind (tupleItemsOf_ ht ?_)
  refine wpAny_bind (wpAny_typeOf hTs ?_)
  rw [if_pos (by decide)]
  refine wpAny_bind (pair_back_applied hs ps ?_)
  show wpAny _ _ (if ((1 : Int) == 0 && (-1 : Int) == 1 && (2 : Nat) == 2) = true then _ else _) _ _ s
  rw [if_neg (by decide)]
  have ek : ((List.range 2).filterMap fun (k : Nat) => (#[x, y] : Array Value)[((1 : Int) + (k : Int) * (-1)).toNat]?).toArray = #[y, x] := by rfl
  show wpAny _ _ (do let l ← Builtin.Tuple.tupleExact ((List.range 2).filterMap fun (k : Nat) => (#[x, y] : Array Value)[((1 : Int) + (k : Int) * (-1)).toNat]?).toArray; ret l) _ _ s
  rw [ek]
  show wpAny _ _ (do let l ← Builtin.Tuple.tupleExact #[y, x]; ret l) _ _ s
  first
    | exact wpAny_bind (m := Builtin.Tuple.tupleExact _) (wpAny_newObj_type (wpAny_pure ⟨_, rfl, wpAny_pure h⟩) htake)
    | exact wpAny_bind (m := Builtin.Tuple.tupleExact _) (wpAny_newObj_type (wpAny_bind (wpAny_pure (wpAny_pure ⟨_, rfl, wpAny_pure h⟩))) htake)
    | exact wpAny_bind (wpAny_bind (m := Builtin.Tuple.tupleExact _) (wpAny_newObj_type (wpAny_pure (wpAny_pure ⟨_, rfl, wpAny_pure h⟩)) htake))
    | exact wpAny_bind (wpAny_bind (m := Builtin.Tuple.tupleExact _) (wpAny_newObj_type (wpAny_pure ⟨_, rfl, wpAny_pure h⟩) htake))
theorem pe_revT {e : Expr} {te : TE} {k : Nat} {p1 p2 p3 pos : Pos} (he : PE X e te) : PE X (.Subscript e (.Slice none none (some (.UnaryOp .USub (.Constant (.int 1) k p1) p2)) p3) pos) (tRevT X.K te) := by
  refine ⟨fun pins s σ H Q I h => ?_⟩
  refine Subscript_ (thn (he.run pins s σ H _ I h) fun v s1 ⟨x, H1, I1, r1, q1⟩ => ?_)
  obtain ⟨a, y, z, ex, hx, q⟩ := q1
  subst ex
  cases r1
  have hst : PO X (some (.UnaryOp .USub (.Constant (.int 1) k p1) p2)) (tPart (tUn (rU fun i => .int (-i)) (tC (.int 1)))) := po_some (pe_un un_neg pe_int)
  refine wpAny_Slice ?_
  rw [evalPart_none]
  refine wpAny_pure (wpAny_pure ?_)
  refine thn (hst.run pins s1 σ H1 (fun o H4 => o = some (-1) ∧ H4 = H1) I1 ⟨1, rfl, -1, rfl, rfl, rfl⟩) fun vs s4 ⟨o, H4, I4, ps, eo, e4⟩ => ?_
  subst eo e4
  have I5 : Inv X pins σ H4 { s4 with heap := s4.heap.push { cls := .type "slice", data := .fields #[.none, .none, vs] } } := I4.kept (t' := s4.toks) fun b ob q => Heap.get?_push_of_some _ q
  obtain ⟨its, r, ht, hz⟩ := I5.tuple hx
  cases r with
  | cons ry r =>
  cases r with
  | cons rz r =>
  cases r with
  | nil =>
  rename_i uy uz
  show wpAny (model X.prog X.w) X.A (subscriptTail e (.Slice none none (some (.UnaryOp .USub (.Constant (.int 1) k p1) p2)) p3) (.ref a) (.ref s4.heap.objs.size)) (EP X pins σ Q) X.xe { s4 with heap := s4.heap.push { cls := .type "slice", data := .fields #[.none, .none, vs] } }
  refine tail_any (ops := [.ref a, .ref s4.heap.objs.size]) ht.typeIs (PyProof.Rows.slot_tuple_getitem.lookup) ?_ (by with_unfolding_all rfl)
  refine getItem_pair_back ht (Heap.IsSliceOf.new _ .none .none vs) ps ?_
  refine ⟨.ref _, _, I5.laid (t' := s4.toks) (o := .tup [z, y]) (fun b ob q => Heap.get?_push_of_some _ q) (Nat.le_refl _) ?_, rfl, q _ (I5.hok.fresh (Nat.le_refl _))⟩
  exact ⟨by show 2 ≤ sizeLine; decide, _, .cons rz (.cons ry .nil), IsTup.new _ _⟩
end
end Rd
/-! odd_ring_of, on_rings, bridges_of: that they end; what they give matters to nobody. -/
namespace Rd
open PySem PySem.Spec PyProof.Rows L2 Gr
abbrev MonoE (t : TE) : Prop := ∀ (σ : L2.St) (H : Hp) (Q Q' : VK), (∀ v H', Q v H' → Q' v H') → t σ H Q → t σ H Q'
abbrev MonoR (r : R2) : Prop := ∀ (x y : V) (H : Hp) (Q Q' : VK), (∀ v H', Q v H' → Q' v H') → r x y H Q → r x y H Q'
theorem mono_op {ta tb : TE} {r : R2} (ha : MonoE ta) (hb : MonoE tb) (hr : MonoR r) : MonoE (tOp r ta tb) := fun σ H Q Q' h t => ha σ H _ _ (fun x H1 q => hb σ H1 _ _ (fun y H2 q2 => hr x y H2 _ _ h q2) q) t
theorem mono_rU {g : Int → V} {ta : TE} (ha : MonoE ta) : MonoE (tUn (rU g) ta) := fun σ H Q Q' h t => ha σ H _ _ (fun x H1 ⟨i, e, q⟩ => ⟨i, e, h _ _ q⟩) t
theorem mono_ixL {K : PySem.W.Frag} : MonoR (rIxL K) := fun x y H Q Q' h ⟨p, xs, i, v, e1, e2, e3, e4, q⟩ => ⟨p, xs, i, v, e1, e2, e3, e4, h _ _ q⟩
theorem mono_ne : MonoR rNe := fun x y H Q Q' h ⟨e, q⟩ => ⟨e, h _ _ q⟩
/-- what a building's parts are made from -/
structure GrPre (K : PySem.W.Frag) (H : Hp) (r c : Addr) (rooms : List Str) (ps : List (Str × Str)) : Prop where
  rs : SqL K H r (rooms.map V.str)
  ne : rooms ≠ []
  nd : rooms.Nodup
  few : rooms.length < 64
  pa : PsAt K H c ps
  fewP : ps.length ≤ 31
  ends : ∀ p ∈ ps, p.1 ∈ rooms ∧ p.2 ∈ rooms
  cn : ∀ x ∈ rooms, ∀ y ∈ rooms, Conn ps x y
def RgL (H : Hp) (v : V) : Prop := v = .non ∨ ∃ (t : Addr) (xs : List V), v = .ref t ∧ H t = some (.tup xs)
def spRing (K : PySem.W.Frag) : Sp := fun vs H Q _ => ∃ (r c : Addr) (rooms : List Str) (ps : List (Str × Str)), vs = [.ref r, .ref c] ∧ GrPre K H r c rooms ps ∧ ∀ v H', Same H H' → RgL H' v → Q v H'
-- slots of odd_ring_of: 0 rooms 1 corridors 2 levels 3 corridor 4 ahead 5 behind
theorem sc_odd_ring_of : FnScope ["rooms", "corridors", "levels", "corridor", "ahead", "behind"] ["rooms", "corridors"] (defScope s_odd_ring_of) := ⟨rfl, rfl, rfl, by decide +kernel, rfl, by decide +kernel, by decide +kernel⟩
section
variable {P : Program} {w : World} {K : PySem.W.Frag} {mg : Str → Option Value} {base : Heap}
theorem last_snoc {α : Type} {l : List α} (h : l ≠ []) : ∃ i x, l = i ++ [x] := ⟨l.dropLast, l.getLast h, (List.dropLast_concat_getLast h).symm⟩
theorem ca_odd_ring_of (T : Wd K mg base) : Ca P w K mg base 3 "odd_ring_of" (spRing K) [] := by
  obtain ⟨fd, F⟩ := T.L.F_odd_ring_of
  refine ca_of F T.g_odd_ring_of (F.binds (ps := ["rooms", "corridors"]) fun _ _ _ _ _ _ us hl => match us, hl with | [_, _], _ => rfl) sc_odd_ring_of (fun vs H Q E ⟨_, _, _, _, e, _⟩ => by rw [e]; rfl) ?_
  rintro cdv A outer s H vs Q E hr ⟨r, c, rooms, ps, rfl, G, k⟩
  refine ⟨_, (pss_cons (ps_set (i := 2) sc_odd_ring_of.nd rfl (Or.inl rfl) (pe_ca (ca_steps_from2 T) hr (by decide) rfl (pa_cons (pe_callB (cr_minS rfl) (by rfl) T.f_min (by decide +kernel) (pa_cons (pv 0) pa_nil)) (pa_cons (pv 1) pa_nil)))) (pss_cons (ps_set (i := 3) sc_odd_ring_of.nd rfl (Or.inl rfl) (pe_ca (ca_level_corridor T) hr (by decide) rfl (pa_cons (pv 2) (pa_cons (pv 1) pa_nil)))) (pss_cons (ps_if (pt_cmpR op_isN (pv 3) pe_non (by rfl)) (pss_one (ps_ret pe_non)) pss_nil) (pss_cons (ps_par (i := 4) (j := 5) (by rfl) sc_odd_ring_of.nd rfl rfl (by decide) rfl rfl (pa_cons (pe_lst (pa_cons (pe_ix ix_tup (pv 3) pe_int (fun _ _ => rfl)) pa_nil)) (pa_cons (pe_lst (pa_cons (pe_ix ix_tup (pv 3) pe_int (fun _ _ => rfl)) pa_nil)) pa_nil)) (by rfl)) (pss_cons (ps_while PassesOwn.never (pt_cmpR op_ne (pe_ix ix_list (pv 4) (pe_un un_neg pe_int) (fun _ _ => rfl)) (pe_ix ix_list (pv 5) (pe_un un_neg pe_int) (fun _ _ => rfl)) (by rfl)) (pss_cons (ps_expr (pe_bm PySem.F.plainAttrs_list PySem.F.slot_list_append PySem.F.type_list_append mt_append (pv 4) (pa_cons (pe_ix ix_tup (pe_dget (hu_of hr) (pv 2) (pe_ix ix_list (pv 4) (pe_un un_neg pe_int) (fun _ _ => rfl)) (fun _ _ => rfl)) pe_int (fun _ _ => rfl)) pa_nil))) (pss_one (ps_expr (pe_bm PySem.F.plainAttrs_list PySem.F.slot_list_append PySem.F.type_list_append mt_append (pv 5) (pa_cons (pe_ix ix_tup (pe_dget (hu_of hr) (pv 2) (pe_ix ix_list (pv 5) (pe_un un_neg pe_int) (fun _ _ => rfl)) (fun _ _ => rfl)) pe_int (fun _ _ => rfl)) pa_nil)))))) (pss_one (ps_ret (pe_callTy (call_tuple_of) (by rfl) T.f_tuple (by decide +kernel) (pa_cons (pe_op op_cat (pv 4) (pe_stepL (pv 5) (po_some (pe_un un_neg pe_int)) po_none)) pa_nil))))))))), ?_⟩
  refine ⟨_, rfl, r, rooms, rfl, G.rs, G.ne, fun m hm => ⟨_, rfl, ?_⟩⟩
  refine ⟨m, c, _, ps, rfl, G.pa, etB_ok (ex_20 T.L.more) H, G.fewP, fun H1 f lv s1 ⟨kvs, hf, hl⟩ L => ?_⟩
  have hall : ∀ x ∈ rooms, ∃ d q, (x, d, q) ∈ lv := fun x hx => L.all (G.cn m hm x hx)
  refine ⟨_, rfl, _, rfl, f, c, lv, ps, rfl, ⟨kvs, hf, hl⟩, L.nd, G.pa.same s1, fun p hp => ⟨hall _ (G.ends p hp).1, hall _ (G.ends p hp).2⟩, fun H2 s2 => ⟨fun hno => ?_, fun p t hp hlv ht => ?_⟩⟩
  · refine ⟨_, rfl, rfl, _, rfl, ?_⟩
    exact iteT (k _ _ (s1.trans s2) (.inl rfl))
  · refine ⟨_, rfl, rfl, _, rfl, ?_⟩
    rw [decide_eq_false (by intro e; cases e)]
    refine iteF ?_
    refine ⟨_, rfl, t, _, (0 : Int), .str p.1, rfl, rfl, SqT.of ht, rfl, Nat.le_of_ble_eq_true rfl, fun a ha => ?_⟩
    refine ⟨_, rfl, t, _, (1 : Int), .str p.2, rfl, rfl, (sm_new ha).tup (SqT.of ht), rfl, Nat.le_of_ble_eq_true rfl, fun b hb => ?_⟩
    have nba : b ≠ a := fun e => by rw [e, upd_same] at hb; cases hb
    have hb0 : H2 b = none := by rwa [upd_ne nba] at hb
    have s3 : Same H (upd (upd H2 a (.lst [.str p.1])) b (.lst [.str p.2])) := ((s1.trans s2).new ha).trans (sm_new hb)
    have s3' : Same H2 (upd (upd H2 a (.lst [.str p.1])) b (.lst [.str p.2])) := (sm_new ha).trans (sm_new hb)
    obtain ⟨d, q1, q2, m1, m2⟩ := hlv
    refine ⟨_, _, rfl, ?_⟩
    refine while_by (fun σ H' => σ = [some (.ref r), some (.ref c), some (.ref f), some (.ref t), some (.ref a), some (.ref b)] ∧ Same H H' ∧ Same H2 H' ∧ ∃ (A B : List Str) (x y : Str) (e : Nat) (qx qy : Option Str),
      H' a = some (.lst ((A ++ [x]).map V.str)) ∧ H' b = some (.lst ((B ++ [y]).map V.str)) ∧ (x, e, qx) ∈ lv ∧ (y, e, qy) ∈ lv ∧ A.length + e = d ∧ B.length + e = d)
      (fun σ H' => match H' a with | some (.lst xs) => d + 2 - xs.length | _ => 0) ?_ ?_ (mono_test (mono_op mono_var (mono_rU mono_c) mono_ixL) (mono_op mono_var (mono_rU mono_c) mono_ixL) mono_ne)
    · exact ⟨rfl, s3, s3', [], [], p.1, p.2, d, q1, q2, by rw [upd_ne nba.symm, upd_same]; rfl, by rw [upd_same]; rfl, m1, m2, by simp, by simp⟩
    · rintro σ H' ⟨rfl, ss, ss2, A', B', x, y, e, qx, qy, h1, h2, n1, n2, l1, l2⟩
      have hd63 : d ≤ 63 := by have := L.dlt m1; have := L.len; have := G.fewP; omega
      have eA : (A' ++ [x]).map V.str = A'.map V.str ++ [V.str x] := by rw [List.map_append]; rfl
      have eB : (B' ++ [y]).map V.str = B'.map V.str ++ [V.str y] := by rw [List.map_append]; rfl
      refine ⟨_, rfl, _, rfl, a, _, _, _, rfl, rfl, SqL.of h1, by rw [eA]; exact atI_last _ _, ?_⟩
      refine ⟨_, rfl, _, rfl, b, _, _, _, rfl, rfl, SqL.of h2, by rw [eB]; exact atI_last _ _, rfl, _, rfl, ?_⟩
      by_cases hxy : x = y
      · subst hxy
        refine iteNS rfl ?_
        refine ⟨_, rfl, _, rfl, _, rfl, _, rfl, b, _, rfl, SqL.of h2, fun z hz => ?_⟩
        have naz : a ≠ z := ne_of_none h1 hz
        refine ⟨a, z, _, _, rfl, rfl, by rw [upd_ne naz]; exact h1, upd_same, ?_, fun u hu => ?_⟩
        · have := backV_le ((B' ++ [x]).map V.str) (some (-2)) none
          rw [List.length_map, List.length_append] at this ⊢
          rw [sizeLine_eq]
          simp only [List.length_singleton] at this ⊢
          omega
        · refine ⟨u, _, rfl, .inl ⟨SqL.of upd_same, fun l hlu => ?_⟩⟩
          exact k _ _ (((ss.new hz).new hu).new hlu) (.inr ⟨l, _, rfl, upd_same⟩)
      · rw [decide_eq_false (fun z => hxy (V.str.inj z))]
        refine iteT ?_
        rcases L.parent n1 with ⟨e0, ex, _⟩ | ⟨px, dp, qp, g1, g2, g3, _⟩
        · rcases L.parent n2 with ⟨_, ey, _⟩ | ⟨_, _, _, _, _, g, _⟩
          · exact absurd (ex.trans ey.symm) hxy
          · omega
        rcases L.parent n2 with ⟨e0, ey, _⟩ | ⟨py, dq, qq, o1, o2, o3, _⟩
        · omega
        subst g2
        subst o2
        obtain ⟨t1, v1, w1⟩ := (hl.same (s2.trans ss2)).val L.nd n1
        refine ⟨_, rfl, .inl ⟨rfl, _, SqL.of h1⟩, _, rfl, _, rfl, _, rfl, a, _, _, _, rfl, rfl, SqL.of h1, by rw [eA]; exact atI_last _ _, f, _, rfl, .inl ⟨kvs, Sum.inr x, .inl (ss2 _ _ (s2 _ _ hf)), rfl, v1.symm⟩, t1, _, (1 : Int), .str px, rfl, rfl, w1, rfl, a, _, _, rfl, rfl, h1, ?_, ?_⟩
        · rw [List.length_map, List.length_append, sizeLine_eq]
          simp only [List.length_singleton]
          omega
        have hb1 : (upd H' a (.lst ((A' ++ [x]).map V.str ++ [V.str px]))) b = some (.lst ((B' ++ [y]).map V.str)) := by rw [upd_ne nba]; exact h2
        have ss3 : Same H2 (upd H' a (.lst ((A' ++ [x]).map V.str ++ [V.str px]))) := ss2.put ha
        have ssH : Same H (upd H' a (.lst ((A' ++ [x]).map V.str ++ [V.str px]))) := by
          intro z o hz
          have z1 := (s1.trans s2) _ _ hz
          rw [upd_ne (ne_of_none z1 ha)]
          exact ss _ _ hz
        obtain ⟨t2, v2, w2⟩ := (hl.same (s2.trans ss3)).val L.nd n2
        refine ⟨_, rfl, .inl ⟨rfl, _, SqL.of hb1⟩, _, rfl, _, rfl, _, rfl, b, _, _, _, rfl, rfl, SqL.of hb1, by rw [eB]; exact atI_last _ _, f, _, rfl, .inl ⟨kvs, Sum.inr y, .inl (ss3 _ _ (s2 _ _ hf)), rfl, v2.symm⟩, t2, _, (1 : Int), .str py, rfl, rfl, w2, rfl, b, _, _, rfl, rfl, hb1, ?_, ?_⟩
        · rw [List.length_map, List.length_append, sizeLine_eq]
          simp only [List.length_singleton]
          omega
        refine ⟨⟨rfl, ?_, ss3.put hb0, A' ++ [x], B' ++ [y], px, py, dp, qp, qq, ?_, ?_, g1, ?_, ?_, ?_⟩, ?_⟩
        · intro z o hz
          have z1 := (s1.trans s2) _ _ hz
          rw [upd_ne (ne_of_none z1 hb0)]
          exact ssH _ _ hz
        · rw [upd_ne nba.symm, upd_same, List.map_append (l₁ := A' ++ [x])]
          rfl
        · rw [upd_same, List.map_append (l₁ := B' ++ [y])]
          rfl
        · have : dq = dp := by omega
          rw [← this]
          exact o1
        · rw [List.length_append]
          simp only [List.length_singleton]
          omega
        · rw [List.length_append]
          simp only [List.length_singleton]
          omega
        · show (match (upd (upd H' a (.lst ((A' ++ [x]).map V.str ++ [V.str px]))) b _) a with | some (.lst xs) => d + 2 - xs.length | _ => 0) < (match H' a with | some (.lst xs) => d + 2 - xs.length | _ => 0)
          rw [upd_ne nba.symm, upd_same, h1]
          show d + 2 - ((A' ++ [x]).map V.str ++ [V.str px]).length < d + 2 - ((A' ++ [x]).map V.str).length
          rw [List.length_append, List.length_map, List.length_append]
          simp only [List.length_singleton]
          omega
theorem putK_le {κ : Type} [DecidableEq κ] (c : List (κ × V)) (k : κ) (x : V) : (putK c k x).length ≤ c.length + 1 := by
  unfold putK
  split <;> simp
theorem if_via {b : Bool} {A : Prop} {R : L2.St → Hp → Prop} {σ : L2.St} {H : Hp} (S : L2.St → Prop) (hR : ∀ σ', S σ' → R σ' H) (h1 : b = true → (∀ σ', S σ' → R σ' H) → A) (h2 : b = false → S σ) : if b = true then A else R σ H := by
  cases b with
  | true => exact iteT (h1 rfl hR)
  | false => exact iteF (hR _ (h2 rfl))
theorem scal_opt (q : Option Str) (x : Str) : scal (optV q) (.str x) = true := by cases q <;> rfl
/-- on_rings -/
def spOnRings (K : PySem.W.Frag) : Sp := fun vs H Q _ => ∃ (f c : Addr) (lv : List (En Str)) (ps ps' : List (Str × Str)) (s : Str), vs = [.ref f, .ref c] ∧ LvAt K H f lv ∧ Lv ps' s lv ∧ lv.length ≤ 63 ∧ PsAt K H c ps ∧ ps.length ≤ 31 ∧ (∀ p ∈ ps, (∃ d q, (p.1, d, q) ∈ lv) ∧ ∃ d q, (p.2, d, q) ∈ lv) ∧
  ∀ H' d kvs, Same H H' → H' d = some (.dK kvs) → Q (.ref d) H'
end
-- slots of on_rings: 0 levels 1 corridors 2 found 3 one 4 other
theorem sc_on_rings : FnScope ["levels", "corridors", "found", "one", "other"] ["levels", "corridors"] (defScope s_on_rings) := ⟨rfl, rfl, rfl, by decide +kernel, rfl, by decide +kernel, by decide +kernel⟩
section
variable {P : Program} {w : World} {K : PySem.W.Frag} {mg : Str → Option Value} {base : Heap}
theorem ca_on_rings (T : Wd K mg base) : Ca P w K mg base 1 "on_rings" (spOnRings K) [] := by
  obtain ⟨fd, F⟩ := T.L.F_on_rings
  refine ca_of F T.g_on_rings (F.binds (ps := ["levels", "corridors"]) fun _ _ _ _ _ _ us hl => match us, hl with | [_, _], _ => rfl) sc_on_rings (fun vs H Q E ⟨_, _, _, _, _, _, e, _⟩ => by rw [e]; rfl) ?_
  rintro cdv A outer s H vs Q E hr ⟨f, c, lv, ps, ps', r, rfl, ⟨kvs, hf, hl⟩, L, h63, ⟨xs, hx, hd⟩, h31, hk, k⟩
  refine ⟨_, (pss_cons (ps_set (i := 2) sc_on_rings.nd rfl (Or.inl rfl) pe_dnewK) (pss_cons (ps_for PassesOwn.never rfl (pi_seq (pv 1)) (pg_tup rfl (pgs_cons (pg_name (i := 3) sc_on_rings.nd rfl (Or.inl rfl)) (pgs_cons (pg_name (i := 4) sc_on_rings.nd rfl (Or.inl rfl)) pgs_nil))) (pss_one (ps_if (PW.pt (pw_and (pt_cmpR op_ne (pe_ix ix_tup (pe_dget (hu_of hr) (pv 0) (pv 3) (fun _ _ => rfl)) pe_int (fun _ _ => rfl)) (pv 4) (by rfl)) (pw_and1 (pt_cmpR op_ne (pe_ix ix_tup (pe_dget (hu_of hr) (pv 0) (pv 4) (fun _ _ => rfl)) pe_int (fun _ _ => rfl)) (pv 3) (by rfl))))) (pss_one (ps_while PassesOwn.never (pt_cmpR op_ne (pv 3) (pv 4) (by rfl)) (pss_cons (ps_if (pt_cmpR op_lt (pe_ix ix_tup (pe_dget (hu_of hr) (pv 0) (pv 3) (fun _ _ => rfl)) pe_int (fun _ _ => rfl)) (pe_ix ix_tup (pe_dget (hu_of hr) (pv 0) (pv 4) (fun _ _ => rfl)) pe_int (fun _ _ => rfl)) (by rfl)) (pss_one (ps_par (i := 3) (j := 4) (by rfl) sc_on_rings.nd rfl rfl (by decide) rfl rfl (pa_cons (pv 4) (pa_cons (pv 3) pa_nil)) (by rfl))) pss_nil) (pss_cons (ps_dput (hu_of hr) (pv 2) (pv 3) pe_bl rfl) (pss_one (ps_set (i := 3) sc_on_rings.nd rfl (Or.inl rfl) (pe_ix ix_tup (pe_dget (hu_of hr) (pv 0) (pv 3) (fun _ _ => rfl)) pe_int (fun _ _ => rfl)))))))) pss_nil))) (pss_one (ps_ret (pv 2))))), ?_⟩
  intro g hg
  refine ⟨_, rfl, c, rfl, for_seq hx (fun i σ H' => ∃ ks a b, σ = [some (.ref f), some (.ref c), some (.ref g), a, b] ∧ Same H H' ∧ H' g = some (.dK ks) ∧ ks.length ≤ 128 * i) ⟨[], none, none, rfl, sm_new hg, upd_same, Nat.le_refl _⟩ (fun i σ' H' _ ⟨_, _, _, _, h, _⟩ => h) ?_ ?_⟩
  · rintro i v σ H' hi ⟨ks, a, b, rfl, ss, hg', hks⟩
    obtain ⟨p, t, hp, rfl, ht⟩ := PsAt.item hd hi
    have hip : i < ps.length := (List.getElem?_eq_some_iff.mp hp).1
    obtain ⟨⟨d1, q1, m1⟩, d2, q2, m2⟩ := hk p (List.mem_of_getElem? hp)
    obtain ⟨t1, h1, h2⟩ := (hl.same ss).val L.nd m1
    obtain ⟨t2, h3, h4⟩ := (hl.same ss).val L.nd m2
    refine ⟨t, _, rfl, ss.tup ht, rfl, _, _, rfl, _, _, rfl, rfl, ?_⟩
    have out : ∃ ks a b, [some (V.ref f), some (V.ref c), some (V.ref g), some (V.str p.1), some (V.str p.2)] = [some (V.ref f), some (.ref c), some (.ref g), a, b] ∧ Same H H' ∧ H' g = some (.dK ks) ∧ ks.length ≤ 128 * (i + 1) := ⟨ks, _, _, rfl, ss, hg', by omega⟩
    refine ⟨_, rfl, _, rfl, f, _, rfl, .inl ⟨kvs, Sum.inr p.1, .inl (ss _ _ hf), rfl, h1.symm⟩, t1, _, (1 : Int), optV q1, rfl, rfl, h2, rfl, _, rfl, scal_opt _ _, _, rfl, ?_⟩
    refine ite2 (fun _ => ?_) fun _ => iteF out
    refine ⟨_, rfl, _, rfl, f, _, rfl, .inl ⟨kvs, Sum.inr p.2, .inl (ss _ _ hf), rfl, h3.symm⟩, t2, _, (1 : Int), optV q2, rfl, rfl, h4, rfl, _, rfl, scal_opt _ _, _, rfl, ?_⟩
    refine ite2 (fun _ => ?_) fun _ => out
    have b1 := L.dlt m1
    have b2 := L.dlt m2
    refine while_by (fun σ H2 => ∃ (ks : List (Key × V)) (x y : Str) (dx dy : Nat) (qx qy : Option Str), σ = [some (.ref f), some (.ref c), some (.ref g), some (.str x), some (.str y)] ∧ Same H H2 ∧ H2 g = some (.dK ks) ∧ (x, dx, qx) ∈ lv ∧ (y, dy, qy) ∈ lv ∧ ks.length + dx + dy ≤ 128 * (i + 1))
      (fun σ _ => match σ with | [_, _, _, some (.str x), some (.str y)] => depth lv x + depth lv y | _ => 0) ⟨ks, p.1, p.2, d1, d2, q1, q2, rfl, ss, hg', m1, m2, by omega⟩ ?_ (mono_test mono_var mono_var mono_ne)
    rintro σ H2 ⟨ks2, x, y, dx, dy, qx, qy, rfl, s2, hg2, n1, n2, hb⟩
    refine ⟨_, rfl, _, rfl, rfl, _, rfl, ?_⟩
    by_cases hxy : x = y
    · subst hxy
      exact iteNS rfl ⟨ks2, _, _, rfl, s2, hg2, by omega⟩
    rw [decide_eq_false (fun z => hxy (V.str.inj z))]
    refine iteT ?_
    obtain ⟨t3, h5, h6⟩ := (hl.same s2).val L.nd n1
    obtain ⟨t4, h7, h8⟩ := (hl.same s2).val L.nd n2
    refine ⟨_, rfl, _, rfl, f, _, rfl, .inl ⟨kvs, Sum.inr x, .inl (s2 _ _ hf), rfl, h5.symm⟩, t3, _, (0 : Int), .int (dx : Nat), rfl, rfl, h6, rfl, ?_⟩
    refine ⟨_, rfl, _, rfl, f, _, rfl, .inl ⟨kvs, Sum.inr y, .inl (s2 _ _ hf), rfl, h7.symm⟩, t4, _, (0 : Int), .int (dy : Nat), rfl, rfl, h8, rfl, _, _, rfl, rfl, _, rfl, ?_⟩
    refine if_via (fun σ => ∃ (u v : Str) (du dv : Nat) (qu qv : Option Str), σ = [some (.ref f), some (.ref c), some (.ref g), some (.str u), some (.str v)] ∧ (u, du, qu) ∈ lv ∧ (v, dv, qv) ∈ lv ∧ dv ≤ du ∧ u ≠ v ∧ du + dv = dx + dy) ?_ (fun e key => ?_) (fun e => ?_)
    · rintro σ ⟨u, v, du, dv, qu, qv, rfl, o1, o2, o3, o4, o5⟩
      refine ⟨_, rfl, _, rfl, g, _, rfl, DPut.k (k := Sum.inr u) hg2 (by rw [sizeLine_eq]; omega), ?_⟩
      rcases L.parent o1 with ⟨e0, eu, _⟩ | ⟨pu, dp, qp, g1, g2, g3, _⟩
      · rcases L.parent o2 with ⟨_, ev, _⟩ | ⟨_, _, _, _, _, _, _⟩
        · exact absurd (eu.trans ev.symm) o4
        · omega
      subst g2
      have s3 : Same H (upd H2 g (.dK (putK ks2 (Sum.inr u) (.bl true)))) := s2.put hg
      obtain ⟨t5, h9, h10⟩ := (hl.same s3).val L.nd o1
      refine ⟨_, rfl, _, rfl, f, _, rfl, .inl ⟨kvs, Sum.inr u, .inl (s3 _ _ hf), rfl, h9.symm⟩, t5, _, (1 : Int), .str pu, rfl, rfl, h10, rfl, ?_⟩
      refine ⟨⟨_, pu, v, dp, dv, qp, qv, rfl, s3, upd_same, g1, o2, ?_⟩, ?_⟩
      · have := putK_le ks2 (Sum.inr u) (V.bl true)
        omega
      · show depth lv pu + depth lv v < depth lv x + depth lv y
        rw [L.dep g1, L.dep o2, L.dep n1, L.dep n2]
        omega
    · have e' := of_decide_eq_true e
      refine ⟨_, rfl, _, rfl, _, _, rfl, ?_⟩
      exact key _ ⟨y, x, dy, dx, qy, qx, rfl, n2, n1, by omega, fun z => hxy z.symm, by omega⟩
    · have e' := of_decide_eq_false e
      exact ⟨x, y, dx, dy, qx, qy, rfl, n1, n2, by omega, hxy, rfl⟩
  · rintro σ H' ⟨ks, a, b, rfl, ss, hg', _⟩
    exact ⟨_, rfl, k _ _ _ ss hg'⟩
/-- bridges_of -/
def spBridges (K : PySem.W.Frag) : Sp := fun vs H Q _ => ∃ (r c : Addr) (rooms : List Str) (ps : List (Str × Str)), vs = [.ref r, .ref c] ∧ GrPre K H r c rooms ps ∧ ∀ H' p xs, Same H H' → H' p = some (.lst xs) → Q (.ref p) H'
end
-- slots of bridges_of: 0 rooms 1 corridors 2 levels 3 ringed 4 found 5 one 6 other 7 lower 8 upper
theorem sc_bridges_of : FnScope ["rooms", "corridors", "levels", "ringed", "found", "one", "other", "lower", "upper"] ["rooms", "corridors"] (defScope s_bridges_of) := ⟨rfl, rfl, rfl, by decide +kernel, rfl, by decide +kernel, by decide +kernel⟩
section
variable {P : Program} {w : World} {K : PySem.W.Frag} {mg : Str → Option Value} {base : Heap}
theorem ca_bridges_of (T : Wd K mg base) : Ca P w K mg base 3 "bridges_of" (spBridges K) [] := by
  obtain ⟨fd, F⟩ := T.L.F_bridges_of
  refine ca_of F T.g_bridges_of (F.binds (ps := ["rooms", "corridors"]) fun _ _ _ _ _ _ us hl => match us, hl with | [_, _], _ => rfl) sc_bridges_of (fun vs H Q E ⟨_, _, _, _, e, _⟩ => by rw [e]; rfl) ?_
  rintro cdv A outer s H vs Q E hr ⟨r, c, rooms, ps, rfl, G, k⟩
  refine ⟨_, (pss_cons (ps_set (i := 2) sc_bridges_of.nd rfl (Or.inl rfl) (pe_ca (ca_steps_from2 T) hr (by decide) rfl (pa_cons (pe_callB (cr_minS rfl) (by rfl) T.f_min (by decide +kernel) (pa_cons (pv 0) pa_nil)) (pa_cons (pv 1) pa_nil)))) (pss_cons (ps_par (i := 3) (j := 4) (by rfl) sc_bridges_of.nd rfl rfl (by decide) rfl rfl (pa_cons (pe_ca (ca_on_rings T) hr (by decide) rfl (pa_cons (pv 2) (pa_cons (pv 1) pa_nil))) (pa_cons (pe_lst pa_nil) pa_nil)) (by rfl)) (pss_cons (ps_for PassesOwn.never rfl (pi_seq (pv 1)) (pg_tup rfl (pgs_cons (pg_name (i := 5) sc_bridges_of.nd rfl (Or.inl rfl)) (pgs_cons (pg_name (i := 6) sc_bridges_of.nd rfl (Or.inl rfl)) pgs_nil))) (pss_cons (ps_set (i := 7) sc_bridges_of.nd rfl (Or.inl rfl) (pe_ifExp (pt_cmpR op_eq (pe_ix ix_tup (pe_dget (hu_of hr) (pv 2) (pv 5) (fun _ _ => rfl)) pe_int (fun _ _ => rfl)) (pv 6) (by rfl)) (pv 5) (pv 6))) (pss_cons (ps_set (i := 8) sc_bridges_of.nd rfl (Or.inl rfl) (pe_ifExp (pt_cmpR op_eq (pv 7) (pv 5) (by rfl)) (pv 6) (pv 5))) (pss_one (ps_if (PW.pt (pw_and (pt_cmpR op_eq (pe_ix ix_tup (pe_dget (hu_of hr) (pv 2) (pv 7) (fun _ _ => rfl)) pe_int (fun _ _ => rfl)) (pv 8) (by rfl)) (pw_and1 (pt_cmp (pc_dnotin (hu_of hr) (pv 7) (pv 3)))))) (pss_one (ps_expr (pe_bm PySem.F.plainAttrs_list PySem.F.slot_list_append PySem.F.type_list_append mt_append (pv 4) (pa_cons (pe_tup (pa_cons (pv 5) (pa_cons (pv 6) pa_nil))) pa_nil)))) pss_nil))))) (pss_one (ps_ret (pv 4)))))), ?_⟩
  refine ⟨_, rfl, r, rooms, rfl, G.rs, G.ne, fun m hm => ⟨_, rfl, ?_⟩⟩
  refine ⟨m, c, _, ps, rfl, G.pa, etB_ok (ex_20 T.L.more) H, G.fewP, fun H1 f lv s1 ⟨kvs, hf, hl⟩ L => ?_⟩
  have hall : ∀ x ∈ rooms, ∃ d q, (x, d, q) ∈ lv := fun x hx => L.all (G.cn m hm x hx)
  have h63 : lv.length ≤ 63 := by have := L.len; have := G.fewP; omega
  refine ⟨_, rfl, _, rfl, f, c, lv, ps, ps, m, rfl, ⟨kvs, hf, hl⟩, L, h63, G.pa.same s1, G.fewP, fun p hp => ⟨hall _ (G.ends p hp).1, hall _ (G.ends p hp).2⟩, fun H2 g ks s2 hg => ?_⟩
  refine ⟨Nat.zero_le _, fun D hD => ?_⟩
  have s12 := s1.trans s2
  obtain ⟨xs, hx, hd⟩ := G.pa
  refine ⟨_, _, rfl, ?_⟩
  refine ⟨_, rfl, c, rfl, for_seq hx (fun i σ H' => ∃ zs a b lo up, σ = [some (.ref r), some (.ref c), some (.ref f), some (.ref g), some (.ref D), a, b, lo, up] ∧ Same H H' ∧ Same H2 H' ∧ H' D = some (.lst zs) ∧ zs.length ≤ i) ⟨[], none, none, none, none, rfl, s12.new hD, sm_new hD, upd_same, Nat.le_refl _⟩ (fun i σ' H' _ ⟨_, _, _, _, _, _, h, _⟩ => h) ?_ ?_⟩
  · rintro i v σ H' hi ⟨zs, a, b, lo, up, rfl, ss, ss2, hD', hz⟩
    obtain ⟨p, t, hp, rfl, ht⟩ := PsAt.item hd hi
    have hip : i < ps.length := (List.getElem?_eq_some_iff.mp hp).1
    obtain ⟨d1, q1, m1⟩ := hall _ (G.ends p (List.mem_of_getElem? hp)).1
    obtain ⟨d2, q2, m2⟩ := hall _ (G.ends p (List.mem_of_getElem? hp)).2
    have hf' := ss2 _ _ (s2 _ _ hf)
    have hl' := hl.same (s2.trans ss2)
    obtain ⟨t1, h1, h2⟩ := hl'.val L.nd m1
    refine ⟨t, _, rfl, ss.tup ht, rfl, _, _, rfl, _, _, rfl, rfl, ?_⟩
    -- lower
    refine ⟨_, rfl, _, rfl, f, _, rfl, .inl ⟨kvs, Sum.inr p.1, .inl hf', rfl, h1.symm⟩, t1, _, (1 : Int), optV q1, rfl, rfl, h2, rfl, _, rfl, scal_opt _ _, _, rfl, ?_⟩
    have low : ∀ x : Str, x = p.1 ∨ x = p.2 → ∃ d q t, (x, d, q) ∈ lv ∧ valV kvs (Sum.inr x) = some (V.ref t) ∧ SqT K H' t [.int (d : Nat), optV q] := by
      rintro x (rfl | rfl)
      · exact ⟨d1, q1, t1, m1, h1, h2⟩
      · obtain ⟨t2, h3, h4⟩ := hl'.val L.nd m2
        exact ⟨d2, q2, t2, m2, h3, h4⟩
    by_cases hq : optV q1 = V.str p.2
    · rw [decide_eq_true hq]
      refine iteT ⟨_, rfl, ?_⟩
      refine ⟨_, rfl, _, rfl, rfl, _, rfl, ?_⟩
      rw [decide_eq_true (show V.str p.1 = V.str p.1 from rfl)]
      refine iteT ⟨_, rfl, ?_⟩
      obtain ⟨dl, ql, tl, ml, vl, wl⟩ := low p.1 (.inl rfl)
      refine ⟨_, rfl, _, rfl, f, _, rfl, .inl ⟨kvs, Sum.inr p.1, .inl hf', rfl, vl.symm⟩, tl, _, (1 : Int), optV ql, rfl, rfl, wl, rfl, _, rfl, scal_opt _ _, _, rfl, ?_⟩
      refine ite2 (fun _ => ?_) fun _ => iteF ⟨zs, _, _, _, _, rfl, ss, ss2, hD', by omega⟩
      refine ⟨_, rfl, _, rfl, g, _, rfl, DGet.k (k := Sum.inr p.1) (ss2 _ _ hg), _, rfl, ?_⟩
      refine ite2 (fun _ => ?_) fun _ => ⟨zs, _, _, _, _, rfl, ss, ss2, hD', by omega⟩
      refine ⟨_, rfl, .inl ⟨rfl, _, SqL.of hD'⟩, _, rfl, _, rfl, Nat.le_of_ble_eq_true rfl, fun u hu => ?_⟩
      have nDu : D ≠ u := ne_of_none hD' hu
      refine ⟨D, _, _, rfl, rfl, by rw [upd_ne nDu]; exact hD', by have := G.fewP; rw [sizeLine_eq]; omega, ?_⟩
      refine ⟨zs ++ [V.ref u], _, _, _, _, rfl, ?_, (ss2.new hu).put hD, upd_same, by rw [List.length_append]; simp only [List.length_singleton]; omega⟩
      intro z o hz
      rw [upd_ne (ne_of_none (s12 _ _ hz) hD)]
      exact (ss.new hu) _ _ hz
    · rw [decide_eq_false hq]
      refine iteF ⟨_, rfl, ?_⟩
      refine ⟨_, rfl, _, rfl, rfl, _, rfl, ?_⟩
      obtain ⟨dl, ql, tl, ml, vl, wl⟩ := low p.2 (.inr rfl)
      refine ite2 (fun _ => ⟨_, rfl, ?_⟩) fun _ => ⟨_, rfl, ?_⟩
      · refine ⟨_, rfl, _, rfl, f, _, rfl, .inl ⟨kvs, Sum.inr p.2, .inl hf', rfl, vl.symm⟩, tl, _, (1 : Int), optV ql, rfl, rfl, wl, rfl, _, rfl, scal_opt _ _, _, rfl, ?_⟩
        refine ite2 (fun _ => ?_) fun _ => iteF ⟨zs, _, _, _, _, rfl, ss, ss2, hD', by omega⟩
        refine ⟨_, rfl, _, rfl, g, _, rfl, DGet.k (k := Sum.inr p.2) (ss2 _ _ hg), _, rfl, ?_⟩
        refine ite2 (fun _ => ?_) fun _ => ⟨zs, _, _, _, _, rfl, ss, ss2, hD', by omega⟩
        refine ⟨_, rfl, .inl ⟨rfl, _, SqL.of hD'⟩, _, rfl, _, rfl, Nat.le_of_ble_eq_true rfl, fun u hu => ?_⟩
        have nDu : D ≠ u := ne_of_none hD' hu
        refine ⟨D, _, _, rfl, rfl, by rw [upd_ne nDu]; exact hD', by have := G.fewP; rw [sizeLine_eq]; omega, ?_⟩
        refine ⟨zs ++ [V.ref u], _, _, _, _, rfl, ?_, (ss2.new hu).put hD, upd_same, by rw [List.length_append]; simp only [List.length_singleton]; omega⟩
        intro z o hz
        rw [upd_ne (ne_of_none (s12 _ _ hz) hD)]
        exact (ss.new hu) _ _ hz
      · refine ⟨_, rfl, _, rfl, f, _, rfl, .inl ⟨kvs, Sum.inr p.2, .inl hf', rfl, vl.symm⟩, tl, _, (1 : Int), optV ql, rfl, rfl, wl, rfl, _, rfl, scal_opt _ _, _, rfl, ?_⟩
        refine ite2 (fun _ => ?_) fun _ => iteF ⟨zs, _, _, _, _, rfl, ss, ss2, hD', by omega⟩
        refine ⟨_, rfl, _, rfl, g, _, rfl, DGet.k (k := Sum.inr p.2) (ss2 _ _ hg), _, rfl, ?_⟩
        refine ite2 (fun _ => ?_) fun _ => ⟨zs, _, _, _, _, rfl, ss, ss2, hD', by omega⟩
        refine ⟨_, rfl, .inl ⟨rfl, _, SqL.of hD'⟩, _, rfl, _, rfl, Nat.le_of_ble_eq_true rfl, fun u hu => ?_⟩
        have nDu : D ≠ u := ne_of_none hD' hu
        refine ⟨D, _, _, rfl, rfl, by rw [upd_ne nDu]; exact hD', by have := G.fewP; rw [sizeLine_eq]; omega, ?_⟩
        refine ⟨zs ++ [V.ref u], _, _, _, _, rfl, ?_, (ss2.new hu).put hD, upd_same, by rw [List.length_append]; simp only [List.length_singleton]; omega⟩
        intro z o hz
        rw [upd_ne (ne_of_none (s12 _ _ hz) hD)]
        exact (ss.new hu) _ _ hz
  · rintro σ H' ⟨zs, a, b, lo, up, rfl, ss, ss2, hD', hz⟩
    exact ⟨_, rfl, k _ _ _ ss hD'⟩
end
end Rd
/-! Rules: tuple(dict), a display with *dict, dicts of unlike sizes, x != y by an own __eq__, f(*pair). -/
namespace Rd
open PySem PySem.Spec PyProof.Rows L2 Gr
theorem ns_some_of {K : PySem.W.Frag} {h : Heap} {N : Addr} {mg : Str → Option Value} {n : Str} {v : Value} (X : K.In h) (G : h.Ns N mg) (e : PySem.W.nsIn K N n = some (some v)) : mg n = some v := by
  obtain ⟨o, es, ep, ho, hd, _, hf⟩ := G
  unfold PySem.W.nsIn at e
  split at e
  · rename_i c d es' n' sl q
    have := X _ _ q
    rw [ho] at this
    cases this
    cases hd
    split at e
    · rename_i en he
      rw [← hf]
      unfold nsFind findBy
      rw [← Array.find?_toList, he]
      cases e
      rfl
    · split at e <;> cases e
  · cases e
theorem eqB_ok {x : Str} {K : PySem.W.Frag} {h : Heap} {a : Addr} {o : Obj} (e : eqB x K = true) (X : K.In h) (f : PySem.W.fnIn K (meA x "__eq__" K) = true) (fn : PySem.W.isFn K (.ref (meA x "__eq__" K)) = true) (ho : h.get? a = some o) (hc : o.cls = .ref (He.ga K x)) :
    h.OwnEqNoNe a (He.ga K x) (meA x "__eq__" K) "object" [.type "object"] := by
  unfold eqB at e
  split at e
  · rename_i dd cd sl q
    obtain ⟨e1, e⟩ := He.ba e
    obtain ⟨e2, e⟩ := He.ba e
    obtain ⟨e3, e⟩ := He.ba e
    obtain ⟨e4, e⟩ := He.ba e
    obtain ⟨e5, e⟩ := He.ba e
    split at e
    · rename_i k0 k1 k2 k3 n k5 es
      have en := of_decide_eq_true e
      subst en
      obtain ⟨nm, bs, mro, ns, qn, hdct, sn, sub, ab, col, hdel⟩ := cd
      have m1 : mro = [.ref (He.ga K x), .type "object"] := of_decide_eq_true e1
      subst m1
      have d1 : hdel = false := by
        cases hdel
        · rfl
        · exact absurd (show (!true) = true from e4) (by decide)
      subst d1
      have esl : sl = #[k0, k1, k2, k3, some (.builtin "object.__new__"), k5] := by
        apply Array.ext'
        rw [es]
      subst esl
      have hns : h.Ns ns (h.nsMap ns) := .of_isNs (PySem.W.isNs_of_in X e5)
      unfold PySem.W.fnIn at f
      split at f
      · rename_i c2 d2 fdat sl2 q2
        have hcls : c2 = .type "function" := by
          unfold PySem.W.isFn PySem.W.typeIn at fn
          have fn' : (Option.map (fun x : Obj => x.cls) (K.lookup (meA x "__eq__" K)) == some (Value.type "function")) = true := fn
          rw [q2] at fn'
          exact Option.some.inj (beq_iff_eq.mp fn')
        exact ⟨o, _, nm, qn, ns, bs, hdct, sn, sub, ab, col, dd, k0, k1, k2, k3, k5, "object.__new__", h.nsMap ns, _, ho, hc, X _ _ q, hns, ns_some_of X hns (of_decide_eq_true e3), X _ _ q2, hcls, PySem.F.mro_object, PySem.F.cmp_object.eq.lookup, PySem.W.ns_none_of X hns (of_decide_eq_true e2)⟩
      · cases f
    · cases e
  · cases e
section
variable {X : Cx} {k j : Nat} {C : Addr} {sp : Sp} {x : Str}
/-- x != y by the class's own __eq__ -/
def rNeOwn (C : Addr) (sp : Sp) : R2 := fun x y H Q => ∃ a dx fs b dy gs, x = .ref a ∧ H a = some (.ins C dx fs) ∧ y = .ref b ∧ H b = some (.ins C dy gs) ∧ sp [.ref a, .ref b] H (fun v H' => ∃ k, v = .bl k ∧ Q (.bl (!k)) H') E0
theorem op_ne_own (M : MtX X k (He.ga X.K x) "__eq__" sp) (he : eqB x X.K = true) (hfe : ∀ f, Meth X.K (He.ga X.K x) "__eq__" f → f = meA x "__eq__" X.K) (hr : Room j X.A) (hk : k + 1 ≤ j) : OpR X (compareOp .NotEq) (rNeOwn (He.ga X.K x) sp) := by
  intro pins s σ H y z v u Q I rx ry hh
  obtain ⟨a, dx, fs, b, dy, gs, rfl, ea, rfl, eb, q⟩ := hh
  obtain ⟨f, fd, ps, hc, hm, hfn, F, hb⟩ := M.ex
  obtain rfl := hfe f hm
  obtain rfl : v = Value.ref a := rx
  obtain rfl : u = Value.ref b := ry
  obtain ⟨mA, ⟨ob, nA, neA⟩, _⟩ := ins_get I.hok ea
  obtain ⟨mB, ⟨obb, nB, neB⟩, _⟩ := ins_get I.hok eb
  obtain ⟨mA, O, _⟩ := ins_get I.hok ea
  obtain ⟨od, J, _⟩ := O.look
  obtain ⟨mB, O2, _⟩ := ins_get I.hok eb
  obtain ⟨od2, J2, _⟩ := O2.look
  have hu : X.A.units + 1 < cLine := by
    have := hr.un
    omega
  refine compareOp_ne_ownEq PySem.F.cmp_object (eqB_ok he I.kIn hfn hm.fn J.at_ J.cls) J2.at_ J2.cls hu ?_
  have z := run_fn1 (us := [.ref a, .ref b]) (vs := [.ref a, .ref b]) F (hr.mono hk) hb I (.cons rfl (.cons rfl .nil)) q
  refine thn z ?_
  rintro r s' ⟨w', H', I', rv, kk, rfl, qq⟩
  obtain rfl : r = Value.bool kk := rv
  exact ⟨kk, rfl, .bl (!kk), H', I', rfl, qq⟩
/-- x != y, both None or both instances -/
theorem op_ne_or {r1 r2 : R2} {op : CmpOp} (h1 : OpR X (compareOp op) r1) (h2 : OpR X (compareOp op) r2) : OpR X (compareOp op) (fun x y H Q => r1 x y H Q ∨ r2 x y H Q) := by
  intro pins s σ H y z v u Q I rx ry hh
  rcases hh with h | h
  · exact h1 pins s σ H y z v u Q I rx ry h
  · exact h2 pins s σ H y z v u Q I rx ry h
/-- dicts of unlike sizes -/
def rEqLen : R2 := fun x y H Q => ∃ a b ks ls, x = .ref a ∧ y = .ref b ∧ H a = some (.dK ks) ∧ H b = some (.dK ls) ∧ ks.length ≠ ls.length ∧ Q (.bl false) H
theorem op_eq_len (hu : X.A.units < cLine) : OpR X (compareOp .Eq) rEqLen := by
  intro pins s σ H x y v u Q I rx ry h
  obtain ⟨a, b, ks, ls, rfl, rfl, ea, eb, hl, q⟩ := h
  obtain rfl : v = Value.ref a := rx
  obtain rfl : u = Value.ref b := ry
  obtain ⟨_, ya, va, ra, da⟩ := (show ObjOk X.prog X.w H s.heap a (.dK ks) from I.hok a _ ea)
  obtain ⟨_, yb, vb, rb, db⟩ := (show ObjOk X.prog X.w H s.heap b (.dK ls) from I.hok b _ eb)
  have h1 := ra.length
  have h2 := rb.length
  have hne : ¬ va.length = vb.length := by omega
  exact PySem.W.keq_eq (knd := mixKind X.prog X.w) (r := true) ya yb da db hu (fun e => absurd e hne) (fin_bl I q (by simp [hne]))
/-- tuple(d): the keys -/
theorem code_tuple_new_dict {prog : Program} {w : World} {A : Around} {E : Value → Shared → Prop} {s : Shared} {r d n : Nat} {T : String} {P : Nat → Value → Prop} {OK : Heap → Prop} {Q₁ : Value → Shared → Prop} (K : PySem.W.KdlSrc prog w "dict" r d n P OK) (hT : s.TypeIs (.ref r) "dict") (hh : A.handled = none) (hok : OK s.heap) (hn : n ≤ sizeLine)
    (h : ∀ (h' : Heap) (tk : Nat) (acc : Array Value), (∀ b o, s.heap.get? b = some o → h'.get? b = some o) → PySem.ItemsOf P acc n →
      Q₁ (.ref h'.objs.size) { s with heap := h'.push { cls := .type "tuple", data := .seq acc }, toks := tk }) :
    codeAny (model prog w) A (.call (.builtin "tuple.__new__") ⟨[.type "tuple", .ref r], []⟩) (wants Q₁ E) s := by
  refine codeAny_of_tree ?_
  show wpAny _ A.in1 (do checkBuiltinCall "tuple.__new__" ⟨[.type "tuple", .ref r], []⟩; again (.builtin "tuple.__new__" ⟨[.type "tuple", .ref r], []⟩)) _ _ s
  refine wpAny_bind (wpAny_of_eq (F.newCall_tuple_1 _) (wpAny_pure ⟨plainId_quiet F.plain_tuple_new _, codeAny_builtin F.entry_tuple_new ?_⟩))
  rw [Around.under_plainId F.plain_tuple_new _]
  have hsub := sub_tuple_self
  have hinit := init_tuple_lookup
  have hmh := madeHere_tuple
  have hTI : s.TypeIs (.ref r) "dict" := hT
  have hh1 : A.in1.handled = none := hh
  wp_walk using wpAny_typeOf hTI, PySem.W.kdu_collect (A := A.in1) K hh1 hok hn
  intro h' tk acc hk hacc
  show wpAny _ _ (Builtin.Tuple.tupleExact acc.toList.toArray >>= fun v => ret v) _ _ _
  unfold Builtin.Tuple.tupleExact
  refine wpAny_bind (wpAny_newObj_type ?_ (by show acc.toList.toArray.size ≤ sizeLine; simp only [Array.toArray_toList]; rw [hacc.1]; exact hn))
  refine wpAny_pure ?_
  have e : acc.toList.toArray = acc := by simp
  rw [e]
  exact h h' tk acc hk hacc
theorem call_tupleD (hcalm : X.calm = true) : CallR X (.type "tuple") (fun xs H Q => ∃ (a : Addr) (kvs : List (Key × V)), xs = [.ref a] ∧ Rd H a (.dK kvs) ∧ ∀ p, H p = none → Q (.ref p) (upd H p (.tup (kvs.map fun kv => kV kv.1)))) := by
  intro pins s σ H xs us Q I r q
  obtain ⟨a, kvs, ex, hd, q⟩ := q
  subst ex
  obtain ⟨u, eu, rx⟩ := vals1 r
  subst eu
  cases rx
  obtain ⟨z, lo, vs, rel, dd⟩ := dk_rd I.hok hd
  obtain ⟨ep, hat⟩ := dd.dictAt
  have ek : (kvs.map fun kv => kV kv.1) = vs.map fun p => kV p.1 := by
    have e := congrArg (List.map kV) rel.keys
    rw [List.map_map, List.map_map] at e
    exact e
  refine callType_codes (Q₁ := fun obj s₁ => s₁.TypeIs obj "tuple" ∧ EP X pins σ Q obj s₁) F.called_tuple (F.typeCall_tuple_1 _) F.entry_object_init
    (code_tuple_new_dict (T := "dict") (A := X.A.in1) (PySem.W.kdl_dict (knd := mixKind X.prog X.w) (kvs := vs) (ep := ep) lo) dd.typeIs (I.ok.hd hcalm) hat (by rw [← rel.length]; exact z) fun h' tk acc hk hacc => ⟨⟨_, Heap.get?_push_size _ rfl, rfl⟩, ?_⟩) fun obj s₁ h₁ => ?_
  · have hv : Vals (vs.map fun p => kV p.1) acc.toList := keys_at (by rw [Array.length_toList]; exact hacc.1) fun j v e => hacc.2 j v (by rw [← Array.getElem?_toList]; exact e)
    have I1 : Inv X pins σ H { s with heap := h' } := I.kept (t' := s.toks) hk
    have I2 : Inv X pins σ (upd H h'.objs.size (.tup (kvs.map fun kv => kV kv.1))) { s with heap := h'.push { cls := .type "tuple", data := .seq acc }, toks := tk } :=
      I1.laid (t' := tk) (fun b o e => Heap.get?_push_of_some _ e) (Nat.le_refl _) (show ObjOk X.prog X.w _ _ _ (.tup (kvs.map fun kv => kV kv.1)) from ⟨by rw [List.length_map]; exact z, acc.toList, by rw [ek]; exact hv, by have := IsTup.new h' acc; rw [Array.toArray_toList]; exact this⟩)
    exact ⟨.ref h'.objs.size, upd H h'.objs.size (.tup (kvs.map fun kv => kV kv.1)), I2, rfl, q _ (I1.hok.fresh (Nat.le_refl _))⟩
  · exact ⟨h₁.1, F.args_object_init_2 obj _, object_init_meets F.called_tuple.init.lookup F.called_tuple.made (by decide) X.prog X.w X.A.in1 _ s₁ ⟨h₁.1, rfl, h₁.2⟩⟩
/-- *d in a display -/
def tStarD (te : TE) (t : TA) : TA := fun σ H Q => te σ H fun x H1 => ∃ p kvs, x = V.ref p ∧ Rd H1 p (.dK kvs) ∧ t σ H1 fun ys H2 => Q ((kvs.map fun kv => kV kv.1) ++ ys) H2
theorem pa_starD {e : Expr} {es : List Expr} {te : TE} {t : TA} {p : Pos} (hcalm : X.calm = true) (he : PE X e te) (hr : PA X es t) (hs : starEach (.Starred e p :: es) X.env = (true, eval e X.env) :: starEach es X.env := by rfl) : PA X (.Starred e p :: es) (tStarD te t) := by
  refine ⟨fun pos pins s σ H Q I h => ?_⟩
  refine PySem.W.items_star (thn (he.run pins s σ H _ I h) fun v s1 ⟨y, H1, I1, ry, a, kvs, ey, hd, q⟩ => ?_) hs
  subst ey
  obtain rfl : v = Value.ref a := ry
  obtain ⟨z, lo, vs, rel, dd⟩ := dk_rd I1.hok hd
  obtain ⟨ep, hat⟩ := dd.dictAt
  have ek : (kvs.map fun kv => kV kv.1) = vs.map fun p => kV p.1 := by
    have e := congrArg (List.map kV) rel.keys
    rw [List.map_map, List.map_map] at e
    exact e
  unfold PySem.W.StarOf notIterableAtAll
  refine wpAny_bind (wpAny_specialOf dd.typeIs PySem.F.slot_dict_iter.lookup (wpAny_pure ⟨rfl, ?_⟩))
  refine PySem.W.kdu_collect (A := X.A) (PySem.W.kdl_dict (knd := mixKind X.prog X.w) (kvs := vs) (ep := ep) lo) (I1.ok.hd hcalm) hat (by rw [← rel.length]; exact z) fun h' tk acc hk hacc => ?_
  have hv : Vals (vs.map fun p => kV p.1) acc.toList := keys_at (by rw [Array.length_toList]; exact hacc.1) fun j v e => hacc.2 j v (by rw [← Array.getElem?_toList]; exact e)
  rw [← ek] at hv
  have I2 : Inv X pins σ H1 { s1 with heap := h', toks := tk } := I1.kept (t' := tk) hk
  exact thn (hr.run pos pins _ σ H1 _ I2 q) fun ws s3 ⟨zs, H3, I3, r3, q3⟩ => ⟨(kvs.map fun kv => kV kv.1) ++ zs, H3, I3, hv.append r3, q3⟩
end
section
variable {X : Cx} {k j : Nat} {sp : Sp} {x : Str} {e : Expr} {te : TE} {p pos sp_ : Pos}
/-- f(*e) -/
theorem pe_caS (c : CaX X k x sp []) (hr : Room j X.A) (hk : k ≤ j) (hg : Gl X x) (he : PE X e te) (hd : (x == ("__debug__" : Str)) = false := by decide)
    (hst : starEach [.Starred e sp_] X.env = [(true, eval e X.env)] := by rfl) :
    PE X (.Call (.Name x p) [.Starred e sp_] [] pos) (fun σ H Q => te σ H fun y H1 => ∃ a xs, y = V.ref a ∧ (SqT X.K H1 a xs ∨ SqL X.K H1 a xs) ∧ sp (xs ++ []) H1 Q E0) :=
  let ⟨_, _, _, _, F, hm, kp, b, d⟩ := c.ex
  StX.pe_callS1 ((F.raw b d)) (hr.mono hk) kp hg hm pass0 he hd hst
end
end Rd
/-! Building: what stands in the heap; its small methods. -/
namespace Rd
open PySem PySem.Spec PyProof.Rows L2 Gr
/-! ### what changes leave as it is -/
/-- all but instances stays -/
def Keep (H H' : Hp) : Prop := ∀ a u, H a = some u → (∀ C dx fs, u ≠ .ins C dx fs) → H' a = some u
/-- all but the object at b stays -/
def SameX (b : Addr) (H H' : Hp) : Prop := ∀ a u, a ≠ b → H a = some u → H' a = some u
section
variable {K : PySem.W.Frag} {H H' H2 : Hp} {a b : Addr}
theorem Keep.of (s : Same H H') : Keep H H' := fun a u e _ => s a u e
theorem Keep.trans (s : Keep H H') (t : Keep H' H2) : Keep H H2 := fun a u e n => t a u (s a u e n) n
theorem keep_ins {C dx : Addr} {fs : List (Str × V)} {o : HO} (h : H a = some (.ins C dx fs)) : Keep H (upd H a o) := fun b u e n => by
  rw [upd_ne (fun q => by rw [q, h] at e; exact n C dx fs (Option.some.inj e).symm)]
  exact e
theorem Keep.seq {xs : List V} (k : Keep H H') (h : SqL K H a xs) : SqL K H' a xs := by
  rcases h with (h | ⟨o, h⟩) | h
  · exact .inl (.inl (k _ _ h (fun _ _ _ q => by cases q)))
  · exact .inl (.inr ⟨o, k _ _ h (fun _ _ _ q => by cases q)⟩)
  · exact .inr h
theorem Keep.tup {xs : List V} (k : Keep H H') (h : SqT K H a xs) : SqT K H' a xs := by
  rcases h with (h | ⟨o, h⟩) | h
  · exact .inl (.inl (k _ _ h (fun _ _ _ q => by cases q)))
  · exact .inl (.inr ⟨o, k _ _ h (fun _ _ _ q => by cases q)⟩)
  · exact .inr h
mutual
theorem Dp.keep (e : Keep H H') : ∀ {v : V} {d : PyData}, Dp K H v d → Dp K H' v d
  | _, _, .non => .non
  | _, _, .bl b => .bl b
  | _, _, .int i => .int i
  | _, _, .str x => .str x
  | _, _, .lst h a => .lst (e.seq h) (DpAll.keep e a)
  | _, _, .tup h a => .tup (e.tup h) (DpAll.keep e a)
theorem DpAll.keep (e : Keep H H') : ∀ {vs : List V} {ds : List PyData}, DpAll K H vs ds → DpAll K H' vs ds
  | _, _, .nil => .nil
  | _, _, .cons h a => .cons (Dp.keep e h) (DpAll.keep e a)
end
theorem PsAt.keep {ps : List (Str × Str)} (e : Keep H H') : PsAt K H a ps → PsAt K H' a ps := fun ⟨xs, h, d⟩ => ⟨xs, h.elim (fun h => .inl (e.seq h)) fun h => .inr (e.tup h), DpAll.keep e d⟩
theorem _root_.L2.Same.x (s : Same H H') : SameX b H H' := fun a u _ e => s a u e
theorem SameX.trans (s : SameX b H H') (t : SameX b H' H2) : SameX b H H2 := fun a u n e => t a u n (s a u n e)
theorem sameX_put {o : HO} : SameX b H (upd H b o) := fun a u n e => by rw [upd_ne n]; exact e
theorem SameX.new {o : HO} (s : SameX b H H') (h : H' a = none) : SameX b H (upd H' a o) := fun c u n e => by
  rw [upd_ne (ne_of_none (s c u n e) h)]
  exact s c u n e
theorem lock_same {d : Addr} {u : HO} {od : Obj} (h : H d = some u) (s : Same (upd H d (.frz od u)) H') : Same H (upd H' d u) := fun a v e => by
  by_cases hd : a = d
  · subst hd
    rw [upd_same]
    rw [h] at e
    exact e
  · rw [upd_ne hd]
    exact s a v (by rw [upd_ne hd]; exact e)
end
/-! ### sizes, pairs, sides -/
def SzD (szs : List (Str × Nat)) : List (Key × V) := szs.map fun p => (Sum.inr p.1, V.int (p.2 : Nat))
theorem szD_val (szs : List (Str × Nat)) (x : Str) : valV (SzD szs) (Sum.inr x) = (szs.lookup x).map fun n => V.int (n : Nat) := by
  induction szs with
  | nil => rfl
  | cons p szs ih =>
    show valV ((Sum.inr p.1, V.int (p.2 : Nat)) :: SzD szs) (Sum.inr x) = _
    by_cases h : p.1 = x
    · rw [valV_pos (by show (Sum.inr p.1 : Key) = _; rw [h]), List.lookup_cons, h]
      simp
    · rw [valV_neg (fun z => h (Sum.inr.inj z)), ih, List.lookup_cons]
      have : (x == p.1) = false := by simpa using fun z : x = p.1 => h z.symm
      rw [this]
theorem szD_keys (szs : List (Str × Nat)) : (SzD szs).map (·.1) = (szs.map (·.1)).map Sum.inr := by
  unfold SzD
  rw [List.map_map, List.map_map]
  rfl
theorem szD_kv (szs : List (Str × Nat)) : ((SzD szs).map fun kv => kV kv.1) = (szs.map (·.1)).map V.str := by
  unfold SzD
  rw [List.map_map, List.map_map]
  rfl
theorem lookup_mem {szs : List (Str × Nat)} {x : Str} {n : Nat} (h : szs.lookup x = some n) : (x, n) ∈ szs := by
  induction szs with
  | nil => cases h
  | cons p szs ih =>
    rw [List.lookup_cons] at h
    by_cases e : x = p.1
    · have e1 : (x == p.1) = true := by simpa using e
      rw [e1] at h
      cases h
      rw [e]
      exact List.mem_cons_self
    · have e1 : (x == p.1) = false := by simpa using e
      rw [e1] at h
      exact List.mem_cons_of_mem _ (ih h)
theorem lookup_of {szs : List (Str × Nat)} (nd : (szs.map (·.1)).Nodup) {x : Str} {n : Nat} (h : (x, n) ∈ szs) : szs.lookup x = some n := by
  induction szs with
  | nil => cases h
  | cons p szs ih =>
    rw [List.map_cons, List.nodup_cons] at nd
    rw [List.lookup_cons]
    rcases List.mem_cons.mp h with e | h'
    · rw [← e]
      simp
    · have hn : ¬ x = p.1 := fun z => nd.1 (z ▸ List.mem_map.mpr ⟨_, h', rfl⟩)
      have e1 : (x == p.1) = false := by simpa using hn
      rw [e1]
      exact ih nd.2 h'
theorem lookup_some {szs : List (Str × Nat)} {x : Str} : (szs.lookup x).isSome = decide (x ∈ szs.map (·.1)) := by
  induction szs with
  | nil => rfl
  | cons p szs ih =>
    rw [List.lookup_cons]
    by_cases e : x = p.1
    · have e1 : (x == p.1) = true := by simpa using e
      rw [e1]
      simp [e]
    · have e1 : (x == p.1) = false := by simpa using e
      rw [e1]
      show (szs.lookup x).isSome = _
      rw [ih]
      simp [e]
/-- tuples of two names, each of its own in the heap -/
def TpAll (H : Hp) : List V → List (Str × Str) → Prop := Paired fun v p => ∃ t, v = V.ref t ∧ H t = some (.tup [.str p.1, .str p.2])
section
variable {K : PySem.W.Frag} {H H' : Hp}
theorem TpAll.dp : ∀ {xs : List V} {ps : List (Str × Str)}, TpAll H xs ps → DpAll K H xs (ps.map pD)
  | _, _, .nil => .nil
  | _, _, .cons ⟨t, e, h⟩ r => .cons (by rw [e]; exact pD_mk (SqT.of h)) (TpAll.dp r)
theorem TpAll.mono (k : ∀ t u v, H t = some (.tup [u, v]) → H' t = some (.tup [u, v])) : ∀ {xs : List V} {ps : List (Str × Str)}, TpAll H xs ps → TpAll H' xs ps
  | _, _, .nil => .nil
  | _, _, .cons ⟨t, e, h⟩ r => .cons ⟨t, e, k _ _ _ h⟩ (TpAll.mono k r)
theorem TpAll.same (s : Same H H') {xs : List V} {ps : List (Str × Str)} (h : TpAll H xs ps) : TpAll H' xs ps := h.mono fun t _ _ e => s _ _ e
theorem TpAll.keep (s : Keep H H') {xs : List V} {ps : List (Str × Str)} (h : TpAll H xs ps) : TpAll H' xs ps := h.mono fun t _ _ e => s _ _ e (fun _ _ _ z => by cases z)
theorem TpAll.put {D : Addr} {o : HO} (c : Chg (H D)) {xs : List V} {ps : List (Str × Str)} (h : TpAll H xs ps) : TpAll (upd H D o) xs ps := h.mono fun t u v e => by
  rw [upd_ne]
  · exact e
  · intro z
    rw [z] at e
    rcases c with c | ⟨_, c⟩ | ⟨_, c⟩ <;> rw [c] at e <;> cases e
theorem TpAll.len {xs : List V} {ps : List (Str × Str)} (h : TpAll H xs ps) : xs.length = ps.length := Paired.length h
theorem TpAll.app : ∀ {xs ys : List V} {ps qs : List (Str × Str)}, TpAll H xs ps → TpAll H ys qs → TpAll H (xs ++ ys) (ps ++ qs)
  | _, _, _, _, .nil, b => b
  | _, _, _, _, .cons h a, b => .cons h (TpAll.app a b)
theorem TpAll.get : ∀ {xs : List V} {ps : List (Str × Str)} {i : Nat} {v : V}, TpAll H xs ps → xs[i]? = some v → ∃ p t, ps[i]? = some p ∧ v = .ref t ∧ H t = some (.tup [.str p.1, .str p.2])
  | _, _, i, v, .nil, e => by simp at e
  | _, _, 0, v, .cons ⟨t, e1, h⟩ _, e => by
    simp at e
    subst e
    exact ⟨_, t, rfl, e1, h⟩
  | _, _, i + 1, v, .cons _ a, e => by
    obtain ⟨p, t, h1, h2, h3⟩ := TpAll.get (i := i) (v := v) a (by simpa using e)
    exact ⟨p, t, by simpa using h1, h2, h3⟩
end
/-- pairs in a list -/
def PsL (K : PySem.W.Frag) (H : Hp) (c : Addr) (ps : List (Str × Str)) : Prop := ∃ xs, SqL K H c xs ∧ TpAll H xs ps
/-- own_sides -/
def SdAt (K : PySem.W.Frag) (H : Hp) (v : V) (rooms : List Str) (ps : List (Str × Str)) : Prop :=
  (v = .non ∧ ∀ c, ¬ Col ps c) ∨ ∃ (t a b : Addr) (s0 s1 : List Str), v = .ref t ∧ H t = some (.tup [.ref a, .ref b]) ∧ H a = some (.tup (s0.map V.str)) ∧ H b = some (.tup (s1.map V.str)) ∧ SidesOk rooms ps s0 s1
abbrev bC (K : PySem.W.Frag) : Addr := He.ga K "Building"
/-- a building that stands in the heap -/
structure BAt (K : PySem.W.Frag) (H : Hp) (b : Addr) (szs : List (Str × Nat)) (ps : List (Str × Str)) : Prop where
  ex : ∃ dx d c nr sd rg br, H b = some (.ins (bC K) dx [("sizes", .ref d), ("pairs", .ref c), ("near", nr), ("own_sides", sd), ("own_ring", rg), ("own_bridges", br)]) ∧ H d = some (.dK (SzD szs)) ∧ PsL K H c ps ∧ SdAt K H sd (szs.map (·.1)) ps
/-- rooms, sizes, corridors that may be a building -/
structure BOk (szs : List (Str × Nat)) (ps : List (Str × Str)) : Prop where
  ne : szs ≠ []
  nd : (szs.map (·.1)).Nodup
  few : szs.length ≤ 24
  nm : ∀ p ∈ szs, Nm p.1
  pos : ∀ p ∈ szs, 1 ≤ p.2 ∧ p.2 ≤ 1000000
  ends : ∀ p ∈ ps, p.1 ∈ szs.map (·.1) ∧ p.2 ∈ szs.map (·.1)
  fewP : ps.length ≤ 31
  ord : ∀ p ∈ ps, ltS p.1 p.2 = true
  ndP : ps.Nodup
  cn : ∀ x ∈ szs.map (·.1), ∀ y ∈ szs.map (·.1), Conn ps x y
section
variable {K : PySem.W.Frag} {H H' : Hp} {b c : Addr} {szs : List (Str × Nat)} {ps : List (Str × Str)}
theorem PsL.same (e : Same H H') : PsL K H c ps → PsL K H' c ps := fun ⟨xs, h, d⟩ => ⟨xs, e.seq h, d.same e⟩
theorem PsL.keep (e : Keep H H') : PsL K H c ps → PsL K H' c ps := fun ⟨xs, h, d⟩ => ⟨xs, e.seq h, d.keep e⟩
theorem PsL.at (h : PsL K H c ps) : PsAt K H c ps := let ⟨xs, h, d⟩ := h; ⟨xs, .inl h, d.dp⟩
theorem SdAt.keep {v : V} {rooms : List Str} (e : Keep H H') : SdAt K H v rooms ps → SdAt K H' v rooms ps := fun h => h.elim .inl fun ⟨t, a, b, s0, s1, h1, h2, h3, h4, h5⟩ => .inr ⟨t, a, b, s0, s1, h1, e _ _ h2 (fun _ _ _ z => by cases z), e _ _ h3 (fun _ _ _ z => by cases z), e _ _ h4 (fun _ _ _ z => by cases z), h5⟩
/-- own_sides, as it stands -/
def BSd (H : Hp) (b : Addr) (v : V) : Prop := ∃ C dx fs, H b = some (.ins C dx fs) ∧ fs.lookup ("own_sides" : Str) = some v
theorem BSd.same {v : V} (e : Same H H') : BSd H b v → BSd H' b v := fun ⟨C, dx, fs, h1, h2⟩ => ⟨C, dx, fs, e _ _ h1, h2⟩
theorem BSd.uniq {v u : V} : BSd H b v → BSd H b u → v = u := fun ⟨C, dx, fs, h1, h2⟩ ⟨C', dx', fs', h3, h4⟩ => by
  rw [h1] at h3
  cases h3
  rw [h2] at h4
  exact Option.some.inj h4
theorem BSd.put {v : V} {a : Addr} {o : HO} (h : BSd H b v) (n : b ≠ a) : BSd (upd H a o) b v :=
  let ⟨C, dx, fs, h1, h2⟩ := h
  ⟨C, dx, fs, by rw [upd_ne n]; exact h1, h2⟩
theorem BAt.same (e : Same H H') (B : BAt K H b szs ps) : BAt K H' b szs ps :=
  let ⟨dx, d, c, nr, sd, rg, br, h1, h2, h3, h4⟩ := B.ex
  ⟨dx, d, c, nr, sd, rg, br, e _ _ h1, e _ _ h2, h3.same e, h4.keep (.of e)⟩
theorem BOk.nms (B : BOk szs ps) : Nms ps := fun p hp => by
  obtain ⟨h1, h2⟩ := B.ends p hp
  obtain ⟨q1, m1, e1⟩ := List.mem_map.mp h1
  obtain ⟨q2, m2, e2⟩ := List.mem_map.mp h2
  exact ⟨e1 ▸ B.nm q1 m1, e2 ▸ B.nm q2 m2⟩
theorem BOk.nmR (B : BOk szs ps) {x : Str} (h : x ∈ szs.map (·.1)) : Nm x := by
  obtain ⟨q1, m1, e1⟩ := List.mem_map.mp h
  exact e1 ▸ B.nm q1 m1
end
/-! ### __contains__, __getitem__ -/
/-- sizes alone stands -/
def spBIn (K : PySem.W.Frag) : Sp := fun vs H Q _ => ∃ (b d : Addr) (dx : Addr) (rest : List (Str × V)) (x : Str) (szs : List (Str × Nat)), vs = [.ref b, .str x] ∧ H b = some (.ins (bC K) dx (("sizes", .ref d) :: rest)) ∧ H d = some (.dK (SzD szs)) ∧ Nm x ∧ ∀ H', Same H H' → Q (.bl (decide (x ∈ szs.map (·.1)))) H'
-- slots of Building.__contains__: 0 self 1 thing
theorem sc_Building_dcontains : FnScope ["self", "thing"] ["self", "thing"] (defScope s_Building_dcontains) := ⟨rfl, rfl, rfl, by decide +kernel, rfl, by decide +kernel, by decide +kernel⟩
section
variable {P : Program} {w : World} {K : PySem.W.Frag} {mg : Str → Option Value} {base : Heap}
theorem mt_Building_dcontains (T : Wd K mg base) : Mt P w K mg base 2 (bC K) "__contains__" (spBIn K) := by
  obtain ⟨fd, F⟩ := T.L.F_Building_dcontains
  refine mt_of F T.L.c_Building T.L.m_Building_dcontainsd (F.binds (ps := ["self", "thing"]) fun _ _ _ _ _ _ us hl => match us, hl with | [_, _], _ => rfl) sc_Building_dcontains (fun vs H Q E ⟨_, _, _, _, _, _, e, _⟩ => by rw [e]; rfl) ?_
  rintro cdv A outer s H vs Q E hr ⟨b, d, dx, rest, x, szs, rfl, hb, hd, hx, k⟩
  refine ⟨_, (pss_one (ps_ret (pe_and (pe_ca (ca_is_name T) hr (by decide) rfl (pa_cons (pv 1) pa_nil)) (pe_one (pe_cmp (pc_din (hu_of hr) (pv 1) (pe_fld (pv 0) rfl)) rfl))))), ?_⟩
  refine ⟨_, rfl, x, rfl, hx, fun H1 s1 => ⟨true, rfl, iteT ?_⟩⟩
  refine ⟨_, rfl, _, rfl, b, _, dx, _, .ref d, rfl, s1 _ _ hb, T.L.c_Building, T.L.n_Building_sizes, rfl, d, _, rfl, DGet.k (k := Sum.inr x) (s1 _ _ hd), ?_⟩
  rw [szD_val, Option.isSome_map, lookup_some]
  exact k _ s1
def spBGet (K : PySem.W.Frag) : Sp := fun vs H Q _ => ∃ (b : Addr) (x : Str) (szs : List (Str × Nat)) (ps : List (Str × Str)) (n : Nat), vs = [.ref b, .str x] ∧ BAt K H b szs ps ∧ BOk szs ps ∧ szs.lookup x = some n ∧ ∀ H', Same H H' → Q (.int (n : Nat)) H'
end
-- slots of Building.__getitem__: 0 self 1 room
theorem sc_Building_dgetitem : FnScope ["self", "room"] ["self", "room"] (defScope s_Building_dgetitem) := ⟨rfl, rfl, rfl, by decide +kernel, rfl, by decide +kernel, by decide +kernel⟩
section
variable {P : Program} {w : World} {K : PySem.W.Frag} {mg : Str → Option Value} {base : Heap}
theorem mt_Building_dgetitem (T : Wd K mg base) : Mt P w K mg base 3 (bC K) "__getitem__" (spBGet K) := by
  obtain ⟨fd, F⟩ := T.L.F_Building_dgetitem
  refine mt_of F T.L.c_Building T.L.m_Building_dgetitemd (F.binds (ps := ["self", "room"]) fun _ _ _ _ _ _ us hl => match us, hl with | [_, _], _ => rfl) sc_Building_dgetitem (fun vs H Q E ⟨_, _, _, _, _, e, _⟩ => by rw [e]; rfl) ?_
  rintro cdv A outer s H vs Q E hr ⟨b, x, szs, ps, n, rfl, B, O, hn, k⟩
  obtain ⟨dx, d, c, nr, sd, rg, br, hb, hd, hp, hs⟩ := B.ex
  have hm : x ∈ szs.map (·.1) := List.mem_map.mpr ⟨_, lookup_mem hn, rfl⟩
  refine ⟨_, (pss_cons (ps_if (pt_cmpR (op_nin_own (mt_Building_dcontains T) hr (by decide)) (pv 1) (pv 0) (by rfl)) (pss_one ps_never) pss_nil) (pss_one (ps_ret (pe_dget (hu_of hr) (pe_fld (pv 0) rfl) (pv 1) (fun _ _ => rfl))))), ?_⟩
  refine ⟨_, rfl, _, rfl, b, dx, _, rfl, hb, b, d, dx, _, x, szs, rfl, hb, hd, O.nmR hm, fun H1 s1 => ⟨_, rfl, _, rfl, ?_⟩⟩
  rw [decide_eq_true hm]
  refine iteF ?_
  refine ⟨_, rfl, b, _, dx, _, .ref d, rfl, s1 _ _ hb, T.L.c_Building, T.L.n_Building_sizes, rfl, _, rfl, d, _, rfl, .inl ⟨_, Sum.inr x, .inl (s1 _ _ hd), rfl, ?_⟩, k _ s1⟩
  rw [szD_val, hn]
  rfl
end
end Rd
/-! Building: rooms, corridors, sides, corridor_of, bank, __eq__. -/
namespace Rd
open PySem PySem.Spec PyProof.Rows L2 Gr
def spBRooms (K : PySem.W.Frag) : Sp := fun vs H Q _ => ∃ (b : Addr) (szs : List (Str × Nat)) (ps : List (Str × Str)), vs = [.ref b] ∧ BAt K H b szs ps ∧ ∀ H' p, Same H H' → H' p = some (.tup ((szs.map (·.1)).map V.str)) → Q (.ref p) H'
-- slots of Building.rooms: 0 self
theorem sc_Building_rooms : FnScope ["self"] ["self"] (defScope s_Building_rooms) := ⟨rfl, rfl, rfl, by decide +kernel, rfl, by decide +kernel, by decide +kernel⟩
section
variable {P : Program} {w : World} {K : PySem.W.Frag} {mg : Str → Option Value} {base : Heap}
theorem pr_Building_rooms (T : Wd K mg base) : Pr P w K mg base 1 (bC K) "rooms" (spBRooms K) := by
  obtain ⟨fd, F⟩ := T.L.F_Building_rooms
  obtain ⟨p, hp⟩ := propB_ok (ex_0 T.L.more)
  refine pr_of F T.L.c_Building hp (F.binds (ps := ["self"]) fun _ _ _ _ _ _ us hl => match us, hl with | [_], _ => rfl) sc_Building_rooms (fun vs H Q E ⟨_, _, _, e, _⟩ => by rw [e]; rfl) ?_
  rintro cdv A outer s H vs Q E hr ⟨b, szs, ps, rfl, B, k⟩
  obtain ⟨dx, d, c, nr, sd, rg, br, hb, hd, hp, hs⟩ := B.ex
  refine ⟨_, (pss_one (ps_ret (pe_callTy (call_tupleD rfl) (by rfl) T.f_tuple (by decide +kernel) (pa_cons (pe_fld (pv 0) rfl) pa_nil)))), ?_⟩
  refine ⟨_, rfl, b, _, dx, _, .ref d, rfl, hb, T.L.c_Building, T.L.n_Building_sizes, rfl, d, _, rfl, .inl hd, fun q hq => k _ q (sm_new hq) ?_⟩
  rw [upd_same, szD_kv]
def spBCorrs (K : PySem.W.Frag) : Sp := fun vs H Q _ => ∃ (b : Addr) (szs : List (Str × Nat)) (ps : List (Str × Str)), vs = [.ref b] ∧ BAt K H b szs ps ∧ ∀ H' p xs, Same H H' → H' p = some (.tup xs) → TpAll H' xs ps → Q (.ref p) H'
end
-- slots of Building.corridors: 0 self
theorem sc_Building_corridors : FnScope ["self"] ["self"] (defScope s_Building_corridors) := ⟨rfl, rfl, rfl, by decide +kernel, rfl, by decide +kernel, by decide +kernel⟩
section
variable {P : Program} {w : World} {K : PySem.W.Frag} {mg : Str → Option Value} {base : Heap}
theorem pr_Building_corridors (T : Wd K mg base) : Pr P w K mg base 1 (bC K) "corridors" (spBCorrs K) := by
  obtain ⟨fd, F⟩ := T.L.F_Building_corridors
  obtain ⟨p, hp⟩ := propB_ok (ex_1 T.L.more)
  refine pr_of F T.L.c_Building hp (F.binds (ps := ["self"]) fun _ _ _ _ _ _ us hl => match us, hl with | [_], _ => rfl) sc_Building_corridors (fun vs H Q E ⟨_, _, _, e, _⟩ => by rw [e]; rfl) ?_
  rintro cdv A outer s H vs Q E hr ⟨b, szs, ps, rfl, B, k⟩
  obtain ⟨dx, d, c, nr, sd, rg, br, hb, hd, ⟨xs, hx, hxs⟩, hs⟩ := B.ex
  refine ⟨_, (pss_one (ps_ret (pe_callTy (call_tuple_of) (by rfl) T.f_tuple (by decide +kernel) (pa_cons (pe_fld (pv 0) rfl) pa_nil)))), ?_⟩
  refine ⟨_, rfl, b, _, dx, _, .ref c, rfl, hb, T.L.c_Building, T.L.n_Building_pairs, rfl, c, xs, rfl, .inl ⟨hx, fun q hq => k _ q xs (sm_new hq) upd_same (hxs.same (sm_new hq))⟩⟩
def spBSides (K : PySem.W.Frag) : Sp := fun vs H Q _ => ∃ (b : Addr) (szs : List (Str × Nat)) (ps : List (Str × Str)), vs = [.ref b] ∧ BAt K H b szs ps ∧ ∀ v, BSd H b v → SdAt K H v (szs.map (·.1)) ps → Q v H
end
-- slots of Building.sides: 0 self
theorem sc_Building_sides : FnScope ["self"] ["self"] (defScope s_Building_sides) := ⟨rfl, rfl, rfl, by decide +kernel, rfl, by decide +kernel, by decide +kernel⟩
section
variable {P : Program} {w : World} {K : PySem.W.Frag} {mg : Str → Option Value} {base : Heap}
theorem pr_Building_sides (T : Wd K mg base) : Pr P w K mg base 1 (bC K) "sides" (spBSides K) := by
  obtain ⟨fd, F⟩ := T.L.F_Building_sides
  obtain ⟨p, hp⟩ := propB_ok (ex_2 T.L.more)
  refine pr_of F T.L.c_Building hp (F.binds (ps := ["self"]) fun _ _ _ _ _ _ us hl => match us, hl with | [_], _ => rfl) sc_Building_sides (fun vs H Q E ⟨_, _, _, e, _⟩ => by rw [e]; rfl) ?_
  rintro cdv A outer s H vs Q E hr ⟨b, szs, ps, rfl, B, k⟩
  obtain ⟨dx, d, c, nr, sd, rg, br, hb, hd, hp, hs⟩ := B.ex
  refine ⟨_, (pss_one (ps_ret (pe_fld (pv 0) rfl))), ?_⟩
  exact ⟨_, rfl, b, _, dx, _, sd, rfl, hb, T.L.c_Building, T.L.n_Building_own_sides, rfl, k sd ⟨_, _, _, hb, rfl⟩ hs⟩
/-! ### corridor_of -/
def spBCof (K : PySem.W.Frag) : Sp := fun vs H Q _ => ∃ (b : Addr) (x y : Str) (szs : List (Str × Nat)) (ps : List (Str × Str)), vs = [.ref b, .str x, .str y] ∧ BAt K H b szs ps ∧ BOk szs ps ∧ pairS x y ∈ ps ∧ ∀ H' p, Same H H' → H' p = some (.tup [.str (pairS x y).1, .str (pairS x y).2]) → Q (.ref p) H'
end
theorem pairS_ends {x y : Str} {szs : List (Str × Nat)} {ps : List (Str × Str)} (O : BOk szs ps) (h : pairS x y ∈ ps) : x ∈ szs.map (·.1) ∧ y ∈ szs.map (·.1) := by
  have := O.ends _ h
  unfold pairS at this
  split at this
  · exact this
  · exact this.symm
-- slots of Building.corridor_of: 0 self 1 one 2 other
theorem sc_Building_corridor_of : FnScope ["self", "one", "other"] ["self", "one", "other"] (defScope s_Building_corridor_of) := ⟨rfl, rfl, rfl, by decide +kernel, rfl, by decide +kernel, by decide +kernel⟩
section
variable {P : Program} {w : World} {K : PySem.W.Frag} {mg : Str → Option Value} {base : Heap}
theorem mt_Building_corridor_of (T : Wd K mg base) : Mt P w K mg base 3 (bC K) "corridor_of" (spBCof K) := by
  obtain ⟨fd, F⟩ := T.L.F_Building_corridor_of
  refine mt_of F T.L.c_Building T.L.m_Building_corridor_of (F.binds (ps := ["self", "one", "other"]) fun _ _ _ _ _ _ us hl => match us, hl with | [_, _, _], _ => rfl) sc_Building_corridor_of (fun vs H Q E ⟨_, _, _, _, _, e, _⟩ => by rw [e]; rfl) ?_
  rintro cdv A outer s H vs Q E hr ⟨b, x, y, szs, ps, rfl, B, O, hin, k⟩
  obtain ⟨hx, hy⟩ := pairS_ends O hin
  obtain ⟨dx, d, c, nr, sd, rg, br, hb, hd, hp, hs⟩ := B.ex
  refine ⟨_, (pss_cons (ps_if (PW.pt (pw_or (pt_cmpR (op_nin_own (mt_Building_dcontains T) hr (by decide)) (pv 1) (pv 0) (by rfl)) (pw_or (pt_cmpR (op_nin_own (mt_Building_dcontains T) hr (by decide)) (pv 2) (pv 0) (by rfl)) (pw_or1 (pt_cmpR (op_ninA (hu65 hr)) (pe_ca (ca_pair_of T) hr (by decide) rfl (pa_cons (pv 1) (pa_cons (pv 2) pa_nil))) (pe_fld (pv 0) rfl) (by rfl)))))) (pss_one ps_never) pss_nil) (pss_one (ps_ret (pe_ca (ca_pair_of T) hr (by decide) rfl (pa_cons (pv 1) (pa_cons (pv 2) pa_nil)))))), ?_⟩
  refine ⟨_, rfl, _, rfl, b, dx, _, rfl, hb, b, d, dx, _, x, szs, rfl, hb, hd, O.nmR hx, fun H1 s1 => ⟨_, rfl, _, rfl, ?_⟩⟩
  rw [decide_eq_true hx]
  refine iteF ?_
  refine ⟨_, rfl, _, rfl, b, dx, _, rfl, s1 _ _ hb, b, d, dx, _, y, szs, rfl, s1 _ _ hb, s1 _ _ hd, O.nmR hy, fun H2 s2 => ⟨_, rfl, _, rfl, ?_⟩⟩
  rw [decide_eq_true hy]
  refine iteF ?_
  refine ⟨_, rfl, _, rfl, x, y, rfl, fun t ht => ?_⟩
  have s3 : Same H (upd H2 t (.tup [.str (pairS x y).1, .str (pairS x y).2])) := (s1.trans s2).new ht
  refine ⟨_, rfl, b, _, dx, _, .ref c, rfl, s3 _ _ hb, T.L.c_Building, T.L.n_Building_pairs, rfl, rInA_pair (pD_mk (SqT.of upd_same)) (hp.same s3).at (O.nms _ hin) O.nms ⟨_, rfl, ?_⟩⟩
  rw [decide_eq_true hin]
  refine iteF ?_
  exact ⟨_, rfl, _, rfl, x, y, rfl, fun u hu => k _ u (s3.new hu) upd_same⟩
/-! ### bank -/
/-- one end's side of a corridor -/
def spBBank (K : PySem.W.Frag) : Sp := fun vs H Q _ => ∃ (b : Addr) (x y : Str) (szs : List (Str × Nat)) (ps : List (Str × Str)), vs = [.ref b, .str x, .str y] ∧ BAt K H b szs ps ∧ BOk szs ps ∧ pairS x y ∈ ps ∧ ∀ H', Same H H' → (Conn (ps.filter (· ≠ pairS x y)) x y → Q .non H') ∧
  ∀ (p : Addr) (rs : List Str), ¬ Conn (ps.filter (· ≠ pairS x y)) x y → rs.Nodup → (∀ z, z ∈ rs ↔ Conn (ps.filter (· ≠ pairS x y)) x z) → H' p = some (.tup (rs.map V.str)) → Q (.ref p) H'
end
theorem pD_put {K : PySem.W.Frag} {H : Hp} {D : Addr} {o : HO} {v : V} {p : Str × Str} (h : Chg (H D)) (s : Dp K H v (pD p)) : Dp K (upd H D o) v (pD p) := by
  obtain ⟨t, rfl, ht⟩ := pD_inv s
  exact pD_mk (sqT_put h ht)
theorem pDs_put {K : PySem.W.Frag} {H : Hp} {D : Addr} {o : HO} (h : Chg (H D)) : ∀ {vs : List V} {ps : List (Str × Str)}, DpAll K H vs (ps.map pD) → DpAll K (upd H D o) vs (ps.map pD)
  | [], [], _ => .nil
  | v :: vs, p :: ps, .cons a b => .cons (pD_put h a) (pDs_put h b)
theorem filter_snoc {α : Type} {l : List α} {i : Nat} {x : α} (f : α → Bool) (h : l[i]? = some x) : (l.take (i + 1)).filter f = if f x = true then (l.take i).filter f ++ [x] else (l.take i).filter f := by
  rw [take_snoc h, List.filter_append]
  cases e : f x <;> simp [e]
theorem all_flat (xs : List Str) : (xs.map V.str).all flatV = true := by
  rw [List.all_eq_true]
  intro v h
  obtain ⟨x, _, rfl⟩ := List.mem_map.mp h
  rfl
theorem inV_str (x : Str) (xs : List Str) : inV (V.str x) (xs.map V.str) = decide (x ∈ xs) := by
  induction xs with
  | nil => rfl
  | cons y ys ih =>
    show ((y == x) || inV (V.str x) (ys.map V.str)) = _
    rw [ih]
    by_cases h : x = y
    · subst h
      simp
    · have h' : (y == x) = false := by simpa using fun z : y = x => h z.symm
      rw [h']
      simp [h]
-- slots of Building.bank: 0 self 1 room 2 other 3 corridor* 4 reached 5 pair
theorem sc_Building_bank : FnScope ["self", "room", "other", "corridor", "reached", "pair"] ["self", "room", "other"] (defScope s_Building_bank) := ⟨rfl, rfl, rfl, by decide +kernel, rfl, by decide +kernel, by decide +kernel⟩
section
variable {P : Program} {w : World} {K : PySem.W.Frag} {mg : Str → Option Value} {base : Heap}
theorem mt_Building_bank (T : Wd K mg base) : Mt P w K mg base 4 (bC K) "bank" (spBBank K) := by
  obtain ⟨fd, F⟩ := T.L.F_Building_bank
  refine mt_of F T.L.c_Building T.L.m_Building_bank (F.binds (ps := ["self", "room", "other"]) fun _ _ _ _ _ _ us hl => match us, hl with | [_, _, _], _ => rfl) sc_Building_bank (fun vs H Q E ⟨_, _, _, _, _, e, _⟩ => by rw [e]; rfl) ?_
  rintro cdv A outer s H vs Q E hr ⟨b, x, y, szs, ps, rfl, B, O, hin, k⟩
  refine ⟨_, (pss_cons (ps_set (i := 3) sc_Building_bank.nd rfl (Or.inr rfl) (pe_mt (mt_Building_corridor_of T) hr (by decide) (pv 0) (pa_cons (pv 1) (pa_cons (pv 2) pa_nil)))) (pss_cons (ps_set (i := 4) sc_Building_bank.nd rfl (Or.inl rfl) (pe_ca (ca_reached_from2 T) hr (by decide) rfl (pa_cons (pv 1) (pa_cons (pe_lc (own := [("pair", 5)]) (g := gName 5) rfl sc_Building_bank.nd (pi_list (pe_fld (pv 0) rfl)) (blkOk_by (own := [("pair", 5)]) (N := ["self", "room", "other", "corridor", "reached", "pair"]) (sc := defScope s_Building_bank) (by decide +kernel)) (fun _ _ _ _ _ => (pg_name (i := 5) sc_Building_bank.nd rfl (Or.inl rfl))) (fun _ _ _ _ _ => (pts_one (pt_cmpR (r := rNeD K) (op_neD hr.units) (pv 5) (pv 3) (by rfl)))) (fun _ _ _ _ _ => (pv 5))) pa_nil)))) (pss_one (ps_ret (pe_ifExp (pt_cmpR op_in_seq (pv 2) (pv 4) (by rfl)) pe_non (pe_callTy (call_tuple_of) (by rfl) T.f_tuple (by decide +kernel) (pa_cons (pe_callB (cr_sortedS) (by rfl) T.f_sorted (by decide +kernel) (pa_cons (pv 4) pa_nil)) pa_nil))))))), ?_⟩
  obtain ⟨dx, d, c, nr, sd, rg, br, hb, hd, ⟨xs, hx, hxs⟩, hs⟩ := B.ex
  refine ⟨_, rfl, b, dx, _, rfl, hb, rfl, _, rfl, _, rfl, b, x, y, szs, ps, rfl, B, O, hin, fun H1 t s1 ht => ?_⟩
  refine ⟨_, rfl, ?_⟩
  refine ⟨_, rfl, b, _, dx, _, .ref c, rfl, s1 _ _ hb, T.L.c_Building, T.L.n_Building_pairs, rfl, c, rfl, ⟨_, s1.seq hx⟩, fun D hD => lc_list (K := K) (a := c) (xs := xs)
    (fun i H' => ∃ zs, H' D = some (.lst zs) ∧ DpAll K H' zs (((ps.take i).filter (· ≠ pairS x y)).map pD) ∧ zs.length ≤ i ∧ Same H1 H') ⟨[], upd_same, .nil, Nat.le_refl _, sm_new hD⟩ (fun i H' _ ⟨_, _, _, _, h⟩ => (s1.trans h).seq hx) ?_ ?_⟩
  · rintro i v H' hi ⟨zs, hz, hzd, hzl, ss⟩
    obtain ⟨p, u, hp, rfl, hu⟩ := PsAt.item (hxs.dp.same (s1.trans ss)) hi
    have hip := (List.getElem?_eq_some_iff.mp hp).1
    have hpm := List.mem_of_getElem? hp
    refine ⟨rfl, _, rfl, _, rfl, pD p, pD (pairS x y), pD_mk hu, pD_mk (ss.tup (SqT.of ht)), pD_shaped (O.nms _ hpm), pD_shaped (O.nms _ hin), _, rfl, ?_⟩
    rw [pD_eqv, filter_snoc _ hp]
    by_cases e : p = pairS x y
    · rw [decide_eq_true e, if_neg (by simp [e])]
      exact iteF ⟨zs, hz, hzd, by omega, ss⟩
    · rw [decide_eq_false e, if_pos (by simp [e])]
      refine iteT ⟨_, rfl, _, hz, ?_, zs ++ [V.ref u], upd_same, ?_, ?_, ss.put hD⟩
      · have := O.fewP
        rw [sizeLine_eq]
        omega
      · rw [List.map_append]
        have hc : Chg (H' D) := .inr (.inr ⟨_, hz⟩)
        exact DpAll.app (pDs_put hc hzd) (.cons (pD_put hc (pD_mk hu)) .nil)
      · rw [List.length_append]
        simp only [List.length_singleton]
        omega
  rintro H2 ⟨zs, hz, hzd, hzl, ss⟩
  have el : xs.length = ps.length := hxs.len
  rw [el, List.take_length] at hzd
  have fsub : ∀ p ∈ ps.filter (· ≠ pairS x y), p ∈ ps := fun p hp => (List.mem_filter.mp hp).1
  have hlen : (ps.filter (· ≠ pairS x y)).length ≤ 31 := Nat.le_trans (List.length_filter_le _ _) O.fewP
  refine ⟨x, D, _, ps.filter (· ≠ pairS x y), rfl, ⟨zs, .inl (SqL.of hz), hzd⟩, etB_ok (ex_21 T.L.more) _, hlen, fun H3 p lv s3 hp L => ?_⟩
  have sH : Same H H3 := s1.trans (ss.trans s3)
  refine ⟨_, rfl, _, rfl, p, _, rfl, .inl (SqL.of hp), rfl, all_flat _, _, rfl, ?_⟩
  have mem : ∀ z, z ∈ lv.map (·.1) ↔ Conn (ps.filter (· ≠ pairS x y)) x z := fun z => by
    constructor
    · intro h
      obtain ⟨⟨z', dd, q⟩, h1, h2⟩ := List.mem_map.mp h
      cases h2
      exact L.conn h1
    · intro h
      obtain ⟨dd, q, h1⟩ := L.all h
      exact List.mem_map.mpr ⟨_, h1, rfl⟩
  show if inV (V.str y) ((lv.map (·.1)).map V.str) = true then _ else _
  rw [inV_str]
  by_cases hy : y ∈ lv.map (·.1)
  · rw [decide_eq_true hy]
    exact iteT ((k _ sH).1 ((mem y).mp hy))
  · rw [decide_eq_false hy]
    have h63 : (lv.map (·.1)).length < 64 := by have := L.len; rw [List.length_map]; omega
    refine iteF ⟨_, rfl, p, _, rfl, SqL.of hp, h63, fun ys q hperm _ hq => ⟨q, _, rfl, .inl ⟨SqL.of upd_same, fun r hr' => ?_⟩⟩⟩
    refine (k _ ((sH.new hq).new hr')).2 r ys (fun h => hy ((mem y).mpr h)) (hperm.nodup_iff.mpr L.nd) (fun z => (hperm.mem_iff).trans (mem z)) upd_same
end
end Rd
/-! Building: sorted_pairs, check_connected, __eq__. -/
namespace Rd
open PySem PySem.Spec PyProof.Rows L2 Gr
section
variable {K : PySem.W.Frag} {H H' : Hp}
theorem sqT_ty {t : Addr} {xs : List V} (h : SqT K H t xs) : TyX K H (.ref t) (.type "tuple") := by
  rcases h with (h | ⟨o, h⟩) | ⟨o, its, n, h1, h2, _⟩
  · exact .base (.tup h)
  · exact .fTuple h
  · exact .kTuple h1 h2
def unD : PyData → Str × Str
  | .tuple [.str a, .str b] => (a, b)
  | _ => ("", "")
theorem unD_pD (p : Str × Str) : unD (pD p) = p := rfl
theorem tpAll_zip : ∀ {xs : List V} {ps : List (Str × Str)}, TpAll H xs ps → (∀ b ∈ xs.zip (ps.map pD), ∃ p t, b.2 = pD p ∧ b.1 = V.ref t ∧ H t = some (.tup [.str p.1, .str p.2])) ∧ (xs.zip (ps.map pD)).map Prod.fst = xs ∧ (xs.zip (ps.map pD)).map Prod.snd = ps.map pD
  | _, _, .nil => ⟨(fun b h => by cases h), rfl, rfl⟩
  | x :: xs, p :: ps, .cons ⟨t, e, h⟩ d => by
    obtain ⟨h1, h2, h3⟩ := tpAll_zip d
    refine ⟨fun b hb => ?_, ?_, ?_⟩
    · rw [List.map_cons, List.zip_cons_cons] at hb
      rcases List.mem_cons.mp hb with e2 | hb
      · rw [e2]
        exact ⟨p, t, rfl, e, h⟩
      · exact h1 b hb
    · rw [List.map_cons, List.zip_cons_cons, List.map_cons, h2]
    · rw [List.map_cons, List.zip_cons_cons, List.map_cons, h3]
theorem tpAll_of : ∀ {cs : List (V × PyData)}, (∀ b ∈ cs, ∃ p t, b.2 = pD p ∧ b.1 = V.ref t ∧ H t = some (.tup [.str p.1, .str p.2])) → TpAll H (cs.map Prod.fst) (cs.map fun b => unD b.2)
  | [], _ => .nil
  | b :: cs, h => by
    obtain ⟨p, t, h1, h2, h3⟩ := h b List.mem_cons_self
    rw [List.map_cons, List.map_cons]
    refine .cons ?_ (tpAll_of fun c hc => h c (List.mem_cons_of_mem _ hc))
    rw [h1, unD_pD]
    exact ⟨t, h2, h3⟩
theorem pD_alike (p q : Str × Str) : PySem.W.alike (pD p) (pD q) = true := by
  obtain ⟨a, b⟩ := p
  obtain ⟨c, d⟩ := q
  simp [pD, PySem.W.alike, PySem.W.alikeAll]
theorem rSortD_pairs {a : Addr} {xs : List V} {ps : List (Str × Str)} {Q : VK} (h : SqL K H a xs) (d : TpAll H xs ps)
    (k : ∀ (p : Addr) (ys : List V) (qs : List (Str × Str)), H p = none → qs.Perm ps → TpAll H ys qs → Q (.ref p) (upd H p (.lst ys))) : rSortD K [.ref a] H Q := by
  obtain ⟨h1, h2, h3⟩ := tpAll_zip d
  refine ⟨a, xs.zip (ps.map pD), rfl, by rw [h2]; exact h, fun b hb => ⟨?_, ?_⟩, ?_, ?_, fun p hp => ?_⟩
  · obtain ⟨p, t, e1, e2, e3⟩ := h1 b hb
    rw [e1, e2]
    exact pD_mk (SqT.of e3)
  · obtain ⟨p, t, e, _⟩ := h1 b hb
    rw [e]
    simp [pD, PyData.depth, PyData.depthAll]
  · rw [h3]
    intro x hx y hy
    obtain ⟨p, _, rfl⟩ := List.mem_map.mp hx
    obtain ⟨q, _, rfl⟩ := List.mem_map.mp hy
    exact pD_alike p q
  · rw [h3]
    refine .inl fun x hx => ?_
    obtain ⟨p, _, rfl⟩ := List.mem_map.mp hx
    exact ⟨_, _, rfl⟩
  · have hperm := List.mergeSort_perm (xs.zip (ps.map pD)) (PySem.W.dataLe false Prod.snd)
    refine k p _ (((xs.zip (ps.map pD)).mergeSort (PySem.W.dataLe false Prod.snd)).map fun b => unD b.2) hp ?_ (tpAll_of fun b hb => h1 b (hperm.mem_iff.mp hb))
    have := hperm.map (fun b => unD b.2)
    refine this.trans ?_
    have e : (xs.zip (ps.map pD)).map (fun b => unD b.2) = ((xs.zip (ps.map pD)).map Prod.snd).map unD := by rw [List.map_map]; rfl
    rw [e, h3, List.map_map]
    have e2 : (unD ∘ pD) = id := by funext p; exact unD_pD p
    rw [e2, List.map_id]
end
theorem ltS_irr (x : Str) : ¬ ltS x x = true := fun h => by
  have h' : x.cps.toList < x.cps.toList := of_decide_eq_true h
  exact List.lt_irrefl _ h'
theorem pairS_eq {p : Str × Str} (h : ltS p.1 p.2 = true) : pairS p.1 p.2 = p := by
  unfold pairS
  rw [if_pos h]
theorem not_take {α : Type} {l : List α} {i : Nat} {x : α} (nd : l.Nodup) (h : l[i]? = some x) : x ∉ l.take i := fun hm => by
  obtain ⟨j, hj⟩ := mem_get hm
  have hj2 : j < i := by
    have := (List.getElem?_eq_some_iff.mp hj).1
    rw [List.length_take] at this
    omega
  rw [List.getElem?_take] at hj
  rw [if_pos hj2] at hj
  obtain ⟨li, gi⟩ := List.getElem?_eq_some_iff.mp h
  obtain ⟨lj, gj⟩ := List.getElem?_eq_some_iff.mp hj
  have := (List.getElem_inj nd).mp (gi.trans gj.symm)
  omega
/-! ### sorted_pairs -/
def spBSorted (K : PySem.W.Frag) : Sp := fun vs H Q _ => ∃ (b d dx : Addr) (rest : List (Str × V)) (c : Addr) (szs : List (Str × Nat)) (ps : List (Str × Str)), vs = [.ref b, .ref c] ∧ H b = some (.ins (bC K) dx (("sizes", .ref d) :: rest)) ∧ H d = some (.dK (SzD szs)) ∧ PsAt K H c ps ∧ BOk szs ps ∧
  ∀ H' p qs, Same H H' → PsL K H' p qs → qs.Perm ps → Q (.ref p) H'
-- slots of Building.sorted_pairs: 0 self* 1 corridors 2 found 3 corridor 4 is_pair 5 room
theorem sc_Building_sorted_pairs : FnScope ["self", "corridors", "found", "corridor", "is_pair", "room"] ["self", "corridors"] (defScope s_Building_sorted_pairs) := ⟨rfl, rfl, rfl, by decide +kernel, rfl, by decide +kernel, by decide +kernel⟩
section
variable {P : Program} {w : World} {K : PySem.W.Frag} {mg : Str → Option Value} {base : Heap}
theorem mt_Building_sorted_pairs (T : Wd K mg base) : Mt P w K mg base 3 (bC K) "sorted_pairs" (spBSorted K) := by
  obtain ⟨fd, F⟩ := T.L.F_Building_sorted_pairs
  refine mt_of F T.L.c_Building T.L.m_Building_sorted_pairs (F.binds (ps := ["self", "corridors"]) fun _ _ _ _ _ _ us hl => match us, hl with | [_, _], _ => rfl) sc_Building_sorted_pairs (fun vs H Q E ⟨_, _, _, _, _, _, _, e, _⟩ => by rw [e]; rfl) ?_
  rintro cdv A outer s H vs Q E hr ⟨b, d, dx, rest, c, szs, ps, rfl, hb, hd, ⟨xs, hx, hxs⟩, O, k⟩
  refine ⟨_, (pss_cons (ps_set (i := 2) sc_Building_sorted_pairs.nd rfl (Or.inl rfl) (pe_lst pa_nil)) (pss_cons (ps_for PassesOwn.never rfl (pi_seq (pv 1)) (pg_name (i := 3) sc_Building_sorted_pairs.nd rfl (Or.inl rfl)) (pss_cons (ps_set (i := 4) sc_Building_sorted_pairs.nd rfl (Or.inl rfl) (pe_and (pe_callB (call_isi) (by rfl) T.f_isinstance (by decide +kernel) (pa_cons (pv 3) (pa_cons (pe_bltn (v := .ty "tuple") (by rfl) T.f_tuple (by decide +kernel) rfl) pa_nil))) (pe_and (pe_cmpR op_eq (pe_callB (call_len) (by rfl) T.f_len (by decide +kernel) (pa_cons (pv 3) pa_nil)) pe_int (by rfl)) (pe_one (pe_callB (cr_all rfl) (by rfl) T.f_all (by decide +kernel) (pa_cons (pe_lc (own := [("room", 5)]) (g := gName 5) rfl sc_Building_sorted_pairs.nd (pi_tup (pv 3)) (blkOk_by (own := [("room", 5)]) (N := ["self", "corridors", "found", "corridor", "is_pair", "room"]) (sc := defScope s_Building_sorted_pairs) (by decide +kernel)) (fun _ _ _ _ _ => (pg_name (i := 5) sc_Building_sorted_pairs.nd rfl (Or.inl rfl))) (fun _ _ _ _ _ => pts_nil) (fun _ _ _ _ _ => (pe_cmpR (r := rIsIn _ (spBIn K) false) (op_in_own (mt_Building_dcontains T) hr (by decide)) (pv 5) (pv 0) (by rfl)))) pa_nil)))))) (pss_cons (ps_if (PW.pt (pw_or (pt_not (pt_val (pv 4))) (pw_or (pt_cmpR op_eq (pe_ix ix_tup (pv 3) pe_int (fun _ _ => rfl)) (pe_ix ix_tup (pv 3) pe_int (fun _ _ => rfl)) (by rfl)) (pw_or1 (pt_cmpR (op_inA (hu65 hr)) (pe_caS (ca_pair_of T) hr (by decide) rfl (pv 3)) (pv 2) (by rfl)))))) (pss_one ps_never) pss_nil) (pss_one (ps_expr (pe_bm PySem.F.plainAttrs_list PySem.F.slot_list_append PySem.F.type_list_append mt_append (pv 2) (pa_cons (pe_caS (ca_pair_of T) hr (by decide) rfl (pv 3)) pa_nil))))))) (pss_one (ps_ret (pe_callB (cr_sortD hr) (by rfl) T.f_sorted (by decide +kernel) (pa_cons (pv 2) pa_nil)))))), ?_⟩
  refine ⟨Nat.zero_le _, fun D hD => ?_⟩
  refine ⟨_, rfl, c, rfl, for_seq hx (fun i σ H' => ∃ zs u v r, σ = [some (.ref b), some (.ref c), some (.ref D), u, v, r] ∧ Same H H' ∧ H' D = some (.lst zs) ∧ TpAll H' zs (ps.take i)) ⟨[], none, none, none, rfl, sm_new hD, upd_same, .nil⟩ (fun i σ' H' _ ⟨_, _, _, _, _, h, _⟩ => h) ?_ ?_⟩
  · rintro i v σ H' hi ⟨zs, u, v', r, rfl, ss, hz, hzd⟩
    obtain ⟨p, t, hp, rfl, ht⟩ := PsAt.item (hxs.same ss) hi
    have hip := (List.getElem?_eq_some_iff.mp hp).1
    have hpm := List.mem_of_getElem? hp
    obtain ⟨e1, e2⟩ := O.ends p hpm
    refine ⟨_, rfl, _, _, _, _, true, rfl, .ty _, sqT_ty ht, kit_ty (by decide +kernel), true, rfl, iteT ?_⟩
    refine ⟨_, rfl, .ref t, 2, rfl, .inr ⟨_, ht, rfl⟩, rfl, true, rfl, iteT ?_⟩
    refine ⟨_, rfl, t, rfl, ⟨_, ht⟩, fun L hL => lc_tup (K := K) (a := t) (xs := [V.str p.1, V.str p.2]) (fun j H2 => H2 L = some (.lst ((List.replicate j true).map V.bl)) ∧ Same H' H2) ⟨upd_same, sm_new hL⟩ (fun j H2 _ h => h.2.tup ht) ?_ ?_⟩
    · rintro j x H2 hj ⟨g1, g2⟩
      obtain ⟨y, rfl, hy⟩ : ∃ y, x = V.str y ∧ y ∈ szs.map (·.1) := by
        match j, hj with
        | 0, hj => exact ⟨p.1, (Option.some.inj hj).symm, e1⟩
        | 1, hj => exact ⟨p.2, (Option.some.inj hj).symm, e2⟩
        | j + 2, hj => exact absurd hj (by simp)
      have hj2 : j < 2 := (List.getElem?_eq_some_iff.mp hj).1
      refine ⟨rfl, _, rfl, _, rfl, b, dx, _, rfl, g2 _ _ (ss _ _ hb), b, d, dx, _, y, szs, rfl, g2 _ _ (ss _ _ hb), g2 _ _ (ss _ _ hd), O.nmR hy, fun H3 s3 => ⟨_, rfl, _, s3 _ _ g1, ?_, ?_, (g2.trans s3).put hL⟩⟩
      · rw [List.length_map, List.length_replicate, sizeLine_eq]
        omega
      · rw [upd_same, decide_eq_true hy, List.replicate_succ', List.map_append]
        rfl
    · rintro H2 ⟨g1, g2⟩
      have hz2 := g2 _ _ hz
      have hzd2 := hzd.same g2
      refine ⟨_, _, rfl, SqL.of g1, ?_⟩
      have sH := ss.trans g2
      refine ⟨_, rfl, true, rfl, iteF ?_⟩
      have ht2 := g2.tup ht
      have hne : ¬ p.1 = p.2 := fun e => by
        have := O.ord p hpm
        rw [← e] at this
        exact ltS_irr _ this
      refine ⟨_, rfl, t, _, (0 : Int), .str p.1, rfl, rfl, ht2, rfl, _, rfl, t, _, (1 : Int), .str p.2, rfl, rfl, ht2, rfl, rfl, _, rfl, ?_⟩
      rw [decide_eq_false (fun e => hne (V.str.inj e))]
      refine iteF ?_
      have hps : pairS p.1 p.2 = p := pairS_eq (O.ord p hpm)
      refine ⟨_, rfl, t, _, rfl, .inl ht2, p.1, p.2, rfl, fun q hq => ?_⟩
      rw [hps]
      have s4 : Same H2 (upd H2 q (.tup [.str p.1, .str p.2])) := sm_new hq
      refine ⟨_, rfl, rInA_pair (pD_mk (SqT.of upd_same)) ⟨zs, .inl (SqL.of (s4 _ _ hz2)), (hzd2.same s4).dp⟩ (O.nms _ hpm) (fun z hz => O.nms z (List.mem_of_mem_take hz)) ⟨_, rfl, ?_⟩⟩
      have hni : p ∉ ps.take i := fun hm => not_take O.ndP hp hm
      rw [decide_eq_false hni]
      refine iteF ?_
      refine ⟨_, rfl, .inl ⟨rfl, _, SqL.of (s4 _ _ hz2)⟩, _, rfl, t, _, rfl, .inl (s4.tup ht2), p.1, p.2, rfl, fun q2 hq2 => ?_⟩
      rw [hps]
      have s5 := s4.new (o := .tup [.str p.1, .str p.2]) hq2
      refine ⟨D, _, _, rfl, rfl, s5 _ _ hz2, ?_, ?_⟩
      · have h1 := hzd.len
        rw [List.length_take] at h1
        have := O.fewP
        rw [sizeLine_eq]
        omega
      · refine ⟨zs ++ [V.ref q2], _, _, _, rfl, (sH.trans s5).put hD, upd_same, ?_⟩
        rw [take_snoc hp]
        have hc : Chg ((upd (upd H2 q (.tup [.str p.1, .str p.2])) q2 (.tup [.str p.1, .str p.2])) D) := .inr (.inr ⟨_, s5 _ _ hz2⟩)
        exact TpAll.app ((hzd2.same s5).put hc) (TpAll.put hc (.cons ⟨q2, rfl, upd_same⟩ .nil))
  · rintro σ H' ⟨zs, u, v, r, rfl, ss, hz, hzd⟩
    have el : xs.length = ps.length := by rw [DpAll.len hxs, List.length_map]
    rw [el, List.take_length] at hzd
    refine ⟨_, rfl, rSortD_pairs (SqL.of hz) hzd fun p ys qs hp hperm hys => k _ p qs (ss.new hp) ⟨ys, SqL.of upd_same, hys.same (sm_new hp)⟩ hperm⟩
end
end Rd
/-! Building: check_connected, prepare. -/
namespace Rd
open PySem PySem.Spec PyProof.Rows L2 Gr
theorem BOk.perm {szs szs' : List (Str × Nat)} {ps ps' : List (Str × Str)} (O : BOk szs ps) (h1 : szs'.Perm szs) (h2 : ps'.Perm ps) : BOk szs' ps' := by
  have hm : ∀ x, x ∈ szs'.map (·.1) ↔ x ∈ szs.map (·.1) := fun x => (h1.map _).mem_iff
  refine ⟨fun e => O.ne ?_, (h1.map _).nodup_iff.mpr O.nd, by rw [h1.length_eq]; exact O.few, fun p hp => O.nm p (h1.mem_iff.mp hp), fun p hp => O.pos p (h1.mem_iff.mp hp), fun p hp => ?_, by rw [h2.length_eq]; exact O.fewP, fun p hp => O.ord p (h2.mem_iff.mp hp), h2.nodup_iff.mpr O.ndP, fun x hx y hy => ?_⟩
  · subst e
    exact h1.symm.eq_nil
  · rw [hm, hm]
    exact O.ends p (h2.mem_iff.mp hp)
  · exact (O.cn x ((hm x).mp hx) y ((hm y).mp hy)).mono fun p hp => h2.mem_iff.mpr hp
theorem BOk.ne' {szs : List (Str × Nat)} {ps : List (Str × Str)} (O : BOk szs ps) : szs.map (·.1) ≠ [] := fun e => O.ne (List.map_eq_nil_iff.mp e)
/-! ### check_connected -/
def spBCheck (K : PySem.W.Frag) : Sp := fun vs H Q _ => ∃ (b d c dx : Addr) (rest : List (Str × V)) (szs : List (Str × Nat)) (ps : List (Str × Str)), vs = [.ref b] ∧ H b = some (.ins (bC K) dx (("sizes", .ref d) :: ("pairs", .ref c) :: rest)) ∧ H d = some (.dK (SzD szs)) ∧ PsL K H c ps ∧ BOk szs ps ∧
  ∀ H', Same H H' → Q .non H'
-- slots of Building.check_connected: 0 self 1 reached 2 room
theorem sc_Building_check_connected : FnScope ["self", "reached", "room"] ["self"] (defScope s_Building_check_connected) := ⟨rfl, rfl, rfl, by decide +kernel, rfl, by decide +kernel, by decide +kernel⟩
section
variable {P : Program} {w : World} {K : PySem.W.Frag} {mg : Str → Option Value} {base : Heap}
theorem mt_Building_check_connected (T : Wd K mg base) : Mt P w K mg base 4 (bC K) "check_connected" (spBCheck K) := by
  obtain ⟨fd, F⟩ := T.L.F_Building_check_connected
  refine mt_of F T.L.c_Building T.L.m_Building_check_connected (F.binds (ps := ["self"]) fun _ _ _ _ _ _ us hl => match us, hl with | [_], _ => rfl) sc_Building_check_connected (fun vs H Q E ⟨_, _, _, _, _, _, _, e, _⟩ => by rw [e]; rfl) ?_
  rintro cdv A outer s H vs Q E hr ⟨b, d, c, dx, rest, szs, ps, rfl, hb, hd, hp, O, k⟩
  refine ⟨_, (pss_cons (ps_if (pt_cmpR (op_eq_len hr.units0) (pe_fld (pv 0) rfl) pe_dnewK (by rfl)) (pss_one ps_never) pss_nil) (pss_cons (ps_set (i := 1) sc_Building_check_connected.nd rfl (Or.inl rfl) (pe_ca (ca_reached_from2 T) hr (by decide) rfl (pa_cons (pe_callB (cr_minD rfl) (by rfl) T.f_min (by decide +kernel) (pa_cons (pe_fld (pv 0) rfl) pa_nil)) (pa_cons (pe_fld (pv 0) rfl) pa_nil)))) (pss_one (ps_lock (ps_for PassesOwn.never rfl (pi_keys (pe_fld (pv 0) rfl)) (pg_name (i := 2) sc_Building_check_connected.nd rfl (Or.inl rfl)) (pss_one (ps_if (pt_cmpR op_notIn_seq (pv 2) (pv 1) (by rfl)) (pss_one ps_never) pss_nil))))))), ?_⟩
  refine ⟨_, rfl, b, _, dx, _, .ref d, rfl, hb, T.L.c_Building, T.L.n_Building_sizes, rfl, fun e he => ?_⟩
  have s0 : Same H (upd H e (.dK [])) := sm_new he
  refine ⟨d, e, _, _, rfl, rfl, s0 _ _ hd, upd_same, ?_, _, rfl, iteF ?_⟩
  · rw [SzD, List.length_map]
    exact fun z => O.ne (List.length_eq_zero_iff.mp z)
  refine ⟨_, rfl, b, _, dx, _, .ref d, rfl, s0 _ _ hb, T.L.c_Building, T.L.n_Building_sizes, rfl, d, _, szs.map (·.1), rfl, s0 _ _ hd, szD_keys szs, O.ne', fun m hm => ?_⟩
  refine ⟨_, rfl, b, _, dx, _, .ref c, rfl, s0 _ _ hb, T.L.c_Building, T.L.n_Building_pairs, rfl, ?_⟩
  refine ⟨m, c, _, ps, rfl, (hp.same s0).at, etB_ok (ex_21 T.L.more) _, O.fewP, fun H1 p lv s1 hpl L => ?_⟩
  have s2 := s0.trans s1
  refine ⟨d, _, s2 _ _ hd, trivial, fun od => ?_⟩
  have nbd : b ≠ d := fun z => by rw [z, hd] at hb; cases hb
  have npd : p ≠ d := fun z => by rw [z] at hpl; rw [s2 _ _ hd] at hpl; cases hpl
  refine ⟨_, rfl, b, _, dx, _, .ref d, rfl, by rw [upd_ne nbd]; exact s2 _ _ hb, T.L.c_Building, T.L.n_Building_sizes, rfl, d, od, rfl, .inl ⟨_, upd_same, ?_⟩⟩
  refine for_it walk_keys (fun i σ H' => H' = upd H1 d (.frz od (.dK (SzD szs))) ∧ ∃ v, σ = [some (.ref b), some (.ref p), v]) ⟨rfl, none, rfl⟩ (fun i σ H' _ ⟨e, _⟩ => by rw [e]; exact upd_same) ?_ ?_
  · rintro i x σ H' H'' hi ⟨rfl, v, rfl⟩ ⟨rfl, kk, vv, hk, rfl⟩
    obtain ⟨q, hq, e⟩ := map_get hk
    cases e
    refine ⟨_, rfl, _, rfl, p, _, rfl, .inl (SqL.of (by rw [upd_ne npd]; exact hpl)), rfl, all_flat _, _, rfl, ?_⟩
    show if (!inV (V.str q.1) ((lv.map (·.1)).map V.str)) = true then _ else _
    have hqm : q.1 ∈ szs.map (·.1) := List.mem_map.mpr ⟨q, List.mem_of_getElem? hq, rfl⟩
    obtain ⟨dd, qq, h1⟩ := L.all (O.cn m hm _ hqm)
    rw [inV_str, decide_eq_true (List.mem_map.mpr ⟨_, h1, rfl⟩)]
    exact iteF ⟨rfl, _, rfl⟩
  · rintro σ H' ⟨rfl, v, rfl⟩
    refine ⟨upd_same, ?_⟩
    exact k _ (s2.trans (lock_same (s2 _ _ hd) (Same.refl _)))
/-! ### prepare -/
theorem GrPre.same {K : PySem.W.Frag} {H H' : Hp} {r c : Addr} {rooms : List Str} {ps : List (Str × Str)} (G : GrPre K H r c rooms ps) (s : Same H H') : GrPre K H' r c rooms ps := ⟨s.seq G.rs, G.ne, G.nd, G.few, G.pa.same s, G.fewP, G.ends, G.cn⟩
theorem GrPre.keep {K : PySem.W.Frag} {H H' : Hp} {r c : Addr} {rooms : List Str} {ps : List (Str × Str)} (G : GrPre K H r c rooms ps) (s : Keep H H') : GrPre K H' r c rooms ps := ⟨s.seq G.rs, G.ne, G.nd, G.few, G.pa.keep s, G.fewP, G.ends, G.cn⟩
theorem SdL.same {H H' : Hp} {v : V} {rooms : List Str} {ps : List (Str × Str)} (s : Same H H') : SdL H v rooms ps → SdL H' v rooms ps := fun h => h.elim .inl fun ⟨t, a, b, s0, s1, h1, h2, h3, h4, h5⟩ => .inr ⟨t, a, b, s0, s1, h1, s _ _ h2, s _ _ h3, s _ _ h4, h5⟩
theorem RgL.same {H H' : Hp} {v : V} (s : Same H H') : RgL H v → RgL H' v := fun h => h.elim .inl fun ⟨t, xs, h1, h2⟩ => .inr ⟨t, xs, h1, s _ _ h2⟩
theorem RgL.keep {H H' : Hp} {v : V} (s : Keep H H') : RgL H v → RgL H' v := fun h => h.elim .inl fun ⟨t, xs, h1, h2⟩ => .inr ⟨t, xs, h1, s _ _ h2 (fun _ _ _ z => by cases z)⟩
def spBPrep (K : PySem.W.Frag) : Sp := fun vs H Q _ => ∃ (b d c dx : Addr) (nr : V) (szs : List (Str × Nat)) (ps : List (Str × Str)), vs = [.ref b] ∧ H b = some (.ins (bC K) dx [("sizes", .ref d), ("pairs", .ref c), ("near", nr)]) ∧ H d = some (.dK (SzD szs)) ∧ PsL K H c ps ∧ BOk szs ps ∧
  ∀ H', SameX b H H' → BAt K H' b szs ps → Q .non H'
end
-- slots of Building.prepare: 0 self 1 rooms 2 sides 3 ring
theorem sc_Building_prepare : FnScope ["self", "rooms", "sides", "ring"] ["self"] (defScope s_Building_prepare) := ⟨rfl, rfl, rfl, by decide +kernel, rfl, by decide +kernel, by decide +kernel⟩
section
variable {P : Program} {w : World} {K : PySem.W.Frag} {mg : Str → Option Value} {base : Heap}
theorem BOk.pre {H : Hp} {r c : Addr} {szs : List (Str × Nat)} {ps : List (Str × Str)} (O : BOk szs ps) (h : SqL K H r ((szs.map (·.1)).map V.str)) (hp : PsL K H c ps) : GrPre K H r c (szs.map (·.1)) ps :=
  ⟨h, O.ne', O.nd, by have := O.few; rw [List.length_map]; omega, hp.at, O.fewP, O.ends, O.cn⟩
theorem ite_via {b : Bool} {A : Prop} {Q : VK} {σ : L2.St} {v : V} {H : Hp} (S : V → Hp → Prop) (hR : ∀ v H', S v H' → Q v H') (h1 : b = true → S v H) (h2 : b = false → (∀ v H', S v H' → Q v H') → A) : if b = true then tC v σ H Q else A := by
  cases b with
  | true => exact iteT (hR _ _ (h1 rfl))
  | false => exact iteF (h2 rfl hR)
theorem put_sides {d c : Addr} {nr vs : V} : putF "own_sides" vs [("sizes", V.ref d), ("pairs", V.ref c), ("near", nr)] = ([("sizes", V.ref d), ("pairs", V.ref c), ("near", nr), ("own_sides", vs)] : List (Str × V)) := rfl
theorem put_ring {d c : Addr} {nr vs vr : V} : putF "own_ring" vr [("sizes", V.ref d), ("pairs", V.ref c), ("near", nr), ("own_sides", vs)] = ([("sizes", V.ref d), ("pairs", V.ref c), ("near", nr), ("own_sides", vs), ("own_ring", vr)] : List (Str × V)) := rfl
theorem put_bridges {d c : Addr} {nr vs vr br : V} : putF "own_bridges" br [("sizes", V.ref d), ("pairs", V.ref c), ("near", nr), ("own_sides", vs), ("own_ring", vr)] = ([("sizes", V.ref d), ("pairs", V.ref c), ("near", nr), ("own_sides", vs), ("own_ring", vr), ("own_bridges", br)] : List (Str × V)) := rfl
theorem mt_Building_prepare (T : Wd K mg base) : Mt P w K mg base 4 (bC K) "prepare" (spBPrep K) := by
  obtain ⟨fd, F⟩ := T.L.F_Building_prepare
  refine mt_of F T.L.c_Building T.L.m_Building_prepare (F.binds (ps := ["self"]) fun _ _ _ _ _ _ us hl => match us, hl with | [_], _ => rfl) sc_Building_prepare (fun vs H Q E ⟨_, _, _, _, _, _, _, e, _⟩ => by rw [e]; rfl) ?_
  rintro cdv A outer s H vs Q E hr ⟨b, d, c, dx, nr, szs, ps, rfl, hb, hd, hp, O, k⟩
  refine ⟨_, (pss_cons (ps_set (i := 1) sc_Building_prepare.nd rfl (Or.inl rfl) (pe_callTy (call_listD rfl) (by rfl) T.f_list (by decide +kernel) (pa_cons (pe_fld (pv 0) rfl) pa_nil))) (pss_cons (ps_par (i := 2) (j := 3) (by rfl) sc_Building_prepare.nd rfl rfl (by decide) rfl rfl (pa_cons (pe_ca (ca_sides_of T) hr (by decide) rfl (pa_cons (pv 1) (pa_cons (pe_fld (pv 0) rfl) pa_nil))) (pa_cons (pe_ca (ca_odd_ring_of T) hr (by decide) rfl (pa_cons (pv 1) (pa_cons (pe_fld (pv 0) rfl) pa_nil))) pa_nil)) (by rfl)) (pss_cons (ps_fld (pv 0) (pe_ifExp (pt_cmpR op_isN (pv 2) pe_non (by rfl)) pe_non (pe_tup (pa_cons (pe_callTy (call_tuple_of) (by rfl) T.f_tuple (by decide +kernel) (pa_cons (pe_ix ix_tup (pv 2) pe_int (fun _ _ => rfl)) pa_nil)) (pa_cons (pe_callTy (call_tuple_of) (by rfl) T.f_tuple (by decide +kernel) (pa_cons (pe_ix ix_tup (pv 2) pe_int (fun _ _ => rfl)) pa_nil)) pa_nil)))) rfl) (pss_cons (ps_fld (pv 0) (pe_ifExp (pt_cmpR op_isN (pv 3) pe_non (by rfl)) pe_non (pe_callTy (call_tuple_of) (by rfl) T.f_tuple (by decide +kernel) (pa_cons (pv 3) pa_nil))) rfl) (pss_one (ps_fld (pv 0) (pe_callTy (call_tuple_of) (by rfl) T.f_tuple (by decide +kernel) (pa_cons (pe_ca (ca_bridges_of T) hr (by decide) rfl (pa_cons (pv 1) (pa_cons (pe_fld (pv 0) rfl) pa_nil))) pa_nil)) rfl)))))), ?_⟩
  refine ⟨_, rfl, b, _, dx, _, .ref d, rfl, hb, T.L.c_Building, T.L.n_Building_sizes, rfl, d, _, rfl, .inl hd, fun r hr0 => ?_⟩
  have s0 : Same H (upd H r (.lst ((SzD szs).map fun kv => kV kv.1))) := sm_new hr0
  have hrs : SqL K (upd H r (.lst ((SzD szs).map fun kv => kV kv.1))) r ((szs.map (·.1)).map V.str) := by
    rw [szD_kv]
    exact SqL.of upd_same
  refine ⟨_, rfl, _, rfl, b, _, dx, _, .ref c, rfl, s0 _ _ hb, T.L.c_Building, T.L.n_Building_pairs, rfl, ?_⟩
  have G0 := O.pre hrs (hp.same s0)
  refine ⟨r, c, _, ps, rfl, G0.rs, G0.ne, G0.nd, G0.few, G0.pa, G0.fewP, G0.ends, G0.cn, fun sv H1 s1 hsv => ?_⟩
  have s01 := s0.trans s1
  refine ⟨_, rfl, _, rfl, b, _, dx, _, .ref c, rfl, s01 _ _ hb, T.L.c_Building, T.L.n_Building_pairs, rfl, r, c, _, ps, rfl, G0.same s1, fun rv H2 s2 hrv => ?_⟩
  have s02 := s01.trans s2
  have hb2 := s02 _ _ hb
  refine ⟨_, _, rfl, ?_⟩
  -- own_sides
  refine ⟨_, rfl, rfl, _, rfl, ?_⟩
  refine ite_via (fun v H' => Same H2 H' ∧ SdAt K H' v (szs.map (·.1)) ps) ?_ (fun e => ?_) (fun e key => ?_)
  rotate_left
  · rcases hsv with h | ⟨t, a, b', p0, p1, h1, h2, h3, h4, h5⟩
    · exact ⟨Same.refl _, .inl ⟨rfl, h.2⟩⟩
    · rw [h1] at e
      exact absurd (of_decide_eq_true e) (by intro z; cases z)
  · rcases hsv with h | ⟨t, a, b', p0, p1, h1, h2, h3, h4, h5⟩
    · rw [h.1] at e
      exact absurd rfl (of_decide_eq_false e)
    · subst h1
      refine ⟨_, rfl, t, _, (0 : Int), .ref a, rfl, rfl, SqT.of (s2 _ _ h2), rfl, a, _, rfl, .inl ⟨SqL.of (s2 _ _ h3), fun l hl => ?_⟩⟩
      have s3 : Same H2 (upd H2 l (.tup (p0.map V.str))) := sm_new hl
      refine ⟨_, rfl, t, _, (1 : Int), .ref b', rfl, rfl, SqT.of (s3 _ _ (s2 _ _ h2)), rfl, b', _, rfl, .inl ⟨SqL.of (s3 _ _ (s2 _ _ h4)), fun m hm => ?_⟩⟩
      have s4 := s3.new (o := .tup (p1.map V.str)) hm
      refine ⟨Nat.le_of_ble_eq_true rfl, fun q hq => key _ _ ⟨s4.new hq, .inr ⟨q, l, m, p0, p1, rfl, upd_same, ?_, ?_, h5⟩⟩⟩
      · exact (sm_new hq) _ _ ((sm_new hm) _ _ upd_same)
      · exact (sm_new hq) _ _ upd_same
  rintro vs H3 ⟨s3, hvs⟩
  refine ⟨_, rfl, b, _, dx, _, rfl, s3 _ _ hb2, T.L.c_Building, T.L.n_Building_own_sides, Nat.le_of_ble_eq_true rfl, ?_⟩
  -- own_ring
  rw [put_sides]
  have hb3 : upd H3 b (.ins (bC K) dx [("sizes", .ref d), ("pairs", .ref c), ("near", nr), ("own_sides", vs)]) b = some (.ins (bC K) dx [("sizes", .ref d), ("pairs", .ref c), ("near", nr), ("own_sides", vs)]) := upd_same
  have k3 : Keep H3 (upd H3 b (.ins (bC K) dx [("sizes", .ref d), ("pairs", .ref c), ("near", nr), ("own_sides", vs)])) := keep_ins (s3 _ _ hb2)
  have x3 : SameX b H (upd H3 b (.ins (bC K) dx [("sizes", .ref d), ("pairs", .ref c), ("near", nr), ("own_sides", vs)])) := (s02.trans s3).x.trans sameX_put
  have kH3 : Keep H (upd H3 b (.ins (bC K) dx [("sizes", .ref d), ("pairs", .ref c), ("near", nr), ("own_sides", vs)])) := (Keep.of (s02.trans s3)).trans k3
  have hv3 := hvs.keep k3
  have hr3 : SqL K (upd H3 b (.ins (bC K) dx [("sizes", .ref d), ("pairs", .ref c), ("near", nr), ("own_sides", vs)])) r ((szs.map (·.1)).map V.str) := k3.seq ((s1.trans (s2.trans s3)).seq hrs)
  have hrv3 := (hrv.same s3).keep k3
  revert hb3 x3 kH3 hv3 hr3 hrv3
  generalize upd H3 b (.ins (bC K) dx [("sizes", .ref d), ("pairs", .ref c), ("near", nr), ("own_sides", vs)]) = H4
  intro hb3 x3 kH3 hv3 hr3 hrv3
  refine ⟨_, rfl, rfl, _, rfl, ?_⟩
  refine ite_via (fun v H' => Same H4 H') ?_ (fun e => Same.refl _) (fun e key => ?_)
  rotate_left
  · rcases hrv3 with h | ⟨t, xs, h1, h2⟩
    · rw [h] at e
      exact absurd rfl (of_decide_eq_false e)
    · subst h1
      exact ⟨_, rfl, t, xs, rfl, .inr ⟨SqT.of h2, key _ _ (Same.refl _)⟩⟩
  rintro vr H5 s5
  refine ⟨_, rfl, b, _, dx, _, rfl, s5 _ _ hb3, T.L.c_Building, T.L.n_Building_own_ring, Nat.le_of_ble_eq_true rfl, ?_⟩
  rw [put_ring]
  have hb5 : upd H5 b (.ins (bC K) dx [("sizes", .ref d), ("pairs", .ref c), ("near", nr), ("own_sides", vs), ("own_ring", vr)]) b = some (.ins (bC K) dx [("sizes", .ref d), ("pairs", .ref c), ("near", nr), ("own_sides", vs), ("own_ring", vr)]) := upd_same
  have k5 : Keep H4 (upd H5 b (.ins (bC K) dx [("sizes", .ref d), ("pairs", .ref c), ("near", nr), ("own_sides", vs), ("own_ring", vr)])) := (Keep.of s5).trans (keep_ins (s5 _ _ hb3))
  have x5 : SameX b H (upd H5 b (.ins (bC K) dx [("sizes", .ref d), ("pairs", .ref c), ("near", nr), ("own_sides", vs), ("own_ring", vr)])) := x3.trans (s5.x.trans sameX_put)
  revert hb5 k5 x5
  generalize upd H5 b (.ins (bC K) dx [("sizes", .ref d), ("pairs", .ref c), ("near", nr), ("own_sides", vs), ("own_ring", vr)]) = H6
  intro hb5 k5 x5
  have kH6 := kH3.trans k5
  -- own_bridges
  refine ⟨_, rfl, _, rfl, b, _, dx, _, .ref c, rfl, hb5, T.L.c_Building, T.L.n_Building_pairs, rfl, r, c, _, ps, rfl, O.pre (k5.seq hr3) (hp.keep kH6), fun H7 q xs s7 hq => ?_⟩
  refine ⟨q, xs, rfl, .inl ⟨SqL.of hq, fun u hu => ?_⟩⟩
  have s8 : Same H6 (upd H7 u (.tup xs)) := s7.new hu
  refine ⟨_, rfl, b, _, dx, _, rfl, s8 _ _ hb5, T.L.c_Building, T.L.n_Building_own_bridges, Nat.le_of_ble_eq_true rfl, ?_⟩
  rw [put_bridges]
  have k9 : Keep H6 (upd (upd H7 u (.tup xs)) b (.ins (bC K) dx [("sizes", .ref d), ("pairs", .ref c), ("near", nr), ("own_sides", vs), ("own_ring", vr), ("own_bridges", .ref u)])) := (Keep.of s8).trans (keep_ins (s8 _ _ hb5))
  refine k _ (x5.trans (s8.x.trans sameX_put)) ⟨dx, d, c, nr, vs, vr, .ref u, upd_same, ?_, hp.keep (kH6.trans k9), hv3.keep (k5.trans k9)⟩
  exact (kH6.trans k9) _ _ hd (fun _ _ _ z => by cases z)
end
end Rd
/-! Building.__init__, __eq__. -/
namespace Rd
open PySem PySem.Spec PyProof.Rows L2 Gr
/-- a dict from names to whole numbers -/
def IzD (cs : List (Str × Int)) : List (Key × V) := cs.map fun p => (Sum.inr p.1, V.int p.2)
def toI (szs : List (Str × Nat)) : List (Str × Int) := szs.map fun p => (p.1, (p.2 : Int))
theorem izD_nat (szs : List (Str × Nat)) : SzD szs = IzD (toI szs) := by
  unfold SzD IzD toI
  rw [List.map_map]
  rfl
theorem toI_keys (szs : List (Str × Nat)) : (toI szs).map (·.1) = szs.map (·.1) := by
  unfold toI
  rw [List.map_map]
  rfl
theorem izD_keys (cs : List (Str × Int)) : (IzD cs).map (·.1) = (cs.map (·.1)).map Sum.inr := by
  unfold IzD
  rw [List.map_map, List.map_map]
  rfl
theorem izD_kv (cs : List (Str × Int)) : ((IzD cs).map fun kv => kV kv.1) = (cs.map (·.1)).map V.str := by
  unfold IzD
  rw [List.map_map, List.map_map]
  rfl
theorem izD_len (cs : List (Str × Int)) : (IzD cs).length = cs.length := by
  unfold IzD
  rw [List.length_map]
theorem izD_val (cs : List (Str × Int)) (x : Str) : valV (IzD cs) (Sum.inr x) = (cs.lookup x).map V.int := by
  induction cs with
  | nil => rfl
  | cons p cs ih =>
    show valV ((Sum.inr p.1, V.int p.2) :: IzD cs) (Sum.inr x) = _
    by_cases h : p.1 = x
    · rw [valV_pos (by show (Sum.inr p.1 : Key) = _; rw [h]), List.lookup_cons, h]
      simp
    · rw [valV_neg (fun z => h (Sum.inr.inj z)), ih, List.lookup_cons]
      have : (x == p.1) = false := by simpa using fun z : x = p.1 => h z.symm
      rw [this]
theorem look_none {β : Type} {cs : List (Str × β)} {x : Str} (h : x ∉ cs.map (·.1)) : cs.lookup x = none := by
  induction cs with
  | nil => rfl
  | cons p cs ih =>
    rw [List.map_cons, List.mem_cons, not_or] at h
    rw [List.lookup_cons]
    have e1 : (x == p.1) = false := by simpa using h.1
    rw [e1]
    exact ih h.2
theorem look_some {β : Type} {cs : List (Str × β)} {x : Str} (h : x ∈ cs.map (·.1)) : ∃ v, cs.lookup x = some v := by
  induction cs with
  | nil => cases h
  | cons p cs ih =>
    rw [List.lookup_cons]
    by_cases e : x = p.1
    · have e1 : (x == p.1) = true := by simpa using e
      rw [e1]
      exact ⟨_, rfl⟩
    · have e1 : (x == p.1) = false := by simpa using e
      rw [e1]
      rw [List.map_cons, List.mem_cons] at h
      exact ih (h.resolve_left e)
theorem look_mem {β : Type} {cs : List (Str × β)} {x : Str} {v : β} (h : cs.lookup x = some v) : (x, v) ∈ cs := by
  induction cs with
  | nil => cases h
  | cons p cs ih =>
    rw [List.lookup_cons] at h
    by_cases e : x = p.1
    · have e1 : (x == p.1) = true := by simpa using e
      rw [e1] at h
      cases h
      rw [e]
      exact List.mem_cons_self
    · have e1 : (x == p.1) = false := by simpa using e
      rw [e1] at h
      exact List.mem_cons_of_mem _ (ih h)
theorem look_of {β : Type} {cs : List (Str × β)} (nd : (cs.map (·.1)).Nodup) {x : Str} {v : β} (h : (x, v) ∈ cs) : cs.lookup x = some v := by
  induction cs with
  | nil => cases h
  | cons p cs ih =>
    rw [List.map_cons, List.nodup_cons] at nd
    rw [List.lookup_cons]
    rcases List.mem_cons.mp h with e | h'
    · rw [← e]
      simp
    · have hn : ¬ x = p.1 := fun z => nd.1 (z ▸ List.mem_map.mpr ⟨_, h', rfl⟩)
      have e1 : (x == p.1) = false := by simpa using hn
      rw [e1]
      exact ih nd.2 h'
theorem izD_put {cs : List (Str × Int)} {x : Str} (i : Int) (h : x ∉ cs.map (·.1)) : putK (IzD cs) (Sum.inr x) (V.int i) = IzD (cs ++ [(x, i)]) := by
  rw [putK_new _ (by rw [izD_val, look_none h]; rfl)]
  unfold IzD
  rw [List.map_append]
  rfl
/-- the values by a function -/
def tab {β : Type} (f : Str → β) (xs : List Str) : List (Str × β) := xs.map fun x => (x, f x)
theorem tab_keys {β : Type} (f : Str → β) (xs : List Str) : (tab f xs).map (·.1) = xs := by
  unfold tab
  rw [List.map_map]
  exact List.map_id' xs
theorem tab_snoc {β : Type} (f : Str → β) {xs : List Str} {i : Nat} {x : Str} (h : xs[i]? = some x) : tab f (xs.take (i + 1)) = tab f (xs.take i) ++ [(x, f x)] := by
  rw [take_snoc h]
  unfold tab
  rw [List.map_append]
  rfl
theorem tab_look {β : Type} (f : Str → β) {xs : List Str} {x : Str} (h : x ∈ xs) : (tab f xs).lookup x = some (f x) := by
  induction xs with
  | nil => cases h
  | cons y xs ih =>
    show ((y, f y) :: tab f xs).lookup x = _
    rw [List.lookup_cons]
    by_cases e : x = y
    · subst e
      simp
    · have e1 : (x == y) = false := by simpa using e
      rw [e1]
      rcases List.mem_cons.mp h with h | h
      · exact absurd h e
      · exact ih h
theorem tab_perm {szs : List (Str × Nat)} (nd : (szs.map (·.1)).Nodup) {ys : List Str} (h : ys.Perm (szs.map (·.1))) : (tab (fun x => (szs.lookup x).getD 0) ys).Perm szs := by
  have h1 : (tab (fun x => (szs.lookup x).getD 0) ys).Perm (tab (fun x => (szs.lookup x).getD 0) (szs.map (·.1))) := h.map _
  have h2 : tab (fun x => (szs.lookup x).getD 0) (szs.map (·.1)) = szs := by
    unfold tab
    rw [List.map_map]
    conv => rhs; rw [← List.map_id szs]
    refine List.map_congr_left fun p hp => ?_
    show (p.1, (szs.lookup p.1).getD 0) = p
    rw [lookup_of nd (show (p.1, p.2) ∈ szs from hp)]
    rfl
  rw [h2] at h1
  exact h1
/-! ### near -/
/-- each room has a list of its own time -/
def NrI (H0 H : Hp) (N : Addr) (rooms : List Str) (m : Nat) : Prop := ∃ kvs, H N = some (.dK kvs) ∧ kvs.map (·.1) = rooms.map Sum.inr ∧ ∀ kv ∈ kvs, ∃ (l : Addr) (xs : List V), kv.2 = V.ref l ∧ H l = some (.lst xs) ∧ xs.length ≤ m ∧ H0 l = none
theorem NrI.get {H0 H : Hp} {N : Addr} {rooms : List Str} {m : Nat} {x : Str} (h : NrI H0 H N rooms m) (hx : x ∈ rooms) : ∃ kvs l xs, H N = some (.dK kvs) ∧ valV kvs (Sum.inr x) = some (V.ref l) ∧ H l = some (.lst xs) ∧ xs.length ≤ m ∧ H0 l = none := by
  obtain ⟨kvs, h1, h2, h3⟩ := h
  have hk : (Sum.inr x : Key) ∈ kvs.map (·.1) := by rw [h2]; exact List.mem_map.mpr ⟨x, hx, rfl⟩
  cases e : valV kvs (Sum.inr x) with
  | none =>
    obtain ⟨kv, m1, m2⟩ := List.mem_map.mp hk
    exact absurd (show (Sum.inr x, kv.2) ∈ kvs by rw [← m2]; exact m1) (valV_no e)
  | some v =>
    obtain ⟨l, xs, e1, e2, e3, e4⟩ := h3 _ (valV_mem e)
    have e1' : v = V.ref l := e1
    subst e1'
    exact ⟨kvs, l, xs, h1, e, e2, e3, e4⟩
theorem NrI.put {H0 H : Hp} {N l : Addr} {rooms : List Str} {m : Nat} {xs : List V} {v : V} (h : NrI H0 H N rooms m) (hl : H l = some (.lst xs)) (hx : xs.length ≤ m) : NrI H0 (upd H l (.lst (xs ++ [v]))) N rooms (m + 1) := by
  obtain ⟨kvs, h1, h2, h3⟩ := h
  have nNl : N ≠ l := fun e => by rw [e, hl] at h1; cases h1
  refine ⟨kvs, by rw [upd_ne nNl]; exact h1, h2, fun kv hkv => ?_⟩
  obtain ⟨l', ys, e1, e2, e3, e4⟩ := h3 kv hkv
  by_cases e : l' = l
  · subst e
    exact ⟨l', xs ++ [v], e1, upd_same, by rw [List.length_append, List.length_singleton]; omega, e4⟩
  · exact ⟨l', ys, e1, by rw [upd_ne e]; exact e2, by omega, e4⟩
theorem NrI.same {H0 H H' : Hp} {N : Addr} {rooms : List Str} {m : Nat} (s : Same H H') (h : NrI H0 H N rooms m) : NrI H0 H' N rooms m := by
  obtain ⟨kvs, h1, h2, h3⟩ := h
  refine ⟨kvs, s _ _ h1, h2, fun kv hkv => ?_⟩
  obtain ⟨l', ys, e1, e2, e3, e4⟩ := h3 kv hkv
  exact ⟨l', ys, e1, s _ _ e2, e3, e4⟩
theorem put_b1 {D : Addr} : putF "sizes" (V.ref D) [] = ([("sizes", V.ref D)] : List (Str × V)) := rfl
theorem put_b2 {D c : Addr} : putF "pairs" (V.ref c) [("sizes", V.ref D)] = ([("sizes", V.ref D), ("pairs", V.ref c)] : List (Str × V)) := rfl
theorem put_b3 {D c N : Addr} : putF "near" (V.ref N) [("sizes", V.ref D), ("pairs", V.ref c)] = ([("sizes", V.ref D), ("pairs", V.ref c), ("near", V.ref N)] : List (Str × V)) := rfl
theorem sameX_keep {H H' : Hp} {b C dx : Addr} {fs : List (Str × V)} (hb : H b = some (.ins C dx fs)) (s : SameX b H H') : Keep H H' := fun a u e n => s a u (fun z => by
  rw [z, hb] at e
  exact n C dx fs (Option.some.inj e).symm) e
def spBInit (K : PySem.W.Frag) : Sp := fun vs H Q _ => ∃ (b d0 c0 dx : Addr) (szs0 : List (Str × Nat)) (ps0 : List (Str × Str)), vs = [.ref b, .ref d0, .ref c0] ∧ H b = some (.ins (bC K) dx []) ∧ H d0 = some (.dK (SzD szs0)) ∧ PsAt K H c0 ps0 ∧ BOk szs0 ps0 ∧
  ∀ H' szs ps, List.Perm szs szs0 → List.Perm ps ps0 → SameX b H H' → BAt K H' b szs ps → Q .non H'
-- slots of Building.__init__: 0 self 1 sizes* 2 corridors 3 name 4 size 5 room 6 one 7 other
theorem sc_Building_dinit : FnScope ["self", "sizes", "corridors", "name", "size", "room", "one", "other"] ["self", "sizes", "corridors"] (defScope s_Building_dinit) := ⟨rfl, rfl, rfl, by decide +kernel, rfl, by decide +kernel, by decide +kernel⟩
section
variable {P : Program} {w : World} {K : PySem.W.Frag} {mg : Str → Option Value} {base : Heap}
theorem ma_Building (T : Wd K mg base) : Ma P w K mg base 5 "Building" (bC K) (spBInit K) := by
  obtain ⟨fd, F⟩ := T.L.F_Building_dinit
  refine ma_of F T.L.k_Building T.g_Building (F.binds (ps := ["self", "sizes", "corridors"]) fun _ _ _ _ _ _ us hl => match us, hl with | [_, _, _], _ => rfl) sc_Building_dinit (fun vs H Q E ⟨_, _, _, _, _, _, e, _⟩ => by rw [e]; rfl) ?_
  rintro cdv A outer s H vs Q E hr ⟨b, d0, c0, dx, szs0, ps0, rfl, hb, hd0, hp0, O, k⟩
  refine ⟨_, (pss_cons (ps_lock (ps_for PassesOwn.never rfl (pi_keys (pv 1)) (pg_name (i := 3) sc_Building_dinit.nd rfl (Or.inl rfl)) (pss_one (ps_if (pt_not (pt_val (pe_ca (ca_is_name T) hr (by decide) rfl (pa_cons (pv 3) pa_nil)))) (pss_one ps_never) pss_nil)))) (pss_cons (ps_lock (ps_for PassesOwn.never rfl (pi_values (pv 1)) (pg_name (i := 4) sc_Building_dinit.nd rfl (Or.inl rfl)) (pss_one (ps_if (pt_not (pt_val (pe_ca (ca_is_between T) hr (by decide) rfl (pa_cons (pv 4) (pa_cons pe_int (pa_cons (pe_glob (v := .int 1000000000) rfl T.i_MOST_SIZE_buildings.choose_spec ⟨_, rfl⟩) pa_nil)))))) (pss_one ps_never) pss_nil)))) (pss_cons (ps_if (pt_cmpR op_gt (pe_callB (call_lenD) (by rfl) T.f_len (by decide +kernel) (pa_cons (pv 1) pa_nil)) (pe_con (pv 0) rfl) (by rfl)) (pss_one ps_never) pss_nil) (pss_cons (ps_fld (pv 0) (pe_dc (own := [("room", 5)]) (g := gName 5) rfl sc_Building_dinit.nd (pi_list (pe_callB (call_sortedD rfl) (by rfl) T.f_sorted (by decide +kernel) (pa_cons (pv 1) pa_nil))) (blkOk_by (own := [("room", 5)]) (N := ["self", "sizes", "corridors", "name", "size", "room", "one", "other"]) (sc := defScope s_Building_dinit) (by decide +kernel)) (fun _ _ _ _ _ => (pg_name (i := 5) sc_Building_dinit.nd rfl (Or.inl rfl))) (fun _ _ _ _ _ => pts_nil) (fun _ _ _ _ _ => (pv 5)) (fun _ _ _ _ _ => (pe_dget (hu_of hr) (pv 1) (pv 5) (fun _ _ => rfl)))) rfl) (pss_cons (ps_fld (pv 0) (pe_mt (mt_Building_sorted_pairs T) hr (by decide) (pv 0) (pa_cons (pv 2) pa_nil)) rfl) (pss_cons (ps_if (pt_cmpR op_gt (pe_callB (call_len_seq) (by rfl) T.f_len (by decide +kernel) (pa_cons (pe_fld (pv 0) rfl) pa_nil)) (pe_con (pv 0) rfl) (by rfl)) (pss_one ps_never) pss_nil) (pss_cons (ps_expr (pe_mt0 (mt_Building_check_connected T) hr (by decide) (pv 0))) (pss_cons (ps_fld (pv 0) (pe_lock (pe_dc (own := [("room", 5)]) (g := gName 5) rfl sc_Building_dinit.nd (pi_keys (pe_fld (pv 0) rfl)) (blkOk_by (own := [("room", 5)]) (N := ["self", "sizes", "corridors", "name", "size", "room", "one", "other"]) (sc := defScope s_Building_dinit) (by decide +kernel)) (fun _ _ _ _ _ => (pg_name (i := 5) sc_Building_dinit.nd rfl (Or.inl rfl))) (fun _ _ _ _ _ => pts_nil) (fun _ _ _ _ _ => (pv 5)) (fun _ _ _ _ _ => (pe_lst pa_nil)))) rfl) (pss_cons (ps_for PassesOwn.never rfl (pi_list (pe_fld (pv 0) rfl)) (pg_tup rfl (pgs_cons (pg_name (i := 6) sc_Building_dinit.nd rfl (Or.inl rfl)) (pgs_cons (pg_name (i := 7) sc_Building_dinit.nd rfl (Or.inl rfl)) pgs_nil))) (pss_cons (ps_expr (pe_bm PySem.F.plainAttrs_list PySem.F.slot_list_append PySem.F.type_list_append mt_append (pe_dget (hu_of hr) (pe_fld (pv 0) rfl) (pv 6) (fun _ _ => rfl)) (pa_cons (pv 7) pa_nil))) (pss_one (ps_expr (pe_bm PySem.F.plainAttrs_list PySem.F.slot_list_append PySem.F.type_list_append mt_append (pe_dget (hu_of hr) (pe_fld (pv 0) rfl) (pv 7) (fun _ _ => rfl)) (pa_cons (pv 6) pa_nil)))))) (pss_one (ps_expr (pe_mt0 (mt_Building_prepare T) hr (by decide) (pv 0))))))))))))), ?_⟩
  have nbd : b ≠ d0 := fun z => by rw [z, hd0] at hb; cases hb
  -- names
  refine ⟨d0, _, hd0, trivial, fun od => ?_⟩
  refine ⟨_, rfl, d0, od, rfl, .inl ⟨_, upd_same, ?_⟩⟩
  refine for_it walk_keys (fun i σ H' => Same (upd H d0 (.frz od (.dK (SzD szs0)))) H' ∧ ∃ a1 a2 a3 a4 a5, σ = [some (.ref b), some (.ref d0), some (.ref c0), a1, a2, a3, a4, a5]) ⟨Same.refl _, none, none, none, none, none, rfl⟩ (fun i σ H' _ ⟨e, _⟩ => e _ _ upd_same) ?_ ?_
  · rintro i x σ H' H'' hi ⟨ss, a1, a2, a3, a4, a5, rfl⟩ ⟨rfl, kk, vv, hk, rfl⟩
    obtain ⟨q, hq, e⟩ := map_get hk
    cases e
    refine ⟨_, rfl, q.1, rfl, O.nm q (List.mem_of_getElem? hq), fun H1 s1 => ⟨true, rfl, iteF ⟨ss.trans s1, _, _, _, _, _, rfl⟩⟩⟩
  rintro σ H1 ⟨ss1, a1, a2, a3, a4, a5, rfl⟩
  refine ⟨ss1 _ _ upd_same, ?_⟩
  have s1 : Same H (upd H1 d0 (.dK (SzD szs0))) := lock_same hd0 ss1
  revert s1
  generalize upd H1 d0 (.dK (SzD szs0)) = H2
  intro s1
  -- sizes
  refine ⟨d0, _, s1 _ _ hd0, trivial, fun od2 => ?_⟩
  refine ⟨_, rfl, d0, od2, _, rfl, upd_same, ?_⟩
  refine for_it walk_values (fun i σ H' => H' = upd H2 d0 (.frz od2 (.dK (SzD szs0))) ∧ ∃ a1 a2 a3 a4 a5, σ = [some (.ref b), some (.ref d0), some (.ref c0), a1, a2, a3, a4, a5]) ⟨rfl, _, _, _, _, _, rfl⟩ (fun i σ H' _ ⟨e, _⟩ => by rw [e]; exact upd_same) ?_ ?_
  · rintro i x σ H' H'' hi ⟨rfl, a1, a2, a3, a4, a5, rfl⟩ ⟨rfl, kk, hk⟩
    obtain ⟨q, hq, e⟩ := map_get hk
    cases e
    have hpos := O.pos q (List.mem_of_getElem? hq)
    exact ⟨_, rfl, _, 1, 1000000000, rfl, by omega, by omega, true, rfl, iteF ⟨rfl, _, _, _, _, _, rfl⟩⟩
  rintro σ H3 ⟨rfl, a6, a7, a8, a9, a10, rfl⟩
  refine ⟨upd_same, ?_⟩
  have s3 : Same H (upd (upd H2 d0 (.frz od2 (.dK (SzD szs0)))) d0 (.dK (SzD szs0))) := s1.trans (lock_same (s1 _ _ hd0) (Same.refl _))
  revert s3
  generalize upd (upd H2 d0 (.frz od2 (.dK (SzD szs0)))) d0 (.dK (SzD szs0)) = H4
  intro s3
  -- how many
  obtain ⟨u24, hu24⟩ := conB_ok (ex_10 T.L.more)
  obtain ⟨u40, hu40⟩ := conB_ok (ex_11 T.L.more)
  refine ⟨_, rfl, d0, _, rfl, s3 _ _ hd0, _, rfl, b, _, dx, _, _, _, rfl, s3 _ _ hb, T.L.c_Building, hu24, rfl, _, _, rfl, rfl, _, rfl, ?_⟩
  have hl24 : ¬ (((SzD szs0).length : Nat) : Int) > 24 := by
    have := O.few
    rw [SzD, List.length_map]
    omega
  rw [decide_eq_false hl24]
  refine iteF ?_
  -- self.sizes
  refine ⟨_, rfl, d0, _, szs0.map (·.1), rfl, .inl (s3 _ _ hd0), szD_keys szs0, (by have := O.few; rw [List.length_map]; omega), fun ys p hperm _ hpn => ?_⟩
  have s5 : Same H (upd H4 p (.lst (ys.map V.str))) := s3.new hpn
  have hys : SqL K (upd H4 p (.lst (ys.map V.str))) p (ys.map V.str) := SqL.of upd_same
  have ynd : ys.Nodup := hperm.nodup_iff.mpr O.nd
  have ylen : ys.length ≤ 24 := by
    have := hperm.length_eq
    have := O.few
    rw [List.length_map] at *
    omega
  revert s5 hys
  generalize upd H4 p (.lst (ys.map V.str)) = H5
  intro s5 hys
  refine ⟨p, rfl, ⟨_, hys⟩, fun D hD => dc_it (walk_list (K := K) (a := p) (xs := ys.map V.str)) (fun i H' => H' D = some (.dK (SzD (tab (fun x => (szs0.lookup x).getD 0) (ys.take i)))) ∧ Same H5 H') ⟨upd_same, sm_new hD⟩ (fun i H' _ h => h.2.seq hys) ?_ ?_⟩
  · rintro i v H' H'' hi ⟨g1, g2⟩ ⟨rfl, hv⟩
    obtain ⟨x, hx, rfl⟩ := map_get hv
    obtain ⟨n, hn⟩ := look_some (hperm.mem_iff.mp (List.mem_of_getElem? hx))
    refine ⟨rfl, _, rfl, _, rfl, _, rfl, d0, _, rfl, .inl ⟨_, Sum.inr x, .inl (g2 _ _ (s5 _ _ hd0)), rfl, by rw [szD_val, hn]; rfl⟩, _, Sum.inr x, rfl, g1, ?_, ?_, g2.put hD⟩
    · rw [SzD, List.length_map, tab, List.length_map, List.length_take, sizeLine_eq]
      omega
    · rw [upd_same, izD_nat, izD_nat, izD_put, tab_snoc _ hx, hn]
      · unfold toI
        rw [List.map_append]
        rfl
      · rw [toI_keys, tab_keys]
        exact not_take ynd hx
  rintro H6 ⟨g1, g2⟩
  rw [List.length_map, List.take_length] at g1
  have hszp := tab_perm O.nd hperm
  revert g1 hszp
  generalize tab (fun x => (szs0.lookup x).getD 0) ys = szs
  intro g1 hszp
  have s6 : Same H H6 := s5.trans g2
  refine ⟨_, rfl, b, _, dx, _, rfl, s6 _ _ hb, T.L.c_Building, T.L.n_Building_sizes, Nat.le_of_ble_eq_true rfl, ?_⟩
  rw [put_b1]
  have nDb : D ≠ b := fun z => by rw [z, s6 _ _ hb] at g1; cases g1
  have x7 : SameX b H (upd H6 b (.ins (bC K) dx [("sizes", .ref D)])) := s6.x.trans sameX_put
  have k7 : Keep H (upd H6 b (.ins (bC K) dx [("sizes", .ref D)])) := (Keep.of s6).trans (keep_ins (s6 _ _ hb))
  have hb7 : upd H6 b (.ins (bC K) dx [("sizes", .ref D)]) b = some (.ins (bC K) dx [("sizes", .ref D)]) := upd_same
  have hD7 : upd H6 b (.ins (bC K) dx [("sizes", .ref D)]) D = some (.dK (SzD szs)) := by rw [upd_ne nDb]; exact g1
  revert x7 k7 hb7 hD7
  generalize upd H6 b (.ins (bC K) dx [("sizes", .ref D)]) = H7
  intro x7 k7 hb7 hD7
  -- self.pairs
  have O1 : BOk szs ps0 := O.perm hszp (List.Perm.refl _)
  refine ⟨_, rfl, b, dx, _, rfl, hb7, rfl, _, rfl, b, D, dx, [], c0, szs, ps0, rfl, hb7, hD7, hp0.keep k7, O1, fun H8 c ps s8 hps hpsp => ?_⟩
  refine ⟨_, rfl, b, _, dx, _, rfl, s8 _ _ hb7, T.L.c_Building, T.L.n_Building_pairs, Nat.le_of_ble_eq_true rfl, ?_⟩
  rw [put_b2]
  have x9 : SameX b H (upd H8 b (.ins (bC K) dx [("sizes", .ref D), ("pairs", .ref c)])) := x7.trans (s8.x.trans sameX_put)
  have k9 : Keep H8 (upd H8 b (.ins (bC K) dx [("sizes", .ref D), ("pairs", .ref c)])) := keep_ins (s8 _ _ hb7)
  have hb9 : upd H8 b (.ins (bC K) dx [("sizes", .ref D), ("pairs", .ref c)]) b = some (.ins (bC K) dx [("sizes", .ref D), ("pairs", .ref c)]) := upd_same
  have hD9 : upd H8 b (.ins (bC K) dx [("sizes", .ref D), ("pairs", .ref c)]) D = some (.dK (SzD szs)) := k9 _ _ (s8 _ _ hD7) (fun _ _ _ z => by cases z)
  have hps9 := hps.keep k9
  revert x9 hb9 hD9 hps9
  generalize upd H8 b (.ins (bC K) dx [("sizes", .ref D), ("pairs", .ref c)]) = H9
  intro x9 hb9 hD9 hps9
  have O2 : BOk szs ps := O.perm hszp hpsp
  obtain ⟨xs, hx, hxs⟩ := id hps9
  -- not too many
  refine ⟨_, rfl, b, _, dx, _, .ref c, rfl, hb9, T.L.c_Building, T.L.n_Building_pairs, rfl, c, _, rfl, .inl hx, _, rfl, b, _, dx, _, _, _, rfl, hb9, T.L.c_Building, hu40, rfl, _, _, rfl, rfl, _, rfl, ?_⟩
  have hl40 : ¬ ((xs.length : Nat) : Int) > 40 := by
    have := O2.fewP
    have := hxs.len
    omega
  rw [decide_eq_false hl40]
  refine iteF ?_
  refine ⟨_, rfl, b, dx, _, rfl, hb9, rfl, b, D, c, dx, [], szs, ps, rfl, hb9, hD9, hps9, O2, fun H10 s10 => ?_⟩
  have x10 : SameX b H H10 := x9.trans s10.x
  have hb10 := s10 _ _ hb9
  have hD10 := s10 _ _ hD9
  have hps10 := hps9.same s10
  -- self.near
  refine ⟨D, _, hD10, trivial, fun od3 => ?_⟩
  have nbD : b ≠ D := fun z => by rw [z, hD10] at hb10; cases hb10
  have ncD : ∀ u, H10 c = some u → (∀ kv, u ≠ .dK kv) → c ≠ D := fun u h1 h2 z => by rw [z, hD10] at h1; exact h2 _ (Option.some.inj h1).symm
  refine ⟨_, rfl, b, _, dx, _, .ref D, rfl, by rw [upd_ne nbD]; exact hb10, T.L.c_Building, T.L.n_Building_sizes, rfl, D, od3, rfl, .inl ⟨_, upd_same, fun N hN => ?_⟩⟩
  have nND : N ≠ D := fun z => by rw [z, upd_same] at hN; cases hN
  have hN10 : H10 N = none := by rwa [upd_ne nND] at hN
  have rnd : (szs.map (·.1)).Nodup := O1.nd
  refine dc_it walk_keys (fun i H' => NrI H10 H' N ((szs.map (·.1)).take i) 0 ∧ Same (upd H10 D (.frz od3 (.dK (SzD szs)))) H') ⟨⟨[], upd_same, rfl, (fun kv h => by cases h)⟩, sm_new hN⟩ (fun i H' _ h => h.2 _ _ upd_same) ?_ ?_
  · rintro i x H' H'' hi ⟨⟨kvs, g1, g2, g3⟩, g4⟩ ⟨rfl, kk, vv, hk⟩
    obtain ⟨hk, rfl⟩ := hk
    obtain ⟨q, hq, e⟩ := map_get hk
    cases e
    have hqr : (szs.map (·.1))[i]? = some q.1 := by rw [List.getElem?_map, hq]; rfl
    have hlk : kvs.length = ((szs.map (·.1)).take i).length := by
      have := congrArg List.length g2
      rwa [List.length_map, List.length_map] at this
    have hl24' : kvs.length ≤ 24 := by
      rw [hlk, List.length_take, List.length_map]
      have := O1.few
      omega
    refine ⟨rfl, _, rfl, Nat.zero_le _, fun l hl => ⟨kvs, Sum.inr q.1, rfl, ?_, ?_, ?_, (g4.new hl).put hN⟩⟩
    · rw [upd_ne (ne_of_none g1 hl)]
      exact g1
    · rw [sizeLine_eq]
      omega
    · have nNl : N ≠ l := ne_of_none g1 hl
      have hnk : valV kvs (Sum.inr q.1) = none := by
        cases e : valV kvs (Sum.inr q.1) with
        | none => rfl
        | some v =>
          have h1 : (Sum.inr q.1 : Key) ∈ kvs.map (·.1) := List.mem_map.mpr ⟨_, valV_mem e, rfl⟩
          rw [g2] at h1
          obtain ⟨y, hy, e2⟩ := List.mem_map.mp h1
          cases e2
          exact absurd hy (not_take rnd hqr)
      refine ⟨_, upd_same, ?_, fun kv hkv => ?_⟩
      · rw [putK_new _ hnk, List.map_append, g2, take_snoc hqr, List.map_append]
        rfl
      · rw [putK_new _ hnk] at hkv
        rcases List.mem_append.mp hkv with h | h
        · obtain ⟨l', ys', e1, e2, e3, e4⟩ := g3 kv h
          have n1 : l' ≠ l := ne_of_none e2 hl
          have n2 : l' ≠ N := fun z => by rw [z, g1] at e2; cases e2
          exact ⟨l', ys', e1, by rw [upd_ne n2, upd_ne n1]; exact e2, e3, e4⟩
        · rw [List.mem_singleton.mp h]
          refine ⟨l, [], rfl, by rw [upd_ne nNl.symm, upd_same], Nat.le_refl _, ?_⟩
          have := g4.free hl
          by_cases e : l = D
          · rw [e, upd_same] at this
            cases this
          · rwa [upd_ne e] at this
  rintro H11 ⟨g1, g2⟩
  have eT : (szs.map (·.1)).take (SzD szs).length = szs.map (·.1) := by
    rw [SzD, List.length_map]
    exact List.take_of_length_le (by rw [List.length_map]; exact Nat.le_refl _)
  rw [eT] at g1
  refine ⟨g2 _ _ upd_same, ?_⟩
  have s12 : Same H10 (upd H11 D (.dK (SzD szs))) := lock_same hD10 g2
  have g12 : NrI H10 (upd H11 D (.dK (SzD szs))) N (szs.map (·.1)) 0 := by
    obtain ⟨kvs, h1, h2, h3⟩ := g1
    refine ⟨kvs, by rw [upd_ne nND]; exact h1, h2, fun kv hkv => ?_⟩
    obtain ⟨l', ys', e1, e2, e3, e4⟩ := h3 kv hkv
    have n1 : l' ≠ D := fun z => by rw [z, hD10] at e4; cases e4
    exact ⟨l', ys', e1, by rw [upd_ne n1]; exact e2, e3, e4⟩
  revert s12 g12
  generalize upd H11 D (.dK (SzD szs)) = H12
  intro s12 g12
  have hb12 := s12 _ _ hb10
  refine ⟨_, rfl, b, _, dx, _, rfl, hb12, T.L.c_Building, T.L.n_Building_near, Nat.le_of_ble_eq_true rfl, ?_⟩
  rw [put_b3]
  have x13 : SameX b H (upd H12 b (.ins (bC K) dx [("sizes", .ref D), ("pairs", .ref c), ("near", .ref N)])) := x10.trans (s12.x.trans sameX_put)
  have k13 : Keep H12 (upd H12 b (.ins (bC K) dx [("sizes", .ref D), ("pairs", .ref c), ("near", .ref N)])) := keep_ins hb12
  have g13 : NrI H10 (upd H12 b (.ins (bC K) dx [("sizes", .ref D), ("pairs", .ref c), ("near", .ref N)])) N (szs.map (·.1)) 0 := by
    obtain ⟨kvs, h1, h2, h3⟩ := g12
    refine ⟨kvs, k13 _ _ h1 (fun _ _ _ z => by cases z), h2, fun kv hkv => ?_⟩
    obtain ⟨l', ys', e1, e2, e3, e4⟩ := h3 kv hkv
    exact ⟨l', ys', e1, k13 _ _ e2 (fun _ _ _ z => by cases z), e3, e4⟩
  have hb13 : upd H12 b (.ins (bC K) dx [("sizes", .ref D), ("pairs", .ref c), ("near", .ref N)]) b = some (.ins (bC K) dx [("sizes", .ref D), ("pairs", .ref c), ("near", .ref N)]) := upd_same
  have hD13 : upd H12 b (.ins (bC K) dx [("sizes", .ref D), ("pairs", .ref c), ("near", .ref N)]) D = some (.dK (SzD szs)) := k13 _ _ (s12 _ _ hD10) (fun _ _ _ z => by cases z)
  have hps13 := (hps10.same s12).keep k13
  have s13 : ∀ l, H10 l = none → l ≠ b → (upd H12 b (.ins (bC K) dx [("sizes", .ref D), ("pairs", .ref c), ("near", .ref N)])) l = H12 l := fun l _ h => upd_ne h
  have x1013 : SameX b H10 (upd H12 b (.ins (bC K) dx [("sizes", .ref D), ("pairs", .ref c), ("near", .ref N)])) := s12.x.trans sameX_put
  revert x13 g13 hb13 hD13 hps13 x1013
  clear k13 s13
  generalize upd H12 b (.ins (bC K) dx [("sizes", .ref D), ("pairs", .ref c), ("near", .ref N)]) = H13
  intro x13 g13 hb13 hD13 hps13 x1013
  obtain ⟨xs, hx, hxs⟩ := id hps13
  -- the loop over the pairs
  have kx : ∀ {H'}, SameX b H10 H' → Keep H10 H' := fun sx => sameX_keep hb10 sx
  obtain ⟨ys2, hy, hys2⟩ := id hps10
  refine ⟨_, rfl, b, _, dx, _, .ref c, rfl, hb13, T.L.c_Building, T.L.n_Building_pairs, rfl, c, rfl, ⟨_, (kx x1013).seq hy⟩, ?_⟩
  refine for_list (K := K) (a := c) (xs := ys2) (fun i σ H' => (∃ a3 a4 a5 a6 a7, σ = [some (.ref b), some (.ref d0), some (.ref c0), a3, a4, a5, a6, a7]) ∧ SameX b H10 H' ∧ H' b = some (.ins (bC K) dx [("sizes", .ref D), ("pairs", .ref c), ("near", .ref N)]) ∧ NrI H10 H' N (szs.map (·.1)) (2 * i))
    ⟨⟨_, _, _, _, _, rfl⟩, x1013, hb13, g13⟩ (fun i σ H' _ ⟨_, h, _⟩ => (kx h).seq hy) ?_ ?_
  · rintro i v σ H' hi ⟨⟨a3, a4, a5, a6, a7, rfl⟩, sx, hb', hN'⟩
    obtain ⟨p, t, hp, rfl, ht⟩ := PsAt.item (DpAll.keep (kx sx) hys2.dp) hi
    obtain ⟨e1, e2⟩ := O2.ends p (List.mem_of_getElem? hp)
    have hip := (List.getElem?_eq_some_iff.mp hp).1
    have h31 := O2.fewP
    refine ⟨t, _, rfl, ht, rfl, _, _, rfl, _, _, rfl, rfl, ?_⟩
    obtain ⟨kvs, l, xs1, n1, n2, n3, n4, n5⟩ := hN'.get e1
    have nlb : l ≠ b := fun z => by rw [z, hb10] at n5; cases n5
    refine ⟨_, rfl, b, _, dx, _, .ref N, rfl, hb', T.L.c_Building, T.L.n_Building_near, rfl, _, rfl, N, _, rfl, .inl ⟨kvs, Sum.inr p.1, .inl n1, rfl, n2.symm⟩, .inl ⟨rfl, _, SqL.of n3⟩, _, rfl, l, _, _, rfl, rfl, n3, (by rw [sizeLine_eq]; omega), ?_⟩
    have hN2 := hN'.put (v := .str p.2) n3 n4
    have hb2 : upd H' l (.lst (xs1 ++ [.str p.2])) b = some (.ins (bC K) dx [("sizes", .ref D), ("pairs", .ref c), ("near", .ref N)]) := by rw [upd_ne nlb.symm]; exact hb'
    have sx2 : SameX b H10 (upd H' l (.lst (xs1 ++ [.str p.2]))) := fun a u n e => by
      rw [upd_ne (ne_of_none e n5)]
      exact sx a u n e
    obtain ⟨kvs', l', xs2, m1, m2, m3, m4, m5⟩ := hN2.get e2
    have nlb' : l' ≠ b := fun z => by rw [z, hb10] at m5; cases m5
    refine ⟨_, rfl, b, _, dx, _, .ref N, rfl, hb2, T.L.c_Building, T.L.n_Building_near, rfl, _, rfl, N, _, rfl, .inl ⟨kvs', Sum.inr p.2, .inl m1, rfl, m2.symm⟩, .inl ⟨rfl, _, SqL.of m3⟩, _, rfl, l', _, _, rfl, rfl, m3, (by rw [sizeLine_eq]; omega), ?_⟩
    refine ⟨⟨_, _, _, _, _, rfl⟩, fun a u n e => ?_, by rw [upd_ne nlb'.symm]; exact hb2, hN2.put m3 m4⟩
    rw [upd_ne (ne_of_none e m5)]
    exact sx2 a u n e
  · rintro σ H' ⟨⟨a3, a4, a5, a6, a7, rfl⟩, sx, hb', hN'⟩
    refine ⟨_, rfl, b, dx, _, rfl, hb', rfl, b, D, c, dx, .ref N, szs, ps, rfl, hb', kx sx _ _ hD10 (fun _ _ _ z => by cases z), hps10.keep (kx sx), O2, fun H'' sx' B => ?_⟩
    exact k H'' szs ps hszp hpsp (x10.trans (sx.trans sx')) B
end
end Rd
/-! Building.__eq__ (of one building); making one. -/
namespace Rd
open PySem PySem.Spec PyProof.Rows L2 Gr
theorem made_same {H H' : Hp} {x dx C : Addr} (hx : H x = none) (hd : H dx = none) (s : SameX x (upd (upd H dx (.own x)) x (.ins C dx [])) H') : Same H H' := fun a u e => by
  have n1 : a ≠ x := ne_of_none e hx
  have n2 : a ≠ dx := ne_of_none e hd
  exact s a u n1 (by rw [upd_ne n1, upd_ne n2]; exact e)
theorem made_same0 {H : Hp} {x dx C : Addr} (hx : H x = none) (hd : H dx = none) : Same H (upd (upd H dx (.own x)) x (.ins C dx [])) := fun a u e => by
  have n1 : a ≠ x := ne_of_none e hx
  have n2 : a ≠ dx := ne_of_none e hd
  rw [upd_ne n1, upd_ne n2]
  exact e
theorem kit_self {K : PySem.W.Frag} (v : Value) : PySem.W.kitOne K v v = some true := by
  unfold PySem.W.kitOne
  rw [if_pos (by simp)]
theorem ins_ty {x : Str} {K : PySem.W.Frag} {H : Hp} {a dx : Addr} {fs : List (Str × V)} (h : insB x K = true) (c : Cls K (He.ga K x)) (e : H a = some (.ins (He.ga K x) dx fs)) : TyX K H (.ref a) (.ref (He.ga K x)) := by
  unfold insB at h
  obtain ⟨h1, h⟩ := He.ba h
  obtain ⟨h2, h⟩ := He.ba h
  obtain ⟨h3, h4⟩ := He.ba h
  exact .base (.ins e c (of_decide_eq_true h1) (of_decide_eq_true h2) (of_decide_eq_true h3) (of_decide_eq_true h4))
def spBEq (K : PySem.W.Frag) : Sp := fun vs H Q _ => ∃ (b : Addr) (szs : List (Str × Nat)) (ps : List (Str × Str)), vs = [.ref b, .ref b] ∧ BAt K H b szs ps ∧ BOk szs ps ∧ Q (.bl true) H
-- slots of Building.__eq__: 0 self 1 other
theorem sc_Building_deq : FnScope ["self", "other"] ["self", "other"] (defScope s_Building_deq) := ⟨rfl, rfl, rfl, by decide +kernel, rfl, by decide +kernel, by decide +kernel⟩
section
variable {P : Program} {w : World} {K : PySem.W.Frag} {mg : Str → Option Value} {base : Heap}
theorem mt_Building_deq (T : Wd K mg base) : Mt P w K mg base 1 (bC K) "__eq__" (spBEq K) := by
  obtain ⟨fd, F⟩ := T.L.F_Building_deq
  refine mt_of F T.L.c_Building T.L.m_Building_deqd (F.binds (ps := ["self", "other"]) fun _ _ _ _ _ _ us hl => match us, hl with | [_, _], _ => rfl) sc_Building_deq (fun vs H Q E ⟨_, _, _, e, _⟩ => by rw [e]; rfl) ?_
  rintro cdv A outer s H vs Q E hr ⟨b, szs, ps, rfl, B, O, k⟩
  obtain ⟨dx, d, c, nr, sd, rg, br, hb, hd, ⟨xs, hx, hxs⟩, hs⟩ := B.ex
  refine ⟨_, (pss_one (ps_ret (pe_and (pe_callB (call_isi) (by rfl) T.f_isinstance (by decide +kernel) (pa_cons (pv 1) (pa_cons (pe_glob (v := .ref (He.ga K "Building")) rfl T.g_Building rfl) pa_nil))) (pe_and (pe_cmpR (op_eq_dict hr.units0) (pe_fld (pv 0) rfl) (pe_fld (pv 1) rfl) (by rfl)) (pe_one (pe_cmpR (op_eqD hr.units) (pe_fld (pv 0) rfl) (pe_fld (pv 1) rfl) (by rfl))))))), ?_⟩
  refine ⟨_, rfl, _, _, _, _, true, rfl, .own _, ins_ty (ex_17 T.L.more) T.L.c_Building hb, kit_self _, true, rfl, iteT ?_⟩
  refine ⟨_, rfl, b, _, dx, _, .ref d, rfl, hb, T.L.c_Building, T.L.n_Building_sizes, rfl, _, rfl, b, _, dx, _, .ref d, rfl, hb, T.L.c_Building, T.L.n_Building_sizes, rfl, d, d, _, rfl, rfl, hd, hd, ?_, ?_, true, rfl, iteT ?_⟩
  · rw [szD_keys]
    exact inr_nodup O.nd
  · intro p hp
    obtain ⟨q, _, rfl⟩ := List.mem_map.mp hp
    rfl
  refine ⟨_, rfl, b, _, dx, _, .ref c, rfl, hb, T.L.c_Building, T.L.n_Building_pairs, rfl, _, rfl, b, _, dx, _, .ref c, rfl, hb, T.L.c_Building, T.L.n_Building_pairs, rfl, .list (ps.map pD), .list (ps.map pD), .lst hx hxs.dp, .lst hx hxs.dp, pDs_shaped O.nms, pDs_shaped O.nms, ?_⟩
  rw [SeqAt.eqv_refl]
  · exact k
  · simp only [PyData.canLay0]
    exact pDs_lay O.nms
end
end Rd
/-! Trace: what stands in the heap; found_balance. -/
namespace Rd
open PySem PySem.Spec PyProof.Rows L2 Gr
section
variable {X : Cx}
theorem pi_tupK {K : PySem.W.Frag} {tg e : Expr} {te : TE} (h : PE X e te) (hK : X.K = K := by rfl) : PI X tg e (iTup K te) := by
  subst hK
  exact pi_tup h
end
theorem perm_sum {l m : List Int} (h : l.Perm m) : l.sum = m.sum := by
  induction h with
  | nil => rfl
  | cons x _ ih => rw [List.sum_cons, List.sum_cons, ih]
  | swap x y l => rw [List.sum_cons, List.sum_cons, List.sum_cons, List.sum_cons]; omega
  | trans _ _ h1 h2 => exact h1.trans h2
theorem perm_of {l m : List Str} (h1 : l.Nodup) (h2 : m.Nodup) (h : ∀ x, x ∈ l ↔ x ∈ m) : l.Perm m := by
  exact (List.perm_ext_iff_of_nodup h1 h2).mpr h
abbrev tC (K : PySem.W.Frag) : Addr := He.ga K "Trace"
def szn (szs : List (Str × Nat)) (x : Str) : Nat := (szs.lookup x).getD 0
/-- the balance of a trace, by a colour -/
def balC (c : Str → Bool) (rooms : List Str) (f l : Str) (ch : Str → Int) : Int := (if c f = true then 1 else 0) - (if c l = true then 1 else 0) + (rooms.map fun x => if c x = true then ch x else -ch x).sum
def BalV (rooms : List Str) (ps : List (Str × Str)) (f l : Str) (ch : Str → Int) (v : V) : Prop := (v = .non ∧ ∀ c, ¬ Col ps c) ∨ ∃ c, Col ps c ∧ v = .int (balC c rooms f l ch)
/-- the balance that a trace keeps, by the sides that its building keeps -/
def BalAt (H : Hp) (sd : V) (rooms : List Str) (ps : List (Str × Str)) (f l : Str) (ch : Str → Int) (v : V) : Prop := (sd = .non ∧ v = .non ∧ ∀ c, ¬ Col ps c) ∨
  ∃ (t a b : Addr) (s0 : List Str) (c : Str → Bool), sd = .ref t ∧ H t = some (.tup [.ref a, .ref b]) ∧ H a = some (.tup (s0.map V.str)) ∧ Col ps c ∧ (∀ x, x ∈ s0 ↔ x ∈ rooms ∧ c x = true) ∧ v = .int (balC c rooms f l ch)
theorem BalAt.v {H : Hp} {sd : V} {rooms : List Str} {ps : List (Str × Str)} {f l : Str} {ch : Str → Int} {v : V} : BalAt H sd rooms ps f l ch v → BalV rooms ps f l ch v := fun h => h.elim (fun ⟨_, h1, h2⟩ => .inl ⟨h1, h2⟩) fun ⟨_, _, _, _, c, _, _, _, h1, _, h2⟩ => .inr ⟨c, h1, h2⟩
theorem BalAt.keep {H H' : Hp} {sd : V} {rooms : List Str} {ps : List (Str × Str)} {f l : Str} {ch : Str → Int} {v : V} (k : Keep H H') : BalAt H sd rooms ps f l ch v → BalAt H' sd rooms ps f l ch v :=
  fun h => h.elim .inl fun ⟨t, a, b, s0, c, h1, h2, h3, h4⟩ => .inr ⟨t, a, b, s0, c, h1, k _ _ h2 (fun _ _ _ z => by cases z), k _ _ h3 (fun _ _ _ z => by cases z), h4⟩
/-- a trace that stands in the heap -/
structure TAt (K : PySem.W.Frag) (H : Hp) (t b : Addr) (szs : List (Str × Nat)) (ps : List (Str × Str)) (f l : Str) (ch : Str → Int) : Prop where
  ex : ∃ dx d ky bv sd, H t = some (.ins (tC K) dx [("own_building", .ref b), ("own_first", .str f), ("own_last", .str l), ("own_changes", .ref d), ("key", ky), ("own_balance", bv), ("own_gcd", .int (gcdL (szs.map fun p => (p.2 : Int))))]) ∧
    H d = some (.dK (IzD (tab ch (szs.map (·.1))))) ∧ BAt K H b szs ps ∧ BSd H b sd ∧ BalAt H sd (szs.map (·.1)) ps f l ch bv
theorem sum_split (c : Str → Bool) (ch : Str → Int) (rooms : List Str) : (rooms.map fun x => if c x = true then ch x else -ch x).sum = ((rooms.filter c).map ch).sum - ((rooms.filter fun x => !c x).map ch).sum := by
  induction rooms with
  | nil => rfl
  | cons x xs ih =>
    rw [List.map_cons, List.sum_cons, ih]
    cases e : c x
    · rw [List.filter_cons_of_neg (by rw [e]; exact Bool.false_ne_true), List.filter_cons_of_pos (by simp [e]), List.map_cons, List.sum_cons, if_neg Bool.false_ne_true]
      omega
    · rw [List.filter_cons_of_pos e, List.filter_cons_of_neg (by simp [e]), List.map_cons, List.sum_cons, if_pos rfl]
      omega
theorem sides_sum {rooms : List Str} {s0 s1 : List Str} (nd : rooms.Nodup) {c : Str → Bool} (n0 : s0.Nodup) (n1 : s1.Nodup) (h0 : ∀ x, x ∈ s0 ↔ x ∈ rooms ∧ c x = true) (h1 : ∀ x, x ∈ s1 ↔ x ∈ rooms ∧ c x = false) (ch : Str → Int) :
    (s0.map ch).sum - (s1.map ch).sum = (rooms.map fun x => if c x = true then ch x else -ch x).sum := by
  rw [sum_split]
  have e0 : s0.Perm (rooms.filter c) := perm_of n0 (nd.filter _) fun x => by rw [h0, List.mem_filter]
  have e1 : s1.Perm (rooms.filter fun x => !c x) := perm_of n1 (nd.filter _) fun x => by
    rw [h1, List.mem_filter]
    cases c x <;> simp
  rw [perm_sum (e0.map ch), perm_sum (e1.map ch)]
/-! ### found_balance -/
def spTBal (K : PySem.W.Frag) : Sp := fun vs H Q _ => ∃ (t d dx : Addr) (vb : V) (rest : List (Str × V)) (rooms : List Str) (ps : List (Str × Str)) (f l : Str) (ch : Str → Int) (sv : V), vs = [.ref t, sv] ∧
  H t = some (.ins (tC K) dx (("own_building", vb) :: ("own_first", .str f) :: ("own_last", .str l) :: ("own_changes", .ref d) :: rest)) ∧ H d = some (.dK (IzD (tab ch rooms))) ∧ SdAt K H sv rooms ps ∧ rooms.Nodup ∧ f ∈ rooms ∧ l ∈ rooms ∧ rooms.length ≤ 24 ∧
  ∀ v H', Same H H' → BalAt H' sv rooms ps f l ch v → Q v H'
-- slots of Trace.found_balance: 0 self* 1 sides 2 ends 3 one 4 other 5 room* 6 side
theorem sc_Trace_found_balance : FnScope ["self", "sides", "ends", "one", "other", "room", "side"] ["self", "sides"] (defScope s_Trace_found_balance) := ⟨rfl, rfl, rfl, by decide +kernel, rfl, by decide +kernel, by decide +kernel⟩
section
variable {P : Program} {w : World} {K : PySem.W.Frag} {mg : Str → Option Value} {base : Heap}
theorem mt_Trace_found_balance (T : Wd K mg base) : Mt P w K mg base 1 (tC K) "found_balance" (spTBal K) := by
  obtain ⟨fd, F⟩ := T.L.F_Trace_found_balance
  refine mt_of F T.L.c_Trace T.L.m_Trace_found_balance (F.binds (ps := ["self", "sides"]) fun _ _ _ _ _ _ us hl => match us, hl with | [_, _], _ => rfl) sc_Trace_found_balance (fun vs H Q E ⟨_, _, _, _, _, _, _, _, _, _, _, e, _⟩ => by rw [e]; rfl) ?_
  rintro cdv A outer s H vs Q E hr ⟨t, d, dx, vb, rest, rooms, ps, f, l, ch, sv, rfl, ht, hd, hs, nd, hf, hl, h24, k⟩
  refine ⟨_, (pss_cons (ps_if (pt_cmpR op_isN (pv 1) pe_non (by rfl)) (pss_one (ps_ret pe_non)) pss_nil) (pss_cons (ps_set (i := 2) sc_Trace_found_balance.nd rfl (Or.inl rfl) (pe_op op_sub (pe_callTy (call_int1) (by rfl) T.f_int (by decide +kernel) (pa_cons (pe_cmpR op_in_seq (pe_fld (pv 0) rfl) (pe_ix ix_tup (pv 1) pe_int (fun _ _ => rfl)) (by rfl)) pa_nil)) (pe_callTy (call_int1) (by rfl) T.f_int (by decide +kernel) (pa_cons (pe_cmpR op_in_seq (pe_fld (pv 0) rfl) (pe_ix ix_tup (pv 1) pe_int (fun _ _ => rfl)) (by rfl)) pa_nil)))) (pss_cons (ps_asg (pe_lc (own := [("side", 6)]) (g := gName 6) rfl sc_Trace_found_balance.nd (pi_tup (pv 1)) (blkOk_by (own := [("side", 6)]) (N := ["self", "sides", "ends", "one", "other", "room", "side"]) (sc := defScope s_Trace_found_balance) (by decide +kernel)) (fun _ _ _ _ _ => (pg_name (i := 6) sc_Trace_found_balance.nd rfl (Or.inl rfl))) (fun _ _ _ _ _ => pts_nil) (fun _ _ _ _ _ => (pe_callB (r := rSum K) (cr_sum rfl) (by rfl) T.f_sum (by decide +kernel) (pa_cons (pe_lc (own := [("room", 5)]) (g := gName 5) rfl sc_Trace_found_balance.nd (pi_tupK (K := K) (pv 6)) (blkOk_by (own := [("room", 5)]) (N := ["self", "sides", "ends", "one", "other", "room", "side"]) (sc := { kind := .function, names := [(".0", .local), ("side", .local), ("sum", .globalImplicit), ("self", .cell)], isGenerator := false, isCoroutine := false }) (by decide +kernel)) (fun _ _ _ _ _ => (pg_name (i := 5) sc_Trace_found_balance.nd rfl (Or.inl rfl))) (fun _ _ _ _ _ => pts_nil) (fun _ _ _ _ _ => (pe_dget (hu_of hr) (pe_fldK (K := K) (pv 0) rfl) (pv 5) (fun _ _ => rfl)))) pa_nil)))) (pg_lst rfl (pgs_cons (pg_name (i := 3) sc_Trace_found_balance.nd rfl (Or.inl rfl)) (pgs_cons (pg_name (i := 4) sc_Trace_found_balance.nd rfl (Or.inl rfl)) pgs_nil)))) (pss_one (ps_ret (pe_op op_sub (pe_op op_add (pv 2) (pv 3)) (pv 4))))))), ?_⟩
  rcases hs with ⟨rfl, hno⟩ | ⟨u, a0, a1, s0, s1, rfl, hu, h0, h1, c, hc, n0, n1, m0, m1⟩
  · refine ⟨_, rfl, rfl, _, rfl, iteT (k _ _ (Same.refl _) (.inl ⟨rfl, rfl, hno⟩))⟩
  · refine ⟨_, rfl, rfl, _, rfl, ?_⟩
    rw [decide_eq_false (fun z => by cases z)]
    refine iteF ?_
    refine ⟨_, rfl, t, _, dx, _, .str f, rfl, ht, T.L.c_Trace, T.L.n_Trace_own_first, rfl, _, rfl, u, _, (0 : Int), .ref a0, rfl, rfl, SqT.of hu, rfl, a0, _, rfl, .inr (SqT.of h0), rfl, all_flat _, .inr ⟨_, rfl, ?_⟩⟩
    refine ⟨_, rfl, t, _, dx, _, .str l, rfl, ht, T.L.c_Trace, T.L.n_Trace_own_last, rfl, _, rfl, u, _, (0 : Int), .ref a0, rfl, rfl, SqT.of hu, rfl, a0, _, rfl, .inr (SqT.of h0), rfl, all_flat _, .inr ⟨_, rfl, ?_⟩⟩
    refine ⟨_, _, rfl, rfl, ?_⟩
    refine ⟨_, rfl, u, rfl, ⟨_, SqT.of hu⟩, fun D hD => lc_tup (K := K) (a := u) (xs := [V.ref a0, V.ref a1]) (fun i H' => H' D = some (.lst ((([s0, s1].take i).map fun z => (z.map ch).sum).map V.int)) ∧ Same H H') ⟨upd_same, sm_new hD⟩ (fun i H' _ h => h.2.tup (SqT.of hu)) ?_ ?_⟩
    · rintro i x H' hi ⟨g1, g2⟩
      obtain ⟨a, z, rfl, hz, hin, hiz⟩ : ∃ (a : Addr) (z : List Str), x = V.ref a ∧ SqT K H a (z.map V.str) ∧ (∀ y ∈ z, y ∈ rooms) ∧ [s0, s1][i]? = some z := by
        match i, hi with
        | 0, hi => exact ⟨a0, s0, (Option.some.inj hi).symm, SqT.of h0, fun y hy => ((m0 y).mp hy).1, rfl⟩
        | 1, hi => exact ⟨a1, s1, (Option.some.inj hi).symm, SqT.of h1, fun y hy => ((m1 y).mp hy).1, rfl⟩
        | i + 2, hi => exact absurd hi (by simp)
      have hi2 : i < 2 := (List.getElem?_eq_some_iff.mp hi).1
      have hz24 : z.length ≤ 24 := by
        have hznd : z.Nodup := by
          match i, hiz with
          | 0, e => cases e; exact n0
          | 1, e => cases e; exact n1
          | i + 2, e => exact absurd e (by simp)
        have := nodup_le hznd hin
        omega
      refine ⟨rfl, _, rfl, a, rfl, ⟨_, g2.tup hz⟩, fun D2 hD2 => lc_tup (K := K) (a := a) (xs := z.map V.str) (fun j H2 => H2 D2 = some (.lst (((z.take j).map ch).map V.int)) ∧ Same H' H2) ⟨upd_same, sm_new hD2⟩ (fun j H2 _ h => (g2.trans h.2).tup hz) ?_ ?_⟩
      · rintro j v H2 hj ⟨e1, e2⟩
        obtain ⟨y, hy, rfl⟩ := map_get hj
        have sH := g2.trans e2
        have hyr := hin y (List.mem_of_getElem? hy)
        refine ⟨rfl, _, rfl, t, _, dx, _, .ref d, rfl, sH _ _ ht, T.L.c_Trace, T.L.n_Trace_own_changes, rfl, _, rfl, d, _, rfl, .inl ⟨_, Sum.inr y, .inl (sH _ _ hd), rfl, by rw [izD_val, tab_look _ hyr]; rfl⟩, _, e1, ?_, ?_, e2.put hD2⟩
        · rw [List.length_map, List.length_map, List.length_take, sizeLine_eq]
          omega
        · rw [upd_same, take_snoc hy, List.map_append, List.map_append]
          rfl
      · rintro H2 ⟨e1, e2⟩
        rw [List.length_map, List.take_length] at e1
        refine ⟨D2, _, rfl, SqL.of e1, _, e2 _ _ g1, ?_, ?_, (g2.trans e2).put hD⟩
        · rw [List.length_map, List.length_map, List.length_take, sizeLine_eq]
          show min i 2 < 16777216
          omega
        · rw [upd_same, take_snoc hiz, List.map_append, List.map_append]
          rfl
    · rintro H' ⟨g1, g2⟩
      refine ⟨D, [V.int (s0.map ch).sum, V.int (s1.map ch).sum], rfl, SqL.of g1, rfl, ?_⟩
      refine ⟨_, _, rfl, _, _, rfl, rfl, ?_⟩
      refine ⟨_, rfl, _, rfl, _, _, rfl, rfl, _, rfl, _, _, rfl, rfl, ?_⟩
      refine k _ _ g2 (.inr ⟨u, a0, a1, s0, c, rfl, g2 _ _ hu, g2 _ _ h0, hc, m0, congrArg V.int ?_⟩)
      unfold balC
      rw [← sides_sum nd n0 n1 m0 m1 ch]
      have b0 : ∀ x, x ∈ rooms → b2i (inV (V.str x) (s0.map V.str)) = if c x = true then 1 else 0 := fun x hx => by
        rw [inV_str]
        cases e : c x with
        | true => rw [decide_eq_true ((m0 x).mpr ⟨hx, e⟩)]; rfl
        | false => rw [decide_eq_false (fun z => by rw [((m0 x).mp z).2] at e; cases e)]; rfl
      have e1 := b0 f hf
      have e2 := b0 l hl
      show b2i (inV (V.str f) (s0.map V.str)) - b2i (inV (V.str l) (s0.map V.str)) + (s0.map ch).sum - (s1.map ch).sum = _
      rw [e1, e2]
      omega
end
end Rd
/-! Trace.__init__. -/
namespace Rd
open PySem PySem.Spec PyProof.Rows L2 Gr
section
variable {K : PySem.W.Frag} {H : Hp} {b : Addr} {szs : List (Str × Nat)} {ps : List (Str × Str)} {x : Str} {Q : VK}
theorem BAt.rIn (B : BAt K H b szs ps) (hx : Nm x) (neg : Bool) (k : ∀ H', Same H H' → Q (.bl (if neg then !decide (x ∈ szs.map (·.1)) else decide (x ∈ szs.map (·.1)))) H') : rIsIn (bC K) (spBIn K) neg (.str x) (.ref b) H Q :=
  let ⟨dx, d, c, nr, sd, rg, br, hb, hd, hp, hs⟩ := B.ex
  ⟨b, dx, _, rfl, hb, b, d, dx, _, x, szs, rfl, hb, hd, hx, fun H' s => ⟨_, rfl, k H' s⟩⟩
theorem BAt.rGet (B : BAt K H b szs ps) (O : BOk szs ps) (hx : x ∈ szs.map (·.1)) (k : ∀ H', Same H H' → Q (.int (szn szs x : Nat)) H') : rGetOwn (bC K) (spBGet K) (.ref b) (.str x) H Q := by
  obtain ⟨dx, d, c, nr, sd, rg, br, hb, hd, hp, hs⟩ := B.ex
  obtain ⟨n, hn⟩ := look_some hx
  refine ⟨b, dx, _, rfl, hb, b, x, szs, ps, n, rfl, B, O, hn, fun H' s => ?_⟩
  have := k H' s
  unfold szn at this
  rw [hn] at this
  exact this
theorem BAt.keep {a : Addr} {o : HO} {C dx : Addr} {fs : List (Str × V)} (B : BAt K H b szs ps) (ha : H a = some (.ins C dx fs)) (hab : b ≠ a) : BAt K (upd H a o) b szs ps :=
  let ⟨dx', d, c, nr, sd, rg, br, hb, hd, hp, hs⟩ := B.ex
  have kk := keep_ins (o := o) ha
  ⟨dx', d, c, nr, sd, rg, br, by rw [upd_ne hab]; exact hb, kk _ _ hd (fun _ _ _ z => by cases z), hp.keep kk, hs.keep kk⟩
end
theorem szn_pos {szs : List (Str × Nat)} {ps : List (Str × Str)} (O : BOk szs ps) {x : Str} (h : x ∈ szs.map (·.1)) : 1 ≤ szn szs x ∧ szn szs x ≤ 1000000 := by
  obtain ⟨n, hn⟩ := look_some h
  have := O.pos _ (look_mem hn)
  unfold szn
  rw [hn]
  exact this
theorem szn_map {szs : List (Str × Nat)} (nd : (szs.map (·.1)).Nodup) : (szs.map (·.1)).map (fun x => ((szn szs x : Nat) : Int)) = szs.map fun p => (p.2 : Int) := by
  rw [List.map_map]
  refine List.map_congr_left fun p hp => ?_
  show ((szn szs p.1 : Nat) : Int) = p.2
  unfold szn
  rw [lookup_of nd (show (p.1, p.2) ∈ szs from hp)]
  rfl
/-- the changes that a trace keeps -/
def kept (szs : List (Str × Nat)) (cs0 : List (Str × Int)) (x : Str) : Int := ((cs0.lookup x).getD 0) % (szn szs x : Nat)
def spTInit (K : PySem.W.Frag) : Sp := fun vs H Q _ => ∃ (t b d0 dx : Addr) (szs : List (Str × Nat)) (ps : List (Str × Str)) (f l : Str) (cs0 : List (Str × Int)), vs = [.ref t, .ref b, .str f, .str l, .ref d0] ∧ H t = some (.ins (tC K) dx []) ∧ t ≠ b ∧ BAt K H b szs ps ∧ BOk szs ps ∧
  f ∈ szs.map (·.1) ∧ l ∈ szs.map (·.1) ∧ H d0 = some (.dK (IzD cs0)) ∧ cs0.length ≤ 24 ∧ (∀ p ∈ cs0, p.1 ∈ szs.map (·.1) ∧ -1000000000 ≤ p.2 ∧ p.2 ≤ 1000000000) ∧ ∀ H', SameX t H H' → TAt K H' t b szs ps f l (kept szs cs0) → Q .non H'
theorem put_t1 {b : Addr} : putF "own_building" (V.ref b) [] = ([("own_building", V.ref b)] : List (Str × V)) := rfl
theorem put_t2 {b : Addr} {f : V} : putF "own_first" f [("own_building", V.ref b)] = ([("own_building", V.ref b), ("own_first", f)] : List (Str × V)) := rfl
theorem put_t3 {b : Addr} {f l : V} : putF "own_last" l [("own_building", V.ref b), ("own_first", f)] = ([("own_building", V.ref b), ("own_first", f), ("own_last", l)] : List (Str × V)) := rfl
theorem put_t4 {b : Addr} {f l d : V} : putF "own_changes" d [("own_building", V.ref b), ("own_first", f), ("own_last", l)] = ([("own_building", V.ref b), ("own_first", f), ("own_last", l), ("own_changes", d)] : List (Str × V)) := rfl
theorem put_t5 {b : Addr} {f l d ky : V} : putF "key" ky [("own_building", V.ref b), ("own_first", f), ("own_last", l), ("own_changes", d)] = ([("own_building", V.ref b), ("own_first", f), ("own_last", l), ("own_changes", d), ("key", ky)] : List (Str × V)) := rfl
theorem put_t6 {b : Addr} {f l d ky bv : V} : putF "own_balance" bv [("own_building", V.ref b), ("own_first", f), ("own_last", l), ("own_changes", d), ("key", ky)] = ([("own_building", V.ref b), ("own_first", f), ("own_last", l), ("own_changes", d), ("key", ky), ("own_balance", bv)] : List (Str × V)) := rfl
theorem put_t7 {b : Addr} {f l d ky bv g : V} : putF "own_gcd" g [("own_building", V.ref b), ("own_first", f), ("own_last", l), ("own_changes", d), ("key", ky), ("own_balance", bv)] = ([("own_building", V.ref b), ("own_first", f), ("own_last", l), ("own_changes", d), ("key", ky), ("own_balance", bv), ("own_gcd", g)] : List (Str × V)) := rfl
theorem tab_take_len {β : Type} (f : Str → β) (xs : List Str) (i : Nat) : (tab f (xs.take i)).length ≤ xs.length := by
  unfold tab
  rw [List.length_map, List.length_take]
  exact Nat.min_le_right _ _
-- slots of Trace.__init__: 0 self 1 building* 2 first 3 last 4 changes* 5 room 6 change
theorem sc_Trace_dinit : FnScope ["self", "building", "first", "last", "changes", "room", "change"] ["self", "building", "first", "last", "changes"] (defScope s_Trace_dinit) := ⟨rfl, rfl, rfl, by decide +kernel, rfl, by decide +kernel, by decide +kernel⟩
section
variable {P : Program} {w : World} {K : PySem.W.Frag} {mg : Str → Option Value} {base : Heap}
theorem ma_Trace (T : Wd K mg base) : Ma P w K mg base 5 "Trace" (tC K) (spTInit K) := by
  obtain ⟨fd, F⟩ := T.L.F_Trace_dinit
  refine ma_of F T.L.k_Trace T.g_Trace (F.binds (ps := ["self", "building", "first", "last", "changes"]) fun _ _ _ _ _ _ us hl => match us, hl with | [_, _, _, _, _], _ => rfl) sc_Trace_dinit (fun vs H Q E ⟨_, _, _, _, _, _, _, _, _, e, _⟩ => by rw [e]; rfl) ?_
  rintro cdv A outer s H vs Q E hr ⟨t, b, d0, dx, szs, ps, f, l, cs0, rfl, ht, ntb, B, O, hf, hl, hd0, h24, hcs, k⟩
  refine ⟨_, (pss_cons (ps_for PassesOwn.never rfl (pi_list (pe_lst (pa_cons (pv 2) (pa_cons (pv 3) (pa_starD rfl (pv 4) pa_nil))))) (pg_name (i := 5) sc_Trace_dinit.nd rfl (Or.inl rfl)) (pss_one (ps_if (pt_cmpR (op_nin_own (mt_Building_dcontains T) hr (by decide)) (pv 5) (pv 1) (by rfl)) (pss_one ps_never) pss_nil))) (pss_cons (ps_lock (ps_for PassesOwn.never rfl (pi_items (pv 4)) (pg_tup rfl (pgs_cons (pg_name (i := 5) sc_Trace_dinit.nd rfl (Or.inl rfl)) (pgs_cons (pg_name (i := 6) sc_Trace_dinit.nd rfl (Or.inl rfl)) pgs_nil))) (pss_one (ps_if (pt_not (pt_val (pe_ca (ca_is_between T) hr (by decide) rfl (pa_cons (pv 6) (pa_cons (pe_un un_neg (pe_glob (v := .int 1000000000) rfl T.i_LARGEST.choose_spec ⟨_, rfl⟩)) (pa_cons (pe_glob (v := .int 1000000000) rfl T.i_LARGEST.choose_spec ⟨_, rfl⟩) pa_nil)))))) (pss_one ps_never) pss_nil)))) (pss_cons (ps_fld (pv 0) (pv 1) rfl) (pss_cons (ps_fld (pv 0) (pv 2) rfl) (pss_cons (ps_fld (pv 0) (pv 3) rfl) (pss_cons (ps_fld (pv 0) (pe_dc (own := [("room", 5)]) (g := gName 5) rfl sc_Trace_dinit.nd (pi_tup (pe_pr (pr_Building_rooms T) hr (by decide) (pv 1))) (blkOk_by (own := [("room", 5)]) (N := ["self", "building", "first", "last", "changes", "room", "change"]) (sc := defScope s_Trace_dinit) (by decide +kernel)) (fun _ _ _ _ _ => (pg_name (i := 5) sc_Trace_dinit.nd rfl (Or.inl rfl))) (fun _ _ _ _ _ => pts_nil) (fun _ _ _ _ _ => (pv 5)) (fun _ _ _ _ _ => (pe_op op_modN (pe_dget2 (hu_of hr) (pv 4) (pv 5) pe_int (by constructor <;> rfl)) (pe_get_own (mt_Building_dgetitem T) hr (by decide) (pv 1) (pv 5))))) rfl) (pss_cons (ps_fld (pv 0) (pe_tup (pa_cons (pv 1) (pa_cons (pv 2) (pa_cons (pv 3) (pa_cons (pe_fld (pv 0) rfl) pa_nil))))) rfl) (pss_cons (ps_fld (pv 0) (pe_mt (mt_Trace_found_balance T) hr (by decide) (pv 0) (pa_cons (pe_pr (pr_Building_sides T) hr (by decide) (pv 1)) pa_nil)) rfl) (pss_one (ps_fld (pv 0) (pe_ca (ca_gcd_of T) hr (by decide) rfl (pa_cons (pe_lc (own := [("room", 5)]) (g := gName 5) rfl sc_Trace_dinit.nd (pi_tup (pe_pr (pr_Building_rooms T) hr (by decide) (pv 1))) (blkOk_by (own := [("room", 5)]) (N := ["self", "building", "first", "last", "changes", "room", "change"]) (sc := defScope s_Trace_dinit) (by decide +kernel)) (fun _ _ _ _ _ => (pg_name (i := 5) sc_Trace_dinit.nd rfl (Or.inl rfl))) (fun _ _ _ _ _ => pts_nil) (fun _ _ _ _ _ => (pe_get_own (mt_Building_dgetitem T) hr (by decide) (pv 1) (pv 5)))) pa_nil)) rfl)))))))))), ?_⟩
  have hr24 : (szs.map (·.1)).length ≤ 24 := by rw [List.length_map]; exact O.few
  -- the rooms
  refine ⟨_, rfl, _, rfl, _, rfl, d0, _, rfl, .inl hd0, ?_, fun p hp => ?_⟩
  · rw [izD_kv, sizeLine_eq]
    simp only [List.length_cons, List.length_append, List.length_map, List.length_nil]
    omega
  have s1 : Same H (upd H p (.lst (V.str f :: V.str l :: (((IzD cs0).map fun kv => kV kv.1) ++ [])))) := sm_new hp
  have hL : SqL K (upd H p (.lst (V.str f :: V.str l :: (((IzD cs0).map fun kv => kV kv.1) ++ [])))) p ((f :: l :: cs0.map (·.1)).map V.str) := by
    rw [izD_kv, List.append_nil]
    exact SqL.of upd_same
  have hall : ∀ x ∈ f :: l :: cs0.map (·.1), x ∈ szs.map (·.1) := fun x hx => by
    rcases List.mem_cons.mp hx with rfl | hx
    · exact hf
    rcases List.mem_cons.mp hx with rfl | hx
    · exact hl
    obtain ⟨q, hq, rfl⟩ := List.mem_map.mp hx
    exact (hcs q hq).1
  revert s1 hL
  generalize upd H p (.lst (V.str f :: V.str l :: (((IzD cs0).map fun kv => kV kv.1) ++ []))) = H1
  intro s1 hL
  refine ⟨p, rfl, ⟨_, hL⟩, for_list (K := K) (a := p) (xs := (f :: l :: cs0.map (·.1)).map V.str) (fun i σ H' => Same H1 H' ∧ ∃ r c, σ = [some (.ref t), some (.ref b), some (.str f), some (.str l), some (.ref d0), r, c]) ⟨Same.refl _, none, none, rfl⟩ (fun i σ H' _ h => h.1.seq hL) ?_ ?_⟩
  · rintro i v σ H' hi ⟨ss, r, c, rfl⟩
    obtain ⟨x, hx, rfl⟩ := map_get hi
    have hxr := hall x (List.mem_of_getElem? hx)
    refine ⟨_, rfl, _, rfl, (B.same (s1.trans ss)).rIn (O.nmR hxr) true fun H2 s2 => ⟨_, rfl, ?_⟩⟩
    rw [decide_eq_true hxr]
    exact iteF ⟨ss.trans s2, _, _, rfl⟩
  rintro σ H2 ⟨ss, r, c, rfl⟩
  have s2 : Same H H2 := s1.trans ss
  -- the changes
  refine ⟨d0, _, s2 _ _ hd0, trivial, fun od => ?_⟩
  refine ⟨_, rfl, d0, od, _, rfl, upd_same, ?_⟩
  refine for_it walk_items (fun i σ H' => Same (upd H2 d0 (.frz od (.dK (IzD cs0)))) H' ∧ ∃ r c, σ = [some (.ref t), some (.ref b), some (.str f), some (.str l), some (.ref d0), r, c]) ⟨Same.refl _, _, _, rfl⟩ (fun i σ H' _ h => h.1 _ _ upd_same) ?_ ?_
  · rintro i x σ H' H'' hi ⟨ss', r, c, rfl⟩ ⟨T0, k0, v0, rfl, hT, rfl, h1, h2⟩
    obtain ⟨⟨kk, vv⟩, hkv, rfl⟩ := Option.map_eq_some_iff.mp h1
    obtain rfl : vv = v0 := by
      have h3 : Option.map Prod.snd (IzD cs0)[i]? = some v0 := h2
      rw [hkv] at h3
      exact Option.some.inj h3
    obtain ⟨q, hq, e⟩ := map_get hkv
    cases e
    have hq2 := hcs q (List.mem_of_getElem? hq)
    refine ⟨T0, _, rfl, SqT.of upd_same, rfl, _, _, rfl, _, _, rfl, rfl, ?_⟩
    exact ⟨_, rfl, _, rfl, _, -1000000000, 1000000000, rfl, hq2.2.1, hq2.2.2, true, rfl, iteF ⟨ss'.new hT, _, _, rfl⟩⟩
  rintro σ H3 ⟨ss3, r3, c3, rfl⟩
  refine ⟨ss3 _ _ upd_same, ?_⟩
  have s3 : Same H (upd H3 d0 (.dK (IzD cs0))) := s2.trans (lock_same (s2 _ _ hd0) ss3)
  revert s3
  generalize upd H3 d0 (.dK (IzD cs0)) = H4
  intro s3
  have ht4 := s3 _ _ ht
  -- three fields
  refine ⟨_, rfl, _, rfl, t, _, dx, _, rfl, ht4, T.L.c_Trace, T.L.n_Trace_own_building, Nat.le_of_ble_eq_true rfl, ?_⟩
  rw [put_t1]
  refine ⟨_, rfl, _, rfl, t, _, dx, _, rfl, upd_same, T.L.c_Trace, T.L.n_Trace_own_first, Nat.le_of_ble_eq_true rfl, ?_⟩
  rw [put_t2]
  refine ⟨_, rfl, _, rfl, t, _, dx, _, rfl, upd_same, T.L.c_Trace, T.L.n_Trace_own_last, Nat.le_of_ble_eq_true rfl, ?_⟩
  rw [put_t3]
  have ke : ∀ {a : Addr} {o1 o2 : HO} {G : Hp}, upd (upd G a o1) a o2 = upd G a o2 := fun {a o1 o2 G} => by
    funext z
    by_cases hz : z = a
    · subst hz; rw [upd_same, upd_same]
    · rw [upd_ne hz, upd_ne hz, upd_ne hz]
  rw [ke, ke]
  have x5 : SameX t H (upd H4 t (.ins (tC K) dx [("own_building", .ref b), ("own_first", .str f), ("own_last", .str l)])) := s3.x.trans sameX_put
  have k5 : Keep H (upd H4 t (.ins (tC K) dx [("own_building", .ref b), ("own_first", .str f), ("own_last", .str l)])) := sameX_keep ht x5
  have ht5 : upd H4 t (.ins (tC K) dx [("own_building", .ref b), ("own_first", .str f), ("own_last", .str l)]) t = some (.ins (tC K) dx [("own_building", .ref b), ("own_first", .str f), ("own_last", .str l)]) := upd_same
  have B5 : BAt K (upd H4 t (.ins (tC K) dx [("own_building", .ref b), ("own_first", .str f), ("own_last", .str l)])) b szs ps := (B.same s3).keep ht4 ntb.symm
  revert x5 k5 ht5 B5
  generalize upd H4 t (.ins (tC K) dx [("own_building", .ref b), ("own_first", .str f), ("own_last", .str l)]) = H5
  intro x5 k5 ht5 B5
  have hd5 := k5 _ _ hd0 (fun _ _ _ z => by cases z)
  -- own_changes
  obtain ⟨bdx, bd, bc, nr, sd, rg, br, hb5, _⟩ := id B5.ex
  refine ⟨_, rfl, b, _, _, rfl, hb5, b, szs, ps, rfl, B5, fun H6 p6 s6 hp6 => ?_⟩
  refine ⟨p6, rfl, ⟨_, SqT.of hp6⟩, fun D hD => dc_it (walk_tup (K := K) (a := p6) (xs := (szs.map (·.1)).map V.str)) (fun i H' => H' D = some (.dK (IzD (tab (kept szs cs0) ((szs.map (·.1)).take i)))) ∧ Same H6 H') ⟨upd_same, sm_new hD⟩ (fun i H' _ h => h.2.tup (SqT.of hp6)) ?_ ?_⟩
  · rintro i v H' H'' hi ⟨g1, g2⟩ ⟨rfl, hv⟩
    obtain ⟨x, hx, rfl⟩ := map_get hv
    have hxr := List.mem_of_getElem? hx
    have hp := szn_pos O hxr
    have s6' := s6.trans g2
    refine ⟨rfl, _, rfl, _, rfl, d0, rfl, .inl ⟨_, .of (s6' _ _ hd5)⟩, _, rfl, _, DGet.k (k := Sum.inr x) (s6' _ _ hd5), ?_⟩
    rw [izD_val]
    have hval : ((cs0.lookup x).map V.int).getD (V.int 0) = V.int ((cs0.lookup x).getD 0) := by cases cs0.lookup x <;> rfl
    refine ⟨_, rfl, _, rfl, (B5.same s6').rGet O hxr fun H7 s7 => ⟨_, _, hval, rfl, ?_, _, Sum.inr x, rfl, s7 _ _ g1, ?_, ?_, (g2.trans s7).put hD⟩⟩
    · show ((szn szs x : Nat) : Int) ≠ 0
      omega
    · rw [izD_len, sizeLine_eq]
      have := tab_take_len (kept szs cs0) (szs.map (·.1)) i
      omega
    · rw [upd_same]
      show some (HO.dK (putK (IzD (tab (kept szs cs0) ((szs.map (·.1)).take i))) (Sum.inr x) (V.int (Int.fmod ((cs0.lookup x).getD 0) ((szn szs x : Nat) : Int))))) = _
      rw [Int.fmod_eq_emod_of_nonneg _ (Int.natCast_nonneg _), izD_put _ (by rw [tab_keys]; exact not_take O.nd hx), tab_snoc _ hx]
      rfl
  rintro H7 ⟨g1, g2⟩
  rw [List.length_map, List.take_length] at g1
  have s7 : Same H5 H7 := s6.trans g2
  refine ⟨_, rfl, t, _, dx, _, rfl, s7 _ _ ht5, T.L.c_Trace, T.L.n_Trace_own_changes, Nat.le_of_ble_eq_true rfl, ?_⟩
  rw [put_t4]
  have x8 : SameX t H5 (upd H7 t (.ins (tC K) dx [("own_building", .ref b), ("own_first", .str f), ("own_last", .str l), ("own_changes", .ref D)])) := s7.x.trans sameX_put
  have ht8 : upd H7 t (.ins (tC K) dx [("own_building", .ref b), ("own_first", .str f), ("own_last", .str l), ("own_changes", .ref D)]) t = some (.ins (tC K) dx [("own_building", .ref b), ("own_first", .str f), ("own_last", .str l), ("own_changes", .ref D)]) := upd_same
  have B8 : BAt K (upd H7 t (.ins (tC K) dx [("own_building", .ref b), ("own_first", .str f), ("own_last", .str l), ("own_changes", .ref D)])) b szs ps := (B5.same s7).keep (s7 _ _ ht5) ntb.symm
  have nDt : D ≠ t := fun z => by rw [z, s7 _ _ ht5] at g1; cases g1
  have hD8 : upd H7 t (.ins (tC K) dx [("own_building", .ref b), ("own_first", .str f), ("own_last", .str l), ("own_changes", .ref D)]) D = some (.dK (IzD (tab (kept szs cs0) (szs.map (·.1))))) := by rw [upd_ne nDt]; exact g1
  revert x8 ht8 B8 hD8
  generalize upd H7 t (.ins (tC K) dx [("own_building", .ref b), ("own_first", .str f), ("own_last", .str l), ("own_changes", .ref D)]) = H8
  intro x8 ht8 B8 hD8
  -- key
  refine ⟨_, rfl, _, rfl, _, rfl, _, rfl, t, _, dx, _, .ref D, rfl, ht8, T.L.c_Trace, T.L.n_Trace_own_changes, rfl, Nat.le_of_ble_eq_true rfl, fun ky hky => ?_⟩
  have s9 : Same H8 (upd H8 ky (.tup [.ref b, .str f, .str l, .ref D])) := sm_new hky
  refine ⟨_, rfl, t, _, dx, _, rfl, s9 _ _ ht8, T.L.c_Trace, T.L.n_Trace_key, Nat.le_of_ble_eq_true rfl, ?_⟩
  rw [put_t5]
  have x10 : SameX t H8 (upd (upd H8 ky (.tup [.ref b, .str f, .str l, .ref D])) t (.ins (tC K) dx [("own_building", .ref b), ("own_first", .str f), ("own_last", .str l), ("own_changes", .ref D), ("key", .ref ky)])) := s9.x.trans sameX_put
  have ht10 : upd (upd H8 ky (.tup [.ref b, .str f, .str l, .ref D])) t (.ins (tC K) dx [("own_building", .ref b), ("own_first", .str f), ("own_last", .str l), ("own_changes", .ref D), ("key", .ref ky)]) t = some (.ins (tC K) dx [("own_building", .ref b), ("own_first", .str f), ("own_last", .str l), ("own_changes", .ref D), ("key", .ref ky)]) := upd_same
  have B10 := (B8.same s9).keep (o := .ins (tC K) dx [("own_building", .ref b), ("own_first", .str f), ("own_last", .str l), ("own_changes", .ref D), ("key", .ref ky)]) (s9 _ _ ht8) ntb.symm
  have hD10 : upd (upd H8 ky (.tup [.ref b, .str f, .str l, .ref D])) t (.ins (tC K) dx [("own_building", .ref b), ("own_first", .str f), ("own_last", .str l), ("own_changes", .ref D), ("key", .ref ky)]) D = some (.dK (IzD (tab (kept szs cs0) (szs.map (·.1))))) := by rw [upd_ne nDt]; exact s9 _ _ hD8
  revert x10 ht10 B10 hD10
  generalize upd (upd H8 ky (.tup [.ref b, .str f, .str l, .ref D])) t (.ins (tC K) dx [("own_building", .ref b), ("own_first", .str f), ("own_last", .str l), ("own_changes", .ref D), ("key", .ref ky)]) = H10
  intro x10 ht10 B10 hD10
  -- own_balance
  obtain ⟨bdx2, bd2, bc2, nr2, sd2, rg2, br2, hb10, _⟩ := id B10.ex
  refine ⟨_, rfl, t, dx, _, rfl, ht10, rfl, _, rfl, b, _, _, rfl, hb10, b, szs, ps, rfl, B10, fun sv hbsd hsv => ?_⟩
  refine ⟨t, D, dx, .ref b, _, szs.map (·.1), ps, f, l, kept szs cs0, sv, rfl, ht10, hD10, hsv, O.nd, hf, hl, hr24, fun bv H11 s11 hbv => ?_⟩
  refine ⟨_, rfl, t, _, dx, _, rfl, s11 _ _ ht10, T.L.c_Trace, T.L.n_Trace_own_balance, Nat.le_of_ble_eq_true rfl, ?_⟩
  rw [put_t6]
  have x12 : SameX t H10 (upd H11 t (.ins (tC K) dx [("own_building", .ref b), ("own_first", .str f), ("own_last", .str l), ("own_changes", .ref D), ("key", .ref ky), ("own_balance", bv)])) := s11.x.trans sameX_put
  have ht12 : upd H11 t (.ins (tC K) dx [("own_building", .ref b), ("own_first", .str f), ("own_last", .str l), ("own_changes", .ref D), ("key", .ref ky), ("own_balance", bv)]) t = some (.ins (tC K) dx [("own_building", .ref b), ("own_first", .str f), ("own_last", .str l), ("own_changes", .ref D), ("key", .ref ky), ("own_balance", bv)]) := upd_same
  have B12 := (B10.same s11).keep (o := .ins (tC K) dx [("own_building", .ref b), ("own_first", .str f), ("own_last", .str l), ("own_changes", .ref D), ("key", .ref ky), ("own_balance", bv)]) (s11 _ _ ht10) ntb.symm
  have hD12 : upd H11 t (.ins (tC K) dx [("own_building", .ref b), ("own_first", .str f), ("own_last", .str l), ("own_changes", .ref D), ("key", .ref ky), ("own_balance", bv)]) D = some (.dK (IzD (tab (kept szs cs0) (szs.map (·.1))))) := by rw [upd_ne nDt]; exact s11 _ _ hD10
  have hbsd12 : BSd (upd H11 t (.ins (tC K) dx [("own_building", .ref b), ("own_first", .str f), ("own_last", .str l), ("own_changes", .ref D), ("key", .ref ky), ("own_balance", bv)])) b sv := (hbsd.same s11).put ntb.symm
  have hbv12 : BalAt (upd H11 t (.ins (tC K) dx [("own_building", .ref b), ("own_first", .str f), ("own_last", .str l), ("own_changes", .ref D), ("key", .ref ky), ("own_balance", bv)])) sv (szs.map (·.1)) ps f l (kept szs cs0) bv := hbv.keep (keep_ins (s11 _ _ ht10))
  revert x12 ht12 B12 hD12 hbsd12 hbv12
  generalize upd H11 t (.ins (tC K) dx [("own_building", .ref b), ("own_first", .str f), ("own_last", .str l), ("own_changes", .ref D), ("key", .ref ky), ("own_balance", bv)]) = H12
  intro x12 ht12 B12 hD12 hbsd12 hbv12
  -- own_gcd
  obtain ⟨bdx3, bd3, bc3, nr3, sd3, rg3, br3, hb12, _⟩ := id B12.ex
  refine ⟨_, rfl, b, _, _, rfl, hb12, b, szs, ps, rfl, B12, fun H13 p13 s13 hp13 => ?_⟩
  refine ⟨p13, rfl, ⟨_, SqT.of hp13⟩, fun L hL => lc_tup (K := K) (a := p13) (xs := (szs.map (·.1)).map V.str) (fun i H' => H' L = some (.lst ((((szs.map (·.1)).take i).map fun x => ((szn szs x : Nat) : Int)).map V.int)) ∧ Same H13 H') ⟨upd_same, sm_new hL⟩ (fun i H' _ h => h.2.tup (SqT.of hp13)) ?_ ?_⟩
  · rintro i v H' hi ⟨g1, g2⟩
    obtain ⟨x, hx, rfl⟩ := map_get hi
    have hxr := List.mem_of_getElem? hx
    refine ⟨rfl, _, rfl, _, rfl, (B12.same (s13.trans g2)).rGet O hxr fun H7 s7 => ⟨_, s7 _ _ g1, ?_, ?_, (g2.trans s7).put hL⟩⟩
    · rw [List.length_map, List.length_map, List.length_take, sizeLine_eq]
      omega
    · rw [upd_same, take_snoc hx, List.map_append, List.map_append]
      rfl
  rintro H14 ⟨g3, g4⟩
  rw [List.length_map, List.take_length, szn_map O.nd] at g3
  have s14 := s13.trans g4
  refine ⟨L, _, rfl, SqL.of g3, ?_⟩
  refine ⟨_, rfl, t, _, dx, _, rfl, s14 _ _ ht12, T.L.c_Trace, T.L.n_Trace_own_gcd, Nat.le_of_ble_eq_true rfl, ?_⟩
  rw [put_t7]
  refine k _ (x5.trans (x8.trans (x10.trans (x12.trans (s14.x.trans sameX_put))))) ⟨dx, D, .ref ky, bv, sv, upd_same, by rw [upd_ne nDt]; exact s14 _ _ hD12, (B12.same s14).keep (s14 _ _ ht12) ntb.symm, (hbsd12.same s14).put ntb.symm, (hbv12.keep (.of s14)).keep (keep_ins (s14 _ _ ht12))⟩
end
end Rd
/-! Trace: properties, paper, __getitem__, __add__. -/
namespace Rd
open PySem PySem.Spec PyProof.Rows L2 Gr
def gz (szs : List (Str × Nat)) : Int := gcdL (szs.map fun p => (p.2 : Int))
/-- a trace that some walk leaves, as its paper tells -/
def TPos (szs : List (Str × Nat)) (ps : List (Str × Str)) (f l : Str) (ch : Str → Int) : Prop := (∀ c, ¬ Col ps c) ∨ ∃ c, Col ps c ∧ balC c (szs.map (·.1)) f l ch % gz szs = 0
def TNot (szs : List (Str × Nat)) (ps : List (Str × Str)) (f l : Str) (ch : Str → Int) : Prop := ∃ c, Col ps c ∧ balC c (szs.map (·.1)) f l ch % gz szs ≠ 0
structure TOk (szs : List (Str × Nat)) (ps : List (Str × Str)) (f l : Str) (ch : Str → Int) : Prop where
  f : f ∈ szs.map (·.1)
  l : l ∈ szs.map (·.1)
  ch : ∀ x ∈ szs.map (·.1), 0 ≤ ch x ∧ ch x < szn szs x
section
variable {K : PySem.W.Frag} {H H' : Hp} {t b : Addr} {szs : List (Str × Nat)} {ps : List (Str × Str)} {f l : Str} {ch : Str → Int}
theorem TAt.same (s : Same H H') (A : TAt K H t b szs ps f l ch) : TAt K H' t b szs ps f l ch :=
  let ⟨dx, d, ky, bv, sd, h1, h2, h3, h4, h5⟩ := A.ex
  ⟨dx, d, ky, bv, sd, s _ _ h1, s _ _ h2, h3.same s, h4.same s, h5.keep (.of s)⟩
end
def sumDiv (n : Nat) : Prop := 0 < n
theorem gcd_dvd {ns : List Int} {n : Int} (h : n ∈ ns) : gcdL ns ∣ n := by
  have key : ∀ (m : List Int) (a : Int), (∀ n ∈ m, (m.foldl (fun f n => (Int.gcd f n : Int)) a) ∣ n) ∧ (m.foldl (fun f n => (Int.gcd f n : Int)) a) ∣ a := by
    intro m
    induction m with
    | nil => exact fun a => ⟨(fun n h => by cases h), Int.dvd_refl a⟩
    | cons x m ih =>
      intro a
      obtain ⟨h1, h2⟩ := ih (Int.gcd a x : Int)
      refine ⟨fun n hn => ?_, Int.dvd_trans h2 (Int.gcd_dvd_left ..)⟩
      rcases List.mem_cons.mp hn with rfl | hn
      · exact Int.dvd_trans h2 (Int.gcd_dvd_right ..)
      · exact h1 n hn
  exact (key ns 0).1 n h
theorem gz_pos {szs : List (Str × Nat)} {ps : List (Str × Str)} (O : BOk szs ps) : 0 < gz szs := by
  obtain ⟨p, hp⟩ : ∃ p, p ∈ szs := by
    cases e : szs with
    | nil => exact absurd e O.ne
    | cons p r => exact ⟨p, List.mem_cons_self⟩
  have h1 := gcd_dvd (List.mem_map.mpr ⟨p, hp, rfl⟩ : ((p.2 : Nat) : Int) ∈ szs.map fun p => (p.2 : Int))
  have h2 := (O.pos p hp).1
  have h3 := gcdL_nonneg (szs.map fun p => (p.2 : Int))
  have h4 : gz szs ≠ 0 := fun e => by
    unfold gz at e
    rw [e] at h1
    have := Int.zero_dvd.mp h1
    omega
  unfold gz at *
  omega
def spTB (K : PySem.W.Frag) : Sp := fun vs H Q _ => ∃ (t b : Addr) (szs : List (Str × Nat)) (ps : List (Str × Str)) (f l : Str) (ch : Str → Int), vs = [.ref t] ∧ TAt K H t b szs ps f l ch ∧ Q (.ref b) H
-- slots of Trace.building: 0 self
theorem sc_Trace_building : FnScope ["self"] ["self"] (defScope s_Trace_building) := ⟨rfl, rfl, rfl, by decide +kernel, rfl, by decide +kernel, by decide +kernel⟩
section
variable {P : Program} {w : World} {K : PySem.W.Frag} {mg : Str → Option Value} {base : Heap}
theorem pr_Trace_building (T : Wd K mg base) : Pr P w K mg base 1 (tC K) "building" (spTB K) := by
  obtain ⟨fd, F⟩ := T.L.F_Trace_building
  obtain ⟨p, hp⟩ := propB_ok (ex_3 T.L.more)
  refine pr_of F T.L.c_Trace hp (F.binds (ps := ["self"]) fun _ _ _ _ _ _ us hl => match us, hl with | [_], _ => rfl) sc_Trace_building (fun vs H Q E ⟨_, _, _, _, _, _, _, e, _⟩ => by rw [e]; rfl) ?_
  rintro cdv A outer s H vs Q E hr ⟨t, b, szs, ps, f, l, ch, rfl, A0, k⟩
  obtain ⟨dx, d, ky, bv, sd, h1, h2, h3, h4, h5⟩ := A0.ex
  refine ⟨_, (pss_one (ps_ret (pe_fld (pv 0) rfl))), ?_⟩
  exact ⟨_, rfl, t, _, dx, _, .ref b, rfl, h1, T.L.c_Trace, T.L.n_Trace_own_building, rfl, k⟩
def spTF (K : PySem.W.Frag) : Sp := fun vs H Q _ => ∃ (t b : Addr) (szs : List (Str × Nat)) (ps : List (Str × Str)) (f l : Str) (ch : Str → Int), vs = [.ref t] ∧ TAt K H t b szs ps f l ch ∧ Q (.str f) H
end
-- slots of Trace.first: 0 self
theorem sc_Trace_first : FnScope ["self"] ["self"] (defScope s_Trace_first) := ⟨rfl, rfl, rfl, by decide +kernel, rfl, by decide +kernel, by decide +kernel⟩
section
variable {P : Program} {w : World} {K : PySem.W.Frag} {mg : Str → Option Value} {base : Heap}
theorem pr_Trace_first (T : Wd K mg base) : Pr P w K mg base 1 (tC K) "first" (spTF K) := by
  obtain ⟨fd, F⟩ := T.L.F_Trace_first
  obtain ⟨p, hp⟩ := propB_ok (ex_4 T.L.more)
  refine pr_of F T.L.c_Trace hp (F.binds (ps := ["self"]) fun _ _ _ _ _ _ us hl => match us, hl with | [_], _ => rfl) sc_Trace_first (fun vs H Q E ⟨_, _, _, _, _, _, _, e, _⟩ => by rw [e]; rfl) ?_
  rintro cdv A outer s H vs Q E hr ⟨t, b, szs, ps, f, l, ch, rfl, A0, k⟩
  obtain ⟨dx, d, ky, bv, sd, h1, h2, h3, h4, h5⟩ := A0.ex
  refine ⟨_, (pss_one (ps_ret (pe_fld (pv 0) rfl))), ?_⟩
  exact ⟨_, rfl, t, _, dx, _, .str f, rfl, h1, T.L.c_Trace, T.L.n_Trace_own_first, rfl, k⟩
def spTL (K : PySem.W.Frag) : Sp := fun vs H Q _ => ∃ (t b : Addr) (szs : List (Str × Nat)) (ps : List (Str × Str)) (f l : Str) (ch : Str → Int), vs = [.ref t] ∧ TAt K H t b szs ps f l ch ∧ Q (.str l) H
end
-- slots of Trace.last: 0 self
theorem sc_Trace_last : FnScope ["self"] ["self"] (defScope s_Trace_last) := ⟨rfl, rfl, rfl, by decide +kernel, rfl, by decide +kernel, by decide +kernel⟩
section
variable {P : Program} {w : World} {K : PySem.W.Frag} {mg : Str → Option Value} {base : Heap}
theorem pr_Trace_last (T : Wd K mg base) : Pr P w K mg base 1 (tC K) "last" (spTL K) := by
  obtain ⟨fd, F⟩ := T.L.F_Trace_last
  obtain ⟨p, hp⟩ := propB_ok (ex_5 T.L.more)
  refine pr_of F T.L.c_Trace hp (F.binds (ps := ["self"]) fun _ _ _ _ _ _ us hl => match us, hl with | [_], _ => rfl) sc_Trace_last (fun vs H Q E ⟨_, _, _, _, _, _, _, e, _⟩ => by rw [e]; rfl) ?_
  rintro cdv A outer s H vs Q E hr ⟨t, b, szs, ps, f, l, ch, rfl, A0, k⟩
  obtain ⟨dx, d, ky, bv, sd, h1, h2, h3, h4, h5⟩ := A0.ex
  refine ⟨_, (pss_one (ps_ret (pe_fld (pv 0) rfl))), ?_⟩
  exact ⟨_, rfl, t, _, dx, _, .str l, rfl, h1, T.L.c_Trace, T.L.n_Trace_own_last, rfl, k⟩
def spTC (K : PySem.W.Frag) : Sp := fun vs H Q _ => ∃ (t b : Addr) (szs : List (Str × Nat)) (ps : List (Str × Str)) (f l : Str) (ch : Str → Int), vs = [.ref t] ∧ TAt K H t b szs ps f l ch ∧ ∀ p, H p = none → Q (.ref p) (upd H p (.dK (IzD (tab ch (szs.map (·.1))))))
end
-- slots of Trace.changes: 0 self
theorem sc_Trace_changes : FnScope ["self"] ["self"] (defScope s_Trace_changes) := ⟨rfl, rfl, rfl, by decide +kernel, rfl, by decide +kernel, by decide +kernel⟩
section
variable {P : Program} {w : World} {K : PySem.W.Frag} {mg : Str → Option Value} {base : Heap}
theorem pr_Trace_changes (T : Wd K mg base) : Pr P w K mg base 1 (tC K) "changes" (spTC K) := by
  obtain ⟨fd, F⟩ := T.L.F_Trace_changes
  obtain ⟨p, hp⟩ := propB_ok (ex_6 T.L.more)
  refine pr_of F T.L.c_Trace hp (F.binds (ps := ["self"]) fun _ _ _ _ _ _ us hl => match us, hl with | [_], _ => rfl) sc_Trace_changes (fun vs H Q E ⟨_, _, _, _, _, _, _, e, _⟩ => by rw [e]; rfl) ?_
  rintro cdv A outer s H vs Q E hr ⟨t, b, szs, ps, f, l, ch, rfl, A0, k⟩
  obtain ⟨dx, d, ky, bv, sd, h1, h2, h3, h4, h5⟩ := A0.ex
  refine ⟨_, (pss_one (ps_ret (pe_callTy (call_dictD) (by rfl) T.f_dict (by decide +kernel) (pa_cons (pe_fld (pv 0) rfl) pa_nil)))), ?_⟩
  exact ⟨_, rfl, t, _, dx, _, .ref d, rfl, h1, T.L.c_Trace, T.L.n_Trace_own_changes, rfl, d, _, rfl, .inl h2, k⟩
def spTBl (K : PySem.W.Frag) : Sp := fun vs H Q _ => ∃ (t b : Addr) (szs : List (Str × Nat)) (ps : List (Str × Str)) (f l : Str) (ch : Str → Int), vs = [.ref t] ∧ TAt K H t b szs ps f l ch ∧ ∀ v sd, BSd H b sd → BalAt H sd (szs.map (·.1)) ps f l ch v → Q v H
end
-- slots of Trace.balance: 0 self
theorem sc_Trace_balance : FnScope ["self"] ["self"] (defScope s_Trace_balance) := ⟨rfl, rfl, rfl, by decide +kernel, rfl, by decide +kernel, by decide +kernel⟩
section
variable {P : Program} {w : World} {K : PySem.W.Frag} {mg : Str → Option Value} {base : Heap}
theorem pr_Trace_balance (T : Wd K mg base) : Pr P w K mg base 1 (tC K) "balance" (spTBl K) := by
  obtain ⟨fd, F⟩ := T.L.F_Trace_balance
  obtain ⟨p, hp⟩ := propB_ok (ex_7 T.L.more)
  refine pr_of F T.L.c_Trace hp (F.binds (ps := ["self"]) fun _ _ _ _ _ _ us hl => match us, hl with | [_], _ => rfl) sc_Trace_balance (fun vs H Q E ⟨_, _, _, _, _, _, _, e, _⟩ => by rw [e]; rfl) ?_
  rintro cdv A outer s H vs Q E hr ⟨t, b, szs, ps, f, l, ch, rfl, A0, k⟩
  obtain ⟨dx, d, ky, bv, sd, h1, h2, h3, h4, h5⟩ := A0.ex
  refine ⟨_, (pss_one (ps_ret (pe_fld (pv 0) rfl))), ?_⟩
  exact ⟨_, rfl, t, _, dx, _, bv, rfl, h1, T.L.c_Trace, T.L.n_Trace_own_balance, rfl, k bv sd h4 h5⟩
/-- paper -/
def PapV (H : Hp) (szs : List (Str × Nat)) (ps : List (Str × Str)) (f l : Str) (ch : Str → Int) (v : V) : Prop := (v = .non ∧ TPos szs ps f l ch) ∨ ∃ (u : Addr) (xs : List V), v = .ref u ∧ H u = some (.tup xs) ∧ TNot szs ps f l ch
def spTPap (K : PySem.W.Frag) : Sp := fun vs H Q _ => ∃ (t b : Addr) (szs : List (Str × Nat)) (ps : List (Str × Str)) (f l : Str) (ch : Str → Int), vs = [.ref t] ∧ TAt K H t b szs ps f l ch ∧ BOk szs ps ∧ ∀ v H', Same H H' → PapV H' szs ps f l ch v → Q v H'
end
-- slots of Trace.paper: 0 self
theorem sc_Trace_paper : FnScope ["self"] ["self"] (defScope s_Trace_paper) := ⟨rfl, rfl, rfl, by decide +kernel, rfl, by decide +kernel, by decide +kernel⟩
section
variable {P : Program} {w : World} {K : PySem.W.Frag} {mg : Str → Option Value} {base : Heap}
theorem pr_Trace_paper (T : Wd K mg base) : Pr P w K mg base 1 (tC K) "paper" (spTPap K) := by
  obtain ⟨fd, F⟩ := T.L.F_Trace_paper
  obtain ⟨p, hp⟩ := propB_ok (ex_8 T.L.more)
  refine pr_of F T.L.c_Trace hp (F.binds (ps := ["self"]) fun _ _ _ _ _ _ us hl => match us, hl with | [_], _ => rfl) sc_Trace_paper (fun vs H Q E ⟨_, _, _, _, _, _, _, e, _⟩ => by rw [e]; rfl) ?_
  rintro cdv A outer s H vs Q E hr ⟨t, b, szs, ps, f, l, ch, rfl, A0, O, k⟩
  obtain ⟨dx, d, ky, bv, sd, h1, h2, h3, h4, h5⟩ := A0.ex
  have hg := gz_pos O
  refine ⟨_, (pss_cons (ps_if (PW.pt (pw_or (pt_cmpR op_isN (pe_fld (pv 0) rfl) pe_non (by rfl)) (pw_or1 (pt_cmpR op_eq (pe_op op_modN (pe_fld (pv 0) rfl) (pe_fld (pv 0) rfl)) pe_int (by rfl))))) (pss_one (ps_ret pe_non)) pss_nil) (pss_one (ps_ret (pe_tup (pa_cons pe_str (pa_cons (pe_op op_modN (pe_fld (pv 0) rfl) (pe_fld (pv 0) rfl)) (pa_cons (pe_fld (pv 0) rfl) pa_nil))))))), ?_⟩
  refine ⟨_, rfl, t, _, dx, _, bv, rfl, h1, T.L.c_Trace, T.L.n_Trace_own_balance, rfl, rfl, _, rfl, ?_⟩
  rcases h5.v with ⟨rfl, hno⟩ | ⟨c, hc, rfl⟩
  · exact iteT (iteT (k _ _ (Same.refl _) (.inl ⟨rfl, .inl hno⟩)))
  · rw [decide_eq_false (fun z => by cases z)]
    refine iteF ?_
    refine ⟨_, rfl, t, _, dx, _, _, rfl, h1, T.L.c_Trace, T.L.n_Trace_own_balance, rfl, _, rfl, t, _, dx, _, _, rfl, h1, T.L.c_Trace, T.L.n_Trace_own_gcd, rfl, _, _, rfl, rfl, (by show gz szs ≠ 0; omega), rfl, _, rfl, ?_⟩
    have em : ∀ i : Int, Int.fmod i (gcdL (szs.map fun p => (p.2 : Int))) = i % gz szs := fun i => Int.fmod_eq_emod_of_nonneg _ (by show 0 ≤ gz szs; omega)
    show if decide (V.int (Int.fmod (balC c (szs.map (·.1)) f l ch) (gcdL (szs.map fun p => (p.2 : Int)))) = V.int 0) = true then _ else _
    rw [em]
    by_cases h0 : balC c (szs.map (·.1)) f l ch % gz szs = 0
    · rw [decide_eq_true (congrArg V.int h0)]
      exact iteT (k _ _ (Same.refl _) (.inl ⟨rfl, .inr ⟨c, hc, h0⟩⟩))
    · rw [decide_eq_false (fun z => h0 (V.int.inj z))]
      refine iteF ?_
      refine ⟨_, rfl, t, _, dx, _, _, rfl, h1, T.L.c_Trace, T.L.n_Trace_own_balance, rfl, _, rfl, t, _, dx, _, _, rfl, h1, T.L.c_Trace, T.L.n_Trace_own_gcd, rfl, _, _, rfl, rfl, (by show gz szs ≠ 0; omega), _, rfl, t, _, dx, _, _, rfl, h1, T.L.c_Trace, T.L.n_Trace_own_gcd, rfl, Nat.le_of_ble_eq_true rfl, fun u hu => ?_⟩
      exact k _ _ (sm_new hu) (.inr ⟨u, _, rfl, upd_same, c, hc, h0⟩)
def spTGet (K : PySem.W.Frag) : Sp := fun vs H Q _ => ∃ (t b : Addr) (x : Str) (szs : List (Str × Nat)) (ps : List (Str × Str)) (f l : Str) (ch : Str → Int), vs = [.ref t, .str x] ∧ TAt K H t b szs ps f l ch ∧ BOk szs ps ∧ x ∈ szs.map (·.1) ∧ ∀ H', Same H H' → Q (.int (ch x)) H'
end
-- slots of Trace.__getitem__: 0 self 1 room
theorem sc_Trace_dgetitem : FnScope ["self", "room"] ["self", "room"] (defScope s_Trace_dgetitem) := ⟨rfl, rfl, rfl, by decide +kernel, rfl, by decide +kernel, by decide +kernel⟩
section
variable {P : Program} {w : World} {K : PySem.W.Frag} {mg : Str → Option Value} {base : Heap}
theorem mt_Trace_dgetitem (T : Wd K mg base) : Mt P w K mg base 3 (tC K) "__getitem__" (spTGet K) := by
  obtain ⟨fd, F⟩ := T.L.F_Trace_dgetitem
  refine mt_of F T.L.c_Trace T.L.m_Trace_dgetitemd (F.binds (ps := ["self", "room"]) fun _ _ _ _ _ _ us hl => match us, hl with | [_, _], _ => rfl) sc_Trace_dgetitem (fun vs H Q E ⟨_, _, _, _, _, _, _, _, e, _⟩ => by rw [e]; rfl) ?_
  rintro cdv A outer s H vs Q E hr ⟨t, b, x, szs, ps, f, l, ch, rfl, A0, O, hx, k⟩
  obtain ⟨dx, d, ky, bv, sd, h1, h2, h3, h4, h5⟩ := A0.ex
  refine ⟨_, (pss_cons (ps_if (pt_cmpR (op_nin_own (mt_Building_dcontains T) hr (by decide)) (pv 1) (pe_fld (pv 0) rfl) (by rfl)) (pss_one ps_never) pss_nil) (pss_one (ps_ret (pe_dget (hu_of hr) (pe_fld (pv 0) rfl) (pv 1) (fun _ _ => rfl))))), ?_⟩
  refine ⟨_, rfl, _, rfl, t, _, dx, _, .ref b, rfl, h1, T.L.c_Trace, T.L.n_Trace_own_building, rfl, h3.rIn (O.nmR hx) true fun H1 s1 => ⟨_, rfl, ?_⟩⟩
  rw [decide_eq_true hx]
  refine iteF ?_
  exact ⟨_, rfl, t, _, dx, _, .ref d, rfl, s1 _ _ h1, T.L.c_Trace, T.L.n_Trace_own_changes, rfl, _, rfl, d, _, rfl, .inl ⟨_, Sum.inr x, .inl (s1 _ _ h2), rfl, by rw [izD_val, tab_look _ hx]; rfl⟩, k _ s1⟩
end
end Rd
/-! Trace.__add__. -/
namespace Rd
open PySem PySem.Spec PyProof.Rows L2 Gr
/-- lists and tuples stay -/
def KeepS (H H' : Hp) : Prop := ∀ a u, H a = some u → ((∃ xs, u = .lst xs) ∨ (∃ xs, u = .tup xs) ∨ ∃ o v, u = .frz o v) → H' a = some u
section
variable {K : PySem.W.Frag} {H H' : Hp} {a : Addr}
theorem KeepS.seq {xs : List V} (k : KeepS H H') (h : SqL K H a xs) : SqL K H' a xs := by
  rcases h with (h | ⟨o, h⟩) | h
  · exact .inl (.inl (k _ _ h (.inl ⟨_, rfl⟩)))
  · exact .inl (.inr ⟨o, k _ _ h (.inr (.inr ⟨_, _, rfl⟩))⟩)
  · exact .inr h
theorem KeepS.tup {xs : List V} (k : KeepS H H') (h : SqT K H a xs) : SqT K H' a xs := by
  rcases h with (h | ⟨o, h⟩) | h
  · exact .inl (.inl (k _ _ h (.inr (.inl ⟨_, rfl⟩))))
  · exact .inl (.inr ⟨o, k _ _ h (.inr (.inr ⟨_, _, rfl⟩))⟩)
  · exact .inr h
mutual
theorem Dp.keepS (e : KeepS H H') : ∀ {v : V} {d : PyData}, Dp K H v d → Dp K H' v d
  | _, _, .non => .non
  | _, _, .bl b => .bl b
  | _, _, .int i => .int i
  | _, _, .str x => .str x
  | _, _, .lst h a => .lst (e.seq h) (DpAll.keepS e a)
  | _, _, .tup h a => .tup (e.tup h) (DpAll.keepS e a)
theorem DpAll.keepS (e : KeepS H H') : ∀ {vs : List V} {ds : List PyData}, DpAll K H vs ds → DpAll K H' vs ds
  | _, _, .nil => .nil
  | _, _, .cons h a => .cons (Dp.keepS e h) (DpAll.keepS e a)
end
/-- a dict that is walked over -/
theorem keepS_frz {d : Addr} {kvs : List (Key × V)} {od : Obj} (h : H d = some (.dK kvs)) : KeepS H (upd H d (.frz od (.dK kvs))) := fun a u e n => by
  rw [upd_ne]
  · exact e
  · intro z
    subst z
    rw [h] at e
    rcases n with ⟨xs, n⟩ | ⟨xs, n⟩ | ⟨o, v, n⟩
    · rw [n] at e; cases e
    · rw [n] at e; cases e
    · rw [n] at e; cases e
theorem BAt.frz {d b : Addr} {kvs : List (Key × V)} {od : Obj} {szs : List (Str × Nat)} {ps : List (Str × Str)} (B : BAt K H b szs ps) (h : H d = some (.dK kvs)) (n : kvs ≠ SzD szs) : BAt K (upd H d (.frz od (.dK kvs))) b szs ps :=
  let ⟨dx, d', c, nr, sd, rg, br, h1, h2, ⟨xs, h3, h3'⟩, h4⟩ := B.ex
  have ks := keepS_frz (od := od) h
  have n1 : b ≠ d := fun z => by rw [z, h] at h1; cases h1
  have n2 : d' ≠ d := fun z => by
    rw [z, h] at h2
    cases h2
    exact n rfl
  ⟨dx, d', c, nr, sd, rg, br, by rw [upd_ne n1]; exact h1, by rw [upd_ne n2]; exact h2, ⟨xs, ks.seq h3, h3'.mono fun t _ _ e => ks _ _ e (.inr (.inl ⟨_, rfl⟩))⟩, h4.elim .inl fun ⟨t, a, b, s0, s1, e1, e2, e3, e4, e5⟩ => .inr ⟨t, a, b, s0, s1, e1, ks _ _ e2 (.inr (.inl ⟨_, rfl⟩)), ks _ _ e3 (.inr (.inl ⟨_, rfl⟩)), ks _ _ e4 (.inr (.inl ⟨_, rfl⟩)), e5⟩⟩
end
theorem meth_one {K : PySem.W.Frag} {C : Addr} {m : Str} {g : Addr} (h : Meth K C m g) : ∀ f, Meth K C m f → f = g := fun f h' => by
  have := h.at_.symm.trans h'.at_
  have e := Option.some.inj (Option.some.inj this)
  cases e
  rfl
theorem rd_same {H H' : Hp} {d : Addr} {u : HO} (s : Same H H') (h : Rd H d u) : Rd H' d u := h.elim (fun h => .inl (s _ _ h)) fun ⟨o, h⟩ => .inr ⟨o, s _ _ h⟩
theorem tok_ne {szs : List (Str × Nat)} {ps : List (Str × Str)} {f l : Str} {ch : Str → Int} (O : TOk szs ps f l ch) : IzD (tab ch (szs.map (·.1))) ≠ SzD szs := fun e => by
  have h1 := izD_val (tab ch (szs.map (·.1))) f
  rw [e, szD_val, tab_look _ O.f] at h1
  obtain ⟨n, hn⟩ := look_some O.f
  rw [hn] at h1
  have h2 : V.int (n : Nat) = V.int (ch f) := Option.some.inj h1
  have h3 := V.int.inj h2
  have h4 := (O.ch f O.f).2
  unfold szn at h4
  rw [hn] at h4
  have h5 : ch f < ((n : Nat) : Int) := h4
  omega
theorem kept_ok {szs : List (Str × Nat)} {ps : List (Str × Str)} (O : BOk szs ps) {f l : Str} (hf : f ∈ szs.map (·.1)) (hl : l ∈ szs.map (·.1)) (cs : List (Str × Int)) : TOk szs ps f l (kept szs cs) :=
  ⟨hf, hl, fun x hx => by
    have := szn_pos O hx
    exact ⟨Int.emod_nonneg _ (by omega), Int.emod_lt_of_pos _ (by omega)⟩⟩
def spTAdd (K : PySem.W.Frag) : Sp := fun vs H Q _ => ∃ (t u b : Addr) (szs : List (Str × Nat)) (ps : List (Str × Str)) (f l l2 : Str) (ch ch2 : Str → Int), vs = [.ref t, .ref u] ∧ TAt K H t b szs ps f l ch ∧ TAt K H u b szs ps l l2 ch2 ∧ BOk szs ps ∧ TOk szs ps f l ch ∧ TOk szs ps l l2 ch2 ∧
  ∀ H' r ch', Same H H' → TAt K H' r b szs ps f l2 ch' → TOk szs ps f l2 ch' → Q (.ref r) H'
-- slots of Trace.__add__: 0 self 1 other 2 sizes* 3 more* 4 changes 5 room 6 change
theorem sc_Trace_dadd : FnScope ["self", "other", "sizes", "more", "changes", "room", "change"] ["self", "other"] (defScope s_Trace_dadd) := ⟨rfl, rfl, rfl, by decide +kernel, rfl, by decide +kernel, by decide +kernel⟩
section
variable {P : Program} {w : World} {K : PySem.W.Frag} {mg : Str → Option Value} {base : Heap}
theorem mt_Trace_dadd (T : Wd K mg base) : Mt P w K mg base 7 (tC K) "__add__" (spTAdd K) := by
  obtain ⟨fd, F⟩ := T.L.F_Trace_dadd
  refine mt_of F T.L.c_Trace T.L.m_Trace_daddd (F.binds (ps := ["self", "other"]) fun _ _ _ _ _ _ us hl => match us, hl with | [_, _], _ => rfl) sc_Trace_dadd (fun vs H Q E ⟨_, _, _, _, _, _, _, _, _, _, e, _⟩ => by rw [e]; rfl) ?_
  rintro cdv A outer s H vs Q E hr ⟨t, u, b, szs, ps, f, l, l2, ch, ch2, rfl, A1, A2, O, O1, O2, k⟩
  obtain ⟨dx, d, ky, bv, sd1, h1, h2, h3, h4, h5⟩ := A1.ex
  obtain ⟨dx', d', ky', bv', sd2, h1', h2', h3', h4', h5'⟩ := A2.ex
  obtain ⟨bdx, bd, bc, nr, sd, rg, br, hb, _⟩ := id h3.ex
  have hr24 : (szs.map (·.1)).length ≤ 24 := by rw [List.length_map]; exact O.few
  refine ⟨_, (pss_cons (ps_if (PW.pt (pw_or (pt_cmpR (op_ne_own (mt_Building_deq T) (ex_12 T.L.more) (meth_one T.L.m_Building_deqd) hr (by decide)) (pe_fld (pv 0) rfl) (pe_fld (pv 1) rfl) (by rfl)) (pw_or1 (pt_cmpR op_ne (pe_fld (pv 0) rfl) (pe_fld (pv 1) rfl) (by rfl))))) (pss_one ps_never) pss_nil) (pss_cons (ps_asg (pe_tup (pa_cons (pe_fld (pv 0) rfl) (pa_cons (pe_fld (pv 1) rfl) pa_nil))) (pg_tup rfl (pgs_cons (pg_name (i := 2) sc_Trace_dadd.nd rfl (Or.inr rfl)) (pgs_cons (pg_name (i := 3) sc_Trace_dadd.nd rfl (Or.inr rfl)) pgs_nil)))) (pss_cons (ps_lock (ps_setDc (i := 4) (own := [("room", 5), ("change", 6)]) (g := gTup K 2 (gCons (gName 5) (gCons (gName 6) gNil))) rfl sc_Trace_dadd.nd rfl rfl (sw_dc rfl rfl rfl (by decide +kernel)) (pi_items (pe_fld (pv 0) rfl)) (blkOk_by (own := [("room", 5), ("change", 6)]) (N := ["self", "other", "sizes", "more", "changes", "room", "change"]) (sc := defScope s_Trace_dadd) (by decide +kernel)) (fun _ _ _ _ _ => (pg_tup rfl (pgs_cons (pg_name (i := 5) sc_Trace_dadd.nd rfl (Or.inl rfl)) (pgs_cons (pg_name (i := 6) sc_Trace_dadd.nd rfl (Or.inl rfl)) pgs_nil)))) (fun _ _ _ _ _ => pts_nil) (fun _ _ _ _ _ => (pv 5)) (fun _ _ _ _ _ => (pe_op op_modN (pe_op op_add (pv 6) (pe_dget (hu_of hr) (pv 3) (pv 5) (fun _ _ => rfl))) (pe_get_own (mt_Building_dgetitem T) hr (by decide) (pv 2) (pv 5)))))) (pss_one (ps_ret (pe_ma (ma_Trace T) hr (by decide) rfl (pa_cons (pv 2) (pa_cons (pe_fld (pv 0) rfl) (pa_cons (pe_fld (pv 1) rfl) (pa_cons (pv 4) pa_nil)))))))))), ?_⟩
  refine ⟨_, rfl, t, _, dx, _, .ref b, rfl, h1, T.L.c_Trace, T.L.n_Trace_own_building, rfl, _, rfl, u, _, dx', _, .ref b, rfl, h1', T.L.c_Trace, T.L.n_Trace_own_building, rfl, b, _, _, b, _, _, rfl, hb, rfl, hb, b, szs, ps, rfl, h3, O, true, rfl, _, rfl, iteF ?_⟩
  refine ⟨_, rfl, t, _, dx, _, .str l, rfl, h1, T.L.c_Trace, T.L.n_Trace_own_last, rfl, _, rfl, u, _, dx', _, .str l, rfl, h1', T.L.c_Trace, T.L.n_Trace_own_first, rfl, rfl, _, rfl, iteNS rfl ?_⟩
  refine ⟨_, rfl, t, _, dx, _, .ref b, rfl, h1, T.L.c_Trace, T.L.n_Trace_own_building, rfl, _, rfl, u, _, dx', _, .ref d', rfl, h1', T.L.c_Trace, T.L.n_Trace_own_changes, rfl, Nat.le_of_ble_eq_true rfl, fun q hq => ?_⟩
  have s1 : Same H (upd H q (.tup [.ref b, .ref d'])) := sm_new hq
  refine ⟨q, _, rfl, SqT.of upd_same, rfl, _, _, rfl, _, _, rfl, rfl, ?_⟩
  revert s1
  generalize upd H q (.tup [.ref b, .ref d']) = H1
  intro s1
  have hd1 := s1 _ _ h2
  refine ⟨d, _, hd1, trivial, fun od => ?_⟩
  have ntd : t ≠ d := fun z => by rw [z, h2] at h1; cases h1
  refine ⟨_, rfl, t, _, dx, _, .ref d, rfl, by rw [upd_ne ntd]; exact s1 _ _ h1, T.L.c_Trace, T.L.n_Trace_own_changes, rfl, d, od, _, rfl, upd_same, fun D hD => ?_⟩
  have BF : BAt K (upd H1 d (.frz od (.dK (IzD (tab ch (szs.map (·.1))))))) b szs ps := (h3.same s1).frz hd1 (tok_ne O1)
  have RF : Rd (upd H1 d (.frz od (.dK (IzD (tab ch (szs.map (·.1))))))) d' (.dK (IzD (tab ch2 (szs.map (·.1))))) := by
    by_cases z : d' = d
    · have e := s1 _ _ h2'
      rw [z, hd1] at e
      rw [z]
      exact .inr ⟨od, by rw [upd_same, HO.dK.inj (Option.some.inj e)]⟩
    · exact .inl (by rw [upd_ne z]; exact s1 _ _ h2')
  have hl0 : (IzD (tab ch (szs.map (·.1)))).length = (szs.map (·.1)).length := by rw [izD_len, tab, List.length_map]
  refine dc_it walk_items (fun i H' => H' D = some (.dK (IzD (tab (fun x => (ch x + ch2 x) % (szn szs x : Nat)) ((szs.map (·.1)).take i)))) ∧ Same (upd H1 d (.frz od (.dK (IzD (tab ch (szs.map (·.1))))))) H') ⟨upd_same, sm_new hD⟩ (fun i H' _ h => h.2 _ _ upd_same) ?_ ?_
  · rintro i v H' H'' hi ⟨g1, g2⟩ ⟨T0, k0, v0, rfl, hT, rfl, e1, e2⟩
    obtain ⟨⟨kk, vv⟩, hkv, rfl⟩ := Option.map_eq_some_iff.mp e1
    obtain rfl : vv = v0 := by
      have h3 : Option.map Prod.snd (IzD (tab ch (szs.map (·.1))))[i]? = some v0 := e2
      rw [hkv] at h3
      exact Option.some.inj h3
    obtain ⟨q0, hq, e⟩ := map_get hkv
    obtain ⟨x, hx, rfl⟩ := map_get hq
    cases e
    have hxr := List.mem_of_getElem? hx
    have hpos := szn_pos O hxr
    have sT := g2.new (o := .tup [kV (Sum.inr x), V.int (ch x)]) hT
    have nDT : D ≠ T0 := ne_of_none g1 hT
    refine ⟨T0, _, rfl, SqT.of upd_same, rfl, _, _, rfl, _, _, rfl, rfl, rfl, ?_⟩
    refine ⟨_, rfl, _, rfl, _, rfl, _, rfl, d', _, rfl, .inl ⟨_, Sum.inr x, rd_same sT RF, rfl, by rw [izD_val, tab_look _ hxr]; rfl⟩, _, _, rfl, rfl, _, rfl, _, rfl, (BF.same sT).rGet O hxr fun H7 s7 => ⟨_, _, rfl, rfl, ?_, _, Sum.inr x, rfl, s7 _ _ (by rw [upd_ne nDT]; exact g1), ?_, ?_, (sT.trans s7).put hD⟩⟩
    · show ((szn szs x : Nat) : Int) ≠ 0
      omega
    · rw [izD_len, sizeLine_eq]
      have := tab_take_len (fun x => (ch x + ch2 x) % ((szn szs x : Nat) : Int)) (szs.map (·.1)) i
      omega
    · rw [upd_same]
      show some (HO.dK (putK (IzD (tab (fun x => (ch x + ch2 x) % ((szn szs x : Nat) : Int)) ((szs.map (·.1)).take i))) (Sum.inr x) (V.int (Int.fmod (ch x + ch2 x) ((szn szs x : Nat) : Int))))) = _
      rw [Int.fmod_eq_emod_of_nonneg _ (Int.natCast_nonneg _), izD_put _ (by rw [tab_keys]; exact not_take O.nd hx), tab_snoc _ hx]
  rintro H2 ⟨g1, g2⟩
  rw [hl0, List.take_length] at g1
  have s3 : Same H (upd H2 d (.dK (IzD (tab ch (szs.map (·.1)))))) := s1.trans (lock_same hd1 g2)
  have nDd : D ≠ d := fun z => by rw [z, g2 _ _ upd_same] at g1; cases g1
  have g3 : upd H2 d (.dK (IzD (tab ch (szs.map (·.1))))) D = some (.dK (IzD (tab (fun x => (ch x + ch2 x) % (szn szs x : Nat)) (szs.map (·.1))))) := by rw [upd_ne nDd]; exact g1
  refine ⟨g2 _ _ upd_same, ?_⟩
  revert s3 g3
  generalize upd H2 d (.dK (IzD (tab ch (szs.map (·.1))))) = H3
  intro s3 g3
  refine ⟨_, rfl, _, rfl, t, _, dx, _, .str f, rfl, s3 _ _ h1, T.L.c_Trace, T.L.n_Trace_own_first, rfl, _, rfl, u, _, dx', _, .str l2, rfl, s3 _ _ h1', T.L.c_Trace, T.L.n_Trace_own_last, rfl, _, rfl, fun r rx hrn hrx ne => ?_⟩
  have s4 : Same H3 (upd (upd H3 rx (.own r)) r (.ins (tC K) rx [])) := made_same0 hrn hrx
  refine ⟨r, b, D, rx, szs, ps, f, l2, tab (fun x => (ch x + ch2 x) % (szn szs x : Nat)) (szs.map (·.1)), rfl, upd_same, (fun z => by rw [z, s3 _ _ hb] at hrn; cases hrn), h3.same (s3.trans s4), O, O1.f, O2.l, s4 _ _ g3, ?_, ?_, fun H4 x4 A4 => ⟨rfl, ?_⟩⟩
  · rw [tab, List.length_map]
    exact hr24
  · intro p hp
    obtain ⟨x, hx, rfl⟩ := List.mem_map.mp hp
    have hpos := szn_pos O hx
    have m1 := Int.emod_nonneg (ch x + ch2 x) (show ((szn szs x : Nat) : Int) ≠ 0 by omega)
    have m2 := Int.emod_lt_of_pos (ch x + ch2 x) (show 0 < ((szn szs x : Nat) : Int) by omega)
    exact ⟨hx, by show -1000000000 ≤ (ch x + ch2 x) % ((szn szs x : Nat) : Int); omega, by show (ch x + ch2 x) % ((szn szs x : Nat) : Int) ≤ 1000000000; omega⟩
  · exact k _ r _ (s3.trans (made_same hrn hrx x4)) A4 (kept_ok O O1.f O2.l _)
end
end Rd
/-! zip of a tuple and a list. -/
namespace Rd
open PySem PySem.Spec PyProof.Rows L2 Gr
/-- the tuple at a and the list at b as they stand at each turn, the items in new pairs -/
def ItzTL (K : PySem.W.Frag) (a b : Addr) : It :=
  ⟨fun i H => ∃ (xs ys : List V) (x y : V), SqT K H a xs ∧ SqL K H b ys ∧ xs[i]? = some x ∧ ys[i]? = some y,
    fun i H v H' => ∃ T x y, v = .ref T ∧ H T = none ∧ H' = upd H T (.tup [x, y]) ∧ (∀ xs, SqT K H a xs → xs[i]? = some x) ∧ ∀ ys, SqL K H b ys → ys[i]? = some y,
    fun i H => ∃ xs ys : List V, SqT K H a xs ∧ SqL K H b ys ∧ (xs.length ≤ i ∨ ys.length ≤ i) ∧ i ≤ xs.length ∧ i ≤ ys.length⟩
theorem sep_of {z TI TO i1 i2 a b : Addr} (D : ZipApart z TI TO i1 i2 a b) : ZipSep2 z TI TO i1 i2 [i1, a] [i2, b] where
  TIz := D.TIz
  TOz := D.TOz
  TITO := D.TITO
  TIi1 := D.TIi1
  mem1 := List.mem_cons_self
  zf1 := by simp; exact ⟨D.i1z.symm, D.l1z.symm⟩
  Tf1 := by simp; exact ⟨D.TOi1, D.l1TO.symm⟩
  TIi2 := D.TIi2
  mem2 := List.mem_cons_self
  zf2 := by simp; exact ⟨D.i2z.symm, D.l2z.symm⟩
  Tf2 := by simp; exact ⟨D.TOi2, D.l2TO.symm⟩
  sep1_2 := by simp; exact ⟨D.i12, D.l2i1.symm⟩
  sep2_1 := by simp; exact ⟨D.i12.symm, D.l1i2.symm⟩
theorem turn_zipTL {P : Program} {w : World} {K : PySem.W.Frag} {elts : List Expr} {kk : Nat} {tpos : Pos} {a b z TI TO i1 i2 : Addr} (D : ZipApart z TI TO i1 i2 a b) :
    Turn P w K (.Tuple elts kk tpos) (ItzTL K a b) [z, TI, TO, i1, i2] z (fun i h => IsZip h z TI TO .none ∧ IsTupOf2 h TI (.ref i1) (.ref i2) ∧ (∃ x y, IsTupOf2 h TO x y) ∧ h.IsTupleIter i1 a i ∧ h.IsListIter i2 b i) where
  mem := by simp
  obj := fun i h st c hc => by
    obtain ⟨hz, hTI, ⟨x, y, hTO⟩, ⟨o1, e1, _, d1⟩, ⟨o2, e2, _, d2⟩⟩ := st
    have e' : c = z ∨ c = TI ∨ c = TO ∨ c = i1 ∨ c = i2 := by simpa using hc
    rcases e' with q | q | q | q | q
    · rw [q]; exact ⟨_, hz, fun v q => nomatch q⟩
    · rw [q]; exact ⟨_, hTI, fun v q => nomatch q⟩
    · rw [q]; exact ⟨_, hTO, fun v q => nomatch q⟩
    · rw [q]; exact ⟨o1, e1, fun v q => by rw [d1] at q; cases q⟩
    · rw [q]; exact ⟨o2, e2, fun v q => by rw [d2] at q; cases q⟩
  keep := fun i h h' st k => by
    obtain ⟨hz, hTI, ⟨x, y, hTO⟩, h1, h2⟩ := st
    exact ⟨k z (by simp) _ hz, k TI (by simp) _ hTI, ⟨x, y, k TO (by simp) _ hTO⟩, h1.at fun o q => k i1 (by simp) o q, h2.at fun o q => k i2 (by simp) o q⟩
  item := by
    intro X hP hw hK hc i pins s σ H E I hf st hg
    subst hP hw hK
    obtain ⟨hz, hTI, ⟨x0, y0, hTO⟩, h1, h2⟩ := st
    obtain ⟨xs, ys, x, y, hqx, hqy, hx, hy⟩ := hg
    obtain ⟨its, rv, p, _⟩ := I.tuple hqx
    obtain ⟨its2, rv2, p2, _⟩ := I.list hqy
    obtain ⟨u, hu, ru⟩ := rv.get hx
    obtain ⟨u2, hu2, ru2⟩ := rv2.get hy
    have hzl : z < s.heap.objs.size := Heap.lt_size hz
    have hh : X.A.in1.handled = none := I.ok.hd hc
    have l1 : i < its.toArray.size := by rw [List.size_toArray]; exact (List.getElem?_eq_some_iff.mp hu).1
    have l2 : i < its2.toArray.size := by rw [List.size_toArray]; exact (List.getElem?_eq_some_iff.mp hu2).1
    refine wpAny_pyNext_zipD2_item (sep_of D) (Draws.tuple hh i1 a D.l1i1 its.toArray) (Draws.list hh i2 b D.l2i2 its2.toArray) hz hTI hTO ⟨h1, show s.heap.IsTuple a its.toArray from p⟩ ⟨h2, p2.isList⟩ l1 l2 fun x1 x2 h' tk q1 q2 z' TO' st1 st2 hT hsz hk => ?_
    have e1 : x1 = u := by
      have q1' : its.toArray[i]? = some x1 := q1
      rw [List.getElem?_toArray, hu] at q1'
      exact (Option.some.inj q1').symm
    have e2 : x2 = u2 := by
      have q2' : its2.toArray[i]? = some x2 := q2
      rw [List.getElem?_toArray, hu2] at q2'
      exact (Option.some.inj q2').symm
    subst e1 e2
    refine ⟨_, rfl, wpAny_letOwnedTupleGo_zip (s := { s with heap := h', toks := tk }) z' fun h'' z'' sb => ?_⟩
    have hT2 : h''.get? s.heap.objs.size = some { cls := .type "tuple", data := .seq #[x1, x2] } := (sb.2 _ (Nat.ne_of_gt hzl)).trans hT
    have new : ObjOk X.prog X.w (upd H s.heap.objs.size (.tup [x, y])) h'' s.heap.objs.size (.tup [x, y]) :=
      ⟨by show 2 ≤ sizeLine; decide, [x1, x2], .cons ru (.cons ru2 .nil), ⟨_, hT2, rfl, _, rfl⟩⟩
    have I1 : Inv X pins σ (upd H s.heap.objs.size (.tup [x, y])) { s with heap := h'', toks := tk } :=
      I.turnedNew (t' := tk) (ch := [z, TI, TO, i1, i2]) (fun c o hb q => (sb.2 c (fun q' => hb (by simp [q']))).trans (hk c o (fun q' => hb (by simp [q'])) (fun q' => hb (by simp [q'])) (fun q' => hb (by simp [q'])) (fun q' => hb (by simp [q'])) q)) hf (Nat.le_refl _) new
    refine ⟨.ref s.heap.objs.size, _, I1, rfl, ⟨_, x, y, rfl, I.hok.fresh (Nat.le_refl _), rfl, fun l hl => by rw [I.tuple_inj hl hqx]; exact hx, fun l hl => by rw [I.list_inj hl hqy]; exact hy⟩, ⟨z'', ?_, ⟨x1, x2, ?_⟩, ?_, ?_⟩, fun c hcm => ?_⟩
    · exact (sb.2 _ D.TIz).trans (hk _ _ D.TIz D.TITO D.TIi1 D.TIi2 hTI)
    · exact (sb.2 _ D.TOz).trans TO'
    · exact st1.1.at fun o q => (sb.2 _ D.i1z).trans q
    · exact st2.1.at fun o q => (sb.2 _ D.i2z).trans q
    · have hlt : c < s.heap.objs.size := by
        have e' : c = z ∨ c = TI ∨ c = TO ∨ c = i1 ∨ c = i2 := by simpa using hcm
        rcases e' with q | q | q | q | q
        · rw [q]; exact hzl
        · rw [q]; exact Heap.lt_size hTI
        · rw [q]; exact Heap.lt_size hTO
        · rw [q]; obtain ⟨_, e1, _⟩ := h1; exact Heap.lt_size e1
        · rw [q]; obtain ⟨_, e2, _⟩ := h2; exact Heap.lt_size e2
      rw [upd_ne (Nat.ne_of_lt hlt)]
      exact (hf c hcm).1
  done := by
    intro X hP hw hK hc i pins s σ H E I hf st hg
    subst hP hw hK
    obtain ⟨hz, hTI, ⟨x0, y0, hTO⟩, h1, h2⟩ := st
    obtain ⟨xs, ys, hqx, hqy, hend, hle1, hle2⟩ := hg
    obtain ⟨its, rv, p, _⟩ := I.tuple hqx
    obtain ⟨its2, rv2, p2, _⟩ := I.list hqy
    have l1 := rv.length
    have l2 := rv2.length
    have hh : X.A.in1.handled = none := I.ok.hd hc
    refine wpAny_pyNext_zipD2_end (sep_of D) (Draws.tuple hh i1 a D.l1i1 its.toArray) (Draws.list hh i2 b D.l2i2 its2.toArray) hz hTI hTO ⟨h1, show s.heap.IsTuple a its.toArray from p⟩ ⟨h2, p2.isList⟩ (by rw [List.size_toArray]; omega) (by rw [List.size_toArray]; omega) (by rw [List.size_toArray, List.size_toArray]; omega) fun h' tk hk => ?_
    exact ⟨rfl, I.turnedL (t' := tk) (ch := [z, TI, TO, i1, i2]) (fun c o hb q =>
      hk c o (fun q' => hb (by simp [q'])) (fun q' => hb (by simp [q'])) (fun q' => hb (by simp [q'])) (fun q' => hb (by simp [q'])) q) hf⟩
  self := fun A i s Q E st h => wpAny_pyIter_zip st.1 h
def iZipTL (K : PySem.W.Frag) (ta : TA) : TI := fun σ H R => ta σ H fun vs H1 => ∃ a b xs ys, vs = [.ref a, .ref b] ∧ SqT K H1 a xs ∧ SqL K H1 b ys ∧ R (ItzTL K a b) H1
theorem pi_zipTL {X : Cx} {e e2 : Expr} {ta : TA} {p pos tpos : Pos} {elts : List Expr} {kk : Nat} (hg : Gl X "zip") (hm : X.mg "zip" = none) (ha : PA X [e, e2] ta)
    (hs : starEach [e, e2] X.env = (false, eval e X.env) :: starEach [e2] X.env := by rfl) (hpl : (backTo pos (starEach [e2] X.env)).any (·.1) = false := by rfl) :
    PI X (.Tuple elts kk tpos) (.Call (.Name "zip" p) [e, e2] [] pos) (iZipTL X.K ta) := by
  refine ⟨fun pins s σ H R I h => ?_⟩
  refine Call_ (ld_blt I hg hm PyProof.Rows.boot_zip (PyProof.Rows.callWith_type1 (thn (ha.run pos pins s σ H _ I h) fun us s1 ⟨vs, H1, I1, r1, q1⟩ => ?_) hs hpl))
  obtain ⟨a, b, xs, ys, ex, hqx, hqy, q⟩ := q1
  subst ex
  cases r1 with
  | cons r rr =>
    cases rr with
    | cons r' rr =>
      cases rr
      cases r
      cases r'
      have fresh5 : ∀ c, c ∈ [s1.heap.objs.size + 4, s1.heap.objs.size + 2, s1.heap.objs.size + 3, s1.heap.objs.size, s1.heap.objs.size + 1] → FpOk X pins H1 c := fun c hcm => by
        have e' : c = s1.heap.objs.size + 4 ∨ c = s1.heap.objs.size + 2 ∨ c = s1.heap.objs.size + 3 ∨ c = s1.heap.objs.size ∨ c = s1.heap.objs.size + 1 := by simpa using hcm
        have hle : s1.heap.objs.size ≤ c := by
          rcases e' with z | z | z | z | z
          · rw [z]; exact Nat.le_add_right _ _
          · rw [z]; exact Nat.le_add_right _ _
          · rw [z]; exact Nat.le_add_right _ _
          · rw [z]; exact Nat.le_refl _
          · rw [z]; exact Nat.le_add_right _ _
        exact I1.fpOk hle (I1.hok.fresh hle)
      obtain ⟨its, rv, p1, _⟩ := I1.tuple hqx
      obtain ⟨its2, rv2, p2, _⟩ := I1.list hqy
      obtain ⟨o1, ho1, _⟩ := id p1
      refine zip_begins2 (begins_tuple a its.toArray) (begins_list b its2.toArray) (show s1.heap.IsTuple a its.toArray from p1) p2.isList fun h' hz hTI hTO g1 g2 hsz hk => wpAny_pyIter_zip hz ?_
      have I2 : Inv X pins σ H1 { s1 with heap := h' } := I1.kept (t' := s1.toks) hk
      exact ⟨s1.heap.objs.size + 4, [s1.heap.objs.size + 4, s1.heap.objs.size + 2, s1.heap.objs.size + 3, s1.heap.objs.size, s1.heap.objs.size + 1], _, _, H1, rfl, I2, turn_zipTL (PySem.W.ktu_apart s1.heap.objs.size a b (Heap.lt_size ho1) p2.lt), ⟨hz, hTI, ⟨_, _, hTO⟩, ⟨_, g1, rfl, rfl⟩, ⟨_, g2, rfl, rfl⟩⟩, fresh5, q⟩
theorem walk_zipTL {K : PySem.W.Frag} {a b : Addr} {xs ys : List V} (hl : xs.length = ys.length) : Walk (ItzTL K a b) xs.length (fun H => SqT K H a xs ∧ SqL K H b ys) (YPair (fun i => xs[i]?) (fun i => ys[i]?)) := by
  refine ⟨fun i _ hi q => ?_, fun _ q => ⟨xs, ys, q.1, q.2, .inl (Nat.le_refl _), Nat.le_refl _, by omega⟩, fun i H v H' _ q y => ?_⟩
  · have h2 : i < ys.length := by omega
    exact ⟨xs, ys, xs[i], ys[i], q.1, q.2, by simp [hi], by simp [h2]⟩
  · obtain ⟨T, x, z, h1, h2, h3, h4, h5⟩ := y
    exact ⟨T, x, z, h1, h2, h3, h4 xs q.1, h5 ys q.2⟩
theorem walk_zipT {K : PySem.W.Frag} {a b : Addr} {xs ys : List V} (hl : xs.length = ys.length) : Walk (RZ.ItzT K a b) xs.length (fun H => SqT K H a xs ∧ SqT K H b ys) (YPair (fun i => xs[i]?) (fun i => ys[i]?)) := by
  refine ⟨fun i _ hi q => ?_, fun _ q => ⟨xs, ys, q.1, q.2, .inl (Nat.le_refl _)⟩, fun i H v H' _ q y => ?_⟩
  · have h2 : i < ys.length := by omega
    exact ⟨xs, ys, xs[i], ys[i], q.1, q.2, by simp [hi], by simp [h2]⟩
  · obtain ⟨T, x, z, h1, h2, h3, h4, h5⟩ := y
    exact ⟨T, x, z, h1, h2, h3, h4 xs q.1, h5 ys q.2⟩
end Rd
/-! combined, divisor_of. -/
namespace Rd
open PySem PySem.Spec PyProof.Rows L2 Gr
theorem mono_ixT {K : PySem.W.Frag} : MonoR (rIxT K) := fun x y H Q Q' h ⟨p, xs, i, v, e1, e2, e3, e4, q⟩ => ⟨p, xs, i, v, e1, e2, e3, e4, h _ _ q⟩
def spComb (K : PySem.W.Frag) : Sp := fun vs H Q _ => ∃ (m n : Nat), vs = [.int (m : Nat), .int (n : Nat)] ∧ m ≤ 1000000 ∧ n ≤ 1000000 ∧ ∀ H' (t : Addr) (x y : Int), Same H H' → H' t = some (.tup [.int (Nat.gcd m n : Nat), .int x, .int y]) → x * m + y * n = (Nat.gcd m n : Nat) → x.natAbs ≤ n + 1 → Q (.ref t) H'
/-- what stands in first and second -/
structure CI (m n f s : Nat) (a b c d : Int) : Prop where
  g : Nat.gcd f s = Nat.gcd m n
  e1 : a * m + b * n = f
  e2 : c * m + d * n = s
  k : a.natAbs * s + c.natAbs * f ≤ n
  z : a.natAbs ≤ n + 1
  u : 1 ≤ f ∨ c = 0
  bf : f ≤ 1000000
  bs : s ≤ 1000000
theorem CI.step {m n f s : Nat} {a b c d : Int} (I : CI m n f s a b c d) (hs : s ≠ 0) : CI m n s (f % s) c d (a - (f / s : Nat) * c) (b - (f / s : Nat) * d) where
  g := by rw [← I.g, Nat.gcd_comm f s, Nat.gcd_rec s f, Nat.gcd_comm]
  e1 := I.e2
  e2 := by
    have h1 := I.e1
    have h2 := I.e2
    have h3 : ((f % s : Nat) : Int) = f - s * (f / s : Nat) := by
      have := Nat.div_add_mod f s
      have h4 : ((s * (f / s) + f % s : Nat) : Int) = (f : Nat) := by rw [this]
      rw [Int.natCast_add, Int.natCast_mul] at h4
      omega
    rw [h3, Int.sub_mul, Int.sub_mul, Int.mul_assoc, Int.mul_assoc]
    have hq : ((f / s : Nat) : Int) * (c * m) + ((f / s : Nat) : Int) * (d * n) = (s : Int) * (f / s : Nat) := by rw [← Int.mul_add, h2, Int.mul_comm]
    generalize ((f / s : Nat) : Int) * (c * m) = X1 at *
    generalize ((f / s : Nat) : Int) * (d * n) = X2 at *
    generalize (s : Int) * (f / s : Nat) = X3 at *
    omega
  k := by
    have h1 := I.k
    have h2 : (a - (f / s : Nat) * c).natAbs ≤ a.natAbs + (f / s) * c.natAbs := by
      refine Nat.le_trans (Int.natAbs_sub_le _ _) ?_
      rw [Int.natAbs_mul, Int.natAbs_natCast]
      exact Nat.le_refl _
    have h3 : (a - (f / s : Nat) * c).natAbs * s ≤ (a.natAbs + (f / s) * c.natAbs) * s := Nat.mul_le_mul_right _ h2
    have h4 : (a.natAbs + (f / s) * c.natAbs) * s = a.natAbs * s + c.natAbs * (s * (f / s)) := by
      rw [Nat.add_mul]
      congr 1
      rw [Nat.mul_comm (f / s), Nat.mul_assoc, Nat.mul_comm (f / s)]
    have h5 : c.natAbs * f = c.natAbs * (s * (f / s)) + c.natAbs * (f % s) := by
      rw [← Nat.mul_add, Nat.div_add_mod]
    omega
  z := by
    rcases I.u with h | h
    · have h1 := I.k
      have h2 : c.natAbs * 1 ≤ c.natAbs * f := Nat.mul_le_mul_left _ h
      omega
    · rw [h]
      exact Nat.zero_le _
  u := .inl (Nat.pos_of_ne_zero hs)
  bf := I.bs
  bs := Nat.le_trans (Nat.mod_le _ _) I.bf
-- slots of combined: 0 one 1 other 2 first 3 second 4 part* 5 rest 6 left 7 right
theorem sc_combined : FnScope ["one", "other", "first", "second", "part", "rest", "left", "right"] ["one", "other"] (defScope s_combined) := ⟨rfl, rfl, rfl, by decide +kernel, rfl, by decide +kernel, by decide +kernel⟩
section
variable {P : Program} {w : World} {K : PySem.W.Frag} {mg : Str → Option Value} {base : Heap}
theorem ca_combined (T : Wd K mg base) : Ca P w K mg base 1 "combined" (spComb K) [] := by
  obtain ⟨fd, F⟩ := T.L.F_combined
  refine ca_of F T.g_combined (F.binds (ps := ["one", "other"]) fun _ _ _ _ _ _ us hl => match us, hl with | [_, _], _ => rfl) sc_combined (fun vs H Q E ⟨_, _, e, _⟩ => by rw [e]; rfl) ?_
  rintro cdv A outer s H vs Q E hr ⟨m, n, rfl, hm, hn, k⟩
  refine ⟨_, (pss_cons (ps_par (i := 2) (j := 3) (by rfl) sc_combined.nd rfl rfl (by decide) rfl rfl (pa_cons (pe_tup (pa_cons (pv 0) (pa_cons pe_int (pa_cons pe_int pa_nil)))) (pa_cons (pe_tup (pa_cons (pv 1) (pa_cons pe_int (pa_cons pe_int pa_nil)))) pa_nil)) (by rfl)) (pss_cons (ps_while PassesOwn.never (pt_cmpR op_ne (pe_ix ix_tup (pv 3) pe_int (fun _ _ => rfl)) pe_int (by rfl)) (pss_cons (ps_set (i := 4) sc_combined.nd rfl (Or.inr rfl) (pe_op op_fdivN (pe_ix ix_tup (pv 2) pe_int (fun _ _ => rfl)) (pe_ix ix_tup (pv 3) pe_int (fun _ _ => rfl)))) (pss_cons (ps_set (i := 5) sc_combined.nd rfl (Or.inl rfl) (pe_callTy (call_tuple_of) (by rfl) T.f_tuple (by decide +kernel) (pa_cons (pe_lc (own := [("left", 6), ("right", 7)]) (g := gTup K 2 (gCons (gName 6) (gCons (gName 7) gNil))) rfl sc_combined.nd (RZ.pi_zipA (by rfl) T.f_zip (pa_cons (pv 2) (pa_cons (pv 3) pa_nil))) (blkOk_by (own := [("left", 6), ("right", 7)]) (N := ["one", "other", "first", "second", "part", "rest", "left", "right"]) (sc := defScope s_combined) (by decide +kernel)) (fun _ _ _ _ _ => (pg_tup rfl (pgs_cons (pg_name (i := 6) sc_combined.nd rfl (Or.inl rfl)) (pgs_cons (pg_name (i := 7) sc_combined.nd rfl (Or.inl rfl)) pgs_nil)))) (fun _ _ _ _ _ => pts_nil) (fun _ _ _ _ _ => (pe_op op_sub (pv 6) (pe_op op_mul (pv 4) (pv 7))))) pa_nil))) (pss_one (ps_par (i := 2) (j := 3) (by rfl) sc_combined.nd rfl rfl (by decide) rfl rfl (pa_cons (pv 3) (pa_cons (pv 5) pa_nil)) (by rfl)))))) (pss_one (ps_ret (pv 2))))), ?_⟩
  refine ⟨_, rfl, Nat.le_of_ble_eq_true rfl, fun t1 h1 => ?_⟩
  have s1 : Same H (upd H t1 (.tup [.int (m : Nat), .int 1, .int 0])) := sm_new h1
  refine ⟨_, rfl, Nat.le_of_ble_eq_true rfl, fun t2 h2 => ?_⟩
  have s2 := s1.new (o := .tup [.int (n : Nat), .int 0, .int 1]) h2
  have n12 : t1 ≠ t2 := ne_of_none upd_same h2
  refine ⟨_, _, rfl, ?_⟩
  refine while_by (fun σ H' => ∃ (a1 a2 : Addr) (f s : Nat) (a b c d : Int) (v1 v2 v3 v4 : Option V), σ = [some (.int (m : Nat)), some (.int (n : Nat)), some (.ref a1), some (.ref a2), v1, v2, v3, v4] ∧ H' a1 = some (.tup [.int (f : Nat), .int a, .int b]) ∧ H' a2 = some (.tup [.int (s : Nat), .int c, .int d]) ∧ CI m n f s a b c d ∧ Same H H')
    (fun σ H' => match σ with | [_, _, _, some (.ref a2), _, _, _, _] => (match H' a2 with | some (.tup [.int s0, _, _]) => s0.toNat | _ => 0) | _ => 0) ?_ ?_ (mono_test (mono_op mono_var mono_c mono_ixT) mono_c mono_ne)
  · refine ⟨t1, t2, m, n, 1, 0, 0, 1, none, none, none, none, rfl, by rw [upd_ne n12, upd_same], upd_same, ⟨rfl, by omega, by omega, by simp, by simp, .inr rfl, hm, hn⟩, s2⟩
  rintro σ H' ⟨a1, a2, f, s0, a, b, c, d, v1, v2, v3, v4, rfl, e1, e2, I, ss⟩
  refine ⟨_, rfl, a2, _, (0 : Int), .int (s0 : Nat), rfl, rfl, SqT.of e2, rfl, rfl, _, rfl, ?_⟩
  by_cases hs : s0 = 0
  · subst hs
    refine iteNS rfl ?_
    have hg : f = Nat.gcd m n := by rw [← I.g, Nat.gcd_zero_right]
    refine ⟨_, rfl, k _ a1 a b ss ?_ ?_ I.z⟩
    · rw [e1, hg]
    · rw [I.e1, hg]
  rw [decide_eq_false (fun z => hs (by have := V.int.inj z; omega))]
  refine iteT ?_
  refine ⟨_, rfl, a1, _, (0 : Int), .int (f : Nat), rfl, rfl, SqT.of e1, rfl, _, rfl, a2, _, (0 : Int), .int (s0 : Nat), rfl, rfl, SqT.of e2, rfl, _, _, rfl, rfl, ⟨by omega, by have := I.bs; omega⟩, ?_⟩
  have efd : Int.fdiv (f : Nat) (s0 : Nat) = ((f / s0 : Nat) : Int) := by
    rw [Int.fdiv_eq_ediv_of_nonneg _ (by omega)]
    rfl
  have hdl : f / s0 ≤ f := Nat.div_le_self _ _
  have hbf := I.bf
  refine ⟨_, rfl, _, rfl, a1, a2, _, _, rfl, .inr ⟨SqT.of e1, SqT.of e2, fun D hD => lc_it (walk_zipT (xs := [V.int (f : Nat), V.int a, V.int b]) (ys := [V.int (s0 : Nat), V.int c, V.int d]) rfl) (fun i H2 => H2 D = some (.lst ((([(f : Int) - (f / s0 : Nat) * s0, a - (f / s0 : Nat) * c, b - (f / s0 : Nat) * d] : List Int).take i).map V.int)) ∧ Same H' H2) ⟨upd_same, sm_new hD⟩ (fun i H2 _ h => ⟨h.2.tup (SqT.of e1), h.2.tup (SqT.of e2)⟩) ?_ ?_⟩⟩
  · rintro i v H2 H3 hi ⟨g1, g2⟩ ⟨T0, x, y, rfl, hT, rfl, hx, hy⟩
    have sT := g2.new (o := .tup [x, y]) hT
    have nDT : D ≠ T0 := ne_of_none g1 hT
    obtain ⟨p, q, r, rfl, rfl, hr3, hres⟩ : ∃ p q r : Int, x = V.int p ∧ y = V.int q ∧ ([(f : Int) - (f / s0 : Nat) * s0, a - (f / s0 : Nat) * c, b - (f / s0 : Nat) * d] : List Int)[i]? = some r ∧ r = p - (f / s0 : Nat) * q := by
      match i, hx, hy with
      | 0, hx, hy => exact ⟨f, s0, _, (Option.some.inj hx).symm, (Option.some.inj hy).symm, rfl, rfl⟩
      | 1, hx, hy => exact ⟨a, c, _, (Option.some.inj hx).symm, (Option.some.inj hy).symm, rfl, rfl⟩
      | 2, hx, hy => exact ⟨b, d, _, (Option.some.inj hx).symm, (Option.some.inj hy).symm, rfl, rfl⟩
      | i + 3, hx, hy => exact absurd hx (by simp)
    have hi3 : i < 3 := (List.getElem?_eq_some_iff.mp hr3).1
    refine ⟨T0, _, rfl, SqT.of upd_same, rfl, _, _, rfl, _, _, rfl, rfl, rfl, ?_⟩
    refine ⟨_, rfl, _, rfl, _, rfl, _, _, rfl, rfl, .inl ?_, _, _, rfl, rfl, _, by rw [upd_ne nDT]; exact g1, ?_, ?_, sT.put hD⟩
    · rw [efd]
      have q1 := Int.natCast_nonneg (f / s0)
      have q2 : ((f / s0 : Nat) : Int) ≤ (f : Nat) := Int.ofNat_le.mpr hdl
      constructor <;> omega
    · rw [List.length_map, List.length_take, sizeLine_eq]
      omega
    · rw [upd_same]
      show some (HO.lst (_ ++ [V.int (p - Int.fdiv (f : Nat) (s0 : Nat) * q)])) = _
      rw [efd, take_snoc hr3, List.map_append, hres]
      rfl
  rintro H2 ⟨g1, g2⟩
  refine ⟨D, _, rfl, .inl ⟨SqL.of g1, fun u hu => ?_⟩⟩
  refine ⟨_, rfl, _, rfl, _, _, rfl, ?_⟩
  have s4 := (ss.trans g2).new (o := .tup ((([(f : Int) - (f / s0 : Nat) * s0, a - (f / s0 : Nat) * c, b - (f / s0 : Nat) * d] : List Int).take 3).map V.int)) hu
  have n2u : a2 ≠ u := ne_of_none (g2 _ _ e2) hu
  have e2' : (upd H2 u (.tup ((([(f : Int) - (f / s0 : Nat) * s0, a - (f / s0 : Nat) * c, b - (f / s0 : Nat) * d] : List Int).take 3).map V.int))) a2 = some (.tup [.int (s0 : Nat), .int c, .int d]) := by rw [upd_ne n2u]; exact g2 _ _ e2
  have hrest : (f : Int) - (f / s0 : Nat) * s0 = ((f % s0 : Nat) : Int) := by
    have := Nat.div_add_mod f s0
    have h4 : ((s0 * (f / s0) + f % s0 : Nat) : Int) = (f : Nat) := by rw [this]
    rw [Int.natCast_add, Int.natCast_mul] at h4
    rw [Int.mul_comm]
    omega
  refine ⟨⟨a2, u, s0, f % s0, c, d, a - (f / s0 : Nat) * c, b - (f / s0 : Nat) * d, _, _, _, _, rfl, e2', ?_, I.step hs, s4⟩, ?_⟩
  · rw [← hrest]
    exact upd_same
  · show (match (upd H2 u (.tup ((([(f : Int) - (f / s0 : Nat) * s0, a - (f / s0 : Nat) * c, b - (f / s0 : Nat) * d] : List Int).take 3).map V.int))) u with | some (.tup [.int s0, _, _]) => s0.toNat | _ => 0) < (match H' a2 with | some (.tup [.int s0, _, _]) => s0.toNat | _ => 0)
    rw [upd_same, e2]
    show ((f : Int) - (f / s0 : Nat) * s0).toNat < (s0 : Int).toNat
    rw [hrest]
    have := Nat.mod_lt f (Nat.pos_of_ne_zero hs)
    omega
end
end Rd
/-! divisor_of. -/
namespace Rd
open PySem PySem.Spec PyProof.Rows L2 Gr
def dot (fs : List Int) (ns : List Nat) : Int := ((fs.zip ns).map fun p => p.1 * (p.2 : Int)).sum
def gcdN (ns : List Nat) : Nat := ns.foldl Nat.gcd 0
theorem gcdN_snoc (ns : List Nat) (n : Nat) : gcdN (ns ++ [n]) = Nat.gcd (gcdN ns) n := by
  unfold gcdN
  rw [List.foldl_append]
  rfl
theorem gcdN_L (ns : List Nat) : gcdL (ns.map fun n : Nat => (n : Int)) = (gcdN ns : Nat) := by
  have key : ∀ (ns : List Nat) (a : Nat), (ns.map fun n : Nat => (n : Int)).foldl (fun f n => (Int.gcd f n : Int)) (a : Nat) = ((ns.foldl Nat.gcd a : Nat) : Int) := by
    intro ns
    induction ns with
    | nil => intro a; rfl
    | cons n ns ih => intro a; exact ih (Nat.gcd a n)
  exact key ns 0
theorem sum_app (l m : List Int) : (l ++ m).sum = l.sum + m.sum := by
  induction l with
  | nil => rw [List.nil_append, List.sum_nil, Int.zero_add]
  | cons x l ih => rw [List.cons_append, List.sum_cons, List.sum_cons, ih, Int.add_assoc]
theorem dot_snoc {fs : List Int} {ns : List Nat} (h : fs.length = ns.length) (y : Int) (n : Nat) : dot (fs ++ [y]) (ns ++ [n]) = dot fs ns + y * n := by
  unfold dot
  rw [List.zip_append h, List.map_append, sum_app]
  show _ + (y * (n : Int) + 0) = _
  rw [Int.add_zero]
theorem dot_mul (x : Int) : ∀ (fs : List Int) (ns : List Nat), dot (fs.map (· * x)) ns = dot fs ns * x
  | [], ns => by simp [dot]
  | f :: fs, [] => by simp [dot]
  | f :: fs, n :: ns => by
    have ih := dot_mul x fs ns
    unfold dot at *
    rw [List.map_cons, List.zip_cons_cons, List.map_cons, List.sum_cons, List.zip_cons_cons, List.map_cons, List.sum_cons, ih, Int.add_mul]
    congr 1
    show f * x * (n : Int) = f * (n : Int) * x
    rw [Int.mul_assoc, Int.mul_comm x, Int.mul_assoc]
def spDiv (K : PySem.W.Frag) : Sp := fun vs H Q _ => ∃ (a : Addr) (ns : List Nat), vs = [.ref a] ∧ SqL K H a (ns.map fun n => V.int (n : Nat)) ∧ (∀ n ∈ ns, 1 ≤ n ∧ n ≤ 1000000) ∧ ns.length ≤ 24 ∧
  ∀ H' (t p : Addr) (fs : List Int), Same H H' → H' t = some (.tup [.int (gcdN ns : Nat), .ref p]) → H' p = some (.lst (fs.map V.int)) → fs.length = ns.length → dot fs ns = (gcdN ns : Nat) → Q (.ref t) H'
-- slots of divisor_of: 0 numbers 1 divisor 2 factors 3 number 4 one* 5 other 6 factor
theorem sc_divisor_of : FnScope ["numbers", "divisor", "factors", "number", "one", "other", "factor"] ["numbers"] (defScope s_divisor_of) := ⟨rfl, rfl, rfl, by decide +kernel, rfl, by decide +kernel, by decide +kernel⟩
section
variable {P : Program} {w : World} {K : PySem.W.Frag} {mg : Str → Option Value} {base : Heap}
theorem ca_divisor_of (T : Wd K mg base) : Ca P w K mg base 2 "divisor_of" (spDiv K) [] := by
  obtain ⟨fd, F⟩ := T.L.F_divisor_of
  refine ca_of F T.g_divisor_of (F.binds (ps := ["numbers"]) fun _ _ _ _ _ _ us hl => match us, hl with | [_], _ => rfl) sc_divisor_of (fun vs H Q E ⟨_, _, e, _⟩ => by rw [e]; rfl) ?_
  rintro cdv A outer s H vs Q E hr ⟨a, ns, rfl, ha, hb, h24, k⟩
  refine ⟨_, (pss_cons (ps_par (i := 1) (j := 2) (by rfl) sc_divisor_of.nd rfl rfl (by decide) rfl rfl (pa_cons pe_int (pa_cons (pe_lst pa_nil) pa_nil)) (by rfl)) (pss_cons (ps_for PassesOwn.never rfl (pi_list (pv 0)) (pg_name (i := 3) sc_divisor_of.nd rfl (Or.inl rfl)) (pss_cons (ps_asg (pe_ca (ca_combined T) hr (by decide) rfl (pa_cons (pv 1) (pa_cons (pv 3) pa_nil))) (pg_tup rfl (pgs_cons (pg_name (i := 1) sc_divisor_of.nd rfl (Or.inl rfl)) (pgs_cons (pg_name (i := 4) sc_divisor_of.nd rfl (Or.inr rfl)) (pgs_cons (pg_name (i := 5) sc_divisor_of.nd rfl (Or.inl rfl)) pgs_nil))))) (pss_one (ps_set (i := 2) sc_divisor_of.nd rfl (Or.inl rfl) (pe_op op_cat (pe_lc (own := [("factor", 6)]) (g := gName 6) rfl sc_divisor_of.nd (pi_list (pv 2)) (blkOk_by (own := [("factor", 6)]) (N := ["numbers", "divisor", "factors", "number", "one", "other", "factor"]) (sc := defScope s_divisor_of) (by decide +kernel)) (fun _ _ _ _ _ => (pg_name (i := 6) sc_divisor_of.nd rfl (Or.inl rfl))) (fun _ _ _ _ _ => pts_nil) (fun _ _ _ _ _ => (pe_op op_mul (pv 6) (pv 4)))) (pe_lst (pa_cons (pv 5) pa_nil))))))) (pss_one (ps_ret (pe_tup (pa_cons (pv 1) (pa_cons (pv 2) pa_nil))))))), ?_⟩
  refine ⟨Nat.zero_le _, fun p0 hp0 => ⟨_, _, rfl, ?_⟩⟩
  refine ⟨_, rfl, a, rfl, ⟨_, (sm_new hp0).seq ha⟩, for_list (K := K) (a := a) (xs := ns.map fun n => V.int (n : Nat)) (fun i σ H' => ∃ (p : Addr) (fs : List Int) (v1 v2 v3 v4 : Option V), σ = [some (.ref a), some (.int (gcdN (ns.take i) : Nat)), some (.ref p), v1, v2, v3, v4] ∧ H' p = some (.lst (fs.map V.int)) ∧ fs.length = i ∧ dot fs (ns.take i) = (gcdN (ns.take i) : Nat) ∧ gcdN (ns.take i) ≤ 1000000 ∧ Same H H')
    ⟨p0, [], none, none, none, none, rfl, upd_same, rfl, rfl, by simp [gcdN], sm_new hp0⟩ (fun i σ H' _ ⟨_, _, _, _, _, _, _, _, _, _, _, h⟩ => h.seq ha) ?_ ?_⟩
  · rintro i v σ H' hi ⟨p, fs, v1, v2, v3, v4, rfl, hp, hl, hdot, hle, ss⟩
    obtain ⟨n, hn, rfl⟩ := map_get hi
    obtain ⟨n1, n2⟩ := hb n (List.mem_of_getElem? hn)
    have hi24 : i < ns.length := (List.getElem?_eq_some_iff.mp hn).1
    refine ⟨_, rfl, _, rfl, gcdN (ns.take i), n, rfl, hle, n2, fun H1 t x y s1 ht hxy hx => ?_⟩
    refine ⟨t, _, rfl, SqT.of ht, rfl, _, _, rfl, _, _, rfl, _, _, rfl, rfl, ?_⟩
    have hp1 := s1 _ _ hp
    refine ⟨_, rfl, p, rfl, ⟨_, SqL.of hp1⟩, fun D hD => lc_list (K := K) (a := p) (xs := fs.map V.int) (fun j H2 => H2 D = some (.lst (((fs.take j).map (· * x)).map V.int)) ∧ Same H1 H2) ⟨upd_same, sm_new hD⟩ (fun j H2 _ h => SqL.of (h.2 _ _ hp1)) ?_ ?_⟩
    · rintro j w H2 hj ⟨g1, g2⟩
      obtain ⟨c, hc, rfl⟩ := map_get hj
      refine ⟨rfl, _, rfl, _, rfl, _, _, rfl, rfl, .inr ?_, _, g1, ?_, ?_, g2.put hD⟩
      · constructor <;> omega
      · rw [List.length_map, List.length_map, List.length_take, sizeLine_eq]
        omega
      · rw [upd_same, take_snoc hc, List.map_append, List.map_append]
        rfl
    · rintro H2 ⟨g1, g2⟩
      rw [List.length_map, List.take_length] at g1
      refine ⟨_, rfl, Nat.le_of_ble_eq_true rfl, fun l hl2 => ?_⟩
      have nDl : D ≠ l := ne_of_none g1 hl2
      refine ⟨D, l, _, _, rfl, rfl, by rw [upd_ne nDl]; exact g1, upd_same, ?_, fun q hq => ?_⟩
      · rw [List.length_map, List.length_map, List.length_singleton, sizeLine_eq]
        omega
      have s2 := ((ss.trans (s1.trans g2)).new (o := .lst [V.int y]) hl2).new (o := .lst ((fs.map (· * x)).map V.int ++ [V.int y])) hq
      refine ⟨q, fs.map (· * x) ++ [y], some (.int (n : Nat)), some (.int x), some (.int y), v4, ?_, ?_, ?_, ?_, ?_, s2⟩
      · rw [take_snoc hn, gcdN_snoc]
        rfl
      · rw [upd_same, List.map_append]
        rfl
      · rw [List.length_append, List.length_map, List.length_singleton, hl]
      · rw [take_snoc hn, dot_snoc (by rw [List.length_map, List.length_take]; omega), dot_mul, hdot, gcdN_snoc, ← hxy, Int.mul_comm]
      · rw [take_snoc hn, gcdN_snoc]
        have := Nat.gcd_le_right (gcdN (ns.take i)) (show 0 < n by omega)
        omega
  · rintro σ H' ⟨p, fs, v1, v2, v3, v4, rfl, hp, hl, hdot, hle, ss⟩
    rw [List.length_map] at hl
    rw [List.length_map, List.take_length] at hdot
    refine ⟨_, rfl, _, rfl, Nat.le_of_ble_eq_true rfl, fun t ht => ?_⟩
    have e : ns.take (ns.map fun n => V.int (n : Nat)).length = ns := by rw [List.length_map, List.take_length]
    have npt : p ≠ t := ne_of_none hp ht
    refine k _ t p fs (ss.new ht) ?_ (by rw [upd_ne npt]; exact hp) hl hdot
    rw [upd_same, e]
end
end Rd
/-! wanted_sums. -/
namespace Rd
open PySem PySem.Spec PyProof.Rows L2 Gr
def fup {β : Type} (g : Str → β) (x : Str) (v : β) : Str → β := fun y => if y = x then v else g y
theorem tab_put (g : Str → Int) (x : Str) (v : Int) (rooms : List Str) (h : x ∈ rooms) : putK (IzD (tab g rooms)) (Sum.inr x) (V.int v) = IzD (tab (fup g x v) rooms) := by
  unfold putK
  have e : valV (IzD (tab g rooms)) (Sum.inr x) = some (V.int (g x)) := by rw [izD_val, tab_look g h]; rfl
  rw [valV_any, e]
  rw [if_pos (by rfl)]
  unfold IzD tab
  rw [List.map_map, List.map_map, List.map_map]
  refine List.map_congr_left fun y hy => ?_
  show (if (Sum.inr y : Key) = Sum.inr x then ((Sum.inr y : Key), V.int v) else (Sum.inr y, V.int (g y))) = (Sum.inr y, V.int (if y = x then v else g y))
  by_cases hyx : y = x
  · subst hyx
    rw [if_pos rfl, if_pos rfl]
  · rw [if_neg (fun z => hyx (Sum.inr.inj z)), if_neg hyx]
theorem sum_up {rooms : List Str} (nd : rooms.Nodup) {x : Str} (h : x ∈ rooms) (G G' : Str → Int) (hG : ∀ y, y ≠ x → G' y = G y) : (rooms.map G').sum = (rooms.map G).sum + (G' x - G x) := by
  induction rooms with
  | nil => cases h
  | cons y ys ih =>
    obtain ⟨n1, n2⟩ := List.nodup_cons.mp nd
    rw [List.map_cons, List.map_cons, List.sum_cons, List.sum_cons]
    by_cases e : y = x
    · subst e
      have hc : ys.map G' = ys.map G := List.map_congr_left fun z hz => hG z fun q => n1 (q ▸ hz)
      rw [hc]
      omega
    · rw [hG y e, ih n2 ((List.mem_cons.mp h).resolve_left fun q => e q.symm)]
      omega
def sgn (c : Str → Bool) (x : Str) : Int := if c x = true then 1 else -1
theorem bal_up {c : Str → Bool} {rooms : List Str} (nd : rooms.Nodup) {x : Str} (h : x ∈ rooms) (f l : Str) (g : Str → Int) (v : Int) : balC c rooms f l (fup g x v) = balC c rooms f l g + sgn c x * (v - g x) := by
  unfold balC
  rw [sum_up nd h (fun y => if c y = true then g y else -g y) (fun y => if c y = true then fup g x v y else -fup g x v y) (fun y hy => by unfold fup; rw [if_neg hy])]
  have e : fup g x v x = v := by unfold fup; rw [if_pos rfl]
  rw [e]
  unfold sgn
  cases c x
  · simp only [Bool.false_eq_true, if_false]; omega
  · simp only [if_true]; omega
theorem col_two {ps : List (Str × Str)} {c c' : Str → Bool} (hc : Col ps c) (hc' : Col ps c') {x y : Str} (h : Conn ps x y) : (c x = c' x ↔ c y = c' y) := by
  induction h with
  | refl => exact Iff.rfl
  | step _ a ih =>
    rw [ih, hc.adj a, hc'.adj a]
    generalize c _ = p
    generalize c' _ = q
    cases p <;> cases q <;> decide
theorem bal_congr {c c' : Str → Bool} {rooms : List Str} {f l : Str} (hf : f ∈ rooms) (hl : l ∈ rooms) (h : ∀ x ∈ rooms, c' x = c x) (ch : Str → Int) : balC c' rooms f l ch = balC c rooms f l ch := by
  unfold balC
  rw [h f hf, h l hl]
  congr 2
  exact List.map_congr_left fun x hx => by rw [h x hx]
theorem sum_neg (l : List Str) (g : Str → Int) : (l.map fun x => -g x).sum = -(l.map g).sum := by
  induction l with
  | nil => rfl
  | cons x l ih => rw [List.map_cons, List.map_cons, List.sum_cons, List.sum_cons, ih]; omega
theorem bal_neg {c c' : Str → Bool} {rooms : List Str} {f l : Str} (hf : f ∈ rooms) (hl : l ∈ rooms) (h : ∀ x ∈ rooms, c' x = !c x) (ch : Str → Int) : balC c' rooms f l ch = -balC c rooms f l ch := by
  unfold balC
  have e : (rooms.map fun x => if c' x = true then ch x else -ch x) = rooms.map fun x => -(if c x = true then ch x else -ch x) := List.map_congr_left fun x hx => by
    rw [h x hx]
    cases c x
    · simp only [Bool.not_false, if_true, Bool.false_eq_true, if_false]; omega
    · simp only [Bool.not_true, if_true, Bool.false_eq_true, if_false]
  rw [e, sum_neg rooms (fun x => if c x = true then ch x else -ch x), h f hf, h l hl]
  cases c f <;> cases c l <;> simp <;> omega
theorem bal_two {szs : List (Str × Nat)} {ps : List (Str × Str)} (O : BOk szs ps) {c c' : Str → Bool} (hc : Col ps c) (hc' : Col ps c') {f l : Str} (hf : f ∈ szs.map (·.1)) (hl : l ∈ szs.map (·.1)) (ch : Str → Int) :
    balC c' (szs.map (·.1)) f l ch = balC c (szs.map (·.1)) f l ch ∨ balC c' (szs.map (·.1)) f l ch = -balC c (szs.map (·.1)) f l ch := by
  by_cases h : c f = c' f
  · exact .inl (bal_congr hf hl (fun x hx => ((col_two hc hc' (O.cn f hf x hx)).mp h).symm) ch)
  · refine .inr (bal_neg hf hl (fun x hx => ?_) ch)
    have h2 : ¬ c x = c' x := fun z => h ((col_two hc hc' (O.cn f hf x hx)).mpr z)
    revert h2
    generalize c x = p
    generalize c' x = q
    cases p <;> cases q <;> decide
theorem TPos.mod {szs : List (Str × Nat)} {ps : List (Str × Str)} {f l : Str} {ch : Str → Int} (h : TPos szs ps f l ch) (O : BOk szs ps) (hf : f ∈ szs.map (·.1)) (hl : l ∈ szs.map (·.1)) {c : Str → Bool} (hc : Col ps c) : balC c (szs.map (·.1)) f l ch % gz szs = 0 := by
  rcases h with h | ⟨c', hc', h⟩
  · exact absurd hc (h c)
  · rcases bal_two O hc' hc hf hl ch with e | e
    · rw [e]; exact h
    · rw [e]
      exact Int.emod_eq_zero_of_dvd (Int.dvd_neg.mpr (Int.dvd_of_emod_eq_zero h))
theorem szn_mapN {szs : List (Str × Nat)} (nd : (szs.map (·.1)).Nodup) : (szs.map (·.1)).map (szn szs) = szs.map (·.2) := by
  rw [List.map_map]
  refine List.map_congr_left fun p hp => ?_
  show szn szs p.1 = p.2
  unfold szn
  rw [lookup_of nd (show (p.1, p.2) ∈ szs from hp)]
  rfl
theorem gz_N (szs : List (Str × Nat)) : gz szs = (gcdN (szs.map (·.2)) : Nat) := by
  unfold gz
  rw [← gcdN_L, List.map_map]
  rfl
theorem if_via2 {b : Bool} {A : Prop} {R : L2.St → Hp → Prop} {σ : L2.St} {H : Hp} (S : L2.St → Hp → Prop) (hR : ∀ σ' H', S σ' H' → R σ' H') (h1 : b = true → (∀ σ' H', S σ' H' → R σ' H') → A) (h2 : b = false → S σ H) : if b = true then A else R σ H := by
  cases b with
  | true => exact iteT (h1 rfl hR)
  | false => exact iteF (hR _ _ (h2 rfl))
theorem bal_bound {c : Str → Bool} {f l : Str} {ch : Str → Int} : ∀ {rooms : List Str}, (∀ x ∈ rooms, 0 ≤ ch x ∧ ch x < 1000000) → rooms.length ≤ 24 → -24000001 ≤ balC c rooms f l ch ∧ balC c rooms f l ch ≤ 24000001 := fun {rooms} h hl => by
  have key : ∀ m : List Str, (∀ x ∈ m, 0 ≤ ch x ∧ ch x < 1000000) → -(1000000 * (m.length : Int)) ≤ (m.map fun x => if c x = true then ch x else -ch x).sum ∧ (m.map fun x => if c x = true then ch x else -ch x).sum ≤ 1000000 * (m.length : Int) := by
    intro m
    induction m with
    | nil => intro _; exact ⟨by simp, by simp⟩
    | cons x m ih =>
      intro hm
      obtain ⟨i1, i2⟩ := ih fun y hy => hm y (List.mem_cons_of_mem _ hy)
      obtain ⟨j1, j2⟩ := hm x List.mem_cons_self
      rw [List.map_cons, List.sum_cons, List.length_cons]
      push_cast
      split <;> omega
  obtain ⟨k1, k2⟩ := key rooms h
  unfold balC
  split <;> split <;> omega
/-- what solution solves -/
def WOk (szs : List (Str × Nat)) (ps : List (Str × Str)) (f l : Str) (ch w : Str → Int) : Prop := ∃ ch' : Str → Int, (∀ x ∈ szs.map (·.1), ((szn szs x : Nat) : Int) ∣ ch' x - ch x) ∧
  (∀ x, w x = 2 * ch' x + (if x = f then 1 else 0) - (if x = l then 1 else 0)) ∧ ((∀ c, ¬ Col ps c) ∨ ∃ c, Col ps c ∧ balC c (szs.map (·.1)) f l ch' = 0)
def spWant (K : PySem.W.Frag) : Sp := fun vs H Q _ => ∃ (t b : Addr) (szs : List (Str × Nat)) (ps : List (Str × Str)) (f l : Str) (ch : Str → Int), vs = [.ref t] ∧ TAt K H t b szs ps f l ch ∧ BOk szs ps ∧ TOk szs ps f l ch ∧ TPos szs ps f l ch ∧
  ∀ H' p w, Same H H' → H' p = some (.dK (IzD (tab w (szs.map (·.1))))) → H p = none → WOk szs ps f l ch w → Q (.ref p) H'
-- slots of wanted_sums: 0 trace* 1 building* 2 changes* 3 divisor 4 factors 5 room 6 times 7 factor 8 sign
theorem sc_wanted_sums : FnScope ["trace", "building", "changes", "divisor", "factors", "room", "times", "factor", "sign"] ["trace"] (defScope s_wanted_sums) := ⟨rfl, rfl, rfl, by decide +kernel, rfl, by decide +kernel, by decide +kernel⟩
section
variable {P : Program} {w : World} {K : PySem.W.Frag} {mg : Str → Option Value} {base : Heap}
theorem ca_wanted_sums (T : Wd K mg base) : Ca P w K mg base 5 "wanted_sums" (spWant K) [] := by
  obtain ⟨fd, F⟩ := T.L.F_wanted_sums
  refine ca_of F T.g_wanted_sums (F.binds (ps := ["trace"]) fun _ _ _ _ _ _ us hl => match us, hl with | [_], _ => rfl) sc_wanted_sums (fun vs H Q E ⟨_, _, _, _, _, _, _, e, _⟩ => by rw [e]; rfl) ?_
  rintro cdv A outer s H vs Q E hr ⟨t, b, szs, ps, f, l, ch, rfl, A0, O, OT, hpos, k⟩
  obtain ⟨dx, d, ky, bv, sd, h1, h2, h3, h4, h5⟩ := id A0.ex
  obtain ⟨bdx, bd, bc, nr, sd', rg, br, hb, _⟩ := id h3.ex
  have hr24 : (szs.map (·.1)).length ≤ 24 := by rw [List.length_map]; exact O.few
  refine ⟨_, (pss_cons (ps_set (i := 1) sc_wanted_sums.nd rfl (Or.inr rfl) (pe_pr (pr_Trace_building T) hr (by decide) (pv 0))) (pss_cons (ps_set (i := 2) sc_wanted_sums.nd rfl (Or.inr rfl) (pe_callTy (call_dictD) (by rfl) T.f_dict (by decide +kernel) (pa_cons (pe_pr (pr_Trace_changes T) hr (by decide) (pv 0)) pa_nil))) (pss_cons (ps_if (pt_cmpR op_notN (pe_pr (pr_Building_sides T) hr (by decide) (pv 1)) pe_non (by rfl)) (pss_cons (ps_asg (pe_ca (ca_divisor_of T) hr (by decide) rfl (pa_cons (pe_lc (own := [("room", 5)]) (g := gName 5) rfl sc_wanted_sums.nd (pi_tup (pe_pr (pr_Building_rooms T) hr (by decide) (pv 1))) (blkOk_by (own := [("room", 5)]) (N := ["trace", "building", "changes", "divisor", "factors", "room", "times", "factor", "sign"]) (sc := defScope s_wanted_sums) (by decide +kernel)) (fun _ _ _ _ _ => (pg_name (i := 5) sc_wanted_sums.nd rfl (Or.inl rfl))) (fun _ _ _ _ _ => pts_nil) (fun _ _ _ _ _ => (pe_get_own (mt_Building_dgetitem T) hr (by decide) (pv 1) (pv 5)))) pa_nil)) (pg_tup rfl (pgs_cons (pg_name (i := 3) sc_wanted_sums.nd rfl (Or.inl rfl)) (pgs_cons (pg_name (i := 4) sc_wanted_sums.nd rfl (Or.inl rfl)) pgs_nil)))) (pss_cons (ps_set (i := 6) sc_wanted_sums.nd rfl (Or.inl rfl) (pe_op op_fdivN (pe_pr (pr_Trace_balance T) hr (by decide) (pv 0)) (pv 3))) (pss_one (ps_for PassesOwn.never rfl (pi_zipTL (by rfl) T.f_zip (pa_cons (pe_pr (pr_Building_rooms T) hr (by decide) (pv 1)) (pa_cons (pv 4) pa_nil))) (pg_tup rfl (pgs_cons (pg_name (i := 5) sc_wanted_sums.nd rfl (Or.inl rfl)) (pgs_cons (pg_name (i := 7) sc_wanted_sums.nd rfl (Or.inl rfl)) pgs_nil))) (pss_cons (ps_set (i := 8) sc_wanted_sums.nd rfl (Or.inl rfl) (pe_ifExp (pt_cmpR op_in_seq (pv 5) (pe_ix ix_tup (pe_pr (pr_Building_sides T) hr (by decide) (pv 1)) pe_int (fun _ _ => rfl)) (by rfl)) pe_int (pe_un un_neg pe_int))) (pss_one (ps_daug (hu_of hr) (pv 2) (pv 5) (pe_op op_mul (pe_op op_mul (pe_op op_mul (pv 8) (pv 7)) (pv 6)) (pe_get_own (mt_Building_dgetitem T) hr (by decide) (pv 1) (pv 5))) in_sub (fun _ _ _ => rfl)))))))) pss_nil) (pss_one (ps_ret (pe_dc (own := [("room", 5)]) (g := gName 5) rfl sc_wanted_sums.nd (pi_tup (pe_pr (pr_Building_rooms T) hr (by decide) (pv 1))) (blkOk_by (own := [("room", 5)]) (N := ["trace", "building", "changes", "divisor", "factors", "room", "times", "factor", "sign"]) (sc := defScope s_wanted_sums) (by decide +kernel)) (fun _ _ _ _ _ => (pg_name (i := 5) sc_wanted_sums.nd rfl (Or.inl rfl))) (fun _ _ _ _ _ => pts_nil) (fun _ _ _ _ _ => (pv 5)) (fun _ _ _ _ _ => (pe_op op_sub (pe_op op_add (pe_op op_mul pe_int (pe_dget (hu_of hr) (pv 2) (pv 5) (fun _ _ => rfl))) (pe_callTy (call_int1) (by rfl) T.f_int (by decide +kernel) (pa_cons (pe_cmpR op_eq (pv 5) (pe_pr (pr_Trace_first T) hr (by decide) (pv 0)) (by rfl)) pa_nil))) (pe_callTy (call_int1) (by rfl) T.f_int (by decide +kernel) (pa_cons (pe_cmpR op_eq (pv 5) (pe_pr (pr_Trace_last T) hr (by decide) (pv 0)) (by rfl)) pa_nil)))))))))), ?_⟩
  refine ⟨_, rfl, t, _, _, rfl, h1, t, b, szs, ps, f, l, ch, rfl, A0, ?_⟩
  refine ⟨_, rfl, t, _, _, rfl, h1, t, b, szs, ps, f, l, ch, rfl, A0, fun p0 hp0 => ⟨p0, _, rfl, .inl upd_same, fun p1 hp1 => ?_⟩⟩
  have n1H : H p1 = none := by
    have n : p1 ≠ p0 := fun z => by rw [z, upd_same] at hp1; cases hp1
    rwa [upd_ne n] at hp1
  have s1 : Same H (upd (upd H p0 (.dK (IzD (tab ch (szs.map (·.1)))))) p1 (.dK (IzD (tab ch (szs.map (·.1)))))) := (sm_new hp0).new hp1
  have g1 : upd (upd H p0 (.dK (IzD (tab ch (szs.map (·.1)))))) p1 (.dK (IzD (tab ch (szs.map (·.1))))) p1 = some (.dK (IzD (tab ch (szs.map (·.1))))) := upd_same
  revert s1 g1
  generalize upd (upd H p0 (.dK (IzD (tab ch (szs.map (·.1)))))) p1 (.dK (IzD (tab ch (szs.map (·.1))))) = H1
  intro s1 g1
  have A1 := A0.same s1
  have B1 := h3.same s1
  -- sides
  refine ⟨_, rfl, b, _, _, rfl, s1 _ _ hb, b, szs, ps, rfl, B1, fun v hbsd hsd => ⟨rfl, _, rfl, ?_⟩⟩
  refine if_via2 (fun σ' H' => ∃ (v3 v4 v5 v6 v7 v8 : Option V) (ch' : Str → Int), σ' = [some (.ref t), some (.ref b), some (.ref p1), v3, v4, v5, v6, v7, v8] ∧ Same H H' ∧ H' p1 = some (.dK (IzD (tab ch' (szs.map (·.1))))) ∧ (∀ x ∈ szs.map (·.1), ((szn szs x : Nat) : Int) ∣ ch' x - ch x) ∧ ((∀ c, ¬ Col ps c) ∨ ∃ c, Col ps c ∧ balC c (szs.map (·.1)) f l ch' = 0)) ?_ (fun e key => ?_) (fun e => ?_)
  rotate_left
  · rcases hsd with ⟨rfl, hno⟩ | ⟨u, a0, a1, s0, s1', rfl, hu, h0, h1', c0, hc0, n0, n1, m0, m1⟩
    · exact absurd e (by decide)
    have hv0 := hbsd.uniq (h4.same s1)
    obtain ⟨huH, h0H⟩ : H u = some (.tup [.ref a0, .ref a1]) ∧ H a0 = some (.tup (s0.map V.str)) := by
      rcases h5 with ⟨e9, _⟩ | ⟨u9, a9, b9, s9, c9, e9, hu9, h09, _⟩
      · rw [← hv0] at e9; cases e9
      · rw [← hv0] at e9
        cases e9
        have q1 := s1 _ _ hu9
        rw [hu] at q1
        cases q1
        have q2 := s1 _ _ h09
        rw [h0] at q2
        exact ⟨hu9, by rw [h09, q2]⟩
    have hbH : BSd H b (.ref u) := by rw [hv0]; exact h4
    -- divisor, factors
    refine ⟨_, rfl, b, _, _, rfl, s1 _ _ hb, b, szs, ps, rfl, B1, fun H2 p2 s2 hp2 => ?_⟩
    refine ⟨p2, rfl, ⟨_, SqT.of hp2⟩, fun L hL => lc_tup (K := K) (a := p2) (xs := (szs.map (·.1)).map V.str) (fun i H' => H' L = some (.lst ((((szs.map (·.1)).take i).map (szn szs)).map fun n => V.int (n : Nat))) ∧ Same H2 H') ⟨upd_same, sm_new hL⟩ (fun i H' _ h => h.2.tup (SqT.of hp2)) ?_ ?_⟩
    · rintro i v H' hi ⟨q1, q2⟩
      obtain ⟨x, hx, rfl⟩ := map_get hi
      have hxr := List.mem_of_getElem? hx
      refine ⟨rfl, _, rfl, _, rfl, (B1.same (s2.trans q2)).rGet O hxr fun H7 s7 => ⟨_, s7 _ _ q1, ?_, ?_, (q2.trans s7).put hL⟩⟩
      · rw [List.length_map, List.length_map, List.length_take, sizeLine_eq]
        omega
      · rw [upd_same, take_snoc hx, List.map_append, List.map_append]
        rfl
    rintro H3 ⟨q3, q4⟩
    rw [List.length_map, List.take_length, szn_mapN O.nd] at q3
    have s3 := s2.trans q4
    refine ⟨L, szs.map (·.2), rfl, SqL.of q3, ?_, ?_, fun H4 dt fp fs s4 hdt hfp hfl hdot => ?_⟩
    · intro n hn
      obtain ⟨q, hq, rfl⟩ := List.mem_map.mp hn
      exact O.pos q hq
    · rw [List.length_map]
      exact O.few
    refine ⟨dt, _, rfl, SqT.of hdt, rfl, _, _, rfl, _, _, rfl, rfl, ?_⟩
    have s14 : Same H1 H4 := s3.trans s4
    have sH4 := s1.trans s14
    -- times
    have hgp := gz_pos O
    rw [gz_N] at hgp
    have hgle : gcdN (szs.map (·.2)) ≤ 1000000 := by
      cases e : szs with
      | nil => exact absurd e O.ne
      | cons p r =>
        have h1 := O.pos p (by rw [e]; exact List.mem_cons_self)
        have h2 : gz szs ∣ ((p.2 : Nat) : Int) := gcd_dvd (List.mem_map.mpr ⟨p, by rw [e]; exact List.mem_cons_self, rfl⟩)
        rw [gz_N, e] at h2
        have h3 := Nat.le_of_dvd (by omega) (Int.natCast_dvd_natCast.mp h2)
        omega
    refine ⟨_, rfl, t, _, _, rfl, sH4 _ _ h1, t, b, szs, ps, f, l, ch, rfl, A0.same sH4, fun bv' sdv hbsd' hbal => ?_⟩
    have esd := (hbsd'.uniq (hbsd.same s14))
    subst esd
    rcases hbal with ⟨e0, _⟩ | ⟨u', a0', a1', s0', c, eu, hu', h0', hc, mc, rfl⟩
    · cases e0
    cases eu
    rw [s14 _ _ hu] at hu'
    cases hu'
    rw [s14 _ _ h0] at h0'
    have es0 : s0.map V.str = s0'.map V.str := HO.tup.inj (Option.some.inj h0')
    have es0' : s0 = s0' := by
      have : Function.Injective V.str := fun a b h => V.str.inj h
      exact (List.map_inj_right (f := V.str) (fun a b h => V.str.inj h)).mp es0
    subst es0'
    have hB := hpos.mod O OT.f OT.l hc
    have hBb : -24000001 ≤ balC c (szs.map (·.1)) f l ch ∧ balC c (szs.map (·.1)) f l ch ≤ 24000001 := bal_bound (fun x hx => by
      have h1 := OT.ch x hx
      have h2 := szn_pos O hx
      omega) hr24
    rw [gz_N] at hB
    generalize hB0 : balC c (szs.map (·.1)) f l ch = BB at *
    refine ⟨_, rfl, _, _, rfl, rfl, ⟨by omega, by omega⟩, ?_⟩
    have htg : (Int.fdiv BB (gcdN (szs.map (·.2)) : Nat)) * (gcdN (szs.map (·.2)) : Nat) = BB := by
      rw [Int.fdiv_eq_ediv_of_nonneg _ (by omega)]
      exact Int.ediv_mul_cancel (Int.dvd_of_emod_eq_zero hB)
    have htb : -24000001 ≤ Int.fdiv BB (gcdN (szs.map (·.2)) : Nat) ∧ Int.fdiv BB (gcdN (szs.map (·.2)) : Nat) ≤ 24000001 := by
      revert htg
      generalize Int.fdiv BB (gcdN (szs.map (·.2)) : Nat) = tm
      intro htg
      have hg1 : (1 : Int) ≤ (gcdN (szs.map (·.2)) : Nat) := by omega
      constructor
      · refine Int.not_lt.mp fun hlt => ?_
        have := Int.mul_le_mul_of_nonneg_right (show tm ≤ -24000002 by omega) (show (0 : Int) ≤ (gcdN (szs.map (·.2)) : Nat) by omega)
        omega
      · refine Int.not_lt.mp fun hlt => ?_
        have := Int.mul_le_mul_of_nonneg_right (show (24000002 : Int) ≤ tm by omega) (show (0 : Int) ≤ (gcdN (szs.map (·.2)) : Nat) by omega)
        omega
    -- the loop
    refine ⟨_, rfl, b, _, _, rfl, sH4 _ _ hb, b, szs, ps, rfl, B1.same s14, fun H5 p5 s5 hp5 => ?_⟩
    refine ⟨_, rfl, p5, fp, _, _, rfl, SqT.of hp5, SqL.of (s5 _ _ hfp), ?_⟩
    have hlen : ((szs.map (·.1)).map V.str).length = (fs.map V.int).length := by
      rw [List.length_map, List.length_map, List.length_map, hfl, List.length_map]
    have s15 := s14.trans s5
    have n51 : p5 ≠ p1 := fun z => by rw [z, s15 _ _ g1] at hp5; cases hp5
    have nfp1 : fp ≠ p1 := fun z => by rw [z, s14 _ _ g1] at hfp; cases hfp
    refine for_it (walk_zipTL hlen) (fun i σ' H' => ∃ (v5 v7 v8 : Option V) (ci : Str → Int), σ' = [some (.ref t), some (.ref b), some (.ref p1), some (.int (gcdN (szs.map (·.2)) : Nat)), some (.ref fp), v5, some (.int (Int.fdiv BB (gcdN (szs.map (·.2)) : Nat))), v7, v8] ∧ Same H H' ∧ (∀ a u, a ≠ p1 → H5 a = some u → H' a = some u) ∧ H' p1 = some (.dK (IzD (tab ci (szs.map (·.1))))) ∧
      (∀ x ∈ szs.map (·.1), ((szn szs x : Nat) : Int) ∣ ci x - ch x) ∧ balC c (szs.map (·.1)) f l ci = BB - Int.fdiv BB (gcdN (szs.map (·.2)) : Nat) * dot (fs.take i) ((szs.map (·.2)).take i)) ?_ ?_ ?_ ?_
    · refine ⟨none, none, none, ch, rfl, s1.trans s15, fun a u _ e => e, s15 _ _ g1, fun x hx => by rw [Int.sub_self]; exact Int.dvd_zero _, ?_⟩
      rw [hB0]
      simp [dot]
    · rintro i σ' H' _ ⟨v5, v7, v8, ci, _, _, hk, _⟩
      exact ⟨SqT.of (hk _ _ n51 hp5), SqL.of (hk _ _ nfp1 (s5 _ _ hfp))⟩
    · rintro i x σ' H' H'' hi ⟨v5, v7, v8, ci, rfl, hs, hk, hp1', hdv, hbl⟩ ⟨T0, x0, y0, rfl, hT, rfl, e1, e2⟩
      obtain ⟨x, hx, rfl⟩ := map_get e1
      obtain ⟨fc, hfc, rfl⟩ := map_get e2
      have hxr := List.mem_of_getElem? hx
      have hxs := szn_pos O hxr
      have sT := hs.new (o := .tup [V.str x, V.int fc]) hT
      have n1T : p1 ≠ T0 := ne_of_none hp1' hT
      refine ⟨T0, _, rfl, SqT.of upd_same, rfl, _, _, rfl, _, _, rfl, rfl, ?_⟩
      -- sign
      refine ⟨_, rfl, _, rfl, b, _, _, rfl, sT _ _ hb, b, szs, ps, rfl, h3.same sT, fun v' hbsd'' _ => ?_⟩
      have ev := hbsd''.uniq (hbH.same sT)
      subst ev
      refine ⟨u, _, (0 : Int), .ref a0, rfl, rfl, SqT.of (sT _ _ huH), rfl, a0, _, rfl, .inr (SqT.of (sT _ _ h0H)), rfl, all_flat _, _, rfl, ?_⟩
      have hin : inV (V.str x) (s0.map V.str) = c x := by
        rw [inV_str]
        cases e : c x with
        | true => exact decide_eq_true ((mc x).mpr ⟨hxr, e⟩)
        | false => exact decide_eq_false (fun z => by rw [((mc x).mp z).2] at e; cases e)
      show if inV (V.str x) (s0.map V.str) = true then _ else _
      rw [hin]
      refine ite_via (fun z Hz => z = .int (sgn c x) ∧ Hz = upd H' T0 (.tup [V.str x, V.int fc])) ?_ (fun e => ⟨by unfold sgn; rw [if_pos e], rfl⟩) (fun e ky => ⟨_, rfl, ky _ _ ⟨by unfold sgn; rw [if_neg (by rw [e]; exact Bool.false_ne_true)], rfl⟩⟩)
      rintro z Hz ⟨rfl, rfl⟩
      have sg : sgn c x = 1 ∨ sgn c x = -1 := by unfold sgn; split <;> simp
      refine ⟨_, rfl, _, rfl, p1, _, rfl, .inl ⟨_, Sum.inr x, .inl (by rw [upd_ne n1T]; exact hp1'), rfl, by rw [izD_val, tab_look _ hxr]; rfl⟩, ?_⟩
      refine ⟨_, rfl, _, rfl, _, _, rfl, rfl, .inl ?_, _, rfl, _, _, rfl, rfl, .inr ?_, _, rfl, _, rfl, (h3.same sT).rGet O hxr fun H7 s7 => ⟨_, _, rfl, rfl, .inr ?_, _, _, rfl, rfl, ?_⟩⟩
      · rcases sg with e | e <;> rw [e] <;> decide
      · constructor <;> omega
      · constructor <;> omega
      have hp7 : H7 p1 = some (.dK (IzD (tab ci (szs.map (·.1))))) := s7 _ _ (by rw [upd_ne n1T]; exact hp1')
      refine ⟨_, DPut.k (k := Sum.inr x) hp7 (by rw [izD_len, tab, List.length_map, sizeLine_eq]; omega), ?_⟩
      have n1T' : T0 ≠ p1 := n1T.symm
      refine ⟨some (.str x), some (.int fc), some (.int (sgn c x)), fup ci x (ci x - sgn c x * fc * Int.fdiv BB (gcdN (szs.map (·.2)) : Nat) * (szn szs x : Nat)), rfl, (sT.trans s7).put n1H, fun a u' na eu => ?_, ?_, fun y hy => ?_, ?_⟩
      · rw [upd_ne na]
        refine s7 _ _ ?_
        have := hk a u' na eu
        rw [upd_ne (ne_of_none this hT)]
        exact this
      · rw [upd_same, ← tab_put _ _ _ _ hxr]
      · unfold fup
        by_cases hyx : y = x
        · subst hyx
          rw [if_pos rfl]
          have h1 := hdv y hy
          have h2 : ((szn szs y : Nat) : Int) ∣ sgn c y * fc * Int.fdiv BB (gcdN (szs.map (·.2)) : Nat) * (szn szs y : Nat) := Int.dvd_mul_left _ _
          have h3 := Int.dvd_sub h1 h2
          have e : ci y - sgn c y * fc * Int.fdiv BB (gcdN (szs.map (·.2)) : Nat) * (szn szs y : Nat) - ch y = ci y - ch y - sgn c y * fc * Int.fdiv BB (gcdN (szs.map (·.2)) : Nat) * (szn szs y : Nat) := by omega
          rw [e]
          exact h3
        · rw [if_neg hyx]
          exact hdv y hy
      · have hns : (szs.map (·.2))[i]? = some (szn szs x) := by
          rw [← szn_mapN O.nd, List.getElem?_map, hx]
          rfl
        have hil : i < fs.length := (List.getElem?_eq_some_iff.mp hfc).1
        rw [bal_up O.nd hxr, hbl, take_snoc hfc, take_snoc hns, dot_snoc (by rw [List.length_take, List.length_take, hfl])]
        have ss1 : sgn c x * sgn c x = 1 := by rcases sg with e | e <;> rw [e] <;> rfl
        generalize Int.fdiv BB (gcdN (szs.map (·.2)) : Nat) = tm
        have e1 : ci x - sgn c x * fc * tm * (szn szs x : Nat) - ci x = -(sgn c x * (fc * tm * (szn szs x : Nat))) := by
          rw [Int.mul_assoc, Int.mul_assoc, Int.mul_assoc fc]
          omega
        rw [e1, Int.mul_neg, ← Int.mul_assoc, ss1, Int.one_mul, Int.mul_add]
        have e2 : fc * tm * (szn szs x : Nat) = tm * (fc * (szn szs x : Nat)) := by
          rw [Int.mul_comm fc, Int.mul_assoc]
        omega
    · rintro σ' H' ⟨v5, v7, v8, ci, rfl, hs, hk, hp1', hdv, hbl⟩
      refine key _ _ ⟨_, _, _, _, _, _, ci, rfl, hs, hp1', hdv, .inr ⟨c, hc, ?_⟩⟩
      rw [hbl]
      have e1 : fs.take ((szs.map (·.1)).map V.str).length = fs := by
        rw [hlen, List.length_map, List.take_length]
      have e2 : (szs.map (·.2)).take ((szs.map (·.1)).map V.str).length = szs.map (·.2) := by
        rw [List.length_map, List.length_map]
        exact List.take_of_length_le (by rw [List.length_map]; exact Nat.le_refl _)
      rw [e1, e2, hdot]
      omega
  · rcases hsd with ⟨rfl, hno⟩ | ⟨u, a0, a1, s0, s1', rfl, hu, h0, h1', c0, hc0, n0, n1, m0, m1⟩
    · exact ⟨none, none, none, none, none, none, ch, rfl, s1, g1, fun x hx => by rw [Int.sub_self]; exact Int.dvd_zero _, .inl hno⟩
    · have e' : (!decide (V.ref u = V.non)) = false := e
      rw [decide_eq_false (fun z => by cases z)] at e'
      cases e'
  -- the sums
  rintro σ' H2 ⟨v3, v4, v5, v6, v7, v8, ch', rfl, s2, g2, hdv, hcol⟩
  have hb2 := s2 _ _ hb
  refine ⟨_, rfl, b, _, _, rfl, hb2, b, szs, ps, rfl, h3.same s2, fun H3 p3 s3 hp3 => ?_⟩
  refine ⟨p3, rfl, ⟨_, SqT.of hp3⟩, fun D hD => dc_it (walk_tup (K := K) (a := p3) (xs := (szs.map (·.1)).map V.str)) (fun i H' => H' D = some (.dK (IzD (tab (fun x => 2 * ch' x + (if x = f then 1 else 0) - (if x = l then 1 else 0)) ((szs.map (·.1)).take i)))) ∧ Same H3 H') ⟨upd_same, sm_new hD⟩ (fun i H' _ h => h.2.tup (SqT.of hp3)) ?_ ?_⟩
  · rintro i v H' H'' hi ⟨q1, q2⟩ ⟨rfl, hv⟩
    obtain ⟨x, hx, rfl⟩ := map_get hv
    have hxr := List.mem_of_getElem? hx
    have sH := s2.trans (s3.trans q2)
    have A' := A0.same sH
    refine ⟨rfl, _, rfl, ?_⟩
    refine ⟨_, rfl, _, rfl, p1, _, rfl, .inl ⟨_, Sum.inr x, .inl (q2 _ _ (s3 _ _ g2)), rfl, by rw [izD_val, tab_look _ hxr]; rfl⟩, _, _, rfl, rfl, .inl ⟨by decide, by decide⟩, ?_⟩
    refine ⟨_, rfl, _, rfl, t, _, _, rfl, sH _ _ h1, t, b, szs, ps, f, l, ch, rfl, A', rfl, .inr ⟨_, rfl, _, _, rfl, rfl, ?_⟩⟩
    refine ⟨_, rfl, _, rfl, t, _, _, rfl, sH _ _ h1, t, b, szs, ps, f, l, ch, rfl, A', rfl, .inr ⟨_, rfl, _, _, rfl, rfl, _, Sum.inr x, rfl, q1, ?_, ?_, q2.put hD⟩⟩
    · rw [izD_len, sizeLine_eq]
      have := tab_take_len (fun x => 2 * ch' x + (if x = f then 1 else 0) - (if x = l then 1 else 0)) (szs.map (·.1)) i
      omega
    · rw [upd_same]
      have e1 : ∀ y : Str, b2i (decide (V.str x = V.str y)) = if x = y then 1 else 0 := fun y => by
        by_cases z : x = y
        · subst z; rw [decide_eq_true rfl, if_pos rfl]; rfl
        · rw [decide_eq_false (fun q => z (V.str.inj q)), if_neg z]; rfl
      show some (HO.dK (putK _ (Sum.inr x) (V.int (2 * ch' x + b2i (decide (V.str x = V.str f)) - b2i (decide (V.str x = V.str l)))))) = _
      rw [e1, e1, izD_put _ (by rw [tab_keys]; exact not_take O.nd hx), tab_snoc _ hx]
  rintro H4 ⟨q1, q2⟩
  rw [List.length_map, List.take_length] at q1
  exact k _ D _ (s2.trans (s3.trans q2)) q1 ((s2.trans s3).free hD) ⟨ch', hdv, fun x => rfl, hcol⟩
end
end Rd
/-! {k: v for ..} whose keys are tuples. The road is that of the layer's rule for keys that are ints or texts. -/
namespace Rd
open PySem PySem.Spec PyProof.Rows L2 Gr
section
variable {X : Cx} {pn : List (Addr × Obj)} {τ : L2.St} {G : Hp} {t : Shared}
theorem setTup {D q : Addr} {es : List (List Key × V)} {ks : List Key} {v : V} {r : Value} {E : Value → Shared → Prop} {R : Unit → Shared → Prop} (room : X.A.units + 1 < cLine) (J : Inv X pn τ G t) (hD : G D = some (.dT es)) (hq : G q = some (.tup (ks.map kV))) (few : es.length < sizeLine)
    (rv : RelV v r) (next : ∀ t', Inv X pn τ (upd G D (.dT (putK es ks v))) t' → R () t') : wpAny (model X.prog X.w) X.A (dictSet D (.ref q) r) R E t := by
  obtain ⟨z, nsys, xs, rel, dd⟩ := dt_of J.hok hD
  have hz : xs.length ≤ sizeLine := by
    rw [← Paired.length rel]
    exact z
  have hl : (putK es ks v).length ≤ sizeLine := by
    have := length_putK es ks v
    omega
  refine wpAny_dictSet_heap (hsz := hz) (show X.A.units < cLine by omega) (key_of J.hok hq) dd fun h' dd' hs => next _ ?_
  obtain ⟨ob, ents, ep, g1, g2, g3, g4, _, g5⟩ := dd'
  refine d_write J (by rw [hD]; exact True.intro) hs ⟨ob, g1⟩ ⟨hl, nsys, _, (rel.put ks hq rv).keeps fun c ys ec => ?_, ob, ents, ep, g1, g2, g3, g4, g5⟩
  rw [upd_ne (ne_of ec hD (fun w => nomatch w))]
  exact ec
/-- what the reading of {k: v for ..} with tuple keys asks; D the new dict -/
def tDcT (it : TI) (g : TG) (ts : TT) (tk tv : TE) (gone : List Nat) : TE := fun τ G Q => it τ G fun J G1 => ∀ D, G1 D = none → ∃ W : Nat → Nat → Hp → Prop, (∃ m, W 0 m (upd G1 D (.dT []))) ∧
  ∀ i m G, W i m G → (J.stop i G ∧ Q (.ref D) G) ∨ (J.go i G ∧ ∃ Nx : Hp → Prop, (∀ G', Nx G' → ∃ m', m' < m ∧ W (i + 1) m' G') ∧ ∀ x G', J.yld i G x G' → g x (wipe τ gone) G' fun τ2 G2 => wipe τ2 gone = wipe τ gone ∧
    ts τ2 G2 fun b G3 => if b = true then tk τ2 G3 fun y G4 => tv τ2 G4 fun z G5 => ∃ (es : List (List Key × V)) (ks : List Key) (q : Addr), y = .ref q ∧ G5 q = some (.tup (ks.map kV)) ∧ G5 D = some (.dT es) ∧ es.length < sizeLine ∧ Nx (upd G5 D (.dT (putK es ks z))) else Nx G3)
section
variable {Q : VK} {kx vx tgt iter : Expr} {ifs : List Expr} {sc : Scope} {own : List (Str × Nat)} {pos pos' : Pos} {ti : TI} {g : TG} {ts : TT} {tk tv : TE} {use : Option (Value → Sem Unit)} {Qf : Value → Shared → Prop}
/-- the context of the block that starts at t0, with these iterators -/
abbrev blkX (X : Cx) (t0 : Shared) (G0 : Hp) (sc : Scope) (cl : List (Str × Addr)) (C : Addr) (its : List Addr) : Cx := X.blk t0 G0 sc (compEnvC sc cl C X.env) its
theorem dcT_core (room : X.A.units + 1 < cLine) (calm : X.calm = true) (nd : X.N.Nodup) (J0 : Inv X pn τ G t) (walk : PI X tgt iter ti) (ok : BlkOk X.N X.env.scope sc own)
    (pTgt : ∀ t0 G0 C cl its, PG (blkX X t0 G0 sc cl C its) tgt g) (pIfs : ∀ t0 G0 C cl its, PTs (blkX X t0 G0 sc cl C its) ifs ts) (pKey : ∀ t0 G0 C cl its, PE (blkX X t0 G0 sc cl C its) kx tk) (pVal : ∀ t0 G0 C cl its, PE (blkX X t0 G0 sc cl C its) vx tv)
    (fold : ∀ x, foldedSetIterable iter X.env x = pure x) (read : tDcT ti g ts tk tv (own.map (·.2)) τ G Q)
    (leave : ∀ D C t' m G', Inv X pn τ G' t' → Q (.ref D) G' → t'.heap.Ns C m → FpOk X pn G' C → compPost (model X.prog X.w) X.A X.xe use Qf (.ref D) C (.ok .next) t') :
    wpAny (model X.prog X.w) X.A (comprehension (.DictComp kx vx [⟨tgt, iter, ifs, 0⟩] sc pos) sc X.env pos' newDict false (eval iter X.env) use) Qf X.xe t := by
  have closed : ∀ y ∈ sc.names, y.2 = .free → ∃ c, X.env.cells.lookup y.1 = some c := by
    intro y hy e
    exact (ok.free y hy e).elim (fun k => J0.ok.has _ (.inl k)) fun k => J0.ok.has _ (.inr k)
  refine wpAny_comprehension_free (use := use) rfl fold (closure_ok closed) ok.kind (fun y hy e => by rw [ok.uniq y hy, e]) (thn (walk.run pn t τ G _ J0 read) fun _ _ begun => thn begun fun _ t2 got => ?_)
  obtain ⟨io, its, tn, JJ, G2, rfl, J2, T, at0, apart, q⟩ := got
  refine wpAny_newObj_type (newEnv_comp ?_)
  obtain ⟨D, hD⟩ : ∃ D, D = t2.heap.objs.size := ⟨_, rfl⟩
  rw [← hD]
  obtain ⟨W, ⟨m0, w0⟩, turn⟩ := q D (J2.hok.fresh (Nat.le_of_eq hD.symm))
  obtain ⟨t3, ht3⟩ : ∃ t3 : Shared, t3 = { t2 with heap := t2.heap.push { cls := .type "dict", data := .dict #[] } } := ⟨_, rfl⟩
  rw [← ht3]
  have heap3 : t3.heap = t2.heap.push { cls := .type "dict", data := .dict #[] } := by rw [ht3]
  have J3 : Inv X pn τ (upd G2 D (.dT [])) t3 := by
    rw [ht3]
    refine J2.laid (t' := t2.toks) (fun b o e => Heap.get?_push_of_some _ e) (Nat.le_of_eq hD.symm) ?_
    rw [hD]
    exact dt_empty t2.heap J2.big
  have apart3 : ∀ b ∈ its, FpOk X pn (upd G2 D (.dT [])) b ∧ b < t3.heap.objs.size := by
    intro b hb
    obtain ⟨o, eb, _⟩ := T.obj _ _ at0 b hb
    have lt := Heap.lt_size eb
    have h1 : upd G2 D (.dT []) b = none := by
      rw [upd_ne (by rw [hD]; exact Nat.ne_of_lt lt)]
      exact (apart b hb).1
    exact ⟨⟨h1, (apart b hb).2⟩, by rw [heap3, Heap.size_push]; exact Nat.lt_succ_of_lt lt⟩
  have at3 : tn 0 t3.heap := T.keep _ _ _ at0 fun b _ o e => by rw [heap3]; exact Heap.get?_push_of_some _ e
  have J4 := block_start J3 ok nd apart3
  obtain ⟨cl, hcl⟩ : ∃ cl, cl = cellsFrom (t3.heap.objs.size + 1) sc.names (cloFrom X.env.cells sc.names []) := ⟨_, rfl⟩
  rw [← hcl] at J4
  obtain ⟨t4, ht4⟩ : ∃ t4 : Shared, t4 = { t3 with heap := pushCells (t3.heap.push { cls := .type "dict", data := .dict #[] }) sc.names } := ⟨_, rfl⟩
  rw [← ht4] at J4
  show codeAny _ _ (.compStart (.DictComp kx vx [⟨tgt, iter, ifs, 0⟩] sc pos) 0 (.ref io) (.ref D) (compEnvC sc (cellsFrom (t3.heap.objs.size + 1) sc.names (cloFrom X.env.cells sc.names [])) t3.heap.objs.size X.env)) (compPost (model X.prog X.w) X.A X.xe use Qf (.ref D) t3.heap.objs.size) { t3 with heap := pushCells (t3.heap.push { cls := .type "dict", data := .dict #[] }) sc.names }
  rw [← hcl, ← ht4]
  have pTgt := pTgt t3 (upd G2 D (.dT [])) t3.heap.objs.size cl its
  have pIfs := pIfs t3 (upd G2 D (.dT [])) t3.heap.objs.size cl its
  have pKey := pKey t3 (upd G2 D (.dT [])) t3.heap.objs.size cl its
  have pVal := pVal t3 (upd G2 D (.dT [])) t3.heap.objs.size cl its
  have at4 : tn 0 t4.heap := T.keep _ _ _ at3 fun b _ o e => by rw [ht4]; exact pushCells_keeps _ _ _ _ (Heap.get?_push_of_some _ e)
  have none3 : ∀ b ∈ its, (upd G2 D (.dT [])) b = none := fun b hb => (apart3 b hb).1.1
  have clear : ∀ {τ' : L2.St} {G' : Hp} {t' : Shared}, Inv (blkX X t3 (upd G2 D (.dT [])) sc cl t3.heap.objs.size its) [] τ' G' t' → (∀ b ∈ its, G' b = none) → ∀ b ∈ its, FpOk (blkX X t3 (upd G2 D (.dT [])) sc cl t3.heap.objs.size its) [] G' b := by
    intro τ' G' t' J' hn b hb
    exact ⟨hn b hb, (J'.ok.exf b hb).1, J'.ok.exfs b hb, .inl hb, fun x c e => (J'.ok.exf b hb).2 x c e, fun p hp => absurd (show p ∈ ([] : List (Addr × Obj)) ++ [] from hp) (by simp)⟩
  have loop : codeAny (model X.prog X.w) X.A (.compLoop (.DictComp kx vx [⟨tgt, iter, ifs, 0⟩] sc pos) 0 (.ref io) (.ref D) (compEnvC sc cl t3.heap.objs.size X.env)) (compPost (model X.prog X.w) X.A X.xe use Qf (.ref D) t3.heap.objs.size) t4 := by
    refine compLoop_anyD (fun n t' => ∃ i G', Inv (blkX X t3 (upd G2 D (.dT [])) sc cl t3.heap.objs.size its) [] (wipe τ (own.map (·.2))) G' t' ∧ tn i t'.heap ∧ (∀ b ∈ its, G' b = none) ∧ W i n G') ?_ m0 ⟨0, _, J4, at4, none3, w0⟩
    rintro n t5 ⟨i, G5, J5, at5, none5, w5⟩
    rcases turn i n G5 w5 with ⟨stop, fin⟩ | ⟨go, Nx, onward, step⟩
    · refine thnF (T.done (blkX X t3 (upd G2 D (.dT [])) sc cl t3.heap.objs.size its) rfl rfl rfl calm i [] t5 _ G5 (fun _ _ => False) J5 (clear J5 none5) at5 stop) fun r t6 ⟨hr, J6⟩ => ?_
      subst hr
      have back : Inv X pn τ G5 t6 := J3.call' (ch := its) J6.os J6.base J6.hok J6.bare fun b hb =>
        let ⟨⟨_, k1, k2, k3, k4, k5⟩, _⟩ := apart3 b hb
        ⟨k3, k1, k4, k5⟩
      obtain ⟨m, hm, _⟩ := J6.loc
      exact leave D t3.heap.objs.size t6 m G5 back fin hm (J3.fpOk (Nat.le_refl _) (show G5 t3.heap.objs.size = none from J6.free))
    · refine thnF (T.item (blkX X t3 (upd G2 D (.dT [])) sc cl t3.heap.objs.size its) rfl rfl rfl calm i [] t5 _ G5 (fun _ _ => False) J5 (clear J5 none5) at5 go) fun r t6 ⟨u, hr, h6⟩ => ?_
      subst hr
      refine thnF h6 fun _ t7 ⟨x, G7, J7, rx, y7, at7, none7⟩ => ?_
      have J7' := J7.pinned (clear J7 none7) (T.obj _ _ at7)
      refine thnF (pTgt.run _ t7 _ G7 x u _ J7' rx (step x G7 y7)) fun _ t8 ⟨τ8, G8, J8, hw, q8⟩ => thnF (pIfs.run _ t8 τ8 G8 _ J8 q8) fun b t9 ⟨G9, J9, q9⟩ => ?_
      have close : ∀ {t' : Shared} {G' : Hp}, Inv (blkX X t3 (upd G2 D (.dT [])) sc cl t3.heap.objs.size its) ([] ++ pinsAt its t7.heap) τ8 G' t' → Nx G' →
          ∃ m, m < n ∧ ∃ i G', Inv (blkX X t3 (upd G2 D (.dT [])) sc cl t3.heap.objs.size its) [] (wipe τ (own.map (·.2))) G' t' ∧ tn i t'.heap ∧ (∀ b ∈ its, G' b = none) ∧ W i m G' := by
        intro t' G' J' nx
        obtain ⟨m', hm, w'⟩ := onward G' nx
        have pinned : ∀ c ∈ its, ∀ o, t7.heap.get? c = some o → t'.heap.get? c = some o ∧ G' c = none := fun c hc o e =>
          have z := J'.pin (c, o) (List.mem_append_right _ (List.mem_append_right _ (mem_pinsAt hc e)))
          ⟨z.1, z.2.1⟩
        have hlen : (wipe τ (own.map (·.2))).length = τ8.length := by rw [← hw, wipe_length]
        refine ⟨m', hm, i + 1, G', (J'.unpinned (pins := [])).weak hlen (fun j v e => ?_), T.keep _ _ _ at7 fun c hc o e => (pinned c hc o e).1, fun c hc => ?_, w'⟩
        · rw [← hw] at e
          exact (wipe_some e).1
        · obtain ⟨o, e, _⟩ := T.obj _ _ at7 c hc
          exact (pinned c hc o e).2
      cases b with
      | false => exact close J9 q9
      | true =>
        refine thnF (pKey.run _ t9 τ8 G9 _ J9 q9) fun kv t10 ⟨yk, G10, J10, rk, q10⟩ => thnF (pVal.run _ t10 τ8 G10 _ J10 q10) fun vv t11 ⟨yv, G11, J11, rv, es, ks, q, ek, hq, hD11, few, nx⟩ => ?_
        subst ek
        obtain rfl : kv = Value.ref q := rk
        exact setTup (X := blkX X t3 (upd G2 D (.dT [])) sc cl t3.heap.objs.size its) room J11 hD11 hq few rv fun t12 J12 => close J12 nx
  exact codeAny_compStart_dict loop (T.self X.A 0 _ _ _ at4 loop)
theorem pe_dcT (room : X.A.units + 1 < cLine) (calm : X.calm = true) (nd : X.N.Nodup) (walk : PI X tgt iter ti) (ok : BlkOk X.N X.env.scope sc own) (pTgt : ∀ t0 G0 C cl its, PG (blkX X t0 G0 sc cl C its) tgt g) (pIfs : ∀ t0 G0 C cl its, PTs (blkX X t0 G0 sc cl C its) ifs ts)
    (pKey : ∀ t0 G0 C cl its, PE (blkX X t0 G0 sc cl C its) kx tk) (pVal : ∀ t0 G0 C cl its, PE (blkX X t0 G0 sc cl C its) vx tv) (fold : ∀ x, foldedSetIterable iter X.env x = pure x := by intro _; rfl) : PE X (.DictComp kx vx [⟨tgt, iter, ifs, 0⟩] sc pos) (tDcT ti g ts tk tv (own.map (·.2))) := by
  refine ⟨fun pn t τ G Q J0 read => ?_⟩
  rw [arm_eval_DictComp]
  refine dcT_core room calm nd J0 walk ok pTgt pIfs pKey pVal fold read fun D C t' m G' J' q hn f => ⟨m, hn, fun _ sb => ?_⟩
  obtain ⟨f0, f1, f2, f3, f4, f5⟩ := f
  exact ⟨.ref D, G', J'.turned (t' := t'.toks) (fun b o hb e => (sb.2 b hb).trans e) f0 f1 f3 f4 f5, rfl, q⟩
theorem ps_setDcT {i : Nat} {y : Str} {py spos : Pos} (room : X.A.units + 1 < cLine) (calm : X.calm = true) (nd : X.N.Nodup) (hy : X.N[i]? = some y) (hyl : X.env.scope.names.lookup y = some .local)
    (swap : swapsWith (.DictComp kx vx [⟨tgt, iter, ifs, 0⟩] sc pos) (some (.Name y py)) spos.line X.env = pure true) (walk : PI X tgt iter ti) (ok : BlkOk X.N X.env.scope sc own) (pTgt : ∀ t0 G0 C cl its, PG (blkX X t0 G0 sc cl C its) tgt g) (pIfs : ∀ t0 G0 C cl its, PTs (blkX X t0 G0 sc cl C its) ifs ts)
    (pKey : ∀ t0 G0 C cl its, PE (blkX X t0 G0 sc cl C its) kx tk) (pVal : ∀ t0 G0 C cl its, PE (blkX X t0 G0 sc cl C its) vx tv) (fold : ∀ x, foldedSetIterable iter X.env x = pure x := by intro _; rfl) : PS X (.Assign [.Name y py] (.DictComp kx vx [⟨tgt, iter, ifs, 0⟩] sc pos) spos) (tAsg (tDcT ti g ts tk tv (own.map (·.2))) (gName i)) := by
  refine ⟨fun pn t τ G Dn J0 read => ?_⟩
  rw [exec_Assign_Name_used _ _ _ _ swap]
  refine wpAny_bind (wpAny_standAt (wpAny_bind ?_))
  show wpAny _ X.A (do let _ ← comprehension (.DictComp kx vx [⟨tgt, iter, ifs, 0⟩] sc pos) sc X.env (firstIterPos [⟨tgt, iter, ifs, 0⟩] pos) newDict false (eval iter X.env) (some (assign (.Name y py) X.env))) _ _ t
  have read' : tDcT ti g ts tk tv (own.map (·.2)) τ G (fun x G1 => gName i x τ G1 Dn.nx) := read
  refine wpAny_bind (thn (dcT_core (Qf := fun _ t' => SP X pn Dn .next t') room calm nd J0 walk ok pTgt pIfs pKey pVal fold read' fun L C t' m G' J' q hn f => ?_) fun _ t' hq => wpAny_pure (wpAny_pure hq))
  show wpAny _ _ (assign (.Name y py) X.env (.ref L)) _ _ _
  refine wpAny_assign_Name (store_ok2 (v := V.ref L) J' nd hy (.inl hyl) rfl (fun t2 J2 ⟨a, sb, ha⟩ => ?_) (.inr hyl))
  obtain ⟨f0, f1, f2, f3, f4, f5⟩ := f
  have haC : C ≠ a := by
    rcases ha with z | z
    · rw [z]
      exact f1
    · exact fun e => f4 y a z e.symm
  exact ⟨m, hn.sameBut sb haC, fun _ sb3 => ⟨_, G', J2.turned (t' := t2.toks) (fun b o hb e => (sb3.2 b hb).trans e) f0 f1 f3 f4 f5, q⟩⟩
/-- .. with an invariant over any walk -/
theorem dcT_it {J : It} {n : Nat} {Gd : Hp → Prop} {Y : Nat → Hp → V → Hp → Prop} (w : Walk J n Gd Y) {gone : List Nat} {G1 : Hp} {D : Addr} {Qd : Hp → Prop} (Pv : Nat → Hp → Prop) (h0 : Pv 0 (upd G1 D (.dT []))) (hG : ∀ i G, i ≤ n → Pv i G → Gd G)
    (hs : ∀ i x G G', i < n → Pv i G → Y i G x G' → g x (wipe τ gone) G' fun τ2 G2 => wipe τ2 gone = wipe τ gone ∧ ts τ2 G2 fun b G3 => if b = true then tk τ2 G3 fun y G4 => tv τ2 G4 fun z G5 =>
      ∃ (es : List (List Key × V)) (ks : List Key) (q : Addr), y = .ref q ∧ G5 q = some (.tup (ks.map kV)) ∧ G5 D = some (.dT es) ∧ es.length < sizeLine ∧ Pv (i + 1) (upd G5 D (.dT (putK es ks z))) else Pv (i + 1) G3) (hd : ∀ G, Pv n G → Qd G) :
    ∃ W : Nat → Nat → Hp → Prop, (∃ m, W 0 m (upd G1 D (.dT []))) ∧ ∀ i m G, W i m G → (J.stop i G ∧ Qd G) ∨ (J.go i G ∧ ∃ Nx : Hp → Prop, (∀ G', Nx G' → ∃ m', m' < m ∧ W (i + 1) m' G') ∧ ∀ x G', J.yld i G x G' → g x (wipe τ gone) G' fun τ2 G2 => wipe τ2 gone = wipe τ gone ∧
      ts τ2 G2 fun b G3 => if b = true then tk τ2 G3 fun y G4 => tv τ2 G4 fun z G5 => ∃ (es : List (List Key × V)) (ks : List Key) (q : Addr), y = .ref q ∧ G5 q = some (.tup (ks.map kV)) ∧ G5 D = some (.dT es) ∧ es.length < sizeLine ∧ Nx (upd G5 D (.dT (putK es ks z))) else Nx G3) := by
  refine ⟨fun i m G => m = n - i ∧ i ≤ n ∧ Pv i G, ⟨n, by simp, Nat.zero_le _, h0⟩, ?_⟩
  rintro i m G ⟨rfl, hi, p⟩
  by_cases lt : i < n
  · exact .inr ⟨w.goes i G lt (hG i G hi p), Pv (i + 1), fun G' p' => ⟨n - (i + 1), by omega, rfl, lt, p'⟩, fun x G' y => hs i x G G' lt p (w.yields i G x G' lt (hG i G hi p) y)⟩
  · have e : i = n := by omega
    subst e
    exact .inl ⟨w.stops G (hG i G hi p), hd G p⟩
end
end
end Rd
/-! tree_values: plain part. -/
namespace Rd
open PySem PySem.Spec PyProof.Rows L2 Gr
theorem backV_tail {α : Type} (xs : List α) : backV xs none (some 0) = (xs.drop 1).reverse := by
  cases xs with
  | nil => rfl
  | cons x ys =>
    have hb : sliceBounds none (some 0) (some (-1)) (x :: ys).length = ((ys.length : Int), 0, -1) := by
      unfold sliceBounds
      simp only [Option.getD_some, List.length_cons]
      have h1 : ¬ ((-1 : Int) > 0) := by decide
      simp only [h1, if_false]
      refine Prod.ext ?_ (Prod.ext ?_ rfl)
      · push_cast; omega
      · simp; omega
    have hr : sliceRange (ys.length : Int) 0 (-1) = (List.range ys.length).map fun k => ys.length - 1 - k + 1 := by
      unfold sliceRange
      have h1 : ¬ ((-1 : Int) > 0) := by decide
      by_cases h : (ys.length : Int) > 0
      · have e : ((ys.length : Int) - 0 - -1 - 1) / (- -1) = (ys.length : Int) := by
          rw [show (- -1 : Int) = 1 by decide, Int.ediv_one]
          omega
        simp only [h1, if_false, h, if_true, e, Int.toNat_natCast]
        apply List.map_congr_left
        intro k hk
        have := List.mem_range.mp hk
        omega
      · have e : ys.length = 0 := by omega
        rw [e]
        simp
    unfold backV
    rw [hb]
    show (sliceRange (ys.length : Int) 0 (-1)).filterMap (fun i => (x :: ys)[i]?) = ys.reverse
    rw [hr, List.filterMap_map]
    have e2 : ((fun i => (x :: ys)[i]?) ∘ fun k => ys.length - 1 - k + 1) = (fun i => ys[i]?) ∘ fun k => ys.length - 1 - k := by
      funext k
      show (x :: ys)[ys.length - 1 - k + 1]? = ys[ys.length - 1 - k]?
      rw [List.getElem?_cons_succ]
    rw [e2, ← List.filterMap_map, PySem.W.krv_range, List.filterMap_reverse]
    have h := PySem.W.krv_all ys.toArray
    simp only [List.size_toArray, List.getElem?_toArray] at h
    rw [h]
/-- the sum of the corridors at x -/
def esum (ps : List (Str × Str)) (v : Str × Str → Int) (x : Str) : Int := (ps.map fun p => if p.1 = x ∨ p.2 = x then v p else 0).sum
def eup (v : Str × Str → Int) (p : Str × Str) (z : Int) : Str × Str → Int := fun q => if q = p then z else v q
theorem sum_upP {α : Type} [DecidableEq α] {l : List α} (nd : l.Nodup) {x : α} (h : x ∈ l) (G G' : α → Int) (hG : ∀ y, y ≠ x → G' y = G y) : (l.map G').sum = (l.map G).sum + (G' x - G x) := by
  induction l with
  | nil => cases h
  | cons y ys ih =>
    obtain ⟨n1, n2⟩ := List.nodup_cons.mp nd
    rw [List.map_cons, List.map_cons, List.sum_cons, List.sum_cons]
    by_cases e : y = x
    · subst e
      have hc : ys.map G' = ys.map G := List.map_congr_left fun z hz => hG z fun q => n1 (q ▸ hz)
      rw [hc]
      omega
    · rw [hG y e, ih n2 ((List.mem_cons.mp h).resolve_left fun q => e q.symm)]
      omega
theorem esum_up {ps : List (Str × Str)} (nd : ps.Nodup) {p : Str × Str} (h : p ∈ ps) (v : Str × Str → Int) (z : Int) (x : Str) : esum ps (eup v p z) x = esum ps v x + (if p.1 = x ∨ p.2 = x then z - v p else 0) := by
  unfold esum
  rw [sum_upP nd h (fun q => if q.1 = x ∨ q.2 = x then v q else 0) (fun q => if q.1 = x ∨ q.2 = x then eup v p z q else 0) (fun q hq => by unfold eup; rw [if_neg hq])]
  have e : eup v p z p = z := by unfold eup; rw [if_pos rfl]
  rw [e]
  split <;> omega
/-- on the way -/
structure TVI (ps : List (Str × Str)) (lv : List (En Str)) (rooms : List Str) (sums left : Str → Int) (v : Str × Str → Int) (dn : List Str) : Prop where
  eq : ∀ x ∈ rooms, esum ps v x + (if x ∈ dn then 0 else left x) = sums x
  tree : ∀ p ∈ ps, v p ≠ 0 → ∃ r b d, r ∈ dn ∧ (r, d + 1, some b) ∈ lv ∧ (p = (r, b) ∨ p = (b, r))
abbrev back (lv : List (En Str)) : List Str := ((lv.map (·.1)).drop 1).reverse
theorem back_get {lv : List (En Str)} {i : Nat} {r : Str} (h : (back lv)[i]? = some r) : ∃ k, k + 2 + i = lv.length ∧ (lv.map (·.1))[k + 1]? = some r := by
  have hl : i < (back lv).length := (List.getElem?_eq_some_iff.mp h).1
  have e : ((lv.map (·.1)).drop 1).length = lv.length - 1 := by rw [List.length_drop, List.length_map]
  rw [List.length_reverse, e] at hl
  unfold back at h
  rw [List.getElem?_reverse (by rw [e]; exact hl), e, List.getElem?_drop] at h
  refine ⟨lv.length - 2 - i, by omega, ?_⟩
  rw [← h]
  congr 1
  omega
theorem back_take {lv : List (En Str)} {i : Nat} {x : Str} (h : x ∈ (back lv).take i) : ∃ m, lv.length < m + 1 + i ∧ (lv.map (·.1))[m]? = some x := by
  obtain ⟨j, hj⟩ := mem_get h
  have hj2 : j < i := by
    have := (List.getElem?_eq_some_iff.mp hj).1
    rw [List.length_take] at this
    omega
  rw [List.getElem?_take, if_pos hj2] at hj
  obtain ⟨k, h1, h2⟩ := back_get hj
  exact ⟨k + 1, by omega, h2⟩
theorem get_one {l : List Str} (nd : l.Nodup) {i j : Nat} {x : Str} (h : l[i]? = some x) (h' : l[j]? = some x) : i = j := by
  obtain ⟨li, gi⟩ := List.getElem?_eq_some_iff.mp h
  obtain ⟨lj, gj⟩ := List.getElem?_eq_some_iff.mp h'
  exact (List.getElem_inj nd).mp (gi.trans gj.symm)
/-- the one at turn i: what hangs below it is done, what it hangs below is not -/
theorem back_turn {ps : List (Str × Str)} {s : Str} {lv : List (En Str)} (L : Lv ps s lv) {i : Nat} {r : Str} (h : (back lv)[i]? = some r) : ∃ d b, (r, d + 1, some b) ∈ lv ∧ Adj ps b r ∧ r ∉ (back lv).take i ∧ b ∉ (back lv).take i ∧ b ≠ r := by
  obtain ⟨k, h1, h2⟩ := back_get h
  rw [List.getElem?_map] at h2
  obtain ⟨⟨r', d, q⟩, h3, e⟩ := Option.map_eq_some_iff.mp h2
  cases e
  obtain ⟨b, dp, qp, j, g1, g2, g3, g4, g5⟩ := L.par k r' d q h3
  subst g3 g4
  have hb : (lv.map (·.1))[j]? = some b := by rw [List.getElem?_map, g2]; rfl
  have hr : (lv.map (·.1))[k + 1]? = some r' := by rw [List.getElem?_map, h3]; rfl
  refine ⟨dp, b, List.mem_of_getElem? h3, g5, fun hm => ?_, fun hm => ?_, fun e => ?_⟩
  · obtain ⟨m, m1, m2⟩ := back_take hm
    have := get_one L.nd hr m2
    omega
  · obtain ⟨m, m1, m2⟩ := back_take hm
    have := get_one L.nd hb m2
    omega
  · rw [e] at hb
    have := get_one L.nd hb hr
    omega
theorem mem_snoc {l : List Str} {i : Nat} {r x : Str} (h : l[i]? = some r) : x ∈ l.take (i + 1) ↔ x ∈ l.take i ∨ x = r := by
  rw [take_snoc h, List.mem_append, List.mem_singleton]
theorem TVI.step {ps : List (Str × Str)} {s : Str} {lv : List (En Str)} {rooms : List Str} {sums left : Str → Int} {v : Str × Str → Int} (L : Lv ps s lv) (nd : ps.Nodup) {i : Nat} (I : TVI ps lv rooms sums left v ((back lv).take i)) {r b : Str} {d : Nat} (h : (back lv)[i]? = some r)
    (hm : (r, d + 1, some b) ∈ lv) {p : Str × Str} (hp : p ∈ ps) (hpe : p = (r, b) ∨ p = (b, r)) : TVI ps lv rooms sums (fup left b (left b - left r)) (eup v p (left r)) ((back lv).take (i + 1)) := by
  obtain ⟨d', b', q1, _, q3, q4, q5⟩ := back_turn L h
  have eb : b' = b := by
    have := (en_one L.nd q1 hm).2
    cases this
    rfl
  subst eb
  have hv : v p = 0 := by
    by_cases z : v p = 0
    · exact z
    · obtain ⟨r2, b2, d2, e1, e2, e3⟩ := I.tree p hp z
      exfalso
      rcases hpe with e | e <;> rw [e] at e3 <;> rcases e3 with e3 | e3 <;> cases e3
      · exact q3 e1
      · exact q4 e1
      · exact q4 e1
      · exact q3 e1
  refine ⟨fun x hx => ?_, fun q hq hq0 => ?_⟩
  · have h0 := I.eq x hx
    rw [esum_up nd hp, hv]
    have ends : (p.1 = x ∨ p.2 = x) ↔ (x = r ∨ x = b') := by
      rcases hpe with e | e <;> rw [e]
      · exact ⟨fun h => h.elim (fun h => .inl h.symm) fun h => .inr h.symm, fun h => h.elim (fun h => .inl h.symm) fun h => .inr h.symm⟩
      · exact ⟨fun h => h.elim (fun h => .inr h.symm) fun h => .inl h.symm, fun h => h.elim (fun h => .inr h.symm) fun h => .inl h.symm⟩
    by_cases hxr : x = r
    · subst hxr
      rw [if_pos (ends.mpr (.inl rfl)), if_pos ((mem_snoc h).mpr (.inr rfl))]
      rw [if_neg q3] at h0
      omega
    · by_cases hxb : x = b'
      · subst hxb
        have n : x ∉ (back lv).take (i + 1) := fun z => ((mem_snoc h).mp z).elim q4 hxr
        rw [if_pos (ends.mpr (.inr rfl)), if_neg n]
        rw [if_neg q4] at h0
        unfold fup
        rw [if_pos rfl]
        omega
      · rw [if_neg (fun z => (ends.mp z).elim hxr hxb)]
        unfold fup
        rw [if_neg hxb]
        by_cases hd : x ∈ (back lv).take i
        · rw [if_pos ((mem_snoc h).mpr (.inl hd))]
          rw [if_pos hd] at h0
          omega
        · rw [if_neg (fun z => ((mem_snoc h).mp z).elim hd hxr)]
          rw [if_neg hd] at h0
          omega
  · by_cases e : q = p
    · exact ⟨r, b', d, (mem_snoc h).mpr (.inr rfl), hm, by rw [e]; exact hpe⟩
    · have hq1 : v q ≠ 0 := by
        unfold eup at hq0
        rwa [if_neg e] at hq0
      obtain ⟨r2, b2, d2, e1, e2, e3⟩ := I.tree q hq hq1
      exact ⟨r2, b2, d2, (mem_snoc h).mpr (.inl e1), e2, e3⟩
/-- what tree_values gives -/
structure TV (ps : List (Str × Str)) (lv : List (En Str)) (rooms : List Str) (root : Str) (sums : Str → Int) (v : Str × Str → Int) (rest : Int) : Prop where
  eq : ∀ x ∈ rooms, esum ps v x = sums x - (if x = root then rest else 0)
  tree : ∀ p ∈ ps, v p ≠ 0 → ∃ r b d, (r, d + 1, some b) ∈ lv ∧ (p = (r, b) ∨ p = (b, r))
theorem TVI.stop {ps : List (Str × Str)} {s : Str} {lv : List (En Str)} {rooms : List Str} {sums left : Str → Int} {v : Str × Str → Int} (L : Lv ps s lv) (I : TVI ps lv rooms sums left v (back lv)) (hall : ∀ x ∈ rooms, x ∈ lv.map (·.1)) : TV ps lv rooms s sums v (left s) := by
  obtain ⟨r, hlv⟩ : ∃ r, lv.map (·.1) = s :: r := by
    have h := L.head
    cases e : lv with
    | nil => rw [e] at h; cases h
    | cons a r =>
      rw [e] at h
      cases h
      exact ⟨_, rfl⟩
  have hs : s ∉ back lv := fun hm => by
    unfold back at hm
    rw [hlv] at hm
    have hn := L.nd
    rw [hlv] at hn
    exact (List.nodup_cons.mp hn).1 (List.mem_reverse.mp hm)
  refine ⟨fun x hx => ?_, fun p hp h => let ⟨r, b, d, _, h2, h3⟩ := I.tree p hp h; ⟨r, b, d, h2, h3⟩⟩
  have h0 := I.eq x hx
  by_cases e : x = s
  · subst e
    rw [if_neg hs] at h0
    rw [if_pos rfl]
    omega
  · have hm : x ∈ back lv := by
      have := hall x hx
      unfold back
      rw [hlv] at this ⊢
      exact List.mem_reverse.mpr ((List.mem_cons.mp this).resolve_left e)
    rw [if_pos hm] at h0
    rw [if_neg e]
    omega
theorem TVI.start {ps : List (Str × Str)} {lv : List (En Str)} {rooms : List Str} {sums : Str → Int} : TVI ps lv rooms sums sums (fun _ => 0) [] := by
  refine ⟨fun x _ => ?_, fun p _ h => absurd rfl h⟩
  have e : esum ps (fun _ => 0) x = 0 := by
    unfold esum
    have : (ps.map fun p => if p.1 = x ∨ p.2 = x then (0 : Int) else 0) = ps.map fun _ => 0 := List.map_congr_left fun p _ => by split <;> rfl
    rw [this]
    clear this
    induction ps with
    | nil => rfl
    | cons p ps ih => rw [List.map_cons, List.sum_cons, ih]; rfl
  rw [e, if_neg List.not_mem_nil]
  omega
/-- the corridors' values, as a dict -/
def kP (p : Str × Str) : List Key := [Sum.inr p.1, Sum.inr p.2]
def EzD (ps : List (Str × Str)) (v : Str × Str → Int) : List (List Key × V) := ps.map fun p => (kP p, V.int (v p))
theorem kP_inj {p q : Str × Str} (h : kP p = kP q) : p = q := by
  unfold kP at h
  injection h with h1 h2
  injection h2 with h2 _
  exact Prod.ext (Sum.inr.inj h1) (Sum.inr.inj h2)
theorem ezD_val (ps : List (Str × Str)) (v : Str × Str → Int) (p : Str × Str) : valV (EzD ps v) (kP p) = if p ∈ ps then some (V.int (v p)) else none := by
  induction ps with
  | nil => rw [if_neg List.not_mem_nil]; rfl
  | cons q ps ih =>
    show valV ((kP q, V.int (v q)) :: EzD ps v) (kP p) = _
    by_cases h : q = p
    · subst h
      rw [valV_pos rfl, if_pos List.mem_cons_self]
    · rw [valV_neg (fun z => h (kP_inj z)), ih]
      by_cases h2 : p ∈ ps
      · rw [if_pos h2, if_pos (List.mem_cons_of_mem _ h2)]
      · rw [if_neg h2, if_neg (fun z => (List.mem_cons.mp z).elim (fun e => h e.symm) h2)]
theorem ezD_new {ps : List (Str × Str)} {v : Str × Str → Int} {p : Str × Str} (h : p ∉ ps) : putK (EzD ps v) (kP p) (V.int (v p)) = EzD (ps ++ [p]) v := by
  rw [putK_new _ (by rw [ezD_val, if_neg h])]
  unfold EzD
  rw [List.map_append]
  rfl
theorem ezD_put {ps : List (Str × Str)} {v : Str × Str → Int} {p : Str × Str} (z : Int) (h : p ∈ ps) : putK (EzD ps v) (kP p) (V.int z) = EzD ps (eup v p z) := by
  unfold putK
  rw [valV_any, ezD_val, if_pos h, if_pos (by rfl)]
  unfold EzD
  rw [List.map_map]
  refine List.map_congr_left fun q hq => ?_
  show (if kP q = kP p then (kP q, V.int z) else (kP q, V.int (v q))) = (kP q, V.int (eup v p z q))
  unfold eup
  by_cases e : q = p
  · subst e
    rw [if_pos rfl, if_pos rfl]
  · rw [if_neg (fun w => e (kP_inj w)), if_neg e]
end Rd
/-! tree_values. -/
namespace Rd
open PySem PySem.Spec PyProof.Rows L2 Gr
theorem ltS_asym {x y : Str} (h : ltS x y = true) : ltS y x = false := by
  cases e : ltS y x with
  | false => rfl
  | true =>
    have h1 : x.cps.toList < y.cps.toList := of_decide_eq_true h
    have h2 : y.cps.toList < x.cps.toList := of_decide_eq_true e
    exact absurd (List.lt_trans h1 h2) (List.lt_irrefl _)
theorem minmax_of {x y : Str} {p : Str × Str} (hp : ltS p.1 p.2 = true) (h : p = (x, y) ∨ p = (y, x)) : (if ltS y x then y else x) = p.1 ∧ (if ltS x y then y else x) = p.2 := by
  rcases h with e | e
  · rw [e] at hp ⊢
    have hp' : ltS x y = true := hp
    have := ltS_asym hp'
    rw [this, hp']
    exact ⟨rfl, rfl⟩
  · rw [e] at hp ⊢
    have hp' : ltS y x = true := hp
    have := ltS_asym hp'
    rw [this, hp']
    exact ⟨rfl, rfl⟩
def spTree (K : PySem.W.Frag) : Sp := fun vs H Q _ => ∃ (b f sm : Addr) (szs : List (Str × Nat)) (ps : List (Str × Str)) (s : Str) (r : List Str) (lv : List (En Str)) (w : Str → Int), vs = [.ref b, .ref f, .ref sm] ∧ BAt K H b szs ps ∧ BOk szs ps ∧ szs.map (·.1) = s :: r ∧ LvAt K H f lv ∧ Lv ps s lv ∧ H sm = some (.dK (IzD (tab w (szs.map (·.1))))) ∧
  ∀ H' t D v rest, Same H H' → H' t = some (.tup [.ref D, .int rest]) → H' D = some (.dT (EzD ps v)) → H D = none → TV ps lv (szs.map (·.1)) s w v rest → Q (.ref t) H'
-- slots of tree_values: 0 building 1 levels 2 sums 3 found 4 corridor 5 left 6 room 7 before
theorem sc_tree_values : FnScope ["building", "levels", "sums", "found", "corridor", "left", "room", "before"] ["building", "levels", "sums"] (defScope s_tree_values) := ⟨rfl, rfl, rfl, by decide +kernel, rfl, by decide +kernel, by decide +kernel⟩
section
variable {P : Program} {w : World} {K : PySem.W.Frag} {mg : Str → Option Value} {base : Heap}
theorem ca_tree_values (T : Wd K mg base) : Ca P w K mg base 5 "tree_values" (spTree K) [] := by
  obtain ⟨fd, F⟩ := T.L.F_tree_values
  refine ca_of F T.g_tree_values (F.binds (ps := ["building", "levels", "sums"]) fun _ _ _ _ _ _ us hl => match us, hl with | [_, _, _], _ => rfl) sc_tree_values (fun vs H Q E ⟨_, _, _, _, _, _, _, _, _, e, _⟩ => by rw [e]; rfl) ?_
  rintro cdv A outer s0 H vs Q E hr ⟨b, f, sm, szs, ps, s, r, lv, wt, rfl, B, O, hrm, ⟨kvs, hf, hl⟩, L, hsm, k⟩
  obtain ⟨bdx, bd, bc, nr, sd, rg, br, hb, _⟩ := id B.ex
  refine ⟨_, (pss_cons (ps_setDcT (i := 3) (own := [("corridor", 4)]) (g := gName 4) (hu_of hr) rfl sc_tree_values.nd rfl rfl (sw_dc rfl rfl rfl (by decide +kernel)) (pi_tup (pe_pr (pr_Building_corridors T) hr (by decide) (pv 0))) (blkOk_by (own := [("corridor", 4)]) (N := ["building", "levels", "sums", "found", "corridor", "left", "room", "before"]) (sc := defScope s_tree_values) (by decide +kernel)) (fun _ _ _ _ _ => (pg_name (i := 4) sc_tree_values.nd rfl (Or.inl rfl))) (fun _ _ _ _ _ => pts_nil) (fun _ _ _ _ _ => (pv 4)) (fun _ _ _ _ _ => pe_int)) (pss_cons (ps_set (i := 5) sc_tree_values.nd rfl (Or.inl rfl) (pe_callTy (call_dictD) (by rfl) T.f_dict (by decide +kernel) (pa_cons (pv 2) pa_nil))) (pss_cons (ps_for PassesOwn.never rfl (pi_list (pe_stepL (pe_callTy (call_listD rfl) (by rfl) T.f_list (by decide +kernel) (pa_cons (pv 1) pa_nil)) po_none (po_some pe_int))) (pg_name (i := 6) sc_tree_values.nd rfl (Or.inl rfl)) (pss_cons (ps_set (i := 7) sc_tree_values.nd rfl (Or.inl rfl) (pe_ix ix_tup (pe_dget (hu_of hr) (pv 1) (pv 6) (fun _ _ => rfl)) pe_int (fun _ _ => rfl))) (pss_cons (ps_dput (hu_of hr) (pv 3) (pe_tup (pa_cons (pe_callB (call_minS2 rfl) (by rfl) T.f_min (by decide +kernel) (pa_cons (pv 6) (pa_cons (pv 7) pa_nil))) (pa_cons (pe_callB (call_maxS2 rfl) (by rfl) T.f_max (by decide +kernel) (pa_cons (pv 6) (pa_cons (pv 7) pa_nil))) pa_nil))) (pe_dget (hu_of hr) (pv 5) (pv 6) (fun _ _ => rfl)) rfl) (pss_one (ps_daug (hu_of hr) (pv 5) (pv 7) (pe_dget (hu_of hr) (pv 5) (pv 6) (fun _ _ => rfl)) in_sub (fun _ _ _ => rfl)))))) (pss_one (ps_ret (pe_tup (pa_cons (pv 3) (pa_cons (pe_dget (hu_of hr) (pv 5) (pe_ix ix_tup (pe_pr (pr_Building_rooms T) hr (by decide) (pv 0)) pe_int (fun _ _ => rfl)) (fun _ _ => rfl)) pa_nil)))))))), ?_⟩
  -- found
  refine ⟨_, rfl, b, _, _, rfl, hb, b, szs, ps, rfl, B, fun H1 p1 xs s1 hp1 hxs => ?_⟩
  have el : xs.length = ps.length := hxs.len
  refine ⟨p1, rfl, ⟨_, SqT.of hp1⟩, fun D hD => dcT_it (walk_tup (K := K) (a := p1) (xs := xs)) (fun i H' => H' D = some (.dT (EzD (ps.take i) fun _ => 0)) ∧ Same H1 H') ⟨upd_same, sm_new hD⟩ (fun i H' _ h => h.2.tup (SqT.of hp1)) ?_ ?_⟩
  · rintro i v H' H'' hi ⟨g1, g2⟩ ⟨rfl, hv⟩
    obtain ⟨p, u, hp, rfl, hu⟩ := hxs.get hv
    refine ⟨rfl, _, rfl, _, kP p, u, rfl, g2 _ _ hu, g1, ?_, ?_, g2.put hD⟩
    · have := O.fewP
      have h2 : (EzD (ps.take i) fun _ => 0).length ≤ ps.length := by unfold EzD; rw [List.length_map, List.length_take]; exact Nat.min_le_right _ _
      rw [sizeLine_eq]
      omega
    · have hn : p ∉ ps.take i := not_take O.ndP hp
      rw [upd_same, ezD_new (v := fun _ => 0) hn, take_snoc hp]
  rintro H2 ⟨g1, g2⟩
  rw [el, List.take_length] at g1
  have hDH : H D = none := s1.free hD
  have s2 : Same H H2 := s1.trans g2
  -- left
  refine ⟨_, rfl, sm, _, rfl, .inl (s2 _ _ hsm), fun Ld hLd => ?_⟩
  have nDL : D ≠ Ld := ne_of_none g1 hLd
  have hLH : H Ld = none := s2.free hLd
  have s3 : Same H (upd H2 Ld (.dK (IzD (tab wt (szs.map (·.1)))))) := s2.new hLd
  have g1' : upd H2 Ld (.dK (IzD (tab wt (szs.map (·.1))))) D = some (.dT (EzD ps fun _ => 0)) := by rw [upd_ne nDL]; exact g1
  have gL : upd H2 Ld (.dK (IzD (tab wt (szs.map (·.1))))) Ld = some (.dK (IzD (tab wt (szs.map (·.1))))) := upd_same
  revert s3 g1' gL
  generalize upd H2 Ld (.dK (IzD (tab wt (szs.map (·.1))))) = H3
  intro s3 g1' gL
  -- the rooms, from behind
  refine ⟨_, rfl, f, kvs, rfl, .inl (s3 _ _ hf), fun q1 hq1 => ?_⟩
  refine ⟨_, rfl, q1, _, rfl, SqL.of upd_same, fun q2 hq2 => ?_⟩
  have n12 : q1 ≠ q2 := fun z => by rw [← z, upd_same] at hq2; cases hq2
  have ekv : (kvs.map fun kv => kV kv.1) = (lv.map (·.1)).map V.str := by
    have := congrArg (List.map kV) hl.keys
    rw [List.map_map, List.map_map] at this
    exact this
  have ebk : backV (kvs.map fun kv => kV kv.1) none (some 0) = (back lv).map V.str := by
    rw [backV_tail, ekv, ← List.map_drop, ← List.map_reverse]
  have s5 : Same H3 (upd (upd H3 q1 (.lst (kvs.map fun kv => kV kv.1))) q2 (.lst (backV (kvs.map fun kv => kV kv.1) none (some 0)))) := (sm_new hq1).trans (sm_new hq2)
  have gq : upd (upd H3 q1 (.lst (kvs.map fun kv => kV kv.1))) q2 (.lst (backV (kvs.map fun kv => kV kv.1) none (some 0))) q2 = some (.lst ((back lv).map V.str)) := by rw [upd_same, ebk]
  have hq2H : H3 q2 = none := by rwa [upd_ne n12.symm] at hq2
  revert s5 gq
  generalize upd (upd H3 q1 (.lst (kvs.map fun kv => kV kv.1))) q2 (.lst (backV (kvs.map fun kv => kV kv.1) none (some 0))) = H5
  intro s5 gq
  have nq2D : q2 ≠ D := fun z => by rw [z] at hq2H; rw [hq2H] at g1'; cases g1'
  have nq2L : q2 ≠ Ld := fun z => by rw [z] at hq2H; rw [hq2H] at gL; cases gL
  have hall : ∀ x ∈ szs.map (·.1), x ∈ lv.map (·.1) := fun x hx => by
    obtain ⟨d, q, h⟩ := L.all (O.cn s (by rw [hrm]; exact List.mem_cons_self) x hx)
    exact List.mem_map.mpr ⟨_, h, rfl⟩
  refine ⟨q2, rfl, ⟨_, SqL.of gq⟩, for_list (K := K) (a := q2) (xs := (back lv).map V.str) (fun i σ H' => ∃ (left : Str → Int) (v : Str × Str → Int) (a1 a2 a3 : Option V), σ = [some (.ref b), some (.ref f), some (.ref sm), some (.ref D), a1, some (.ref Ld), a2, a3] ∧ Same H H' ∧ H' q2 = some (.lst ((back lv).map V.str)) ∧
    H' D = some (.dT (EzD ps v)) ∧ H' Ld = some (.dK (IzD (tab left (szs.map (·.1))))) ∧ TVI ps lv (szs.map (·.1)) wt left v ((back lv).take i)) ⟨wt, fun _ => 0, none, none, none, rfl, s3.trans s5, gq, s5 _ _ g1', s5 _ _ gL, TVI.start⟩ (fun i σ H' _ ⟨_, _, _, _, _, _, _, h, _⟩ => SqL.of h) ?_ ?_⟩
  · rintro i v0 σ H' hi ⟨left, v, a1, a2, a3, rfl, ss, hq', hD', hL', I⟩
    obtain ⟨x, hx, rfl⟩ := map_get hi
    obtain ⟨d, p0, m1, hadj, n1, n2, n3⟩ := back_turn L hx
    obtain ⟨t1, e1, e2⟩ := (hl.same ss).val L.nd m1
    obtain ⟨p, hp, hpe⟩ : ∃ p, p ∈ ps ∧ (p = (x, p0) ∨ p = (p0, x)) := hadj.elim (fun h => ⟨_, h, .inr rfl⟩) fun h => ⟨_, h, .inl rfl⟩
    have hxr : x ∈ szs.map (·.1) := by
      have := O.ends p hp
      rcases hpe with e | e <;> rw [e] at this
      · exact this.1
      · exact this.2
    have hpr : p0 ∈ szs.map (·.1) := by
      have := O.ends p hp
      rcases hpe with e | e <;> rw [e] at this
      · exact this.2
      · exact this.1
    obtain ⟨mm1, mm2⟩ := minmax_of (O.ord p hp) hpe
    -- before
    refine ⟨_, rfl, _, rfl, f, _, rfl, .inl ⟨kvs, Sum.inr x, .inl (ss _ _ hf), rfl, e1.symm⟩, t1, _, (1 : Int), .str p0, rfl, rfl, e2, rfl, ?_⟩
    -- found[..] = left[room]
    refine ⟨_, rfl, _, rfl, Ld, _, rfl, .inl ⟨_, Sum.inr x, .inl hL', rfl, by rw [izD_val, tab_look _ hxr]; rfl⟩, ?_⟩
    refine ⟨_, rfl, ?_⟩
    refine ⟨_, rfl, _, rfl, x, p0, rfl, _, rfl, _, rfl, x, p0, rfl, Nat.le_of_ble_eq_true rfl, fun u hu => ?_⟩
    rw [mm1, mm2]
    have nDu : D ≠ u := ne_of_none hD' hu
    have nLu : Ld ≠ u := ne_of_none hL' hu
    have nqu : q2 ≠ u := ne_of_none hq' hu
    refine ⟨D, _, rfl, DPut.t (k := kP p) (by rw [upd_ne nDu]; exact hD') upd_same ?_, ?_⟩
    · have := O.fewP
      unfold EzD
      rw [List.length_map, sizeLine_eq]
      omega
    rw [ezD_put _ hp]
    have nLD : Ld ≠ D := nDL.symm
    -- left[before] -= left[room]
    refine ⟨_, rfl, _, rfl, Ld, _, rfl, .inl ⟨_, Sum.inr p0, .inl (by rw [upd_ne nLD, upd_ne nLu]; exact hL'), rfl, by rw [izD_val, tab_look _ hpr]; rfl⟩, ?_⟩
    refine ⟨_, rfl, _, rfl, Ld, _, rfl, .inl ⟨_, Sum.inr x, .inl (by rw [upd_ne nLD, upd_ne nLu]; exact hL'), rfl, by rw [izD_val, tab_look _ hxr]; rfl⟩, _, _, rfl, rfl, _, DPut.k (k := Sum.inr p0) (by rw [upd_ne nLD, upd_ne nLu]; exact hL') ?_, ?_⟩
    · have : (szs.map (·.1)).length ≤ 24 := by rw [List.length_map]; exact O.few
      rw [izD_len, tab, List.length_map, sizeLine_eq]
      omega
    refine ⟨fup left p0 (left p0 - left x), eup v p (left x), _, _, _, rfl, (((ss.new hu).put hDH).put hLH), ?_, ?_, ?_, I.step L O.ndP hx m1 hp hpe⟩
    · rw [upd_ne nq2L, upd_ne nq2D, upd_ne nqu]
      exact hq'
    · rw [upd_ne nDL, upd_same]
    · rw [upd_same, ← tab_put _ _ _ _ hpr]
  · rintro σ H' ⟨left, v, a1, a2, a3, rfl, ss, hq', hD', hL', I⟩
    rw [List.length_map, List.take_length] at I
    have hsr : s ∈ szs.map (·.1) := by rw [hrm]; exact List.mem_cons_self
    refine ⟨_, rfl, _, rfl, _, rfl, b, _, _, rfl, ss _ _ hb, b, szs, ps, rfl, B.same ss, fun H6 p6 s6 hp6 => ?_⟩
    refine ⟨p6, _, (0 : Int), .str s, rfl, rfl, SqT.of hp6, by rw [hrm]; exact atI_nat (j := 0) rfl, Ld, _, rfl, .inl ⟨_, Sum.inr s, .inl (s6 _ _ hL'), rfl, by rw [izD_val, tab_look _ hsr]; rfl⟩, Nat.le_of_ble_eq_true rfl, fun u hu => ?_⟩
    have nDu : D ≠ u := ne_of_none (s6 _ _ hD') hu
    exact k _ u D v (left s) ((ss.trans s6).new hu) upd_same (by rw [upd_ne nDu]; exact s6 _ _ hD') hDH (I.stop L hall)
end
end Rd
/-! solution. -/
namespace Rd
open PySem PySem.Spec PyProof.Rows L2 Gr
theorem sum_add {α : Type} (l : List α) (f g : α → Int) : (l.map fun x => f x + g x).sum = (l.map f).sum + (l.map g).sum := by
  induction l with
  | nil => rfl
  | cons x l ih => rw [List.map_cons, List.map_cons, List.map_cons, List.sum_cons, List.sum_cons, List.sum_cons, ih]; omega
theorem sum_smul {α : Type} (c : Int) (l : List α) (f : α → Int) : (l.map fun x => c * f x).sum = c * (l.map f).sum := by
  induction l with
  | nil => simp
  | cons x l ih => rw [List.map_cons, List.map_cons, List.sum_cons, List.sum_cons, ih, Int.mul_add]
theorem sum_zero {α : Type} (l : List α) : (l.map fun _ => (0 : Int)).sum = 0 := by
  induction l with
  | nil => rfl
  | cons x l ih => rw [List.map_cons, List.sum_cons, ih]; rfl
theorem sum_at {l : List Str} (nd : l.Nodup) {x : Str} (h : x ∈ l) (a : Str → Int) : (l.map fun y => if y = x then a y else 0).sum = a x := by
  rw [sum_upP nd h (fun _ => 0) (fun y => if y = x then a y else 0) (fun y hy => if_neg hy), sum_zero, if_pos rfl]
  omega
/-- sums at rooms are sums over corridors -/
theorem sum_swap {rooms : List Str} (nd : rooms.Nodup) (a : Str → Int) (v : Str × Str → Int) : ∀ {ps : List (Str × Str)}, (∀ p ∈ ps, p.1 ∈ rooms ∧ p.2 ∈ rooms ∧ p.1 ≠ p.2) → (rooms.map fun x => a x * esum ps v x).sum = (ps.map fun p => v p * (a p.1 + a p.2)).sum
  | [], _ => by
    have : (rooms.map fun x => a x * esum [] v x) = rooms.map fun _ => 0 := List.map_congr_left fun x _ => by simp [esum]
    rw [this, sum_zero]
    rfl
  | p :: ps, h => by
    obtain ⟨h1, h2, h3⟩ := h p List.mem_cons_self
    have e : (rooms.map fun x => a x * esum (p :: ps) v x) = rooms.map fun x => (v p * (if x = p.1 then a x else 0) + v p * (if x = p.2 then a x else 0)) + a x * esum ps v x := List.map_congr_left fun x _ => by
      have e1 : esum (p :: ps) v x = (if p.1 = x ∨ p.2 = x then v p else 0) + esum ps v x := by
        unfold esum
        rw [List.map_cons, List.sum_cons]
      rw [e1, Int.mul_add]
      congr 1
      by_cases q1 : x = p.1
      · have q2 : ¬ x = p.2 := fun z => h3 (q1.symm.trans z)
        rw [if_pos (.inl q1.symm), if_pos q1, if_neg q2, Int.mul_comm]
        simp
      · by_cases q2 : x = p.2
        · rw [if_pos (.inr q2.symm), if_neg q1, if_pos q2, Int.mul_comm]
          simp
        · rw [if_neg (fun z => z.elim (fun z => q1 z.symm) fun z => q2 z.symm), if_neg q1, if_neg q2]
          simp
    rw [e, sum_add, sum_add, sum_smul, sum_smul, sum_at nd h1 a, sum_at nd h2 a, sum_swap nd a v (fun q hq => h q (List.mem_cons_of_mem _ hq)), List.map_cons, List.sum_cons, Int.mul_add]
/-- the sign of a level -/
def sg (lv : List (En Str)) (x : Str) : Int := if depth lv x % 2 = 0 then 1 else -1
theorem sg_step {ps : List (Str × Str)} {s : Str} {lv : List (En Str)} (L : Lv ps s lv) {r b : Str} {d : Nat} (h : (r, d + 1, some b) ∈ lv) : sg lv r + sg lv b = 0 := by
  rcases L.parent h with ⟨e, _⟩ | ⟨p, dp, qp, h1, h2, h3, _⟩
  · omega
  · cases h2
    unfold sg
    rw [L.dep h, L.dep h1, h3]
    split <;> split <;> omega
theorem sum_map_zero {α : Type} {l : List α} {f : α → Int} (h : ∀ x ∈ l, f x = 0) : (l.map f).sum = 0 := by
  rw [List.map_congr_left (g := fun _ => (0 : Int)) h, sum_zero]
structure EndsOk (rooms : List Str) (ps : List (Str × Str)) : Prop where
  nd : rooms.Nodup
  e : ∀ p ∈ ps, p.1 ∈ rooms ∧ p.2 ∈ rooms ∧ p.1 ≠ p.2
theorem BOk.eo {szs : List (Str × Nat)} {ps : List (Str × Str)} (O : BOk szs ps) : EndsOk (szs.map (·.1)) ps := ⟨O.nd, fun p hp => ⟨(O.ends p hp).1, (O.ends p hp).2, fun e => by
  have := O.ord p hp
  rw [← e] at this
  exact ltS_irr _ this⟩⟩
/-- the rest is the signed sum -/
theorem TV.rest {ps : List (Str × Str)} {s : Str} {lv : List (En Str)} {rooms : List Str} {sums : Str → Int} {v : Str × Str → Int} {rest : Int} (V : TV ps lv rooms s sums v rest) (L : Lv ps s lv) (E : EndsOk rooms ps) (hs : s ∈ rooms) : (rooms.map fun x => sg lv x * sums x).sum = rest := by
  have h1 := sum_swap E.nd (sg lv) v E.e
  have h2 : (ps.map fun p => v p * (sg lv p.1 + sg lv p.2)).sum = 0 := sum_map_zero fun p hp => by
    by_cases z : v p = 0
    · rw [z, Int.zero_mul]
    · obtain ⟨r, b, d, m, e⟩ := V.tree p hp z
      have := sg_step L m
      rcases e with e | e <;> rw [e]
      · show v (r, b) * (sg lv r + sg lv b) = 0
        rw [this, Int.mul_zero]
      · show v (b, r) * (sg lv b + sg lv r) = 0
        rw [Int.add_comm, this, Int.mul_zero]
  have h3 : (rooms.map fun x => sg lv x * esum ps v x) = rooms.map fun x => sg lv x * sums x + (-rest) * (if x = s then sg lv x else 0) := List.map_congr_left fun x hx => by
    rw [V.eq x hx]
    by_cases e : x = s
    · rw [if_pos e, if_pos e, Int.mul_sub, Int.mul_comm (sg lv x) rest, Int.neg_mul]
      omega
    · rw [if_neg e, if_neg e]
      simp
  rw [h2, h3, sum_add, sum_smul, sum_at E.nd hs (sg lv)] at h1
  have h4 : sg lv s = 1 := by
    have := L.dep (List.mem_of_getElem? L.head)
    unfold sg
    rw [this]
    rfl
  rw [h4] at h1
  omega
theorem signed_w {rooms : List Str} (nd : rooms.Nodup) {f l : Str} (hf : f ∈ rooms) (hl : l ∈ rooms) (a ch' w : Str → Int) (hw : ∀ x, w x = 2 * ch' x + (if x = f then 1 else 0) - (if x = l then 1 else 0)) :
    (rooms.map fun x => a x * w x).sum = 2 * (rooms.map fun x => a x * ch' x).sum + a f - a l := by
  have e : (rooms.map fun x => a x * w x) = rooms.map fun x => (2 * (a x * ch' x) + (if x = f then a x else 0)) + (-1) * (if x = l then a x else 0) := List.map_congr_left fun x _ => by
    rw [hw x, Int.mul_sub, Int.mul_add]
    have : a x * (2 * ch' x) = 2 * (a x * ch' x) := Int.mul_left_comm ..
    rw [this]
    split <;> split <;> simp <;> omega
  rw [e, sum_add, sum_add, sum_smul, sum_smul, sum_at nd hf a, sum_at nd hl a]
  omega
theorem bal_signed (c : Str → Bool) (rooms : List Str) (f l : Str) (ch : Str → Int) : 2 * balC c rooms f l ch = 2 * (rooms.map fun x => sgn c x * ch x).sum + sgn c f - sgn c l := by
  have e : (rooms.map fun x => if c x = true then ch x else -ch x) = rooms.map fun x => sgn c x * ch x := List.map_congr_left fun x _ => by
    unfold sgn
    split <;> simp
  unfold balC
  rw [e]
  unfold sgn
  split <;> split <;> omega
theorem sg_col {ps : List (Str × Str)} {s : Str} {lv : List (En Str)} (L : Lv ps s lv) {c : Str → Bool} (hc : Col ps c) {x : Str} {d : Nat} {q : Option Str} (h : (x, d, q) ∈ lv) : sg lv x = sgn c s * sgn c x := by
  obtain ⟨i, hi⟩ := mem_get h
  have := L.color hc i i (Nat.le_refl _) _ _ _ hi
  unfold sg sgn
  rw [L.dep h, this]
  by_cases z : d % 2 = 1
  · have z2 : ¬ d % 2 = 0 := by omega
    rw [decide_eq_true z, if_neg z2]
    cases c s <;> rfl
  · have z2 : d % 2 = 0 := by omega
    rw [decide_eq_false z, if_pos z2]
    cases c s <;> rfl
/-- two sides: no rest -/
theorem rest_zero {szs : List (Str × Nat)} {ps : List (Str × Str)} {s : Str} {lv : List (En Str)} (L : Lv ps s lv) (O : BOk szs ps) (hs : s ∈ szs.map (·.1)) {f l : Str} (hf : f ∈ szs.map (·.1)) (hl : l ∈ szs.map (·.1)) {ch' w : Str → Int}
    (hw : ∀ x, w x = 2 * ch' x + (if x = f then 1 else 0) - (if x = l then 1 else 0)) {c : Str → Bool} (hc : Col ps c) (hb : balC c (szs.map (·.1)) f l ch' = 0) : ((szs.map (·.1)).map fun x => sg lv x * w x).sum = 0 := by
  have e : ((szs.map (·.1)).map fun x => sg lv x * w x) = (szs.map (·.1)).map fun x => sgn c s * (sgn c x * w x) := List.map_congr_left fun x hx => by
    obtain ⟨d, q, m⟩ := L.all (O.cn s hs x hx)
    rw [sg_col L hc m, Int.mul_assoc]
  have h2 := bal_signed c (szs.map (·.1)) f l ch'
  rw [hb] at h2
  rw [e, sum_smul, signed_w O.nd hf hl (sgn c) ch' w hw, ← h2]
  simp
theorem signed_even {lv : List (En Str)} {rooms : List Str} (nd : rooms.Nodup) {f l : Str} (hf : f ∈ rooms) (hl : l ∈ rooms) {ch' w : Str → Int} (hw : ∀ x, w x = 2 * ch' x + (if x = f then 1 else 0) - (if x = l then 1 else 0)) : (rooms.map fun x => sg lv x * w x).sum % 2 = 0 := by
  rw [signed_w nd hf hl (sg lv) ch' w hw]
  unfold sg
  split <;> split <;> omega
/-- what a level corridor takes -/
theorem level_rest {rooms : List Str} (nd : rooms.Nodup) {lv : List (En Str)} {x y : Str} (hx : x ∈ rooms) (hy : y ∈ rooms) (hxy : x ≠ y) (w : Str → Int) (k : Int) (hl : sg lv x = sg lv y) :
    (rooms.map fun z => sg lv z * fup (fup w x (w x - k)) y (w y - k) z).sum = (rooms.map fun z => sg lv z * w z).sum - 2 * (k * sg lv x) := by
  have e : (rooms.map fun z => sg lv z * fup (fup w x (w x - k)) y (w y - k) z) = rooms.map fun z => (sg lv z * w z + (-k) * (if z = x then sg lv z else 0)) + (-k) * (if z = y then sg lv z else 0) := List.map_congr_left fun z _ => by
    unfold fup
    by_cases e1 : z = y
    · have e2 : ¬ z = x := fun q => hxy (q.symm.trans e1)
      rw [if_pos e1, if_neg e2, if_pos e1, e1, Int.mul_sub, Int.mul_comm (sg lv y) k]
      simp only [Int.neg_mul, Int.mul_zero]
      omega
    · rw [if_neg e1, if_neg e1]
      by_cases e2 : z = x
      · rw [if_pos e2, if_pos e2, e2, Int.mul_sub, Int.mul_comm (sg lv x) k]
        simp only [Int.neg_mul, Int.mul_zero]
        omega
      · rw [if_neg e2, if_neg e2]
        omega
  rw [e, sum_add, sum_add, sum_smul, sum_smul, sum_at nd hx (sg lv), sum_at nd hy (sg lv), ← hl, Int.neg_mul]
  omega
end Rd
/-! solution: walk. -/
namespace Rd
open PySem PySem.Spec PyProof.Rows L2 Gr
/-- what solution is -/
def SolOk (szs : List (Str × Nat)) (ps : List (Str × Str)) (f l : Str) (ch : Str → Int) (v : Str × Str → Int) : Prop := ∃ w, WOk szs ps f l ch w ∧ ∀ x ∈ szs.map (·.1), esum ps v x = w x
def spSol (K : PySem.W.Frag) : Sp := fun vs H Q _ => ∃ (t b : Addr) (szs : List (Str × Nat)) (ps : List (Str × Str)) (f l : Str) (ch : Str → Int), vs = [.ref t] ∧ TAt K H t b szs ps f l ch ∧ BOk szs ps ∧ TOk szs ps f l ch ∧ TPos szs ps f l ch ∧
  ∀ H' D v, Same H H' → H' D = some (.dT (EzD ps v)) → SolOk szs ps f l ch v → Q (.ref D) H'
theorem rooms_cons {szs : List (Str × Nat)} {ps : List (Str × Str)} (O : BOk szs ps) : ∃ s r, szs.map (·.1) = s :: r := by
  cases e : szs.map (·.1) with
  | nil => exact absurd e O.ne'
  | cons s r => exact ⟨s, r, rfl⟩
theorem LvAt.put {K : PySem.W.Frag} {H : Hp} {f a : Addr} {o : HO} {lv : List (En Str)} (h : LvAt K H f lv) (c : Chg (H a)) (n : f ≠ a) : LvAt K (upd H a o) f lv :=
  let ⟨kvs, h1, h2⟩ := h
  ⟨kvs, by rw [upd_ne n]; exact h1, h2.put c⟩
theorem ite_te {b : Bool} {tA tB : TE} {σ : L2.St} {H : Hp} {Q : VK} (S : V → Hp → Prop) (hR : ∀ v H', S v H' → Q v H') (h1 : b = true → (∀ v H', S v H' → Q v H') → tA σ H Q) (h2 : b = false → (∀ v H', S v H' → Q v H') → tB σ H Q) : if b = true then tA σ H Q else tB σ H Q := by
  cases b with
  | true => exact iteT (h1 rfl hR)
  | false => exact iteF (h2 rfl hR)
-- slots of solution: 0 trace 1 building 2 levels 3 sums 4 found 5 rest 6 one 7 other 8 value
theorem sc_solution : FnScope ["trace", "building", "levels", "sums", "found", "rest", "one", "other", "value"] ["trace"] (defScope s_solution) := ⟨rfl, rfl, rfl, by decide +kernel, rfl, by decide +kernel, by decide +kernel⟩
section
variable {P : Program} {w : World} {K : PySem.W.Frag} {mg : Str → Option Value} {base : Heap}
theorem ca_solution (T : Wd K mg base) : Ca P w K mg base 6 "solution" (spSol K) [] := by
  obtain ⟨fd, F⟩ := T.L.F_solution
  refine ca_of F T.g_solution (F.binds (ps := ["trace"]) fun _ _ _ _ _ _ us hl => match us, hl with | [_], _ => rfl) sc_solution (fun vs H Q E ⟨_, _, _, _, _, _, _, e, _⟩ => by rw [e]; rfl) ?_
  rintro cdv A outer s0 H vs Q E hr ⟨t, b, szs, ps, f, l, ch, rfl, A0, O, OT, hpos, k⟩
  obtain ⟨dx, d, ky, bv, sd, h1, h2, h3, h4, h5⟩ := id A0.ex
  obtain ⟨bdx, bd, bc, nr, sd', rg, br, hb, _⟩ := id h3.ex
  obtain ⟨s, r, hrm⟩ := rooms_cons O
  have hsr : s ∈ szs.map (·.1) := by rw [hrm]; exact List.mem_cons_self
  refine ⟨_, (pss_cons (ps_set (i := 1) sc_solution.nd rfl (Or.inl rfl) (pe_pr (pr_Trace_building T) hr (by decide) (pv 0))) (pss_cons (ps_set (i := 2) sc_solution.nd rfl (Or.inl rfl) (pe_ca (ca_steps_from2 T) hr (by decide) rfl (pa_cons (pe_ix ix_tup (pe_pr (pr_Building_rooms T) hr (by decide) (pv 1)) pe_int (fun _ _ => rfl)) (pa_cons (pe_pr (pr_Building_corridors T) hr (by decide) (pv 1)) pa_nil)))) (pss_cons (ps_set (i := 3) sc_solution.nd rfl (Or.inl rfl) (pe_ca (ca_wanted_sums T) hr (by decide) rfl (pa_cons (pv 0) pa_nil))) (pss_cons (ps_asg (pe_ca (ca_tree_values T) hr (by decide) rfl (pa_cons (pv 1) (pa_cons (pv 2) (pa_cons (pv 3) pa_nil)))) (pg_tup rfl (pgs_cons (pg_name (i := 4) sc_solution.nd rfl (Or.inl rfl)) (pgs_cons (pg_name (i := 5) sc_solution.nd rfl (Or.inl rfl)) pgs_nil)))) (pss_cons (ps_if (pt_cmpR op_eq (pv 5) pe_int (by rfl)) (pss_one (ps_ret (pv 4))) pss_nil) (pss_cons (ps_asg (pe_ca (ca_level_corridor T) hr (by decide) rfl (pa_cons (pv 2) (pa_cons (pe_pr (pr_Building_corridors T) hr (by decide) (pv 1)) pa_nil))) (pg_tup rfl (pgs_cons (pg_name (i := 6) sc_solution.nd rfl (Or.inl rfl)) (pgs_cons (pg_name (i := 7) sc_solution.nd rfl (Or.inl rfl)) pgs_nil)))) (pss_cons (ps_set (i := 8) sc_solution.nd rfl (Or.inl rfl) (pe_ifExp (pt_cmpR op_eq (pe_op op_modN (pe_ix ix_tup (pe_dget (hu_of hr) (pv 2) (pv 6) (fun _ _ => rfl)) pe_int (fun _ _ => rfl)) pe_int) pe_int (by rfl)) (pe_op op_fdivN (pv 5) pe_int) (pe_op op_fdivN (pe_un un_neg (pv 5)) pe_int))) (pss_cons (ps_daug (hu_of hr) (pv 3) (pv 6) (pv 8) in_sub (fun _ _ _ => rfl)) (pss_cons (ps_daug (hu_of hr) (pv 3) (pv 7) (pv 8) in_sub (fun _ _ _ => rfl)) (pss_cons (ps_asg (pe_ca (ca_tree_values T) hr (by decide) rfl (pa_cons (pv 1) (pa_cons (pv 2) (pa_cons (pv 3) pa_nil)))) (pg_tup rfl (pgs_cons (pg_name (i := 4) sc_solution.nd rfl (Or.inl rfl)) (pgs_cons (pg_name (i := 5) sc_solution.nd rfl (Or.inl rfl)) pgs_nil)))) (pss_cons (ps_dput (hu_of hr) (pv 4) (pe_tup (pa_cons (pv 6) (pa_cons (pv 7) pa_nil))) (pv 8) rfl) (pss_one (ps_ret (pv 4)))))))))))))), ?_⟩
  refine ⟨_, rfl, t, _, _, rfl, h1, t, b, szs, ps, f, l, ch, rfl, A0, ?_⟩
  -- levels
  refine ⟨_, rfl, b, _, _, rfl, hb, b, szs, ps, rfl, h3, fun H1 p1 s1 hp1 => ?_⟩
  refine ⟨p1, _, (0 : Int), .str s, rfl, rfl, SqT.of hp1, by rw [hrm]; exact atI_nat (j := 0) rfl, ?_⟩
  refine ⟨_, rfl, b, _, _, rfl, s1 _ _ hb, b, szs, ps, rfl, h3.same s1, fun H2 p2 xs s2 hp2 hxs => ?_⟩
  refine ⟨s, p2, _, ps, rfl, ⟨xs, .inr (SqT.of hp2), hxs.dp⟩, etB_ok (ex_20 T.L.more) _, O.fewP, fun H3 lf lv s3 hlv L => ?_⟩
  have sH3 := s1.trans (s2.trans s3)
  -- sums
  refine ⟨_, rfl, t, b, szs, ps, f, l, ch, rfl, A0.same sH3, O, OT, hpos, fun H4 sm wt s4 hsm hsn hw => ?_⟩
  have sH4 := sH3.trans s4
  refine ⟨_, rfl, _, rfl, _, rfl, b, lf, sm, szs, ps, s, r, lv, wt, rfl, h3.same sH4, O, hrm, hlv.same s4, L, hsm, fun H5 tt D v rest s5 htt hD hDn TV1 => ?_⟩
  refine ⟨tt, _, rfl, SqT.of htt, rfl, _, _, rfl, _, _, rfl, rfl, ?_⟩
  have sH5 := sH4.trans s5
  have hrest := TV1.rest L O.eo hsr
  refine ⟨_, rfl, rfl, _, rfl, ?_⟩
  by_cases hz : rest = 0
  · rw [decide_eq_true (congrArg V.int hz)]
    refine iteT ⟨_, rfl, k _ D v sH5 hD ⟨wt, hw, fun x hx => ?_⟩⟩
    rw [TV1.eq x hx, hz]
    split <;> omega
  rw [decide_eq_false (fun z => hz (V.int.inj z))]
  refine iteF ?_
  obtain ⟨ch', hdv, hww, hcol⟩ := id hw
  have hno : ∀ c, ¬ Col ps c := by
    rcases hcol with h | ⟨c, hc, hb0⟩
    · exact h
    · exact absurd (hrest.symm.trans (rest_zero L O hsr OT.f OT.l hww hc hb0)) hz
  have hlvl : ¬ ∀ p ∈ ps, ¬ Level lv p := fun h => hno _ (L.even (fun p hp => L.all (O.cn s hsr _ (O.ends p hp).1)) h)
  have hev := signed_even (lv := lv) O.nd OT.f OT.l hww
  rw [hrest] at hev
  -- one, other
  refine ⟨_, rfl, _, rfl, b, _, _, rfl, sH5 _ _ hb, b, szs, ps, rfl, h3.same sH5, fun H6 p6 ys s6 hp6 hys => ?_⟩
  refine ⟨lf, p6, lv, ps, rfl, (hlv.same s4).same (s5.trans s6), L.nd, ⟨ys, .inr (SqT.of hp6), hys.dp⟩, fun p hp => ⟨L.all (O.cn s hsr _ (O.ends p hp).1), L.all (O.cn s hsr _ (O.ends p hp).2)⟩, fun H7 s7 => ⟨fun h => absurd h hlvl, fun p u hp hlev hu => ?_⟩⟩
  refine ⟨u, _, rfl, SqT.of hu, rfl, _, _, rfl, _, _, rfl, rfl, ?_⟩
  have s47 : Same H4 H7 := s5.trans (s6.trans s7)
  have sH7 := sH4.trans s47
  have hlv7 := (hlv.same s4).same s47
  obtain ⟨kvs, hf7, hl7⟩ := id hlv7
  obtain ⟨dd, q1, q2, m1, m2⟩ := id hlev
  obtain ⟨t1, e1, e2⟩ := hl7.val L.nd m1
  obtain ⟨hp1r, hp2r⟩ := O.ends p hp
  have hpne : p.1 ≠ p.2 := (O.eo.e p hp).2.2
  have hsm7 := s47 _ _ hsm
  have hsg : sg lv p.1 = sg lv p.2 := by unfold sg; rw [L.dep m1, L.dep m2]
  -- value
  refine ⟨_, rfl, _, rfl, lf, _, rfl, .inl ⟨kvs, Sum.inr p.1, .inl hf7, rfl, e1.symm⟩, t1, _, (0 : Int), .int (dd : Nat), rfl, rfl, e2, rfl, _, _, rfl, rfl, (by show (2 : Int) ≠ 0; decide), rfl, _, rfl, ?_⟩
  have hdm : Int.fmod (dd : Nat) 2 = ((dd % 2 : Nat) : Int) := by
    rw [Int.fmod_eq_emod_of_nonneg _ (by omega)]
    rfl
  have hfd : ∀ i : Int, Int.fdiv i 2 = i / 2 := fun i => Int.fdiv_eq_ediv_of_nonneg _ (by omega)
  refine ite_te (fun z Hz => H7 = Hz ∧ ∃ val : Int, z = .int val ∧ 2 * (val * sg lv p.1) = rest) ?_ (fun e ky => ?_) (fun e ky => ?_)
  rotate_left
  · have e' : decide (V.int (Int.fmod (dd : Nat) 2) = V.int 0) = true := e
    have e3 := V.int.inj (of_decide_eq_true e')
    rw [hdm] at e3
    refine ⟨_, rfl, _, _, rfl, rfl, ⟨by decide, by decide⟩, ky _ _ ⟨rfl, _, rfl, ?_⟩⟩
    have e5 : sg lv p.1 = 1 := by
      unfold sg
      rw [L.dep m1, if_pos (by omega)]
    rw [e5, hfd]
    omega
  · have e' : decide (V.int (Int.fmod (dd : Nat) 2) = V.int 0) = false := e
    have e3 : ¬ Int.fmod (dd : Nat) 2 = 0 := fun z => of_decide_eq_false e' (congrArg V.int z)
    rw [hdm] at e3
    refine ⟨_, rfl, _, rfl, _, _, rfl, rfl, ⟨by decide, by decide⟩, ky _ _ ⟨rfl, _, rfl, ?_⟩⟩
    have e5 : sg lv p.1 = -1 := by
      unfold sg
      rw [L.dep m1, if_neg (by omega)]
    rw [e5, hfd]
    omega
  rintro z Hz ⟨rfl, val, rfl, hval⟩
  -- the sums less
  have hl24 : (IzD (tab wt (szs.map (·.1)))).length < sizeLine := by
    have : (szs.map (·.1)).length ≤ 24 := by rw [List.length_map]; exact O.few
    rw [izD_len, tab, List.length_map, sizeLine_eq]
    omega
  refine ⟨_, rfl, _, rfl, sm, _, rfl, .inl ⟨_, Sum.inr p.1, .inl hsm7, rfl, by rw [izD_val, tab_look _ hp1r]; rfl⟩, ?_⟩
  refine ⟨_, rfl, _, _, rfl, rfl, _, DPut.k (k := Sum.inr p.1) hsm7 hl24, ?_⟩
  rw [tab_put _ _ _ _ hp1r]
  refine ⟨_, rfl, _, rfl, sm, _, rfl, .inl ⟨_, Sum.inr p.2, .inl upd_same, rfl, by rw [izD_val, tab_look _ hp2r]; rfl⟩, ?_⟩
  refine ⟨_, rfl, _, _, rfl, rfl, _, DPut.k (k := Sum.inr p.2) upd_same (by rw [izD_len, tab, List.length_map, ← List.length_map (f := fun x => (x, wt x)), ← izD_len]; exact hl24), ?_⟩
  rw [tab_put _ _ _ _ hp2r]
  have eW : fup (fup wt p.1 (wt p.1 - val)) p.2 (fup wt p.1 (wt p.1 - val) p.2 - val) = fup (fup wt p.1 (wt p.1 - val)) p.2 (wt p.2 - val) := by
    have : fup wt p.1 (wt p.1 - val) p.2 = wt p.2 := by unfold fup; rw [if_neg (fun z => hpne z.symm)]
    rw [this]
  rw [eW]
  have hl3 : ∃ kvs, H3 lf = some (.dK kvs) := let ⟨kvs, h, _⟩ := hlv; ⟨kvs, h⟩
  have nls : lf ≠ sm := fun z => by
    obtain ⟨kv, h⟩ := hl3
    rw [z, hsn] at h
    cases h
  have sH8 : Same H (upd (upd H7 sm (.dK (IzD (tab (fup wt p.1 (wt p.1 - val)) (szs.map (·.1)))))) sm (.dK (IzD (tab (fup (fup wt p.1 (wt p.1 - val)) p.2 (wt p.2 - val)) (szs.map (·.1)))))) := (sH7.put (sH3.free hsn)).put (sH3.free hsn)
  have hlv8 : LvAt K (upd (upd H7 sm (.dK (IzD (tab (fup wt p.1 (wt p.1 - val)) (szs.map (·.1)))))) sm (.dK (IzD (tab (fup (fup wt p.1 (wt p.1 - val)) p.2 (wt p.2 - val)) (szs.map (·.1)))))) lf lv := (hlv7.put (.inr (.inl ⟨_, hsm7⟩)) nls).put (.inr (.inl ⟨_, upd_same⟩)) nls
  have hsm8 : (upd (upd H7 sm (.dK (IzD (tab (fup wt p.1 (wt p.1 - val)) (szs.map (·.1)))))) sm (.dK (IzD (tab (fup (fup wt p.1 (wt p.1 - val)) p.2 (wt p.2 - val)) (szs.map (·.1)))))) sm = some (.dK (IzD (tab (fup (fup wt p.1 (wt p.1 - val)) p.2 (wt p.2 - val)) (szs.map (·.1))))) := upd_same
  revert sH8 hlv8 hsm8
  generalize (upd (upd H7 sm (.dK (IzD (tab (fup wt p.1 (wt p.1 - val)) (szs.map (·.1)))))) sm (.dK (IzD (tab (fup (fup wt p.1 (wt p.1 - val)) p.2 (wt p.2 - val)) (szs.map (·.1)))))) = H8
  intro sH8 hlv8 hsm8
  refine ⟨_, rfl, _, rfl, _, rfl, b, lf, sm, szs, ps, s, r, lv, _, rfl, h3.same sH8, O, hrm, hlv8, L, hsm8, fun H9 tt2 D2 v2 rest2 s9 htt2 hD2 hDn2 TV2 => ?_⟩
  refine ⟨tt2, _, rfl, SqT.of htt2, rfl, _, _, rfl, _, _, rfl, rfl, ?_⟩
  have hr2 := TV2.rest L O.eo hsr
  rw [level_rest O.nd hp1r hp2r hpne wt val hsg, hrest, hval, Int.sub_self] at hr2
  have hv0 : v2 p = 0 := by
    by_cases z : v2 p = 0
    · exact z
    · obtain ⟨r2, b2, d2, mm, ee⟩ := TV2.tree p hp z
      have h1 := sg_step L mm
      have h2 : sg lv p.1 + sg lv p.2 = 0 := by
        rcases ee with e | e <;> rw [e]
        · exact h1
        · show sg lv b2 + sg lv r2 = 0
          rw [Int.add_comm]
          exact h1
      have h3 : sg lv p.1 = 1 ∨ sg lv p.1 = -1 := by unfold sg; split <;> simp
      rw [← hsg] at h2
      exfalso
      rcases h3 with h3 | h3 <;> rw [h3] at h2 <;> omega
  -- found[one, other] = value
  refine ⟨_, rfl, _, rfl, _, rfl, _, rfl, Nat.le_of_ble_eq_true rfl, fun u2 hu2 => ?_⟩
  have nDu : D2 ≠ u2 := ne_of_none hD2 hu2
  refine ⟨D2, _, rfl, DPut.t (k := kP p) (by rw [upd_ne nDu]; exact hD2) upd_same ?_, ?_⟩
  · have := O.fewP
    unfold EzD
    rw [List.length_map, sizeLine_eq]
    omega
  rw [ezD_put _ hp]
  refine ⟨_, rfl, k _ D2 _ (((sH8.trans s9).new hu2).put (sH8.free hDn2)) upd_same ⟨wt, hw, fun x hx => ?_⟩⟩
  have h00 : (if x = s then (0 : Int) else 0) = 0 := by split <;> rfl
  rw [esum_up O.ndP hp, TV2.eq x hx, hv0, ← hr2, h00]
  unfold fup
  by_cases e1 : x = p.1
  · have e2 : ¬ x = p.2 := fun z => hpne (e1.symm.trans z)
    rw [if_neg e2, if_pos e1, if_pos (.inl e1.symm), e1]
    omega
  · by_cases e2 : x = p.2
    · rw [if_pos e2, if_pos (.inr e2.symm), e2]
      omega
    · rw [if_neg e2, if_neg e1, if_neg (fun z => z.elim (fun z => e1 z.symm) fun z => e2 z.symm)]
      omega
end
end Rd
/-! need_possible (where nothing is raised), need_closed. -/
namespace Rd
open PySem PySem.Spec PyProof.Rows L2 Gr
theorem pos_not {szs : List (Str × Nat)} {ps : List (Str × Str)} {f l : Str} {ch : Str → Int} (h : TPos szs ps f l ch) (O : BOk szs ps) (hf : f ∈ szs.map (·.1)) (hl : l ∈ szs.map (·.1)) : ¬ TNot szs ps f l ch := fun ⟨c, hc, hn⟩ => hn (h.mod O hf hl hc)
def spNP (K : PySem.W.Frag) : Sp := fun vs H Q _ => ∃ (t b : Addr) (szs : List (Str × Nat)) (ps : List (Str × Str)) (f l : Str) (ch : Str → Int), vs = [.ref t] ∧ TAt K H t b szs ps f l ch ∧ BOk szs ps ∧ TOk szs ps f l ch ∧ TPos szs ps f l ch ∧ ∀ H', Same H H' → Q .non H'
-- slots of need_possible: 0 trace 1 paper
theorem sc_need_possible : FnScope ["trace", "paper"] ["trace"] (defScope s_need_possible) := ⟨rfl, rfl, rfl, by decide +kernel, rfl, by decide +kernel, by decide +kernel⟩
section
variable {P : Program} {w : World} {K : PySem.W.Frag} {mg : Str → Option Value} {base : Heap}
theorem ca_need_possible (T : Wd K mg base) : Ca P w K mg base 3 "need_possible" (spNP K) [] := by
  obtain ⟨fd, F⟩ := T.L.F_need_possible
  refine ca_of F T.g_need_possible (F.binds (ps := ["trace"]) fun _ _ _ _ _ _ us hl => match us, hl with | [_], _ => rfl) sc_need_possible (fun vs H Q E ⟨_, _, _, _, _, _, _, e, _⟩ => by rw [e]; rfl) ?_
  rintro cdv A outer s0 H vs Q E hr ⟨t, b, szs, ps, f, l, ch, rfl, A0, O, OT, hpos, k⟩
  obtain ⟨dx, d, ky, bv, sd, h1, h2, h3, h4, h5⟩ := id A0.ex
  refine ⟨_, (pss_cons (ps_set (i := 1) sc_need_possible.nd rfl (Or.inl rfl) (pe_pr (pr_Trace_paper T) hr (by decide) (pv 0))) (pss_one (ps_if (pt_cmpR op_notN (pv 1) pe_non (by rfl)) (pss_one ps_never) pss_nil))), ?_⟩
  refine ⟨_, rfl, t, _, _, rfl, h1, t, b, szs, ps, f, l, ch, rfl, A0, O, fun v H1 s1 hv => ?_⟩
  rcases hv with ⟨rfl, _⟩ | ⟨u, xs, _, _, hn⟩
  · exact ⟨_, rfl, rfl, _, rfl, iteF (k _ s1)⟩
  · exact absurd hn (pos_not hpos O OT.f OT.l)
end
/-! ### need_closed -/
def spNC (K : PySem.W.Frag) : Sp := fun vs H Q _ => ∃ (t b cs c e : Addr) (szs : List (Str × Nat)) (ps : List (Str × Str)) (f l : Str) (ch : Str → Int) (p : Str × Str), vs = [.ref t, .ref cs, .ref e] ∧ TAt K H t b szs ps f l ch ∧ BOk szs ps ∧ TOk szs ps f l ch ∧ TPos szs ps f l ch ∧
  H cs = some (.tup [.ref c]) ∧ H c = some (.tup [.str p.1, .str p.2]) ∧ p ∈ ps ∧ SqT K H e [] ∧ ∀ H', Same H H' → Q .non H'
-- slots of need_closed: 0 trace 1 corridors 2 rooms 3 building 4 corridor 5 room
theorem sc_need_closed : FnScope ["trace", "corridors", "rooms", "building", "corridor", "room"] ["trace", "corridors", "rooms"] (defScope s_need_closed) := ⟨rfl, rfl, rfl, by decide +kernel, rfl, by decide +kernel, by decide +kernel⟩
section
variable {P : Program} {w : World} {K : PySem.W.Frag} {mg : Str → Option Value} {base : Heap}
theorem ca_need_closed (T : Wd K mg base) : Ca P w K mg base 4 "need_closed" (spNC K) [] := by
  obtain ⟨fd, F⟩ := T.L.F_need_closed
  refine ca_of F T.g_need_closed (F.binds (ps := ["trace", "corridors", "rooms"]) fun _ _ _ _ _ _ us hl => match us, hl with | [_, _, _], _ => rfl) sc_need_closed (fun vs H Q E ⟨_, _, _, _, _, _, _, _, _, _, _, e, _⟩ => by rw [e]; rfl) ?_
  rintro cdv A outer s0 H vs Q E hr ⟨t, b, cs, c, e, szs, ps, f, l, ch, p, rfl, A0, O, OT, hpos, hcs, hc, hp, he, k⟩
  obtain ⟨dx, d, ky, bv, sd, h1, h2, h3, h4, h5⟩ := id A0.ex
  obtain ⟨bdx, bd, bc, nr, sd', rg, br, hb, _⟩ := id h3.ex
  refine ⟨_, (pss_cons (ps_set (i := 3) sc_need_closed.nd rfl (Or.inl rfl) (pe_pr (pr_Trace_building T) hr (by decide) (pv 0))) (pss_cons (ps_for PassesOwn.never rfl (pi_tup (pv 1)) (pg_name (i := 4) sc_need_closed.nd rfl (Or.inl rfl)) (pss_one (ps_if (PW.pt (pw_or (pt_not (pt_val (pe_ca (ca_is_pair T) hr (by decide) rfl (pa_cons (pv 4) pa_nil)))) (pw_or1 (PW.pt (pw_and (pt_cmpR (op_ninA (hu65 hr)) (pv 4) (pe_pr (pr_Building_corridors T) hr (by decide) (pv 3)) (by rfl)) (pw_and1 (pt_cmpR (op_ninA (hu65 hr)) (pe_revT (pv 4)) (pe_pr (pr_Building_corridors T) hr (by decide) (pv 3)) (by rfl)))))))) (pss_one ps_never) pss_nil))) (pss_cons (ps_for PassesOwn.never rfl (pi_tup (pv 2)) (pg_name (i := 5) sc_need_closed.nd rfl (Or.inl rfl)) (pss_one (ps_if (pt_cmpR (op_nin_own (mt_Building_dcontains T) hr (by decide)) (pv 5) (pv 3) (by rfl)) (pss_one ps_never) pss_nil))) (pss_cons (ps_if (pt_cmpR op_in_seq (pe_pr (pr_Trace_first T) hr (by decide) (pv 0)) (pv 2) (by rfl)) (pss_one ps_never) pss_nil) (pss_one (ps_expr (pe_ca (ca_need_possible T) hr (by decide) rfl (pa_cons (pv 0) pa_nil)))))))), ?_⟩
  refine ⟨_, rfl, t, _, _, rfl, h1, t, b, szs, ps, f, l, ch, rfl, A0, ?_⟩
  refine ⟨_, rfl, cs, rfl, ⟨_, SqT.of hcs⟩, for_tup (K := K) (a := cs) (xs := [V.ref c]) (fun i σ H' => Same H H' ∧ ∃ v1 v2, σ = [some (.ref t), some (.ref cs), some (.ref e), some (.ref b), v1, v2]) ⟨Same.refl _, none, none, rfl⟩ (fun i σ H' _ h => SqT.of (h.1 _ _ hcs)) ?_ ?_⟩
  · rintro i v σ H' hi ⟨ss, v1, v2, rfl⟩
    obtain rfl : v = V.ref c := by
      match i, hi with
      | 0, hi => exact (Option.some.inj hi).symm
      | i + 1, hi => exact absurd hi (by simp)
    refine ⟨_, rfl, c, _, _, rfl, ss _ _ hc, true, rfl, iteF ?_⟩
    refine ⟨_, rfl, _, rfl, b, _, _, rfl, ss _ _ hb, b, szs, ps, rfl, h3.same ss, fun H1 p1 xs s1 hp1 hxs => ?_⟩
    refine rInA_pair (pD_mk (SqT.of (s1 _ _ (ss _ _ hc)))) ⟨xs, .inr (SqT.of hp1), hxs.dp⟩ (O.nms _ hp) O.nms ⟨_, rfl, ?_⟩
    rw [decide_eq_true hp]
    exact iteF (iteF ⟨ss.trans s1, _, _, rfl⟩)
  rintro σ H1 ⟨s1, v1, v2, rfl⟩
  refine ⟨_, rfl, e, rfl, ⟨_, s1.tup he⟩, for_tup (K := K) (a := e) (xs := []) (fun i σ H' => Same H1 H' ∧ ∃ v1 v2, σ = [some (.ref t), some (.ref cs), some (.ref e), some (.ref b), v1, v2]) ⟨Same.refl _, _, _, rfl⟩ (fun i σ H' _ h => (s1.trans h.1).tup he) (fun i x σ H hi => absurd hi (by simp)) ?_⟩
  rintro σ H2 ⟨s2, v3, v4, rfl⟩
  have sH := s1.trans s2
  refine ⟨_, rfl, t, _, _, rfl, sH _ _ h1, t, b, szs, ps, f, l, ch, rfl, A0.same sH, _, rfl, e, _, rfl, .inr (sH.tup he), rfl, rfl, _, rfl, iteF ?_⟩
  exact ⟨_, rfl, t, b, szs, ps, f, l, ch, rfl, A0.same sH, O, OT, hpos, fun H3 s3 => k _ (sH.trans s3)⟩
end
end Rd
/-! open_trace. -/
namespace Rd
open PySem PySem.Spec PyProof.Rows L2 Gr
section
variable {X : Cx}
theorem pe_revTK {K : PySem.W.Frag} {e : Expr} {te : TE} {k : Nat} {p1 p2 p3 pos : Pos} (he : PE X e te) (hK : X.K = K := by rfl) : PE X (.Subscript e (.Slice none none (some (.UnaryOp .USub (.Constant (.int 1) k p1) p2)) p3) pos) (tRevT K te) := by
  subst hK
  exact pe_revT he
end
theorem TAt.rGet {K : PySem.W.Frag} {H : Hp} {t b : Addr} {szs : List (Str × Nat)} {ps : List (Str × Str)} {f l : Str} {ch : Str → Int} {x : Str} {Q : VK} (A : TAt K H t b szs ps f l ch) (O : BOk szs ps) (hx : x ∈ szs.map (·.1)) (k : ∀ H', Same H H' → Q (.int (ch x)) H') : rGetOwn (tC K) (spTGet K) (.ref t) (.str x) H Q :=
  let ⟨dx, d, ky, bv, sd, h1, h2, h3, h4, h5⟩ := A.ex
  ⟨t, dx, _, rfl, h1, t, b, x, szs, ps, f, l, ch, rfl, A, O, hx, k⟩
abbrev keptP (ps : List (Str × Str)) (p : Str × Str) : List (Str × Str) := ps.filter (· ≠ p)
/-- what is left of a trace without a corridor -/
structure Opn (szs : List (Str × Nat)) (ps : List (Str × Str)) (f l : Str) (ch : Str → Int) (p : Str × Str) (szs' : List (Str × Nat)) (ps' : List (Str × Str)) (l' : Str) (ch' : Str → Int) : Prop where
  rooms : ∀ x, x ∈ szs'.map (·.1) ↔ Conn (keptP ps p) f x
  size : ∀ x ∈ szs'.map (·.1), szn szs' x = szn szs x
  prs : ∀ q, q ∈ ps' ↔ q ∈ keptP ps p ∧ Conn (keptP ps p) f q.1
  last : (Conn (keptP ps p) f l → l' = l) ∧ (¬ Conn (keptP ps p) f l → l' = f)
  chs : ∀ x ∈ szs'.map (·.1), ch' x = ch x
theorem conn_in {qs : List (Str × Str)} {f x : Str} {near : List Str} (hn : ∀ x, x ∈ near ↔ Conn qs f x) (h : Conn qs f x) : Conn (qs.filter fun q => decide (q.1 ∈ near) && decide (q.2 ∈ near)) f x := by
  induction h with
  | refl => exact .refl
  | step c a ih =>
    refine .step ih ?_
    have h1 := (hn _).mpr c
    have h2 := (hn _).mpr (c.step a)
    rcases a with a | a
    · exact .inl (List.mem_filter.mpr ⟨a, by simp [h1, h2]⟩)
    · exact .inr (List.mem_filter.mpr ⟨a, by simp [h1, h2]⟩)
theorem conn_rooms {szs : List (Str × Nat)} {ps : List (Str × Str)} (O : BOk szs ps) {p : Str × Str} {f x : Str} (hf : f ∈ szs.map (·.1)) (h : Conn (keptP ps p) f x) : x ∈ szs.map (·.1) := by
  induction h with
  | refl => exact hf
  | step c a ih =>
    rcases a with a | a
    · exact (O.ends _ (List.mem_filter.mp a).1).2
    · exact (O.ends _ (List.mem_filter.mp a).1).1
theorem open_ok {szs : List (Str × Nat)} {ps : List (Str × Str)} (O : BOk szs ps) {p : Str × Str} {f : Str} (hf : f ∈ szs.map (·.1)) {near : List Str} (nd : near.Nodup) (hn : ∀ x, x ∈ near ↔ Conn (keptP ps p) f x) :
    BOk (tab (szn szs) near) ((keptP ps p).filter fun q => decide (q.1 ∈ near) && decide (q.2 ∈ near)) := by
  have hsub : ∀ x ∈ near, x ∈ szs.map (·.1) := fun x hx => conn_rooms O hf ((hn x).mp hx)
  have mem : ∀ q, q ∈ (keptP ps p).filter (fun q => decide (q.1 ∈ near) && decide (q.2 ∈ near)) → q ∈ ps ∧ q.1 ∈ near ∧ q.2 ∈ near := fun q hq => by
    obtain ⟨h1, h2⟩ := List.mem_filter.mp hq
    simp at h2
    exact ⟨(List.mem_filter.mp h1).1, h2.1, h2.2⟩
  refine ⟨fun e => ?_, by rw [tab_keys]; exact nd, ?_, fun q hq => ?_, fun q hq => ?_, fun q hq => ?_, ?_, fun q hq => O.ord q (mem q hq).1, (O.ndP.filter _).filter _, fun x hx y hy => ?_⟩
  · have h1 : f ∈ near := (hn f).mpr .refl
    cases near with
    | nil => cases h1
    | cons a r => cases e
  · rw [tab, List.length_map]
    have := nodup_le nd hsub
    rw [List.length_map] at this
    have := O.few
    omega
  · obtain ⟨x, hx, rfl⟩ := List.mem_map.mp hq
    exact O.nmR (hsub x hx)
  · obtain ⟨x, hx, rfl⟩ := List.mem_map.mp hq
    exact szn_pos O (hsub x hx)
  · rw [tab_keys]
    exact (mem q hq).2
  · exact Nat.le_trans (List.length_filter_le _ _) (Nat.le_trans (List.length_filter_le _ _) O.fewP)
  · rw [tab_keys] at hx hy
    exact (conn_in hn ((hn x).mp hx)).symm.trans (conn_in hn ((hn y).mp hy))
theorem szn_tab (g : Str → Nat) {xs : List Str} {x : Str} (h : x ∈ xs) : szn (tab g xs) x = g x := by
  unfold szn
  rw [tab_look g h]
  rfl
theorem szn_perm {szs szs' : List (Str × Nat)} (h : szs'.Perm szs) (nd : (szs.map (·.1)).Nodup) {x : Str} (hx : x ∈ szs.map (·.1)) : szn szs' x = szn szs x := by
  obtain ⟨n, hn⟩ := look_some hx
  have h1 := look_mem hn
  have h2 := look_of ((h.map _).nodup_iff.mpr nd) (h.mem_iff.mpr h1)
  unfold szn
  rw [hn, h2]
def spOT (K : PySem.W.Frag) : Sp := fun vs H Q _ => ∃ (t b cs c e : Addr) (szs : List (Str × Nat)) (ps : List (Str × Str)) (f l : Str) (ch : Str → Int) (p : Str × Str), vs = [.ref t, .ref cs, .ref e] ∧ TAt K H t b szs ps f l ch ∧ BOk szs ps ∧ TOk szs ps f l ch ∧
  H cs = some (.tup [.ref c]) ∧ H c = some (.tup [.str p.1, .str p.2]) ∧ p ∈ ps ∧ SqT K H e [] ∧ ∀ H' t' b' szs' ps' l' ch', Same H H' → TAt K H' t' b' szs' ps' f l' ch' → BOk szs' ps' → TOk szs' ps' f l' ch' → Opn szs ps f l ch p szs' ps' l' ch' → Q (.ref t') H'
-- slots of open_trace: 0 trace* 1 corridors* 2 rooms 3 building* 4 kept 5 pair 6 near* 7 inner 8 last 9 changes 10 room
theorem sc_open_trace : FnScope ["trace", "corridors", "rooms", "building", "kept", "pair", "near", "inner", "last", "changes", "room"] ["trace", "corridors", "rooms"] (defScope s_open_trace) := ⟨rfl, rfl, rfl, by decide +kernel, rfl, by decide +kernel, by decide +kernel⟩
section
variable {P : Program} {w : World} {K : PySem.W.Frag} {mg : Str → Option Value} {base : Heap}
theorem ca_open_trace (T : Wd K mg base) : Ca P w K mg base 7 "open_trace" (spOT K) [] := by
  obtain ⟨fd, F⟩ := T.L.F_open_trace
  refine ca_of F T.g_open_trace (F.binds (ps := ["trace", "corridors", "rooms"]) fun _ _ _ _ _ _ us hl => match us, hl with | [_, _, _], _ => rfl) sc_open_trace (fun vs H Q E ⟨_, _, _, _, _, _, _, _, _, _, _, e, _⟩ => by rw [e]; rfl) ?_
  rintro cdv A outer s0 H vs Q E hr ⟨t, b, cs, c, e, szs, ps, f, l, ch, p, rfl, A0, O, OT, hcs, hc, hp, he, k⟩
  obtain ⟨dx, d, ky, bv, sd, h1, h2, h3, h4, h5⟩ := id A0.ex
  obtain ⟨bdx, bd, bc, nr, sd', rg, br, hb, _⟩ := id h3.ex
  refine ⟨_, (pss_cons (ps_set (i := 3) sc_open_trace.nd rfl (Or.inr rfl) (pe_pr (pr_Trace_building T) hr (by decide) (pv 0))) (pss_cons (ps_setLc (i := 4) (own := [("pair", 5)]) (g := gName 5) rfl sc_open_trace.nd rfl rfl (sw_true rfl rfl rfl (by decide +kernel)) (pi_tup (pe_pr (pr_Building_corridors T) hr (by decide) (pv 3))) (blkOk_by (own := [("pair", 5)]) (N := ["trace", "corridors", "rooms", "building", "kept", "pair", "near", "inner", "last", "changes", "room"]) (sc := defScope s_open_trace) (by decide +kernel)) (fun _ _ _ _ _ => (pg_name (i := 5) sc_open_trace.nd rfl (Or.inl rfl))) (fun _ _ _ _ _ => (pts_one (PW.pt (pw_and (pt_cmpR (r := rInA K true) (op_ninA (hu65 hr)) (pv 5) (pv 1) (by rfl)) (pw_and1 (pt_cmpR (r := rInA K true) (op_ninA (hu65 hr)) (pe_revTK (K := K) (pv 5)) (pv 1) (by rfl))))))) (fun _ _ _ _ _ => (pv 5))) (pss_cons (ps_set (i := 6) sc_open_trace.nd rfl (Or.inr rfl) (pe_ca (ca_reached_from T) hr (by decide) rfl (pa_cons (pe_pr (pr_Trace_first T) hr (by decide) (pv 0)) (pa_cons (pv 4) (pa_cons (pv 2) pa_nil))))) (pss_cons (ps_setLc (i := 7) (own := [("pair", 5)]) (g := gName 5) rfl sc_open_trace.nd rfl rfl (sw_true rfl rfl rfl (by decide +kernel)) (pi_list (pv 4)) (blkOk_by (own := [("pair", 5)]) (N := ["trace", "corridors", "rooms", "building", "kept", "pair", "near", "inner", "last", "changes", "room"]) (sc := defScope s_open_trace) (by decide +kernel)) (fun _ _ _ _ _ => (pg_name (i := 5) sc_open_trace.nd rfl (Or.inl rfl))) (fun _ _ _ _ _ => (pts_one (PW.pt (pw_and (pt_cmpR (r := rIn K false) op_in_seq (pe_ix (r := rIxT K) ix_tup (pv 5) pe_int (fun _ _ => rfl)) (pv 6) (by rfl)) (pw_and1 (pt_cmpR (r := rIn K false) op_in_seq (pe_ix (r := rIxT K) ix_tup (pv 5) pe_int (fun _ _ => rfl)) (pv 6) (by rfl))))))) (fun _ _ _ _ _ => (pv 5))) (pss_cons (ps_set (i := 8) sc_open_trace.nd rfl (Or.inl rfl) (pe_ifExp (pt_cmpR op_in_seq (pe_pr (pr_Trace_last T) hr (by decide) (pv 0)) (pv 6) (by rfl)) (pe_pr (pr_Trace_last T) hr (by decide) (pv 0)) (pe_pr (pr_Trace_first T) hr (by decide) (pv 0)))) (pss_cons (ps_setDc (i := 9) (own := [("room", 10)]) (g := gName 10) rfl sc_open_trace.nd rfl rfl (sw_dc rfl rfl rfl (by decide +kernel)) (pi_list (pv 6)) (blkOk_by (own := [("room", 10)]) (N := ["trace", "corridors", "rooms", "building", "kept", "pair", "near", "inner", "last", "changes", "room"]) (sc := defScope s_open_trace) (by decide +kernel)) (fun _ _ _ _ _ => (pg_name (i := 10) sc_open_trace.nd rfl (Or.inl rfl))) (fun _ _ _ _ _ => pts_nil) (fun _ _ _ _ _ => (pv 10)) (fun _ _ _ _ _ => (pe_get_own (mt_Trace_dgetitem T) hr (by decide) (pv 0) (pv 10)))) (pss_one (ps_ret (pe_ma (ma_Trace T) hr (by decide) rfl (pa_cons (pe_ma (ma_Building T) hr (by decide) rfl (pa_cons (pe_dc (own := [("room", 10)]) (g := gName 10) rfl sc_open_trace.nd (pi_list (pv 6)) (blkOk_by (own := [("room", 10)]) (N := ["trace", "corridors", "rooms", "building", "kept", "pair", "near", "inner", "last", "changes", "room"]) (sc := defScope s_open_trace) (by decide +kernel)) (fun _ _ _ _ _ => (pg_name (i := 10) sc_open_trace.nd rfl (Or.inl rfl))) (fun _ _ _ _ _ => pts_nil) (fun _ _ _ _ _ => (pv 10)) (fun _ _ _ _ _ => (pe_get_own (mt_Building_dgetitem T) hr (by decide) (pv 3) (pv 10)))) (pa_cons (pv 7) pa_nil))) (pa_cons (pe_pr (pr_Trace_first T) hr (by decide) (pv 0)) (pa_cons (pv 8) (pa_cons (pv 9) pa_nil))))))))))))), ?_⟩
  refine ⟨_, rfl, t, _, _, rfl, h1, t, b, szs, ps, f, l, ch, rfl, A0, ?_⟩
  -- kept
  refine ⟨_, rfl, b, _, _, rfl, hb, b, szs, ps, rfl, h3, fun H1 p1 xs s1 hp1 hxs => ?_⟩
  have el := hxs.len
  refine ⟨p1, rfl, ⟨_, SqT.of hp1⟩, fun D hD => lc_tup (K := K) (a := p1) (xs := xs) (fun i H' => ∃ zs, H' D = some (.lst zs) ∧ TpAll H' zs (keptP (ps.take i) p) ∧ zs.length ≤ i ∧ Same H1 H') ⟨[], upd_same, .nil, Nat.le_refl _, sm_new hD⟩ (fun i H' _ ⟨_, _, _, _, h⟩ => h.tup (SqT.of hp1)) ?_ ?_⟩
  · rintro i v H' hi ⟨zs, g1, g2, g3, ss⟩
    obtain ⟨q, u, hq, rfl, hu⟩ := hxs.get hi
    have hqm := List.mem_of_getElem? hq
    have sH := s1.trans ss
    have hip := (List.getElem?_eq_some_iff.mp hq).1
    have h31 := O.fewP
    have hcsP : ∀ {H2}, Same H H2 → PsAt K H2 cs [p] := fun s2 => ⟨_, .inr (SqT.of (s2 _ _ hcs)), .cons (pD_mk (SqT.of (s2 _ _ hc))) .nil⟩
    have nmp : Nms [p] := fun z hz => by rw [List.mem_singleton.mp hz]; exact O.nms _ hp
    refine ⟨rfl, _, rfl, _, rfl, rInA_pair (pD_mk (SqT.of (ss _ _ hu))) (hcsP sH) (O.nms _ hqm) nmp ⟨_, rfl, ?_⟩⟩
    show if (!decide (q ∈ [p])) = true then _ else _
    have ek : keptP (ps.take (i + 1)) p = if (decide (q ≠ p)) = true then keptP (ps.take i) p ++ [q] else keptP (ps.take i) p := filter_snoc (fun z => decide (z ≠ p)) hq
    by_cases eq : q = p
    · rw [decide_eq_true (List.mem_singleton.mpr eq)]
      rw [if_neg (by simp [eq])] at ek
      rw [ek]
      exact iteF (iteF ⟨zs, g1, g2, by omega, ss⟩)
    · rw [decide_eq_false (fun z => eq (List.mem_singleton.mp z))]
      rw [if_pos (by simp [eq])] at ek
      rw [ek]
      refine iteT ?_
      refine ⟨_, rfl, u, _, _, rfl, SqT.of (ss _ _ hu), fun z hz => ⟨_, rfl, rInA_pair (p := (q.2, q.1)) (pD_mk (SqT.of upd_same)) (hcsP (sH.new hz)) ⟨(O.nms _ hqm).2, (O.nms _ hqm).1⟩ nmp ⟨_, rfl, ?_⟩⟩⟩
      show if (!decide ((q.2, q.1) ∈ [p])) = true then _ else _
      have hns : ¬ (q.2, q.1) ∈ [p] := fun z => by
        have e1 := List.mem_singleton.mp z
        have o1 := O.ord q hqm
        have o2 := O.ord p hp
        rw [← e1] at o2
        rw [ltS_asym o1] at o2
        cases o2
      rw [decide_eq_false hns]
      have nDz : D ≠ z := ne_of_none g1 hz
      refine iteT ⟨_, rfl, _, by rw [upd_ne nDz]; exact g1, by rw [sizeLine_eq]; omega, zs ++ [V.ref u], upd_same, ?_, by rw [List.length_append, List.length_singleton]; omega, (ss.new hz).put hD⟩
      have hcD : Chg ((upd H' z (.tup [.str q.2, .str q.1])) D) := .inr (.inr ⟨_, by rw [upd_ne nDz]; exact g1⟩)
      exact TpAll.app ((g2.same (sm_new hz)).put hcD) (TpAll.put hcD (.cons ⟨u, rfl, (sm_new hz) _ _ (ss _ _ hu)⟩ .nil))
  rintro H2 ⟨zs, g1, g2, g3, ss2⟩
  rw [el, List.take_length] at g2
  have s2 : Same H H2 := s1.trans ss2
  -- near
  have h31k : (keptP ps p).length ≤ 31 := Nat.le_trans (List.length_filter_le _ _) O.fewP
  refine ⟨_, rfl, t, _, _, rfl, s2 _ _ h1, t, b, szs, ps, f, l, ch, rfl, A0.same s2, _, rfl, _, rfl, f, D, e, keptP ps p, rfl, ⟨zs, .inl (SqL.of g1), g2.dp⟩, s2.tup he, h31k, fun H3 np lv s3 hnp L => ?_⟩
  have s3H := s2.trans s3
  have mem : ∀ x, x ∈ lv.map (·.1) ↔ Conn (keptP ps p) f x := fun x => by
    constructor
    · intro h
      obtain ⟨⟨z', dd, q⟩, h1, h2⟩ := List.mem_map.mp h
      cases h2
      exact L.conn h1
    · intro h
      obtain ⟨dd, q, h1⟩ := L.all h
      exact List.mem_map.mpr ⟨_, h1, rfl⟩
  have nnd := L.nd
  have hnr : ∀ x ∈ lv.map (·.1), x ∈ szs.map (·.1) := fun x hx => conn_rooms O OT.f ((mem x).mp hx)
  have n24 : (lv.map (·.1)).length ≤ 24 := by
    have := nodup_le nnd hnr
    rw [List.length_map (as := szs)] at this
    have := O.few
    omega
  revert hnp mem nnd hnr n24
  generalize lv.map (·.1) = near
  intro hnp mem nnd hnr n24
  have inN : ∀ {H4 : Hp} (x : Str), inV (V.str x) (near.map V.str) = decide (x ∈ near) := fun x => inV_str x near
  -- inner
  have g1' := s3 _ _ g1
  have g2' := g2.same s3
  have lz := g2.len
  refine ⟨_, rfl, D, rfl, ⟨_, SqL.of g1'⟩, fun D2 hD2 => lc_list (K := K) (a := D) (xs := zs) (fun i H' => ∃ ys, H' D2 = some (.lst ys) ∧ TpAll H' ys (((keptP ps p).take i).filter fun q => decide (q.1 ∈ near) && decide (q.2 ∈ near)) ∧ ys.length ≤ i ∧ Same H3 H') ⟨[], upd_same, .nil, Nat.le_refl _, sm_new hD2⟩ (fun i H' _ ⟨_, _, _, _, h⟩ => SqL.of (h _ _ g1')) ?_ ?_⟩
  · rintro i v H' hi ⟨ys, q1, q2, q3, ss⟩
    obtain ⟨q, u, hq, rfl, hu⟩ := g2'.get hi
    have hip := (List.getElem?_eq_some_iff.mp hq).1
    refine ⟨rfl, _, rfl, u, _, (0 : Int), .str q.1, rfl, rfl, SqT.of (ss _ _ hu), rfl, _, rfl, np, _, rfl, .inl (SqL.of (ss _ _ hnp)), rfl, all_flat _, _, rfl, ?_⟩
    show if inV (V.str q.1) (near.map V.str) = true then _ else _
    rw [inV_str, filter_snoc (fun q : Str × Str => decide (q.1 ∈ near) && decide (q.2 ∈ near)) hq]
    by_cases e1 : q.1 ∈ near
    · rw [decide_eq_true e1]
      refine iteT ?_
      refine ⟨_, rfl, u, _, (1 : Int), .str q.2, rfl, rfl, SqT.of (ss _ _ hu), rfl, _, rfl, np, _, rfl, .inl (SqL.of (ss _ _ hnp)), rfl, all_flat _, _, rfl, ?_⟩
      show if inV (V.str q.2) (near.map V.str) = true then _ else _
      rw [inV_str]
      by_cases e2 : q.2 ∈ near
      · rw [decide_eq_true e2]
        refine iteT ⟨_, rfl, _, q1, by rw [sizeLine_eq]; omega, ys ++ [V.ref u], upd_same, ?_, by rw [List.length_append, List.length_singleton]; omega, ss.put hD2⟩
        have hcD : Chg (H' D2) := .inr (.inr ⟨_, q1⟩)
        exact TpAll.app (q2.put hcD) (TpAll.put hcD (.cons ⟨u, rfl, ss _ _ hu⟩ .nil))
      · rw [decide_eq_false e2]
        exact iteF ⟨ys, q1, by simpa using q2, by omega, ss⟩
    · rw [decide_eq_false e1]
      exact iteF (iteF ⟨ys, q1, by simpa using q2, by omega, ss⟩)
  rintro H4 ⟨ys, q1, q2, q3, s4⟩
  rw [lz, List.take_length] at q2
  have s4H := s3H.trans s4
  have fin : ∀ {H' : Hp}, Same H4 H' → SqL K H' np (near.map V.str) := fun ss => SqL.of (ss _ _ (s4 _ _ hnp))
  -- last
  refine ⟨_, rfl, t, _, _, rfl, s4H _ _ h1, t, b, szs, ps, f, l, ch, rfl, A0.same s4H, _, rfl, np, _, rfl, .inl (fin (Same.refl _)), rfl, all_flat _, _, rfl, ?_⟩
  show if inV (V.str l) (near.map V.str) = true then _ else _
  rw [inV_str]
  refine ite_te (fun z Hz => Hz = H4 ∧ ∃ l' : Str, z = .str l' ∧ l' ∈ near ∧ (l ∈ near → l' = l) ∧ (l ∉ near → l' = f)) ?_ (fun e ky => ?_) (fun e ky => ?_)
  rotate_left
  · exact ⟨_, rfl, t, _, _, rfl, s4H _ _ h1, t, b, szs, ps, f, l, ch, rfl, A0.same s4H, ky _ _ ⟨rfl, l, rfl, of_decide_eq_true e, fun _ => rfl, fun h => absurd (of_decide_eq_true e) h⟩⟩
  · exact ⟨_, rfl, t, _, _, rfl, s4H _ _ h1, t, b, szs, ps, f, l, ch, rfl, A0.same s4H, ky _ _ ⟨rfl, f, rfl, (mem f).mpr .refl, fun h => absurd h (of_decide_eq_false e), fun _ => rfl⟩⟩
  rintro z Hz ⟨rfl, l', rfl, hl'n, hl1, hl2⟩
  -- changes
  refine ⟨_, rfl, np, rfl, ⟨_, fin (Same.refl _)⟩, fun D3 hD3 => dc_it (walk_list (K := K) (a := np) (xs := near.map V.str)) (fun i H' => H' D3 = some (.dK (IzD (tab ch (near.take i)))) ∧ Same Hz H') ⟨upd_same, sm_new hD3⟩ (fun i H' _ h => fin h.2) ?_ ?_⟩
  · rintro i v H' H'' hi ⟨r1, r2⟩ ⟨rfl, hv⟩
    obtain ⟨x, hx, rfl⟩ := map_get hv
    have hxr := hnr x (List.mem_of_getElem? hx)
    refine ⟨rfl, _, rfl, _, rfl, _, rfl, (A0.same (s4H.trans r2)).rGet O hxr fun H7 s7 => ⟨_, Sum.inr x, rfl, s7 _ _ r1, ?_, ?_, (r2.trans s7).put hD3⟩⟩
    · rw [izD_len, sizeLine_eq]
      have := tab_take_len ch near i
      omega
    · rw [upd_same, izD_put _ (by rw [tab_keys]; exact not_take nnd hx), tab_snoc _ hx]
  rintro H5 ⟨r1, r2⟩
  rw [List.length_map, List.take_length] at r1
  have s5H := s4H.trans r2
  -- Building(..)
  refine ⟨_, rfl, np, rfl, ⟨_, fin r2⟩, fun D4 hD4 => dc_it (walk_list (K := K) (a := np) (xs := near.map V.str)) (fun i H' => H' D4 = some (.dK (SzD (tab (szn szs) (near.take i)))) ∧ Same H5 H') ⟨upd_same, sm_new hD4⟩ (fun i H' _ h => fin (r2.trans h.2)) ?_ ?_⟩
  · rintro i v H' H'' hi ⟨t1, t2⟩ ⟨rfl, hv⟩
    obtain ⟨x, hx, rfl⟩ := map_get hv
    have hxr := hnr x (List.mem_of_getElem? hx)
    refine ⟨rfl, _, rfl, _, rfl, _, rfl, (h3.same (s5H.trans t2)).rGet O hxr fun H7 s7 => ⟨_, Sum.inr x, rfl, s7 _ _ t1, ?_, ?_, (t2.trans s7).put hD4⟩⟩
    · rw [SzD, List.length_map, sizeLine_eq]
      have := tab_take_len (szn szs) near i
      omega
    · rw [upd_same, izD_nat, izD_nat, izD_put, tab_snoc _ hx]
      · unfold toI
        rw [List.map_append]
        rfl
      · rw [toI_keys, tab_keys]
        exact not_take nnd hx
  rintro H6 ⟨t1, t2⟩
  rw [List.length_map, List.take_length] at t1
  have s6H := s5H.trans t2
  have s46 : Same Hz H6 := r2.trans t2
  refine ⟨_, rfl, fun x dx' hx hdx ne => ?_⟩
  have m0 := made_same0 (C := bC K) hx hdx
  have OB := open_ok O OT.f nnd mem
  refine ⟨x, D4, D2, dx', _, _, rfl, upd_same, m0 _ _ t1, ⟨ys, .inl (SqL.of (m0 _ _ (s46 _ _ q1))), ((q2.same s46).same m0).dp⟩, OB, fun H7 szs' ps' z1 z2 x7 B7 => ⟨rfl, ?_⟩⟩
  have s7 := made_same hx hdx x7
  have s7H := s6H.trans s7
  have O7 := OB.perm z1 z2
  have kn : ∀ x, x ∈ szs'.map (·.1) ↔ x ∈ near := fun x => by rw [(z1.map _).mem_iff, tab_keys]
  -- Trace(..)
  refine ⟨_, rfl, t, _, _, rfl, s7H _ _ h1, t, b, szs, ps, f, l, ch, rfl, A0.same s7H, _, rfl, _, rfl, fun y dy hy hdy ney => ?_⟩
  have m1 := made_same0 (C := tC K) hy hdy
  have nxy : y ≠ x := fun z => by
    obtain ⟨_, _, _, _, _, _, _, hbx, _⟩ := B7.ex
    rw [z, hbx] at hy
    cases hy
  refine ⟨y, x, D3, dy, szs', ps', f, l', tab ch near, rfl, upd_same, nxy, B7.same m1, O7, (kn f).mpr ((mem f).mpr .refl), (kn l').mpr hl'n, m1 _ _ (s7 _ _ (t2 _ _ r1)), by rw [tab, List.length_map]; exact n24, fun q hq => ?_, fun H8 x8 A8 => ⟨rfl, ?_⟩⟩
  · obtain ⟨z, hz, rfl⟩ := List.mem_map.mp hq
    have h6 := OT.ch z (hnr z hz)
    have h7 := szn_pos O (hnr z hz)
    exact ⟨(kn z).mpr hz, by show -1000000000 ≤ ch z; omega, by show ch z ≤ 1000000000; omega⟩
  · have hsz : ∀ x ∈ near, szn szs' x = szn szs x := fun x hx => by
      rw [szn_perm z1 (by rw [tab_keys]; exact nnd) (by rw [tab_keys]; exact hx), szn_tab _ hx]
    refine k _ y x szs' ps' l' _ (s7H.trans (made_same hy hdy x8)) A8 O7 (kept_ok O7 ((kn f).mpr ((mem f).mpr .refl)) ((kn l').mpr hl'n) _) ⟨fun z => (kn z).trans (mem z), fun z hz => hsz z ((kn z).mp hz), fun q => ?_, ⟨fun h => hl1 ((mem l).mpr h), fun h => hl2 (fun z => h ((mem l).mp z))⟩, fun z hz => ?_⟩
    · rw [z2.mem_iff, List.mem_filter]
      constructor
      · rintro ⟨a1, a2⟩
        simp at a2
        exact ⟨a1, (mem _).mp a2.1⟩
      · rintro ⟨a1, a2⟩
        have a3 : Conn (keptP ps p) f q.2 := a2.step (.inl a1)
        refine ⟨a1, ?_⟩
        simp [(mem _).mpr a2, (mem _).mpr a3]
    · have hzn := (kn z).mp hz
      have h6 := OT.ch z (hnr z hzn)
      unfold kept
      rw [tab_look _ hzn, hsz z hzn]
      exact Int.emod_eq_of_lt h6.1 h6.2
end
end Rd
/-! paper_of. -/
namespace Rd
open PySem PySem.Spec PyProof.Rows L2 Gr
def Avo (szs : List (Str × Nat)) (l : Str) (ch : Str → Int) (szs' : List (Str × Nat)) (ps' : List (Str × Str)) (f l' : Str) (ch' : Str → Int) : Prop := (∀ x ∈ szs.map (·.1), x ∉ szs'.map (·.1) → x ≠ l ∧ ch x = 0) ∧ TPos szs' ps' f l' ch'
def AvV (H : Hp) (v : V) (A : Prop) : Prop := (v = .non ∧ A) ∨ ∃ (u : Addr) (xs : List V), v = .ref u ∧ H u = some (.tup xs) ∧ ¬ A
def spPO (K : PySem.W.Frag) : Sp := fun vs H Q _ => ∃ (t t' b b' : Addr) (szs szs' : List (Str × Nat)) (ps ps' : List (Str × Str)) (f l l' : Str) (ch ch' : Str → Int), vs = [.ref t, .ref t'] ∧ TAt K H t b szs ps f l ch ∧ BOk szs ps ∧ TAt K H t' b' szs' ps' f l' ch' ∧ BOk szs' ps' ∧ TOk szs' ps' f l' ch' ∧
  ∀ v H', Same H H' → AvV H' v (Avo szs l ch szs' ps' f l' ch') → Q v H'
-- slots of paper_of: 0 trace 1 inner 2 room
theorem sc_paper_of : FnScope ["trace", "inner", "room"] ["trace", "inner"] (defScope s_paper_of) := ⟨rfl, rfl, rfl, by decide +kernel, rfl, by decide +kernel, by decide +kernel⟩
section
variable {P : Program} {w : World} {K : PySem.W.Frag} {mg : Str → Option Value} {base : Heap}
theorem ca_paper_of (T : Wd K mg base) : Ca P w K mg base 5 "paper_of" (spPO K) [] := by
  obtain ⟨fd, F⟩ := T.L.F_paper_of
  refine ca_of F T.g_paper_of (F.binds (ps := ["trace", "inner"]) fun _ _ _ _ _ _ us hl => match us, hl with | [_, _], _ => rfl) sc_paper_of (fun vs H Q E ⟨_, _, _, _, _, _, _, _, _, _, _, _, _, e, _⟩ => by rw [e]; rfl) ?_
  rintro cdv A outer s0 H vs Q E hr ⟨t, t', b, b', szs, szs', ps, ps', f, l, l', ch, ch', rfl, A0, O, A1, O1, OT1, k⟩
  obtain ⟨dx, d, ky, bv, sd, h1, h2, h3, h4, h5⟩ := id A0.ex
  obtain ⟨bdx, bd, bc, nr, sd', rg, br, hb, _⟩ := id h3.ex
  obtain ⟨dx', d', ky', bv', sd1, h1', h2', h3', h4', h5'⟩ := id A1.ex
  obtain ⟨bdx', bd', bc', nr', sd1', rg', br', hb', _⟩ := id h3'.ex
  refine ⟨_, (pss_cons (ps_for PassesOwn.never rfl (pi_tup (pe_pr (pr_Building_rooms T) hr (by decide) (pe_pr (pr_Trace_building T) hr (by decide) (pv 0)))) (pg_name (i := 2) sc_paper_of.nd rfl (Or.inl rfl)) (pss_one (ps_if (PW.pt (pw_and (pt_cmpR (op_nin_own (mt_Building_dcontains T) hr (by decide)) (pv 2) (pe_pr (pr_Trace_building T) hr (by decide) (pv 1)) (by rfl)) (pw_and1 (PW.pt (pw_or (pt_cmpR op_eq (pv 2) (pe_pr (pr_Trace_last T) hr (by decide) (pv 0)) (by rfl)) (pw_or1 (pt_cmpR op_ne (pe_get_own (mt_Trace_dgetitem T) hr (by decide) (pv 0) (pv 2)) pe_int (by rfl)))))))) (pss_one (ps_ret (pe_tup (pa_cons pe_str (pa_cons (pv 2) pa_nil))))) pss_nil))) (pss_one (ps_ret (pe_pr (pr_Trace_paper T) hr (by decide) (pv 1))))), ?_⟩
  refine ⟨_, rfl, t, _, _, rfl, h1, t, b, szs, ps, f, l, ch, rfl, A0, b, _, _, rfl, hb, b, szs, ps, rfl, h3, fun H1 p1 s1 hp1 => ?_⟩
  refine ⟨p1, rfl, ⟨_, SqT.of hp1⟩, for_tup (K := K) (a := p1) (xs := (szs.map (·.1)).map V.str) (fun i σ H' => Same H1 H' ∧ (∀ x ∈ (szs.map (·.1)).take i, x ∉ szs'.map (·.1) → x ≠ l ∧ ch x = 0) ∧ ∃ v, σ = [some (.ref t), some (.ref t'), v]) ⟨Same.refl _, (fun x h => by cases h), none, rfl⟩ (fun i σ H' _ h => h.1.tup (SqT.of hp1)) ?_ ?_⟩
  · rintro i v σ H' hi ⟨ss, hno, v1, rfl⟩
    obtain ⟨x, hx, rfl⟩ := map_get hi
    have hxr := List.mem_of_getElem? hx
    have sH := s1.trans ss
    refine ⟨_, rfl, _, rfl, t', _, _, rfl, sH _ _ h1', t', b', szs', ps', f, l', ch', rfl, A1.same sH, (h3'.same sH).rIn (O.nmR hxr) true fun H2 s2 => ⟨_, rfl, ?_⟩⟩
    have sH2 := sH.trans s2
    have next : (x ∉ szs'.map (·.1) → x ≠ l ∧ ch x = 0) → ∀ y ∈ (szs.map (·.1)).take (i + 1), y ∉ szs'.map (·.1) → y ≠ l ∧ ch y = 0 := fun hz y hy => by
      rw [take_snoc hx] at hy
      rcases List.mem_append.mp hy with h | h
      · exact hno y h
      · rw [List.mem_singleton.mp h]
        exact hz
    by_cases hin : x ∈ szs'.map (·.1)
    · rw [decide_eq_true hin]
      exact iteF (iteF ⟨ss.trans s2, next (fun h => absurd hin h), _, rfl⟩)
    rw [decide_eq_false hin]
    refine iteT ?_
    have bad : ¬ (x ≠ l ∧ ch x = 0) → ∀ H', Same H H' → ∀ u, H' u = none → Q (.ref u) (upd H' u (.tup [.str "room", .str x])) := fun hn H' s u hu => k _ _ (s.new hu) (.inr ⟨u, _, rfl, upd_same, fun ha => hn (ha.1 x hxr hin)⟩)
    refine ⟨_, rfl, _, rfl, t, _, _, rfl, sH2 _ _ h1, t, b, szs, ps, f, l, ch, rfl, A0.same sH2, rfl, _, rfl, ?_⟩
    by_cases hl : x = l
    · rw [decide_eq_true (congrArg V.str hl)]
      refine iteT (iteT ⟨_, rfl, Nat.le_of_ble_eq_true rfl, fun u hu => bad (fun h => h.1 hl) _ sH2 u hu⟩)
    rw [decide_eq_false (fun z => hl (V.str.inj z))]
    refine iteF ?_
    refine ⟨_, rfl, _, rfl, (A0.same sH2).rGet O hxr fun H3 s3 => ⟨rfl, _, rfl, ?_⟩⟩
    have sH3 := sH2.trans s3
    by_cases hc : ch x = 0
    · rw [decide_eq_true (congrArg V.int hc)]
      exact iteF ⟨ss.trans (s2.trans s3), next (fun _ => ⟨hl, hc⟩), _, rfl⟩
    · rw [decide_eq_false (fun z => hc (V.int.inj z))]
      refine iteT ⟨_, rfl, Nat.le_of_ble_eq_true rfl, fun u hu => bad (fun h => hc h.2) _ sH3 u hu⟩
  · rintro σ H' ⟨ss, hno, v1, rfl⟩
    rw [List.length_map, List.take_length] at hno
    have sH := s1.trans ss
    refine ⟨_, rfl, t', _, _, rfl, sH _ _ h1', t', b', szs', ps', f, l', ch', rfl, A1.same sH, O1, fun v H2 s2 hv => ?_⟩
    rcases hv with ⟨rfl, hp⟩ | ⟨u, xs, rfl, hu, hn⟩
    · exact k _ _ (sH.trans s2) (.inl ⟨rfl, hno, hp⟩)
    · exact k _ _ (sH.trans s2) (.inr ⟨u, xs, rfl, hu, fun ha => pos_not ha.2 O1 OT1.f OT1.l hn⟩)
end
end Rd
/-! avoiding_paper. -/
namespace Rd
open PySem PySem.Spec PyProof.Rows L2 Gr
/-- f(e, ..) of a def told by its positional values -/
structure CaR (P : Program) (w : World) (K : PySem.W.Frag) (mg : Str → Option Value) (base : Heap) (k : Nat) (x : Str) (sp : Sp) : Prop where
  ex : ∃ f, FnR P w K mg base CX0 k f sp ∧ mg x = some (.ref f) ∧ PySem.W.keepIn K (.ref f) = true
section
variable {X : Cx} {k j : Nat} {sp : Sp} {x : Str} {e : Expr} {es : List Expr} {t : TA} {p pos : Pos}
theorem pe_caR (c : CaR X.prog X.w X.K X.mg X.base k x sp) (hr : Room j X.A) (hk : k ≤ j) (hg : Gl X x) (ha : PA X (e :: es) t) (hdb : (x == ("__debug__" : Str)) = false := by decide) (he : starEach (e :: es) X.env = (false, eval e X.env) :: starEach es X.env := by rfl)
    (hpl : (backTo pos (starEach es X.env)).any (·.1) = false := by rfl) : PE X (.Call (.Name x p) (e :: es) [] pos) (fun σ H Q => t σ H fun vs H1 => sp vs H1 Q E0) := by
  obtain ⟨f, F, hm, kp⟩ := c.ex
  refine ⟨fun pins s σ H Q I h => ?_⟩
  refine wpAny_Call_Name_kw (ld_glob I hg hm ?_ hdb)
  refine PySem.W.callWith_K (h₀ := X.base) I.ok.mod.kin kp (thn (ha.run pos pins s σ H _ I h) fun us s1 ⟨vs, H1, I1, r, q⟩ => ⟨I1.kIn, ?_⟩) he hpl
  exact wpAny_call (run_fnR F (hr.mono hk) pass0 I1 r q)
end
def spAvoid (K : PySem.W.Frag) : Sp := fun vs H Q _ => ∃ (t b c : Addr) (szs : List (Str × Nat)) (ps : List (Str × Str)) (f l : Str) (ch : Str → Int) (p : Str × Str), vs = [.ref t, .ref c] ∧ TAt K H t b szs ps f l ch ∧ BOk szs ps ∧ TOk szs ps f l ch ∧ TPos szs ps f l ch ∧ H c = some (.tup [.str p.1, .str p.2]) ∧ p ∈ ps ∧
  ∀ v H' szs' ps' l' ch', Same H H' → BOk szs' ps' → TOk szs' ps' f l' ch' → Opn szs ps f l ch p szs' ps' l' ch' → AvV H' v (Avo szs l ch szs' ps' f l' ch') → Q v H'
/-- with what the binding makes -/
def spAvoid3 (K : PySem.W.Frag) : Sp := fun vs H Q _ => ∃ (t b cs c e : Addr) (szs : List (Str × Nat)) (ps : List (Str × Str)) (f l : Str) (ch : Str → Int) (p : Str × Str), vs = [.ref t, .ref e, .ref cs] ∧ TAt K H t b szs ps f l ch ∧ BOk szs ps ∧ TOk szs ps f l ch ∧ TPos szs ps f l ch ∧
  H cs = some (.tup [.ref c]) ∧ H c = some (.tup [.str p.1, .str p.2]) ∧ p ∈ ps ∧ SqT K H e [] ∧ ∀ v H' szs' ps' l' ch', Same H H' → BOk szs' ps' → TOk szs' ps' f l' ch' → Opn szs ps f l ch p szs' ps' l' ch' → AvV H' v (Avo szs l ch szs' ps' f l' ch') → Q v H'
-- slots of avoiding_paper: 0 trace 1 rooms 2 corridors
theorem sc_avoiding_paper : FnScope ["trace", "rooms", "corridors"] ["trace", "rooms", "corridors"] (defScope s_avoiding_paper) := ⟨rfl, rfl, rfl, by decide +kernel, rfl, by decide +kernel, by decide +kernel⟩
section
variable {P : Program} {w : World} {K : PySem.W.Frag} {mg : Str → Option Value} {base : Heap}
theorem ca_avoiding_paper (T : Wd K mg base) : CaR P w K mg base 9 "avoiding_paper" (spAvoid K) := by
  obtain ⟨fd, F⟩ := T.L.fd_avoiding_paper
  obtain ⟨oc, od, dV, kV, doc, pm, an, cdv, ct, osl, rfl, lk, hcd, hD, hK⟩ := F.ex
  refine ⟨_, ?_, T.g_avoiding_paper, F.kp⟩
  have hdV : dV = .none := by
    rcases hD with ⟨_, e⟩ | ⟨e, _⟩
    · exact e
    · exact absurd rfl e
  subst hdV
  obtain ⟨Dk, rfl, hq⟩ : ∃ D : Addr, kV = .ref D ∧ ∀ q ∈ d_avoiding_paper.kws K, ∃ u, PySem.W.nsIn K D q.1 = some (some u) ∧ RelV q.2 u := by
    rcases hK with e | h
    · cases e
    · exact h
  obtain ⟨u, hu, ru⟩ := hq ("rooms", V.ref (kwdA "avoiding_paper" "rooms" K)) List.mem_cons_self
  intro A outer s H us vs Q E hr e0 r hsp
  obtain ⟨t, b, c, szs, ps, f, l, ch, p, rfl, A0, O, OT, hpos, hc, hp, k⟩ := hsp
  obtain ⟨u1, u2, rfl, r1, r2⟩ := vals2 r
  have hn : H s.heap.objs.size = none := e0.hok.fresh (Nat.le_refl _)
  have KX : K.In s.heap := e0.mod.kin.keeps fun b o e => (e0.bs b o e).1
  refine StX.run_bnd (ps := ["trace", "rooms", "corridors"]) (k := 8) lk hcd sc_avoiding_paper hr e0 (G := fun xs H2 => ∃ q, H q = none ∧ xs = [.ref t, .ref (kwdA "avoiding_paper" "rooms" K), .ref q] ∧ H2 = upd H q (.tup [.ref c])) (fun A' Ex Q' h => ?_) fun s2 H2 xs ⟨q, hq, ex, eH⟩ hr' => ?_
  · obtain ⟨β, γ, k1, k2, k3, a, g1, g2, g3⟩ : ∃ (β γ : Type) (k1 : Option Value → Sem β) (k2 : β → Sem γ) (k3 : γ → Sem (List (Str × Value))) (a : β), bindArgs (PySem.W.fnOf d_avoiding_paper.name d_avoiding_paper.qual d_avoiding_paper.params d_avoiding_paper.body d_avoiding_paper.scope .none (.ref Dk) doc pm an cdv ct) ⟨[u1, u2], []⟩ = ((nsGet Dk "rooms" >>= k1) >>= k2) >>= k3 ∧ k1 (some u) = pure a ∧
        (k2 a >>= k3) = (newTuple [u2] >>= fun tv => pure [(("trace" : Str), u1), (("rooms" : Str), u), (("corridors" : Str), tv)]) := ⟨_, _, _, _, _, _, rfl, rfl, rfl⟩
    rw [g1, bind_assoc, bind_assoc]
    refine wpAny_bind ((PySem.W.looks_nsIn KX hu).here ?_)
    rw [g2, pure_bind, g3]
    refine wpAny_bind (wpAny_newTuple (wpAny_pure ?_) (by show 1 ≤ sizeLine; decide))
    have new : ObjOk P w (upd H s.heap.objs.size (.tup [.ref c])) (s.heap.push ({ cls := .type "tuple", data := .seq [u2].toArray } : Obj)) s.heap.objs.size (.tup [.ref c]) := ⟨by show 1 ≤ sizeLine; decide, [u2], .cons r2 .nil, ⟨_, Heap.get?_push_size _ rfl, rfl, _, rfl⟩⟩
    have un := StX.un_laid (fs := frs outer) (s := s) (o := ({ cls := .type "tuple", data := .seq [u2].toArray } : Obj)) (u := .tup [.ref c]) hn
    exact h _ _ [.ref t, .ref (kwdA "avoiding_paper" "rooms" K), .ref s.heap.objs.size] [u1, u, .ref s.heap.objs.size] (StX.env0_laid e0 new) un rfl (fun _ _ z => z) (.cons r1 (.cons ru (.cons rfl .nil))) rfl ⟨_, hn, rfl, rfl⟩
  · subst ex eH
    have hr := hr'
    have s1 : Same H (upd H q (.tup [.ref c])) := sm_new hq
    have nqc : c ≠ q := ne_of_none hc hq
    have he : SqT K (upd H q (.tup [.ref c])) (kwdA "avoiding_paper" "rooms" K) [] := etB_ok (ex_22 T.L.more) _
    have A1 := A0.same s1
    have hc1 := s1 _ _ hc
    have hq1 : upd H q (.tup [.ref c]) q = some (.tup [.ref c]) := upd_same
    have k' : ∀ v H' szs' ps' l' ch', Same (upd H q (.tup [.ref c])) H' → BOk szs' ps' → TOk szs' ps' f l' ch' → Opn szs ps f l ch p szs' ps' l' ch' → AvV H' v (Avo szs l ch szs' ps' f l' ch') → Q v H' := fun v H' a1 a2 a3 a4 s2 => k v H' a1 a2 a3 a4 (s1.trans s2)
    revert A1 hc1 hq1 he k'
    generalize upd H q (.tup [.ref c]) = H1
    intro he A1 hc1 hq1 k'
    refine ⟨_, (pss_cons (ps_expr (pe_ca (ca_need_closed T) hr (by decide) rfl (pa_cons (pv 0) (pa_cons (pv 2) (pa_cons (pv 1) pa_nil))))) (pss_one (ps_ret (pe_ca (ca_paper_of T) hr (by decide) rfl (pa_cons (pv 0) (pa_cons (pe_ca (ca_open_trace T) hr (by decide) rfl (pa_cons (pv 0) (pa_cons (pv 2) (pa_cons (pv 1) pa_nil)))) pa_nil)))))), ?_⟩
    refine ⟨_, rfl, _, rfl, _, rfl, t, b, q, c, _, szs, ps, f, l, ch, p, rfl, A1, O, OT, hpos, hq1, hc1, hp, he, fun H2 s2 => ?_⟩
    refine ⟨_, rfl, _, rfl, _, rfl, _, rfl, t, b, q, c, _, szs, ps, f, l, ch, p, rfl, A1.same s2, O, OT, s2 _ _ hq1, s2 _ _ hc1, hp, s2.tup he, fun H3 t' b' szs' ps' l' ch' s3 A3 O3 OT3 op => ?_⟩
    exact ⟨t, t', b, b', szs, szs', ps, ps', f, l, l', ch, ch', rfl, A1.same (s2.trans s3), O, A3, O3, OT3, fun v H4 s4 hv => k' v H4 szs' ps' l' ch' (s2.trans (s3.trans s4)) O3 OT3 op hv⟩
end
end Rd
/-! Numbers. -/
namespace Rd
open PySem PySem.Spec PyProof.Rows L2 Gr
abbrev nC (K : PySem.W.Frag) : Addr := He.ga K "Numbers"
def NAt (K : PySem.W.Frag) (H : Hp) (n : Addr) (i m : Int) : Prop := ∃ dx, H n = some (.ins (nC K) dx [("own_least", .int i), ("own_modulus", .int m)])
theorem NAt.same {K : PySem.W.Frag} {H H' : Hp} {n : Addr} {i m : Int} (s : Same H H') : NAt K H n i m → NAt K H' n i m := fun ⟨dx, h⟩ => ⟨dx, s _ _ h⟩
theorem put_n1 {i : Int} : putF "own_least" (V.int i) [] = ([("own_least", V.int i)] : List (Str × V)) := rfl
theorem put_n2 {i m : Int} : putF "own_modulus" (V.int m) [("own_least", V.int i)] = ([("own_least", V.int i), ("own_modulus", V.int m)] : List (Str × V)) := rfl
def spNInit (K : PySem.W.Frag) : Sp := fun vs H Q _ => ∃ (n dx : Addr) (i m : Int), vs = [.ref n, .int i, .int m] ∧ H n = some (.ins (nC K) dx []) ∧ ∀ H', SameX n H H' → NAt K H' n i m → Q .non H'
-- slots of Numbers.__init__: 0 self 1 least 2 modulus
theorem sc_Numbers_dinit : FnScope ["self", "least", "modulus"] ["self", "least", "modulus"] (defScope s_Numbers_dinit) := ⟨rfl, rfl, rfl, by decide +kernel, rfl, by decide +kernel, by decide +kernel⟩
section
variable {P : Program} {w : World} {K : PySem.W.Frag} {mg : Str → Option Value} {base : Heap}
theorem ma_Numbers (T : Wd K mg base) : Ma P w K mg base 1 "Numbers" (nC K) (spNInit K) := by
  obtain ⟨fd, F⟩ := T.L.F_Numbers_dinit
  refine ma_of F T.L.k_Numbers T.g_Numbers (F.binds (ps := ["self", "least", "modulus"]) fun _ _ _ _ _ _ us hl => match us, hl with | [_, _, _], _ => rfl) sc_Numbers_dinit (fun vs H Q E ⟨_, _, _, _, e, _⟩ => by rw [e]; rfl) ?_
  rintro cdv A outer s0 H vs Q E hr ⟨n, dx, i, m, rfl, hn, k⟩
  refine ⟨_, (pss_cons (ps_fld (pv 0) (pv 1) rfl) (pss_one (ps_fld (pv 0) (pv 2) rfl))), ?_⟩
  refine ⟨_, rfl, _, rfl, n, _, dx, _, rfl, hn, T.L.c_Numbers, T.L.n_Numbers_own_least, Nat.le_of_ble_eq_true rfl, ?_⟩
  rw [put_n1]
  refine ⟨_, rfl, _, rfl, n, _, dx, _, rfl, upd_same, T.L.c_Numbers, T.L.n_Numbers_own_modulus, Nat.le_of_ble_eq_true rfl, ?_⟩
  rw [put_n2]
  exact k _ (sameX_put.trans sameX_put) ⟨dx, upd_same⟩
def spNLeast (K : PySem.W.Frag) : Sp := fun vs H Q _ => ∃ (n : Addr) (i m : Int), vs = [.ref n] ∧ NAt K H n i m ∧ Q (.int i) H
end
-- slots of Numbers.least: 0 self
theorem sc_Numbers_least : FnScope ["self"] ["self"] (defScope s_Numbers_least) := ⟨rfl, rfl, rfl, by decide +kernel, rfl, by decide +kernel, by decide +kernel⟩
section
variable {P : Program} {w : World} {K : PySem.W.Frag} {mg : Str → Option Value} {base : Heap}
theorem pr_Numbers_least (T : Wd K mg base) : Pr P w K mg base 1 (nC K) "least" (spNLeast K) := by
  obtain ⟨fd, F⟩ := T.L.F_Numbers_least
  obtain ⟨p, hp⟩ := propB_ok (ex_9 T.L.more)
  refine pr_of F T.L.c_Numbers hp (F.binds (ps := ["self"]) fun _ _ _ _ _ _ us hl => match us, hl with | [_], _ => rfl) sc_Numbers_least (fun vs H Q E ⟨_, _, _, e, _⟩ => by rw [e]; rfl) ?_
  rintro cdv A outer s H vs Q E hr ⟨n, i, m, rfl, ⟨dx, hn⟩, k⟩
  refine ⟨_, (pss_one (ps_ret (pe_fld (pv 0) rfl))), ?_⟩
  exact ⟨_, rfl, n, _, dx, _, .int i, rfl, hn, T.L.c_Numbers, T.L.n_Numbers_own_least, rfl, k⟩
def spNAdd (K : PySem.W.Frag) : Sp := fun vs H Q _ => ∃ (n : Addr) (i m j : Int), vs = [.ref n, .int j] ∧ NAt K H n i m ∧ ∀ H' r, Same H H' → NAt K H' r (i + j) m → Q (.ref r) H'
end
-- slots of Numbers.__add__: 0 self 1 number
theorem sc_Numbers_dadd : FnScope ["self", "number"] ["self", "number"] (defScope s_Numbers_dadd) := ⟨rfl, rfl, rfl, by decide +kernel, rfl, by decide +kernel, by decide +kernel⟩
section
variable {P : Program} {w : World} {K : PySem.W.Frag} {mg : Str → Option Value} {base : Heap}
theorem mt_Numbers_dadd (T : Wd K mg base) : Mt P w K mg base 3 (nC K) "__add__" (spNAdd K) := by
  obtain ⟨fd, F⟩ := T.L.F_Numbers_dadd
  refine mt_of F T.L.c_Numbers T.L.m_Numbers_daddd (F.binds (ps := ["self", "number"]) fun _ _ _ _ _ _ us hl => match us, hl with | [_, _], _ => rfl) sc_Numbers_dadd (fun vs H Q E ⟨_, _, _, _, e, _⟩ => by rw [e]; rfl) ?_
  rintro cdv A outer s H vs Q E hr ⟨n, i, m, j, rfl, ⟨dx, hn⟩, k⟩
  refine ⟨_, (pss_one (ps_ret (pe_ma (ma_Numbers T) hr (by decide) rfl (pa_cons (pe_op op_add (pe_fld (pv 0) rfl) (pv 1)) (pa_cons (pe_fld (pv 0) rfl) pa_nil))))), ?_⟩
  refine ⟨_, rfl, n, _, dx, _, .int i, rfl, hn, T.L.c_Numbers, T.L.n_Numbers_own_least, rfl, _, rfl, _, _, rfl, rfl, _, rfl, n, _, dx, _, .int m, rfl, hn, T.L.c_Numbers, T.L.n_Numbers_own_modulus, rfl, fun x dx' hx hdx ne => ?_⟩
  exact ⟨x, dx', i + j, m, rfl, upd_same, fun H' sx N => ⟨rfl, k _ x (made_same hx hdx sx) N⟩⟩
def spNEq (K : PySem.W.Frag) : Sp := fun vs H Q _ => ∃ (n n' : Addr) (i m : Int), vs = [.ref n, .ref n'] ∧ NAt K H n i m ∧ NAt K H n' i m ∧ ∀ H', Same H H' → Q (.bl true) H'
end
-- slots of Numbers.__eq__: 0 self 1 other
theorem sc_Numbers_deq : FnScope ["self", "other"] ["self", "other"] (defScope s_Numbers_deq) := ⟨rfl, rfl, rfl, by decide +kernel, rfl, by decide +kernel, by decide +kernel⟩
section
variable {P : Program} {w : World} {K : PySem.W.Frag} {mg : Str → Option Value} {base : Heap}
theorem mt_Numbers_deq (T : Wd K mg base) : Mt P w K mg base 1 (nC K) "__eq__" (spNEq K) := by
  obtain ⟨fd, F⟩ := T.L.F_Numbers_deq
  refine mt_of F T.L.c_Numbers T.L.m_Numbers_deqd (F.binds (ps := ["self", "other"]) fun _ _ _ _ _ _ us hl => match us, hl with | [_, _], _ => rfl) sc_Numbers_deq (fun vs H Q E ⟨_, _, _, _, e, _⟩ => by rw [e]; rfl) ?_
  rintro cdv A outer s H vs Q E hr ⟨n, n', i, m, rfl, ⟨dx, hn⟩, ⟨dx', hn'⟩, k⟩
  refine ⟨_, (pss_cons (ps_if (pt_not (pt_val (pe_callB (call_isi) (by rfl) T.f_isinstance (by decide +kernel) (pa_cons (pv 1) (pa_cons (pe_glob (v := .ref (He.ga K "Numbers")) rfl T.g_Numbers rfl) pa_nil))))) (pss_one (ps_ret pe_bl)) pss_nil) (pss_one (ps_ret (pe_cmpR (op_eqD hr.units) (pe_tup (pa_cons (pe_fld (pv 0) rfl) (pa_cons (pe_fld (pv 0) rfl) pa_nil))) (pe_tup (pa_cons (pe_fld (pv 1) rfl) (pa_cons (pe_fld (pv 1) rfl) pa_nil))) (by rfl))))), ?_⟩
  refine ⟨_, rfl, _, _, _, _, true, rfl, .own _, ins_ty (ex_18 T.L.more) T.L.c_Numbers hn', kit_self _, true, rfl, iteF ?_⟩
  refine ⟨_, rfl, n, _, dx, _, .int i, rfl, hn, T.L.c_Numbers, T.L.n_Numbers_own_least, rfl, _, rfl, n, _, dx, _, .int m, rfl, hn, T.L.c_Numbers, T.L.n_Numbers_own_modulus, rfl, Nat.le_of_ble_eq_true rfl, fun p hp => ?_⟩
  have s1 : Same H (upd H p (.tup [.int i, .int m])) := sm_new hp
  refine ⟨_, rfl, n', _, dx', _, .int i, rfl, s1 _ _ hn', T.L.c_Numbers, T.L.n_Numbers_own_least, rfl, _, rfl, n', _, dx', _, .int m, rfl, s1 _ _ hn', T.L.c_Numbers, T.L.n_Numbers_own_modulus, rfl, Nat.le_of_ble_eq_true rfl, fun q hq => ?_⟩
  have npq : p ≠ q := ne_of_none upd_same hq
  refine ⟨.tuple [.int i, .int m], .tuple [.int i, .int m], .tup (SqT.of (by rw [upd_ne npq, upd_same])) (.cons (.int _) (.cons (.int _) .nil)), .tup (SqT.of upd_same) (.cons (.int _) (.cons (.int _) .nil)), ?_, ?_, ?_⟩
  · simp [SeqAt.shaped, PyData.canLay0, PyData.canLayAll0, PyData.depth, PyData.depthAll]
  · simp [SeqAt.shaped, PyData.canLay0, PyData.canLayAll0, PyData.depth, PyData.depthAll]
  · rw [SeqAt.eqv_refl]
    · exact k _ (s1.new hq)
    · simp [PyData.canLay0, PyData.canLayAll0]
end
end Rd
/-! gcd_of_bank, corridor_modulus. -/
namespace Rd
open PySem PySem.Spec PyProof.Rows L2 Gr
abbrev inn (ps : List (Str × Str)) (rs : List Str) : List (Str × Str) := ps.filter fun q => decide (q.1 ∈ rs) && decide (q.2 ∈ rs)
def BG (szs : List (Str × Nat)) (ps : List (Str × Str)) (rs : List Str) (g : Nat) : Prop := (g = 1 ∧ ∀ c, ¬ Col (inn ps rs) c) ∨ ((∃ c, Col (inn ps rs) c) ∧ g = gcdN (rs.map (szn szs)))
theorem gcdN_le {ns : List Nat} (hne : ns ≠ []) (h : ∀ n ∈ ns, 1 ≤ n ∧ n ≤ 1000000) : 1 ≤ gcdN ns ∧ gcdN ns ≤ 1000000 := by
  obtain ⟨n, hn⟩ : ∃ n, n ∈ ns := by
    cases ns with
    | nil => exact absurd rfl hne
    | cons n r => exact ⟨n, List.mem_cons_self⟩
  have h1 : gcdL (ns.map fun n : Nat => (n : Int)) ∣ (n : Int) := gcd_dvd (List.mem_map.mpr ⟨n, hn, rfl⟩)
  rw [gcdN_L] at h1
  have h2 := Int.natCast_dvd_natCast.mp h1
  have h3 := h n hn
  have h4 := Nat.le_of_dvd (by omega) h2
  have h5 : gcdN ns ≠ 0 := fun e => by
    rw [e] at h2
    have := Nat.eq_zero_of_zero_dvd h2
    omega
  omega
def spGB (K : PySem.W.Frag) : Sp := fun vs H Q _ => ∃ (b kb : Addr) (szs : List (Str × Nat)) (ps : List (Str × Str)) (rs : List Str), vs = [.ref b, .ref kb] ∧ BAt K H b szs ps ∧ BOk szs ps ∧ H kb = some (.tup (rs.map V.str)) ∧ rs ≠ [] ∧ rs.Nodup ∧ (∀ x ∈ rs, x ∈ szs.map (·.1)) ∧ (∀ x ∈ rs, ∀ y ∈ rs, Conn (inn ps rs) x y) ∧
  ∀ (g : Nat) H', Same H H' → BG szs ps rs g → 1 ≤ g → g ≤ 1000000 → Q (.int (g : Nat)) H'
-- slots of gcd_of_bank: 0 building* 1 bank* 2 inner 3 pair 4 room
theorem sc_gcd_of_bank : FnScope ["building", "bank", "inner", "pair", "room"] ["building", "bank"] (defScope s_gcd_of_bank) := ⟨rfl, rfl, rfl, by decide +kernel, rfl, by decide +kernel, by decide +kernel⟩
section
variable {P : Program} {w : World} {K : PySem.W.Frag} {mg : Str → Option Value} {base : Heap}
theorem ca_gcd_of_bank (T : Wd K mg base) : Ca P w K mg base 5 "gcd_of_bank" (spGB K) [] := by
  obtain ⟨fd, F⟩ := T.L.F_gcd_of_bank
  refine ca_of F T.g_gcd_of_bank (F.binds (ps := ["building", "bank"]) fun _ _ _ _ _ _ us hl => match us, hl with | [_, _], _ => rfl) sc_gcd_of_bank (fun vs H Q E ⟨_, _, _, _, _, e, _⟩ => by rw [e]; rfl) ?_
  rintro cdv A outer s0 H vs Q E hr ⟨b, kb, szs, ps, rs, rfl, B, O, hkb, hne, hnd, hrs, hcn, k⟩
  obtain ⟨bdx, bd, bc, nr, sd, rg, br, hb, _⟩ := id B.ex
  have hr24 : rs.length ≤ 24 := by
    have := nodup_le hnd hrs
    rw [List.length_map] at this
    have := O.few
    omega
  refine ⟨_, (pss_cons (ps_setLc (i := 2) (own := [("pair", 3)]) (g := gName 3) rfl sc_gcd_of_bank.nd rfl rfl (sw_true rfl rfl rfl (by decide +kernel)) (pi_tup (pe_pr (pr_Building_corridors T) hr (by decide) (pv 0))) (blkOk_by (own := [("pair", 3)]) (N := ["building", "bank", "inner", "pair", "room"]) (sc := defScope s_gcd_of_bank) (by decide +kernel)) (fun _ _ _ _ _ => (pg_name (i := 3) sc_gcd_of_bank.nd rfl (Or.inl rfl))) (fun _ _ _ _ _ => (pts_one (PW.pt (pw_and (pt_cmpR (r := rIn K false) op_in_seq (pe_ix (r := rIxT K) ix_tup (pv 3) pe_int (fun _ _ => rfl)) (pv 1) (by rfl)) (pw_and1 (pt_cmpR (r := rIn K false) op_in_seq (pe_ix (r := rIxT K) ix_tup (pv 3) pe_int (fun _ _ => rfl)) (pv 1) (by rfl))))))) (fun _ _ _ _ _ => (pv 3))) (pss_one (ps_ret (pe_ifExp (pt_cmpR op_isN (pe_ca (ca_sides_of T) hr (by decide) rfl (pa_cons (pe_callTy (call_list_of) (by rfl) T.f_list (by decide +kernel) (pa_cons (pv 1) pa_nil)) (pa_cons (pv 2) pa_nil))) pe_non (by rfl)) pe_int (pe_ca (ca_gcd_of T) hr (by decide) rfl (pa_cons (pe_lc (own := [("room", 4)]) (g := gName 4) rfl sc_gcd_of_bank.nd (pi_tup (pv 1)) (blkOk_by (own := [("room", 4)]) (N := ["building", "bank", "inner", "pair", "room"]) (sc := defScope s_gcd_of_bank) (by decide +kernel)) (fun _ _ _ _ _ => (pg_name (i := 4) sc_gcd_of_bank.nd rfl (Or.inl rfl))) (fun _ _ _ _ _ => pts_nil) (fun _ _ _ _ _ => (pe_get_own (mt_Building_dgetitem T) hr (by decide) (pv 0) (pv 4)))) pa_nil)))))), ?_⟩
  refine ⟨_, rfl, b, _, _, rfl, hb, b, szs, ps, rfl, B, fun H1 p1 xs s1 hp1 hxs => ?_⟩
  have el := hxs.len
  refine ⟨p1, rfl, ⟨_, SqT.of hp1⟩, fun D hD => lc_tup (K := K) (a := p1) (xs := xs) (fun i H' => ∃ ys, H' D = some (.lst ys) ∧ TpAll H' ys (inn (ps.take i) rs) ∧ ys.length ≤ i ∧ Same H1 H') ⟨[], upd_same, .nil, Nat.le_refl _, sm_new hD⟩ (fun i H' _ ⟨_, _, _, _, h⟩ => h.tup (SqT.of hp1)) ?_ ?_⟩
  · rintro i v H' hi ⟨ys, q1, q2, q3, ss⟩
    obtain ⟨q, u, hq, rfl, hu⟩ := hxs.get hi
    have hip := (List.getElem?_eq_some_iff.mp hq).1
    have h31 := O.fewP
    have sH := s1.trans ss
    have ek : inn (ps.take (i + 1)) rs = if (decide (q.1 ∈ rs) && decide (q.2 ∈ rs)) = true then inn (ps.take i) rs ++ [q] else inn (ps.take i) rs := filter_snoc (fun q : Str × Str => decide (q.1 ∈ rs) && decide (q.2 ∈ rs)) hq
    refine ⟨rfl, _, rfl, u, _, (0 : Int), .str q.1, rfl, rfl, SqT.of (ss _ _ hu), rfl, _, rfl, kb, _, rfl, .inr (SqT.of (sH _ _ hkb)), rfl, all_flat _, _, rfl, ?_⟩
    show if inV (V.str q.1) (rs.map V.str) = true then _ else _
    rw [inV_str]
    by_cases e1 : q.1 ∈ rs
    · rw [decide_eq_true e1]
      refine iteT ?_
      refine ⟨_, rfl, u, _, (1 : Int), .str q.2, rfl, rfl, SqT.of (ss _ _ hu), rfl, _, rfl, kb, _, rfl, .inr (SqT.of (sH _ _ hkb)), rfl, all_flat _, _, rfl, ?_⟩
      show if inV (V.str q.2) (rs.map V.str) = true then _ else _
      rw [inV_str]
      by_cases e2 : q.2 ∈ rs
      · rw [decide_eq_true e2]
        rw [if_pos (by simp [e1, e2])] at ek
        rw [ek]
        refine iteT ⟨_, rfl, _, q1, by rw [sizeLine_eq]; omega, ys ++ [V.ref u], upd_same, ?_, by rw [List.length_append, List.length_singleton]; omega, ss.put hD⟩
        have hcD : Chg (H' D) := .inr (.inr ⟨_, q1⟩)
        exact TpAll.app (q2.put hcD) (TpAll.put hcD (.cons ⟨u, rfl, ss _ _ hu⟩ .nil))
      · rw [decide_eq_false e2]
        rw [if_neg (by simp [e2])] at ek
        rw [ek]
        exact iteF ⟨ys, q1, q2, by omega, ss⟩
    · rw [decide_eq_false e1]
      rw [if_neg (by simp [e1])] at ek
      rw [ek]
      exact iteF (iteF ⟨ys, q1, q2, by omega, ss⟩)
  rintro H2 ⟨ys, q1, q2, q3, ss2⟩
  rw [el, List.take_length] at q2
  have s2 := s1.trans ss2
  -- sides_of
  refine ⟨_, rfl, kb, _, rfl, .inr (SqT.of (s2 _ _ hkb)), fun l hl => ?_⟩
  have s3 : Same H2 (upd H2 l (.lst (rs.map V.str))) := sm_new hl
  refine ⟨_, rfl, l, D, rs, inn ps rs, rfl, SqL.of upd_same, hne, hnd, by omega, ⟨ys, .inl (SqL.of (s3 _ _ q1)), (q2.same s3).dp⟩, Nat.le_trans (List.length_filter_le _ _) O.fewP, fun q hq => ?_, hcn, fun sv H4 s4 hsv => ?_⟩
  · have := (List.mem_filter.mp hq).2
    simp at this
    exact this
  have s4H : Same H H4 := s2.trans (s3.trans s4)
  rcases hsv with ⟨rfl, hno⟩ | ⟨ut, ua, ub, z0, z1, rfl, _, _, _, c, hc, _⟩
  · exact ⟨rfl, _, rfl, iteT (k 1 _ s4H (.inl ⟨rfl, hno⟩) (Nat.le_refl _) (by omega))⟩
  · refine ⟨rfl, _, rfl, ?_⟩
    rw [decide_eq_false (fun z => by cases z)]
    refine iteF ?_
    refine ⟨_, rfl, kb, rfl, ⟨_, SqT.of (s4H _ _ hkb)⟩, fun L hL => lc_tup (K := K) (a := kb) (xs := rs.map V.str) (fun i H' => H' L = some (.lst ((((rs.take i).map (szn szs)).map fun n : Nat => (n : Int)).map V.int)) ∧ Same H4 H') ⟨upd_same, sm_new hL⟩ (fun i H' _ h => (s4H.trans h.2).tup (SqT.of hkb)) ?_ ?_⟩
    · rintro i v H' hi ⟨g1, g2⟩
      obtain ⟨x, hx, rfl⟩ := map_get hi
      have hxr := hrs x (List.mem_of_getElem? hx)
      refine ⟨rfl, _, rfl, _, rfl, (B.same (s4H.trans g2)).rGet O hxr fun H7 s7 => ⟨_, s7 _ _ g1, ?_, ?_, (g2.trans s7).put hL⟩⟩
      · rw [List.length_map, List.length_map, List.length_map, List.length_take, sizeLine_eq]
        omega
      · rw [upd_same, take_snoc hx, List.map_append, List.map_append, List.map_append]
        rfl
    rintro H5 ⟨g1, g2⟩
    rw [List.length_map, List.take_length] at g1
    refine ⟨L, _, rfl, SqL.of g1, ?_⟩
    have hb2 := gcdN_le (ns := rs.map (szn szs)) (fun z => hne (List.map_eq_nil_iff.mp z)) (fun n hn => by
      obtain ⟨x, hx, rfl⟩ := List.mem_map.mp hn
      exact szn_pos O (hrs x hx))
    have := k (gcdN (rs.map (szn szs))) _ (s4H.trans g2) (.inr ⟨⟨c, hc⟩, rfl⟩) hb2.1 hb2.2
    rw [← gcdN_L] at this
    exact this
/-- corridor_modulus -/
def MOk (szs : List (Str × Nat)) (ps : List (Str × Str)) (x y : Str) (m : Nat) : Prop :=
  (¬ Conn (keptP ps (pairS x y)) x y ∧ ∃ (r1 r2 : List Str) (g1 g2 : Nat), r1.Nodup ∧ r2.Nodup ∧ (∀ z, z ∈ r1 ↔ Conn (keptP ps (pairS x y)) x z) ∧ (∀ z, z ∈ r2 ↔ Conn (keptP ps (pairS x y)) y z) ∧ BG szs ps r1 g1 ∧ BG szs ps r2 g2 ∧ m = 2 * Nat.lcm g1 g2) ∨
  (Conn (keptP ps (pairS x y)) x y ∧ ((((∃ c, Col ps c) ∨ ∀ c, ¬ Col (keptP ps (pairS x y)) c) ∧ m = 1) ∨ ((∀ c, ¬ Col ps c) ∧ (∃ c, Col (keptP ps (pairS x y)) c) ∧ m = gcdN (szs.map (·.2)))))
end
theorem conn_keep {ps : List (Str × Str)} {x y a b : Str} (h : Conn (keptP ps (pairS x y)) x y) (c : Conn ps a b) : Conn (keptP ps (pairS x y)) a b := by
  induction c with
  | refl => exact .refl
  | step _ ad ih =>
    refine ih.trans ?_
    have key : ∀ u v : Str, (u, v) ∈ ps → Conn (keptP ps (pairS x y)) u v := fun u v hm => by
      by_cases e : (u, v) = pairS x y
      · unfold pairS at e
        split at e
        · cases e; exact h
        · cases e; exact h.symm
      · exact Conn.refl.step (.inl (List.mem_filter.mpr ⟨hm, by simpa using e⟩))
    rcases ad with ad | ad
    · exact key _ _ ad
    · exact (key _ _ ad).symm
theorem bank_conn {ps : List (Str × Str)} {p : Str × Str} {x : Str} {rs : List Str} (h : ∀ z, z ∈ rs ↔ Conn (keptP ps p) x z) : ∀ a ∈ rs, ∀ b ∈ rs, Conn (inn ps rs) a b := fun a ha b hb => by
  have m : ∀ q ∈ (keptP ps p).filter (fun q => decide (q.1 ∈ rs) && decide (q.2 ∈ rs)), q ∈ inn ps rs := fun q hq => by
    obtain ⟨h1, h2⟩ := List.mem_filter.mp hq
    exact List.mem_filter.mpr ⟨(List.mem_filter.mp h1).1, h2⟩
  exact ((conn_in h ((h a).mp ha)).symm.trans (conn_in h ((h b).mp hb))).mono m
theorem pairS_comm {x y : Str} (h : x ≠ y) : pairS y x = pairS x y := by
  unfold pairS
  cases e1 : ltS x y with
  | true =>
    rw [ltS_asym e1]
    rfl
  | false =>
    cases e2 : ltS y x with
    | true => rfl
    | false =>
      exfalso
      refine h ?_
      have h1 : ¬ x.cps.toList < y.cps.toList := of_decide_eq_false e1
      have h2 : ¬ y.cps.toList < x.cps.toList := of_decide_eq_false e2
      have h3 := List.le_antisymm (show x.cps.toList ≤ y.cps.toList from h2) (show y.cps.toList ≤ x.cps.toList from h1)
      cases x
      cases y
      congr 1
      exact Array.ext' h3
end Rd
/-! corridor_modulus: walk. -/
namespace Rd
open PySem PySem.Spec PyProof.Rows L2 Gr
def spCM (K : PySem.W.Frag) : Sp := fun vs H Q _ => ∃ (b : Addr) (x y : Str) (szs : List (Str × Nat)) (ps : List (Str × Str)), vs = [.ref b, .str x, .str y] ∧ BAt K H b szs ps ∧ BOk szs ps ∧ pairS x y ∈ ps ∧ ∀ (m : Nat) H', Same H H' → MOk szs ps x y m → 1 ≤ m → Q (.int (m : Nat)) H'
-- slots of corridor_modulus: 0 building* 1 one 2 other 3 corridor* 4 bank 5 rest 6 pair 7 room
theorem sc_corridor_modulus : FnScope ["building", "one", "other", "corridor", "bank", "rest", "pair", "room"] ["building", "one", "other"] (defScope s_corridor_modulus) := ⟨rfl, rfl, rfl, by decide +kernel, rfl, by decide +kernel, by decide +kernel⟩
section
variable {P : Program} {w : World} {K : PySem.W.Frag} {mg : Str → Option Value} {base : Heap}
theorem ca_corridor_modulus (T : Wd K mg base) : Ca P w K mg base 6 "corridor_modulus" (spCM K) [] := by
  obtain ⟨fd, F⟩ := T.L.F_corridor_modulus
  refine ca_of F T.g_corridor_modulus (F.binds (ps := ["building", "one", "other"]) fun _ _ _ _ _ _ us hl => match us, hl with | [_, _, _], _ => rfl) sc_corridor_modulus (fun vs H Q E ⟨_, _, _, _, _, e, _⟩ => by rw [e]; rfl) ?_
  rintro cdv A outer s0 H vs Q E hr ⟨b, x, y, szs, ps, rfl, B, O, hin, k⟩
  obtain ⟨bdx, bd, bc, nr, sd, rg, br, hb, _⟩ := id B.ex
  have hxy : x ≠ y := fun e => by
    have := O.ord _ hin
    rw [e] at this
    unfold pairS at this
    split at this <;> exact ltS_irr _ this
  have hyx := pairS_comm hxy
  obtain ⟨hxr, hyr⟩ := pairS_ends O hin
  refine ⟨_, (pss_cons (ps_set (i := 3) sc_corridor_modulus.nd rfl (Or.inr rfl) (pe_mt (mt_Building_corridor_of T) hr (by decide) (pv 0) (pa_cons (pv 1) (pa_cons (pv 2) pa_nil)))) (pss_cons (ps_set (i := 4) sc_corridor_modulus.nd rfl (Or.inl rfl) (pe_mt (mt_Building_bank T) hr (by decide) (pv 0) (pa_cons (pv 1) (pa_cons (pv 2) pa_nil)))) (pss_cons (ps_if (pt_cmpR op_notN (pv 4) pe_non (by rfl)) (pss_one (ps_ret (pe_op op_mul pe_int (pe_ca (ca_lcm_of T) hr (by decide) rfl (pa_cons (pe_ca (ca_gcd_of_bank T) hr (by decide) rfl (pa_cons (pv 0) (pa_cons (pv 4) pa_nil))) (pa_cons (pe_ca (ca_gcd_of_bank T) hr (by decide) rfl (pa_cons (pv 0) (pa_cons (pe_mt (mt_Building_bank T) hr (by decide) (pv 0) (pa_cons (pv 2) (pa_cons (pv 1) pa_nil))) pa_nil))) pa_nil)))))) pss_nil) (pss_cons (ps_setLc (i := 5) (own := [("pair", 6)]) (g := gName 6) rfl sc_corridor_modulus.nd rfl rfl (sw_true rfl rfl rfl (by decide +kernel)) (pi_tup (pe_pr (pr_Building_corridors T) hr (by decide) (pv 0))) (blkOk_by (own := [("pair", 6)]) (N := ["building", "one", "other", "corridor", "bank", "rest", "pair", "room"]) (sc := defScope s_corridor_modulus) (by decide +kernel)) (fun _ _ _ _ _ => (pg_name (i := 6) sc_corridor_modulus.nd rfl (Or.inl rfl))) (fun _ _ _ _ _ => (pts_one (pt_cmpR (r := rNeD K) (op_neD hr.units) (pv 6) (pv 3) (by rfl)))) (fun _ _ _ _ _ => (pv 6))) (pss_cons (ps_if (PW.pt (pw_or (pt_cmpR op_notN (pe_pr (pr_Building_sides T) hr (by decide) (pv 0)) pe_non (by rfl)) (pw_or1 (pt_cmpR op_isN (pe_ca (ca_sides_of T) hr (by decide) rfl (pa_cons (pe_callTy (call_list_of) (by rfl) T.f_list (by decide +kernel) (pa_cons (pe_pr (pr_Building_rooms T) hr (by decide) (pv 0)) pa_nil)) (pa_cons (pv 5) pa_nil))) pe_non (by rfl))))) (pss_one (ps_ret pe_int)) pss_nil) (pss_one (ps_ret (pe_ca (ca_gcd_of T) hr (by decide) rfl (pa_cons (pe_lc (own := [("room", 7)]) (g := gName 7) rfl sc_corridor_modulus.nd (pi_tup (pe_pr (pr_Building_rooms T) hr (by decide) (pv 0))) (blkOk_by (own := [("room", 7)]) (N := ["building", "one", "other", "corridor", "bank", "rest", "pair", "room"]) (sc := defScope s_corridor_modulus) (by decide +kernel)) (fun _ _ _ _ _ => (pg_name (i := 7) sc_corridor_modulus.nd rfl (Or.inl rfl))) (fun _ _ _ _ _ => pts_nil) (fun _ _ _ _ _ => (pe_get_own (mt_Building_dgetitem T) hr (by decide) (pv 0) (pv 7)))) pa_nil))))))))), ?_⟩
  refine ⟨_, rfl, b, bdx, _, rfl, hb, rfl, _, rfl, _, rfl, b, x, y, szs, ps, rfl, B, O, hin, fun H1 c s1 hc => ?_⟩
  refine ⟨_, rfl, b, bdx, _, rfl, s1 _ _ hb, rfl, _, rfl, _, rfl, b, x, y, szs, ps, rfl, B.same s1, O, hin, fun H2 s2 => ⟨fun hcn => ?_, fun kb rs hncn nd1 mem1 hkb => ?_⟩⟩
  · have s2H := s1.trans s2
    refine ⟨_, rfl, rfl, _, rfl, iteNS rfl ?_⟩
    -- rest
    refine ⟨_, rfl, b, _, _, rfl, s2H _ _ hb, b, szs, ps, rfl, B.same s2H, fun H3 p3 xs s3 hp3 hxs => ?_⟩
    have el := hxs.len
    refine ⟨p3, rfl, ⟨_, SqT.of hp3⟩, fun D hD => lc_tup (K := K) (a := p3) (xs := xs) (fun i H' => ∃ zs, H' D = some (.lst zs) ∧ TpAll H' zs (keptP (ps.take i) (pairS x y)) ∧ zs.length ≤ i ∧ Same H3 H') ⟨[], upd_same, .nil, Nat.le_refl _, sm_new hD⟩ (fun i H' _ ⟨_, _, _, _, h⟩ => h.tup (SqT.of hp3)) ?_ ?_⟩
    · rintro i v H' hi ⟨zs, g1, g2, g3, ss⟩
      obtain ⟨q, u, hq, rfl, hu⟩ := hxs.get hi
      have hqm := List.mem_of_getElem? hq
      have hip := (List.getElem?_eq_some_iff.mp hq).1
      have h31 := O.fewP
      have ek : keptP (ps.take (i + 1)) (pairS x y) = if (decide (q ≠ pairS x y)) = true then keptP (ps.take i) (pairS x y) ++ [q] else keptP (ps.take i) (pairS x y) := filter_snoc (fun z => decide (z ≠ pairS x y)) hq
      refine ⟨rfl, _, rfl, _, rfl, pD q, pD (pairS x y), pD_mk (SqT.of (ss _ _ hu)), pD_mk (SqT.of (ss _ _ (s3 _ _ (s2 _ _ hc)))), pD_shaped (O.nms _ hqm), pD_shaped (O.nms _ hin), _, rfl, ?_⟩
      rw [pD_eqv]
      by_cases e : q = pairS x y
      · rw [decide_eq_true e]
        rw [if_neg (by simp [e])] at ek
        rw [ek]
        exact iteF ⟨zs, g1, g2, by omega, ss⟩
      · rw [decide_eq_false e]
        rw [if_pos (by simp [e])] at ek
        rw [ek]
        refine iteT ⟨_, rfl, _, g1, by rw [sizeLine_eq]; omega, zs ++ [V.ref u], upd_same, ?_, by rw [List.length_append, List.length_singleton]; omega, ss.put hD⟩
        have hcD : Chg (H' D) := .inr (.inr ⟨_, g1⟩)
        exact TpAll.app (g2.put hcD) (TpAll.put hcD (.cons ⟨u, rfl, ss _ _ hu⟩ .nil))
    rintro H4 ⟨zs, g1, g2, g3, ss4⟩
    rw [el, List.take_length] at g2
    have s4H := s2H.trans (s3.trans ss4)
    -- sides
    refine ⟨_, rfl, b, _, _, rfl, s4H _ _ hb, b, szs, ps, rfl, B.same s4H, fun v hbsd hsd => ⟨rfl, _, rfl, ?_⟩⟩
    rcases hsd with ⟨rfl, hno⟩ | ⟨ut, ua, ub, z0, z1, rfl, _, _, _, cc, hcc, _⟩
    · refine iteNS rfl ?_
      refine ⟨_, rfl, b, _, _, rfl, s4H _ _ hb, b, szs, ps, rfl, B.same s4H, fun H5 p5 s5 hp5 => ?_⟩
      refine ⟨p5, _, rfl, .inr (SqT.of hp5), fun l hl => ?_⟩
      have s6 : Same H4 (upd H5 l (.lst ((szs.map (·.1)).map V.str))) := s5.new hl
      refine ⟨_, rfl, l, D, szs.map (·.1), keptP ps (pairS x y), rfl, SqL.of upd_same, O.ne', O.nd, by have := O.few; rw [List.length_map]; omega, ⟨zs, .inl (SqL.of (s6 _ _ g1)), (g2.same s6).dp⟩, Nat.le_trans (List.length_filter_le _ _) O.fewP, fun q hq => O.ends q (List.mem_filter.mp hq).1, fun a ha b' hb' => conn_keep hcn (O.cn a ha b' hb'), fun sv H7 s7 hsv => ?_⟩
      have s7H := s4H.trans (s6.trans s7)
      rcases hsv with ⟨rfl, hno2⟩ | ⟨vt, va, vb, w0, w1, rfl, _, _, _, c2, hc2, _⟩
      · exact ⟨rfl, _, rfl, iteT (k 1 _ s7H (.inr ⟨hcn, .inl ⟨.inr hno2, rfl⟩⟩) (Nat.le_refl _))⟩
      · refine ⟨rfl, _, rfl, ?_⟩
        rw [decide_eq_false (fun z => by cases z)]
        refine iteF ?_
        -- the gcd of all
        refine ⟨_, rfl, b, _, _, rfl, s7H _ _ hb, b, szs, ps, rfl, B.same s7H, fun H8 p8 s8 hp8 => ?_⟩
        have hr24 : (szs.map (·.1)).length ≤ 24 := by rw [List.length_map]; exact O.few
        refine ⟨p8, rfl, ⟨_, SqT.of hp8⟩, fun L hL => lc_tup (K := K) (a := p8) (xs := (szs.map (·.1)).map V.str) (fun i H' => H' L = some (.lst (((((szs.map (·.1)).take i).map (szn szs)).map fun n : Nat => (n : Int)).map V.int)) ∧ Same H8 H') ⟨upd_same, sm_new hL⟩ (fun i H' _ h => h.2.tup (SqT.of hp8)) ?_ ?_⟩
        · rintro i v H' hi ⟨g1, g2⟩
          obtain ⟨z, hz, rfl⟩ := map_get hi
          have hzr := List.mem_of_getElem? hz
          refine ⟨rfl, _, rfl, _, rfl, (B.same (s7H.trans (s8.trans g2))).rGet O hzr fun H9 s9 => ⟨_, s9 _ _ g1, ?_, ?_, (g2.trans s9).put hL⟩⟩
          · rw [List.length_map, List.length_map, List.length_map, List.length_take, sizeLine_eq]
            omega
          · rw [upd_same, take_snoc hz, List.map_append, List.map_append, List.map_append]
            rfl
        rintro H9 ⟨g4, g5⟩
        rw [List.length_map, List.take_length, szn_mapN O.nd] at g4
        refine ⟨L, _, rfl, SqL.of g4, ?_⟩
        have hb2 := gcdN_le (ns := szs.map (·.2)) (fun z => O.ne (List.map_eq_nil_iff.mp z)) (fun n hn => by
          obtain ⟨q, hq, rfl⟩ := List.mem_map.mp hn
          exact O.pos q hq)
        have := k (gcdN (szs.map (·.2))) _ (s7H.trans (s8.trans g5)) (.inr ⟨hcn, .inr ⟨hno, ⟨c2, hc2⟩, rfl⟩⟩) hb2.1
        rw [← gcdN_L] at this
        exact this
    · rw [decide_eq_false (fun z => by cases z)]
      exact iteT (iteT (k 1 _ s4H (.inr ⟨hcn, .inl ⟨.inl ⟨cc, hcc⟩, rfl⟩⟩) (Nat.le_refl _)))
  · have s2H := s1.trans s2
    refine ⟨_, rfl, rfl, _, rfl, ?_⟩
    rw [decide_eq_false (fun z => by cases z)]
    refine iteT ?_
    have sub1 : ∀ z ∈ rs, z ∈ szs.map (·.1) := fun z hz => conn_rooms O hxr ((mem1 z).mp hz)
    have ne1 : rs ≠ [] := fun e => by
      have := (mem1 x).mpr .refl
      rw [e] at this
      cases this
    refine ⟨_, rfl, _, rfl, b, kb, szs, ps, rs, rfl, B.same s2H, O, hkb, ne1, nd1, sub1, bank_conn mem1, fun g1 H3 s3 bg1 l1 l2 => ?_⟩
    have s3H := s2H.trans s3
    refine ⟨_, rfl, _, rfl, b, bdx, _, rfl, s3H _ _ hb, rfl, _, rfl, _, rfl, b, y, x, szs, ps, rfl, B.same s3H, O, by rw [hyx]; exact hin, fun H4 s4 => ⟨fun hcn => ?_, fun kb2 r2 hncn2 nd2 mem2 hkb2 => ?_⟩⟩
    · rw [hyx] at hcn
      exact absurd hcn.symm hncn
    rw [hyx] at mem2
    have sub2 : ∀ z ∈ r2, z ∈ szs.map (·.1) := fun z hz => conn_rooms O hyr ((mem2 z).mp hz)
    have ne2 : r2 ≠ [] := fun e => by
      have := (mem2 y).mpr .refl
      rw [e] at this
      cases this
    have s4H := s3H.trans s4
    refine ⟨b, kb2, szs, ps, r2, rfl, B.same s4H, O, hkb2, ne2, nd2, sub2, bank_conn mem2, fun g2 H5 s5 bg2 l3 l4 => ?_⟩
    refine ⟨g1, g2, rfl, by omega, by omega, fun H6 s6 => ⟨_, _, rfl, rfl, .inl ⟨by decide, by decide⟩, ?_⟩⟩
    have hl : 1 ≤ Nat.lcm g1 g2 := Nat.lcm_pos (by omega) (by omega)
    have e : (2 : Int) * (Nat.lcm g1 g2 : Nat) = ((2 * Nat.lcm g1 g2 : Nat) : Int) := by push_cast; rfl
    show Q (.int (2 * (Nat.lcm g1 g2 : Nat))) H6
    rw [e]
    exact k _ _ (s4H.trans (s5.trans s6)) (.inl ⟨hncn, rs, r2, g1, g2, nd1, nd2, mem1, mem2, bg1, bg2, rfl⟩) (by omega)
end
end Rd
/-! corridor_numbers: walk. -/
namespace Rd
open PySem PySem.Spec PyProof.Rows L2 Gr
/-- what the numbers of a corridor are known to be -/
def NumOk (szs : List (Str × Nat)) (ps : List (Str × Str)) (f l : Str) (ch : Str → Int) (x y : Str) (i m : Int) : Prop := ∃ n : Nat, m = (n : Int) ∧ 1 ≤ n ∧ MOk szs ps x y n ∧ ∃ szs' ps' l' ch', BOk szs' ps' ∧ TOk szs' ps' f l' ch' ∧ Opn szs ps f l ch (pairS x y) szs' ps' l' ch' ∧
  ((Avo szs l ch szs' ps' f l' ch' ∧ i = 0) ∨ (¬ Avo szs l ch szs' ps' f l' ch' ∧ ∃ v, SolOk szs ps f l ch v ∧ i = (v (pairS x y) - 1) % m + 1))
def spCN (K : PySem.W.Frag) : Sp := fun vs H Q _ => ∃ (t b : Addr) (x y : Str) (szs : List (Str × Nat)) (ps : List (Str × Str)) (f l : Str) (ch : Str → Int), vs = [.ref t, .str x, .str y] ∧ TAt K H t b szs ps f l ch ∧ BOk szs ps ∧ TOk szs ps f l ch ∧ TPos szs ps f l ch ∧ pairS x y ∈ ps ∧
  ∀ H' n i m, Same H H' → NAt K H' n i m → NumOk szs ps f l ch x y i m → Q (.ref n) H'
-- slots of corridor_numbers: 0 trace 1 one 2 other 3 corridor 4 modulus
theorem sc_corridor_numbers : FnScope ["trace", "one", "other", "corridor", "modulus"] ["trace", "one", "other"] (defScope s_corridor_numbers) := ⟨rfl, rfl, rfl, by decide +kernel, rfl, by decide +kernel, by decide +kernel⟩
section
variable {P : Program} {w : World} {K : PySem.W.Frag} {mg : Str → Option Value} {base : Heap}
theorem ca_corridor_numbers (T : Wd K mg base) : Ca P w K mg base 10 "corridor_numbers" (spCN K) [] := by
  obtain ⟨fd, F⟩ := T.L.F_corridor_numbers
  refine ca_of F T.g_corridor_numbers (F.binds (ps := ["trace", "one", "other"]) fun _ _ _ _ _ _ us hl => match us, hl with | [_, _, _], _ => rfl) sc_corridor_numbers (fun vs H Q E ⟨_, _, _, _, _, _, _, _, _, e, _⟩ => by rw [e]; rfl) ?_
  rintro cdv A outer s0 H vs Q E hr ⟨t, b, x, y, szs, ps, f, l, ch, rfl, A0, O, OT, hpos, hin, k⟩
  obtain ⟨dx, d, ky, bv, sd, h1, h2, h3, h4, h5⟩ := id A0.ex
  obtain ⟨bdx, bd, bc, nr, sd', rg, br, hb, _⟩ := id h3.ex
  refine ⟨_, (pss_cons (ps_set (i := 3) sc_corridor_numbers.nd rfl (Or.inl rfl) (pe_mt (mt_Building_corridor_of T) hr (by decide) (pe_pr (pr_Trace_building T) hr (by decide) (pv 0)) (pa_cons (pv 1) (pa_cons (pv 2) pa_nil)))) (pss_cons (ps_if (pt_cmpR op_notN (pe_pr (pr_Trace_paper T) hr (by decide) (pv 0)) pe_non (by rfl)) (pss_one ps_never) pss_nil) (pss_cons (ps_set (i := 4) sc_corridor_numbers.nd rfl (Or.inl rfl) (pe_ca (ca_corridor_modulus T) hr (by decide) rfl (pa_cons (pe_pr (pr_Trace_building T) hr (by decide) (pv 0)) (pa_cons (pv 1) (pa_cons (pv 2) pa_nil))))) (pss_cons (ps_if (pt_cmpR op_isN (pe_caR (ca_avoiding_paper T) hr (by decide) rfl (pa_cons (pv 0) (pa_cons (pv 3) pa_nil))) pe_non (by rfl)) (pss_one (ps_ret (pe_ma (ma_Numbers T) hr (by decide) rfl (pa_cons pe_int (pa_cons (pv 4) pa_nil))))) pss_nil) (pss_one (ps_ret (pe_ma (ma_Numbers T) hr (by decide) rfl (pa_cons (pe_op op_add (pe_op op_modN (pe_op op_sub (pe_dget (hu_of hr) (pe_ca (ca_solution T) hr (by decide) rfl (pa_cons (pv 0) pa_nil)) (pv 3) (fun _ _ => rfl)) pe_int) (pv 4)) pe_int) (pa_cons (pv 4) pa_nil))))))))), ?_⟩
  refine ⟨_, rfl, t, _, _, rfl, h1, t, b, szs, ps, f, l, ch, rfl, A0, ?_⟩
  refine ⟨b, bdx, _, rfl, hb, rfl, _, rfl, _, rfl, b, x, y, szs, ps, rfl, h3, O, hin, fun H1 c s1 hc => ?_⟩
  refine ⟨_, rfl, t, _, _, rfl, s1 _ _ h1, t, b, szs, ps, f, l, ch, rfl, A0.same s1, O, fun v H2 s2 hv => ?_⟩
  rcases hv with ⟨rfl, _⟩ | ⟨u, xs, _, _, hn⟩
  case inr => exact absurd hn (pos_not hpos O OT.f OT.l)
  have sH2 := s1.trans s2
  refine ⟨rfl, _, rfl, iteF ?_⟩
  refine ⟨_, rfl, t, _, _, rfl, sH2 _ _ h1, t, b, szs, ps, f, l, ch, rfl, A0.same sH2, ?_⟩
  refine ⟨_, rfl, _, rfl, b, x, y, szs, ps, rfl, h3.same sH2, O, hin, fun m H3 s3 hm hm1 => ?_⟩
  have sH3 := sH2.trans s3
  refine ⟨_, rfl, _, rfl, t, b, c, szs, ps, f, l, ch, pairS x y, rfl, A0.same sH3, O, OT, hpos, (s2.trans s3) _ _ hc, hin, fun v H4 szs' ps' l' ch' s4 O' OT' op hv => ?_⟩
  have sH4 := sH3.trans s4
  rcases hv with ⟨rfl, ha⟩ | ⟨u, xs, rfl, _, hna⟩
  · refine ⟨rfl, _, rfl, iteT ?_⟩
    refine ⟨_, rfl, fun n dx' hx hdx ne => ?_⟩
    exact ⟨n, dx', 0, m, rfl, upd_same, fun H' sx N => ⟨rfl, k _ n _ _ (sH4.trans (made_same hx hdx sx)) N ⟨m, rfl, hm1, hm, szs', ps', l', ch', O', OT', op, .inl ⟨ha, rfl⟩⟩⟩⟩
  · refine ⟨rfl, _, rfl, ?_⟩
    rw [decide_eq_false (fun z => by cases z)]
    refine iteF ?_
    refine ⟨_, rfl, t, b, szs, ps, f, l, ch, rfl, A0.same sH4, O, OT, hpos, fun H5 D v s5 hD hv => ?_⟩
    have sH5 := sH4.trans s5
    have ev : valV (EzD ps v) (kP (pairS x y)) = some (.int (v (pairS x y))) := by rw [ezD_val, if_pos hin]
    have dg := DGet.t (k := kP (pairS x y)) hD ((s2.trans (s3.trans (s4.trans s5))) _ _ hc)
    rw [ev] at dg
    refine ⟨_, rfl, D, _, rfl, dg, _, _, rfl, rfl, _, rfl, _, _, rfl, rfl, (by show ((m : Nat) : Int) ≠ 0; omega), _, _, rfl, rfl, _, rfl, fun n dx' hx hdx ne => ?_⟩
    have em : Int.fmod (v (pairS x y) - 1) (m : Nat) = (v (pairS x y) - 1) % (m : Nat) := Int.fmod_eq_emod_of_nonneg _ (by omega)
    rw [em]
    exact ⟨n, dx', _, m, rfl, upd_same, fun H' sx N => ⟨rfl, k _ n _ _ (sH5.trans (made_same hx hdx sx)) N ⟨m, rfl, hm1, hm, szs', ps', l', ch', O', OT', op, .inr ⟨hna, v, hv, rfl⟩⟩⟩⟩
end
end Rd
/-! An own exception over Exception by way of an own base, whose __init__ is walked as a def: made, a field stored. -/
namespace Rd
open PySem PySem.Spec PyProof.Rows L2 Gr
/-- what the written part says of such a class -/
structure OexR (K : PySem.W.Frag) (C : Addr) : Prop where
  ini : PySem.W.excInitIn K C exT "Exception.__new__" = true
  ovr : PySem.W.excOver K C exT = true
  dct : PySem.W.hasDictIn K C = true
  sa : PySem.W.findIn K (.ref C) "__setattr__" = some (some (.builtin "object.__setattr__"))
  exC : PySem.W.subIn K (.ref C) (.type "BaseException") = some true
  tyC : PySem.W.typeIn K (.ref C) = some (.type "type")
  kC : PySem.W.keepIn K (.ref C) = true
section
open Builtin Builtin.ObjectAttr PySem.HandSPX
variable {prog : Program} {w : World} {A : Around} {R : Result → Shared → Prop} {hp : Heap} {g : Array GenState} {d : Drawn} {t : Nat} {os : OsState} {K : PySem.W.Frag} {name : Str} {tk : Tok} {v : Value} {x C : Addr} {fv : Array Value}
/-- the first field of an exception that has no dict yet -/
theorem osa_newR (T : OexR K C) (X : K.In hp) (hx : hp.get? x = some { cls := .ref C, data := .fields fv }) (ht : PySem.W.takerIn K C name = some none)
    (hq : ∀ h' tk' dx, (∀ b o, b ≠ x → hp.get? b = some o → h'.get? b = some o) → hp.objs.size ≤ dx → dx ≠ x → h'.get? x = some { cls := .ref C, dict := some dx, data := .fields fv } →
      h'.Ns1 dx (fun y => if y = name then some v else none) → R (.ok (.ret .none)) ⟨h', g, d, tk', os⟩) :
    codeAny (model prog w) A (.call (.builtin "object.__setattr__") ⟨[.ref x, .str name tk, v], []⟩) R ⟨hp, g, d, t, os⟩ := by
  have I : PySem.W.InstAt hp x { cls := .ref C, data := .fields fv } C none := ⟨hx, rfl, rfl, trivial⟩
  have hxs : x ≠ hp.objs.size := Nat.ne_of_lt (Heap.lt_size hx)
  refine PySem.W.osa_openX (s := ⟨hp, g, d, t, os⟩) F.store_Exception X I T.ovr ht fun b => ?_
  obtain ⟨cd, hcd, hh⟩ := PySem.W.any_some (show (PySem.W.clsIn K C).any (·.hasDict) = true from T.dct)
  have hcls : PySem.W.Looks (model prog w) hp (classData C) cd := PySem.W.looks_clsIn X hcd
  show wpAny _ _ (storeInOwnDict (.ref x) (.ref C) (.str name tk) name v b) _ _ _
  obtain ⟨nm, bs, mro, ns, qn, hd, sn, sb, ab, col, del⟩ := cd
  dsimp only at hh
  subst hh
  unfold storeInOwnDict ownDictForStores
  repeat (first | with_reducible refine store_in_new ?_ ?_ | with_reducible refine wpAny_loadPart_at hx ?_ | with_reducible refine hcls.at ?_ | wp_step)
  · exact ⟨_, #[], _, (Heap.get?_update_ne _ _ _ _ hxs.symm).trans (Heap.get?_push_at rfl rfl), rfl, fun e he => absurd he (by simp), fun _ => rfl⟩
  · intro h' tk' hn' hs
    have hx₁ : (hp.push { cls := .type "dict", data := .dict #[] }).get? x = some { cls := .ref C, data := .fields fv } := Heap.get?_push_of_some _ hx
    refine hq h' tk' hp.objs.size (fun b o hb ho => ?_) (Nat.le_refl _) hxs.symm ?_ hn'
    · exact (hs.2 b (Nat.ne_of_lt (Heap.lt_size ho))).trans ((Heap.get?_update_ne _ _ _ _ hb).trans (Heap.get?_push_of_some _ ho))
    · exact (hs.2 x hxs).trans (Heap.get?_update_self _ hx₁ rfl)
end
section
variable {X : Cx} {pins : List (Addr × Obj)} {σ : L2.St} {H : Hp} {s : Shared} {a C : Addr} {f : Str} {y : V} {u : Value} {E : Value → Shared → Prop} {A : Around}
/-- self.f = y, the first one -/
theorem ostR {Q : Unit → Shared → Prop} (T : OexR X.K C) (I : Inv X pins σ H s) (e : H a = some (exo a C none)) (hno : PySem.W.takerIn X.K C f = some none) (ry : RelV y u)
    (h : ∀ dx s', H dx = none → dx ≠ a → Inv X pins σ (upd (upd H dx (exd dx [(f, y)])) a (exo a C (some dx))) s' → Q () s') : wpAny (model X.prog X.w) A (setAttr (.ref a) f u) Q E s := by
  obtain ⟨t1, ho⟩ := exo_at I.hok e
  obtain ⟨hp, g, d, t, os⟩ := s
  refine PySem.W.set_plain I.kIn (ox := { cls := .ref C, dict := none, data := .fields #[.ref t1, .none, .none, .none, .bool false, .none] }) (od := none) ⟨ho, rfl, rfl, trivial⟩ T.sa ?_
  refine osa_newR T I.kIn ho hno (fun h' tk' dx k dn dne hx hn => ?_)
  have hnd : H dx = none := I.hok.fresh dn
  have nd : ∀ {b : Addr} {o : Obj}, hp.get? b = some o → b ≠ dx := fun {b o} q => Nat.ne_of_lt (Nat.lt_of_lt_of_le (Heap.lt_size q) dn)
  have na : ∀ {b : Addr}, H b = none → b ≠ a := fun {b} n z => by
    rw [z, e] at n
    cases n
  have both : ∀ {b : Addr} {o : HO}, b ≠ a → H b = some o → upd (upd H dx (exd dx [(f, y)])) a (exo a C (some dx)) b = some o := fun {b o} hb q => by
    rw [upd_ne hb, upd_ne (ne_of_none q hnd)]
    exact q
  have U : Un X.fs [] H (upd (upd H dx (exd dx [(f, y)])) a (exo a C (some dx))) hp h' := {
    keep := fun b o q n _ _ => k b o (na n) q
    slot := fun b o q n _ _ => ⟨o.slots, k b o (na n) q⟩
    free := fun b o q n _ => by
      rw [upd_ne (na n), upd_ne (nd q)]
      exact n
    there := fun b o q _ => by
      by_cases hb : b = a
      · rw [hb]
        exact ⟨_, hx⟩
      · exact ⟨o, k b o hb q⟩
    tups := fun b xs q => both (at_ne e q exo_tup) q
    frzs := fun b o v q => both (at_ne e q exo_frz) q
    tbls := fun b ps q => ⟨#[], by rw [both (at_ne e q exo_tbl) q]; simp⟩ }
  refine h dx _ hnd dne (I.un (t' := tk') U fun b o q => ?_)
  by_cases hb : b = a
  · subst hb
    rw [upd_same] at q
    cases q
    exact exo_ok hx
  · rw [upd_ne hb] at q
    by_cases hd : b = dx
    · subst hd
      rw [upd_same] at q
      cases q
      exact exd_ok hn (relO_put (fs := []) ry fun g => True.intro)
    · rw [upd_ne hd] at q
      refine (I.hok b o q).stay (fun c v hc z => k c v (by
          rcases hc with hc | hc
          · rw [hc]
            exact hb
          · exact at_ne e hc exo_own) z) (fun c hc => both (at_ne e hc exo_own) hc) (fun c xs hc => both (at_ne e hc exo_tup) hc)
/-- B.__init__(self, ..), B's being Exception's: nothing of it is told -/
theorem oinitR {us : List Value} {Q : Value → Shared → Prop} (T : OexR X.K C) (I : Inv X pins σ H s) (e : H a = some (exo a C none)) (hl : us.length ≤ sizeLine) (h : ∀ s', Inv X pins σ H s' → Q .none s') :
    wpAny (model X.prog X.w) A (call (.builtin "Exception.__init__") (.ref a :: us)) Q E s := by
  obtain ⟨nm, N, qn, bs, bm, hdct, sn, sub, ab, col, dd, k0, k1, k2, k3, k5, hC, hT⟩ := PySem.W.excInit_of I.kIn T.ini
  obtain ⟨t1, ho⟩ := exo_at I.hok e
  obtain ⟨hp, g, d, t, os⟩ := s
  refine wpAny_call (PySem.HandSPX.init_base F.excBase_Exception hT hC ho hl fun h' t2 k hx => ?_)
  have J := I.write (t' := t) (x := a) (e := a) (o := exo a C none) (by rw [e]; exact True.intro) (.inl rfl) k ⟨_, hx⟩ (exo_ok hx)
  have eu : upd H a (exo a C none) = H := by
    funext b
    by_cases hb : b = a
    · rw [hb, upd_same, e]
    · rw [upd_ne hb]
  rw [eu] at J
  exact h _ J
end
/-! ### readings and rules -/
/-- B.__init__(self, ..) -/
def tBI (K : PySem.W.Frag) (ta : TA) : TE := fun σ H Q => ta σ H fun vs H1 => ∃ (a C : Addr) (ws : List V), vs = .ref a :: ws ∧ ws.length ≤ 1000 ∧ OexR K C ∧ H1 a = some (exo a C none) ∧ Q .non H1
/-- self.f = e, the first -/
def tOsR (K : PySem.W.Frag) (f : Str) (to te : TE) : TS := fun D σ H => te σ H fun y H1 => to σ H1 fun x H2 => ∃ a C : Addr, x = .ref a ∧ OexR K C ∧ PySem.W.takerIn K C f = some none ∧
  (H2 a = some (exo a C none) ∧ ∀ dx, H2 dx = none → dx ≠ a → D.nx σ (upd (upd H2 dx (exd dx [(f, y)])) a (exo a C (some dx))))
/-- what the written part says of the base B -/
structure BaseR (K : PySem.W.Frag) (B : Addr) : Prop where
  rd : PySem.W.readsIn K B (.type "type") = true
  ga : PySem.W.specialIn K (.ref B) "__getattribute__" = some (some (.builtin "type.__getattribute__"))
  at_ : PySem.W.findCls K (.ref B) (.type "type") "__init__" = some (.val (.builtin "Exception.__init__"))
section
variable {X : Cx} {o e : Expr} {es : List Expr} {to te : TE} {ta : TA} {f b : Str} {B : Addr} {p p' p1 p2 pos : Pos}
theorem pe_binit {pl : Sem Bool} (hg : Gl X b) (hm : X.mg b = some (.ref B)) (T0 : BaseR X.K B) (ha : PA X (e :: es) ta) (hdb : (b == ("__debug__" : Str)) = false := by decide)
    (hc : eval (.Call (.Attribute (.Name b p1) "__init__" p2) (e :: es) [] pos) X.env = (do
      let ov ← eval (.Name b p1) X.env
      standAt p2.atName
      let (f, first) ← holding [ov] (getMethod ov "__init__" pl)
      callWith pos f first (backTo pos (starEach (e :: es) X.env)) (backToKw pos (keywordEach [] X.env))) := by rfl)
    (he : starEach (e :: es) X.env = (false, eval e X.env) :: starEach es X.env := by rfl) (hpl : (backTo pos (starEach es X.env)).any (·.1) = false := by rfl) :
    PE X (.Call (.Attribute (.Name b p1) "__init__" p2) (e :: es) [] pos) (tBI X.K ta) := by
  refine ⟨fun pins s σ H Q I h => ?_⟩
  refine PySem.W.methodCall_KW (ld_glob I hg hm ?_ hdb) hc
  refine PySem.W.method_cls I.kIn T0.ga (PySem.W.cls_value I.kIn T0.rd T0.at_ (by decide +kernel) ?_)
  show wpAny _ _ (callWith pos (Value.builtin "Exception.__init__") [] (backTo pos (starEach (e :: es) X.env)) []) _ _ _
  refine PyProof.Rows.callWith_method1 (thn (ha.run pos pins _ σ H _ (I.tok _) h) fun us s1 ⟨vs, H1, I1, r1, a, C, ws, ev, hl, T, ea, q⟩ => ?_) he hpl
  subst ev
  cases r1 with
  | @cons _ u0 _ ur ra rw' =>
    obtain rfl : u0 = Value.ref a := ra
    have hlen : ur.length ≤ sizeLine := by
      rw [← Paired.length rw', sizeLine_eq]
      omega
    exact oinitR T I1 ea hlen fun s' J => ⟨.non, H1, J, rfl, q⟩
theorem ps_osR (ho : PE X o to) (he : PE X e te) (hs : swapsWith e (some (.Attribute o f p')) pos.line X.env = pure false := by rfl) : PS X (.Assign [.Attribute o f p'] e pos) (tOsR X.K f to te) := by
  refine ⟨fun pins s σ H D I h => ?_⟩
  refine plainObj_wpAny_Assign_Attribute (thn (he.run pins s σ H _ I h) fun v s1 ⟨y, H1, I1, r1, q1⟩ => thn (ho.run pins s1 σ H1 _ I1 q1) fun u s2 ⟨x, H2, I2, r2, a, C, ex, T, hno, ea, q⟩ => ?_) hs
  subst ex
  obtain rfl : u = Value.ref a := r2
  exact ostR T I2 ea hno r1 fun dx s' n ne J => ⟨σ, _, J, q dx n ne⟩
/-- C(e, ..), C's own __init__ keeping sp -/
theorem pmk_oexR {CX : CXT} {x : Str} {C fI : Addr} {k : Nat} {fd : FuncData} {ps : List Str} {sp : Sp} (T : OexR X.K C) (iC : PySem.W.findIn X.K (.ref C) "__init__" = some (some (.ref fI))) (tI : PySem.W.typeIn X.K (.ref fI) = some (.type "function"))
    (F1 : FnOk X.prog X.w X.K X.mg X.base CX k fI fd ps sp) (hr : Room (k + 1) X.A) (hb : Binds X.K fd ps []) (hx : Passes CX X (fun _ _ _ => False)) (hg : Gl X x) (hm : X.mg x = some (.ref C)) (ha : PA X (e :: es) ta)
    (hdb : (x == ("__debug__" : Str)) = false := by decide) (he : starEach (e :: es) X.env = (false, eval e X.env) :: starEach es X.env := by rfl) (hpl : (backTo pos (starEach es X.env)).any (·.1) = false := by rfl) :
    PMk X (.Call (.Name x p) (e :: es) [] pos) (tMkO C sp [] ta) := by
  intro pins s σ H Q I h
  refine wpAny_Call_Name_kw (ld_glob I hg hm ?_ hdb)
  refine PySem.W.callWith_K (h₀ := X.base) I.ok.mod.kin T.kC (thn (ha.run pos pins s σ H _ I h) fun us s1 ⟨vs, H1, I1, r1, hz, q1⟩ => ⟨I1.kIn, ?_⟩) he hpl
  show wpAny _ _ (call (.ref C) us) _ _ _
  obtain ⟨hp, g, dr, tk, os⟩ := s1
  obtain ⟨nm, N, qn, bs, bm, hdct, sn, sub, ab, col, dd, k0, k1, k2, k3, k5, hC, hT⟩ := PySem.W.excInit_of I1.kIn T.ini
  have hsz : hp.objs.size ≤ hp.objs.size + 1 := Nat.le_succ _
  have hn : H1 (hp.objs.size + 1) = none := I1.hok.fresh hsz
  have hq := q1 (hp.objs.size + 1) hn
  have kk : ∀ b o, hp.get? b = some o → ((hp.push (PySem.W.kdv_tup us)).push (PySem.HandSPX.excO C hp.objs.size)).get? b = some o := fun b o e => Heap.get?_push_of_some _ (Heap.get?_push_of_some _ e)
  have hget : ((hp.push (PySem.W.kdv_tup us)).push (PySem.HandSPX.excO C hp.objs.size)).get? (hp.objs.size + 1) = some (PySem.HandSPX.excO C hp.objs.size) := by heap_get
  have I2 : Inv X pins σ (upd H1 (hp.objs.size + 1) (exo (hp.objs.size + 1) C none)) ⟨(hp.push (PySem.W.kdv_tup us)).push (PySem.HandSPX.excO C hp.objs.size), g, dr, tk, os⟩ :=
    I1.laid (t' := tk) (a := hp.objs.size + 1) (o := exo (hp.objs.size + 1) C none) (h' := (hp.push (PySem.W.kdv_tup us)).push (PySem.HandSPX.excO C hp.objs.size)) kk hsz (exo_ok hget)
  rw [List.append_nil] at hq
  have r2 : Vals (V.ref (hp.objs.size + 1) :: vs) (Value.ref (hp.objs.size + 1) :: us) := .cons rfl r1
  have hl : (Value.ref (hp.objs.size + 1) :: us).length = ps.length := by
    have e := r2.length
    rw [F1.len _ _ _ _ hq] at e
    exact e.symm
  have hus : us.length ≤ sizeLine := by
    rw [← Paired.length r1, sizeLine_eq]
    omega
  have hb' := hb ⟨(hp.push (PySem.W.kdv_tup us)).push (PySem.HandSPX.excO C hp.objs.size), g, dr, tk, os⟩ (Value.ref (hp.objs.size + 1) :: us) I2.kIn (by rw [List.append_nil]; exact hl)
  rw [List.append_nil] at hb'
  refine wpAny_call (PySem.HandSPX.call_own F.excBase_Exception hT hC (PySem.W.looks_findIn I1.kIn iC) (fun self => PySem.W.bind_fn I1.kIn self tI) hus
    (codeAny_mono (F1.run _ X.stack _ _ ⟨Value.ref (hp.objs.size + 1) :: us, []⟩ (Value.ref (hp.objs.size + 1) :: us) _ _ (fun _ _ _ => False) (hr.make C us []) (I2.env0.make C us []) hb' r2 hq) fun r s' hq' => ?_))
  cases r with
  | error er => exact hx pins σ _ _ er s' I2 hq'
  | ok fl =>
    cases fl with
    | ret u =>
      obtain ⟨v, H2, os2, bare2, un2, hok2, rv, ev, d, fs, ea, ed, hd1, q2⟩ := hq'
      subst ev
      obtain ⟨h2, g2, d2, t2, os'⟩ := s'
      exact ⟨rv, mk_end (raises_own T.exC T.tyC) I1 hsz kk un2 hok2 os2 bare2 ea ed hd1 q2⟩
    | next => exact False.elim hq'
    | brk => exact False.elim hq'
    | cont => exact False.elim hq'
end
end Rd
/-! Impossible: made; need_possible, where it raises. -/
namespace Rd
open PySem PySem.Spec PyProof.Rows L2 Gr
abbrev iC (K : PySem.W.Frag) : Addr := He.ga K "Impossible"
theorem oexR_ok {x f : Str} {K : PySem.W.Frag} (h : oexB x f K = true) : OexR K (He.ga K x) ∧ PySem.W.takerIn K (He.ga K x) f = some none ∧ PySem.W.findIn K (.ref (He.ga K x)) "__init__" = some (some (.ref (meA x "__init__" K))) ∧
    PySem.W.typeIn K (.ref (meA x "__init__" K)) = some (.type "function") ∧ PySem.W.exmOne K (.ref (He.ga K x)) (.ref (He.ga K x)) = some true := by
  unfold oexB at h
  obtain ⟨h1, h⟩ := He.ba h
  obtain ⟨h2, h⟩ := He.ba h
  obtain ⟨h3, h⟩ := He.ba h
  obtain ⟨h4, h⟩ := He.ba h
  obtain ⟨h5, h⟩ := He.ba h
  obtain ⟨h6, h⟩ := He.ba h
  obtain ⟨h7, h⟩ := He.ba h
  obtain ⟨h8, h⟩ := He.ba h
  obtain ⟨h9, h⟩ := He.ba h
  obtain ⟨h10, h11⟩ := He.ba h
  exact ⟨⟨h1, h2, h3, of_decide_eq_true h4, of_decide_eq_true h5, of_decide_eq_true h6, h7⟩, of_decide_eq_true h8, of_decide_eq_true h9, of_decide_eq_true h10, of_decide_eq_true h11⟩
theorem baseR_ok {x : Str} {K : PySem.W.Frag} (h : baseB x K = true) : BaseR K (He.ga K x) := by
  unfold baseB at h
  obtain ⟨h1, h⟩ := He.ba h
  obtain ⟨h2, h3⟩ := He.ba h
  refine ⟨h1, of_decide_eq_true h2, ?_⟩
  split at h3
  · rename_i n e
    rw [e, of_decide_eq_true h3]
  · cases h3
def spXI (K : PySem.W.Frag) : Sp := fun vs H Q _ => ∃ (a : Addr) (v : V), vs = [.ref a, v] ∧ H a = some (exo a (iC K) none) ∧ ∀ dx, H dx = none → dx ≠ a → Q .non (upd (upd H dx (exd dx [("reason", v)])) a (exo a (iC K) (some dx)))
-- slots of Impossible.__init__: 0 self 1 reason
theorem sc_Impossible_dinit : FnScope ["self", "reason"] ["self", "reason"] (defScope s_Impossible_dinit) := ⟨rfl, rfl, rfl, by decide +kernel, rfl, by decide +kernel, by decide +kernel⟩
section
variable {P : Program} {w : World} {K : PySem.W.Frag} {mg : Str → Option Value} {base : Heap}
theorem fn_Impossible_dinit (T : Wd K mg base) : ∃ fd, FnOk P w K mg base CX0 1 (meA "Impossible" "__init__" K) fd ["self", "reason"] (spXI K) ∧ Binds K fd ["self", "reason"] [] := by
  obtain ⟨fd, F⟩ := T.L.F_Impossible_dinit
  refine ⟨fd, F.ok sc_Impossible_dinit (fun vs H Q E ⟨_, _, e, _⟩ => by rw [e]; rfl) ?_, F.binds (ps := ["self", "reason"]) fun _ _ _ _ _ _ us hl => match us, hl with | [_, _], _ => rfl⟩
  rintro cdv A outer s H vs Q E hr ⟨a, v, rfl, ha, k⟩
  refine ⟨_, (pss_cons (ps_expr (pe_binit rfl T.g_RoomdialsError (baseR_ok (ex_24 T.L.more)) (pa_cons (pv 0) (pa_cons pe_str pa_nil)))) (pss_one (ps_osR (pv 0) (pv 1)))), ?_⟩
  refine ⟨_, rfl, a, iC K, [.str "impossible trace"], rfl, by decide, (oexR_ok (ex_23 T.L.more)).1, ha, ?_⟩
  exact ⟨_, rfl, _, rfl, a, iC K, rfl, (oexR_ok (ex_23 T.L.more)).1, (oexR_ok (ex_23 T.L.more)).2.1, ha, k⟩
end
/-! ### defs that may raise -/
/-- a def called by its name, that may let an exception out -/
structure CaE (P : Program) (w : World) (K : PySem.W.Frag) (mg : Str → Option Value) (base : Heap) (k : Nat) (x : Str) (sp : Sp) : Prop where
  ex : ∃ (f : Addr) (fd : FuncData) (ps : List Str), FnOk P w K mg base (L2.CX P w) k f fd ps sp ∧ mg x = some (.ref f) ∧ PySem.W.keepIn K (.ref f) = true ∧ Binds K fd ps []
section
variable {X : Cx} {k j : Nat} {sp : Sp} {x : Str} {p pos : Pos} {e : Expr} {es : List Expr} {t : TA} {W : WX}
theorem pe_caE (c : CaE X.prog X.w X.K X.mg X.base k x sp) (tk : Takes X W) (hr : Room j X.A) (hk : k ≤ j) (hg : Gl X x) (ha : PA X (e :: es) t) (hdb : (x == ("__debug__" : Str)) = false := by decide)
    (he : starEach (e :: es) X.env = (false, eval e X.env) :: starEach es X.env := by rfl) (hpl : (backTo pos (starEach es X.env)).any (·.1) = false := by rfl) :
    PE X (.Call (.Name x p) (e :: es) [] pos) (tCallS sp (WE W) t) :=
  let ⟨_, _, _, F, hm, kp, b⟩ := c.ex
  pe_callS F (hr.mono hk) hg hm kp b (passAt tk) ha hdb he hpl
end
section
variable {P : Program} {w : World} {K : PySem.W.Frag} {mg : Str → Option Value} {base : Heap} {x : Str} {st : Stmt} {f : Addr} {fd : FuncData} {N ps : List Str} {k : Nat} {sp : Sp}
theorem caE_of (F : Fun K x x st f fd) (hm : mg x = some (.ref f)) (b : Binds K fd ps []) (S : FnScope N ps (defScope st)) (len : ∀ vs H Q E, sp vs H Q E → vs.length = ps.length)
    (h : ∀ (cdv : Value) (A : Around) (outer : List Env) (s : Shared) (H : Hp) (vs : List V) (Q : VK) (E : XK), Room k (A.deeper (envOfC x (defScope st) s.heap.objs.size f cdv)) → sp vs H Q E →
      ∃ t, PSs (cxOf (L2.CX P w) P w K mg base N x (defScope st) f cdv A outer s H E) (defBody st) t ∧ t { nx := fun _ H' => Q .non H', rt := Q } (start N vs) H) : CaE P w K mg base (k + 1) x sp :=
  ⟨f, fd, ps, F.okX S len h, hm, F.kp, b⟩
end
/-- the heap is kept -/
theorem same_exc {H H2 : Hp} {a d : Addr} {o : HO} (h : ∀ b u, H b = some u → H2 b = some u) (ha : H a = none) (hd : H d = none) : ∀ b u, H b = some u → upd (del H2 a) d o b = some u := fun b u e => by
  rw [upd_ne (ne_of_none e hd), del_ne (ne_of_none e ha)]
  exact h _ _ e
/-- need_possible: a trace with a paper is impossible -/
def spNPE (K : PySem.W.Frag) : Sp := fun vs H Q E => ∃ (t b : Addr) (szs : List (Str × Nat)) (ps : List (Str × Str)) (f l : Str) (ch : Str → Int), vs = [.ref t] ∧ TAt K H t b szs ps f l ch ∧ BOk szs ps ∧ TOk szs ps f l ch ∧
  (TPos szs ps f l ch → ∀ H', Same H H' → Q .non H') ∧ (TNot szs ps f l ch → ∀ d H', Same H H' → E (.ref (iC K)) d H')
section
variable {P : Program} {w : World} {K : PySem.W.Frag} {mg : Str → Option Value} {base : Heap}
theorem ce_need_possible (T : Wd K mg base) : CaE P w K mg base 3 "need_possible" (spNPE K) := by
  obtain ⟨fd, F⟩ := T.L.F_need_possible
  obtain ⟨fi, FI, bI⟩ := fn_Impossible_dinit (P := P) (w := w) T
  refine caE_of F T.g_need_possible (F.binds (ps := ["trace"]) fun _ _ _ _ _ _ us hl => match us, hl with | [_], _ => rfl) sc_need_possible (fun vs H Q E ⟨_, _, _, _, _, _, _, e, _⟩ => by rw [e]; rfl) ?_
  rintro cdv A outer s0 H vs Q E hr ⟨t, b, szs, ps, f, l, ch, rfl, A0, O, OT, k1, k2⟩
  have hr2 : Room (1 + 1) (A.deeper (envOfC "need_possible" (defScope s_need_possible) s0.heap.objs.size (He.ga K "need_possible") cdv)) := hr
  obtain ⟨dx, d, ky, bv, sd, h1, h2, h3, h4, h5⟩ := id A0.ex
  refine ⟨_, (pss_cons (ps_set (i := 1) sc_need_possible.nd rfl (Or.inl rfl) (pe_pr (pr_Trace_paper T) hr (by decide) (pv 0))) (pss_one (ps_if (pt_cmpR op_notN (pv 1) pe_non (by rfl)) (pss_one (ps_raise rfl (takes_of rfl rfl rfl rfl) (pmk_oexR (oexR_ok (ex_23 T.L.more)).1 (oexR_ok (ex_23 T.L.more)).2.2.1 (oexR_ok (ex_23 T.L.more)).2.2.2.1 FI hr2 bI pass0 rfl T.g_Impossible (pa_cons (pv 1) pa_nil)))) pss_nil))), ?_⟩
  refine ⟨_, rfl, t, _, _, rfl, h1, t, b, szs, ps, f, l, ch, rfl, A0, O, fun v H1 s1 hv => ?_⟩
  rcases hv with ⟨rfl, hp⟩ | ⟨u, xs, rfl, _, hn⟩
  · exact ⟨_, rfl, rfl, _, rfl, iteF (k1 hp _ s1)⟩
  · refine ⟨_, rfl, rfl, _, rfl, ?_⟩
    rw [decide_eq_false (fun z => by cases z)]
    refine iteT ?_
    refine ⟨_, rfl, Nat.le_of_ble_eq_true rfl, fun a ha => ?_⟩
    refine ⟨a, .ref u, rfl, upd_same, fun dx2 hdx ne => ⟨rfl, dx2, [("reason", .ref u)], upd_same, by rw [upd_ne ne, upd_same], by rw [upd_ne ne] at hdx; exact hdx, k2 hn (some dx2) _ ?_⟩⟩
    rw [upd_ne ne] at hdx
    refine s1.trans (same_exc (fun b u e => ?_) ha hdx)
    rw [upd_ne (ne_of_none e ha), upd_ne (ne_of_none e hdx), upd_ne (ne_of_none e ha)]
    exact e
end
end Rd
/-! log_total: walk. -/
namespace Rd
open PySem PySem.Spec PyProof.Rows L2 Gr
/-- a trace of a log, by what it holds -/
structure TR where
  a : Addr
  f : Str
  l : Str
  ch : Str → Int
/-- a log: traces of one building, each leaving where the one ahead ended -/
structure LogAt (K : PySem.W.Frag) (H : Hp) (L b : Addr) (szs : List (Str × Nat)) (ps : List (Str × Str)) (rs : List TR) : Prop where
  at_ : H L = some (.lst (rs.map fun r => V.ref r.a))
  tr : ∀ r ∈ rs, TAt K H r.a b szs ps r.f r.l r.ch
  ok : ∀ r ∈ rs, TOk szs ps r.f r.l r.ch
  jn : ∀ i r r', rs[i]? = some r → rs[i + 1]? = some r' → r'.f = r.l
  few : rs.length ≤ 8
theorem LogAt.same {K : PySem.W.Frag} {H H' : Hp} {L b : Addr} {szs : List (Str × Nat)} {ps : List (Str × Str)} {rs : List TR} (s : Same H H') (h : LogAt K H L b szs ps rs) : LogAt K H' L b szs ps rs :=
  ⟨s _ _ h.at_, fun r hr => (h.tr r hr).same s, h.ok, h.jn, h.few⟩
theorem opB_ok {x : Str} {K : PySem.W.Frag} (h : opB x K = true) : PySem.W.noSeq K (He.ga K x) = true ∧ PySem.W.selfFirst K (He.ga K x) = true ∧ PySem.W.isClsIn K (He.ga K x) = true := by
  unfold opB at h
  obtain ⟨h1, h⟩ := He.ba h
  obtain ⟨h2, h3⟩ := He.ba h
  exact ⟨h1, h2, h3⟩
theorem cut_tail (x : V) (xs : List V) : cutV (x :: xs) (some 1) none = xs := by
  unfold cutV HT.sIx
  simp
theorem map_getF {α : Type} {g : α → V} {xs : List α} {i : Nat} {v : V} (h : (xs.map g)[i]? = some v) : ∃ x, xs[i]? = some x ∧ v = g x := by
  rw [List.getElem?_map] at h
  cases e : xs[i]? with
  | none =>
    rw [e] at h
    cases h
  | some x =>
    rw [e] at h
    exact ⟨x, rfl, (Option.some.inj h).symm⟩
def spLT (K : PySem.W.Frag) : Sp := fun vs H Q _ => ∃ (L b : Addr) (szs : List (Str × Nat)) (ps : List (Str × Str)) (r0 : TR) (rs : List TR), vs = [.ref L] ∧ LogAt K H L b szs ps (r0 :: rs) ∧ BOk szs ps ∧ ∀ H' r, Same H H' → Q (.ref r) H'
-- slots of log_total: 0 log 1 found 2 trace
theorem sc_log_total : FnScope ["log", "found", "trace"] ["log"] (defScope s_log_total) := ⟨rfl, rfl, rfl, by decide +kernel, rfl, by decide +kernel, by decide +kernel⟩
section
variable {P : Program} {w : World} {K : PySem.W.Frag} {mg : Str → Option Value} {base : Heap}
theorem ca_log_total (T : Wd K mg base) : Ca P w K mg base 9 "log_total" (spLT K) [] := by
  obtain ⟨fd, F⟩ := T.L.F_log_total
  refine ca_of F T.g_log_total (F.binds (ps := ["log"]) fun _ _ _ _ _ _ us hl => match us, hl with | [_], _ => rfl) sc_log_total (fun vs H Q E ⟨_, _, _, _, _, _, e, _⟩ => by rw [e]; rfl) ?_
  rintro cdv A outer s0 H vs Q E hr ⟨L, b, szs, ps, r0, rs, rfl, G, O, k⟩
  refine ⟨_, (pss_cons (ps_set (i := 1) sc_log_total.nd rfl (Or.inl rfl) (pe_ix ix_list (pv 0) pe_int (fun _ _ => rfl))) (pss_cons (ps_for PassesOwn.never rfl (pi_list (pe_slice sl_list (pv 0) (po_some pe_int) po_none)) (pg_name (i := 2) sc_log_total.nd rfl (Or.inl rfl)) (pss_one (ps_set (i := 1) sc_log_total.nd rfl (Or.inl rfl) (pe_op (op_add_own (mt_Trace_dadd T) (opB_ok (ex_15 T.L.more)).2.1 hr (by decide)) (pv 1) (pv 2))))) (pss_one (ps_ret (pv 1))))), ?_⟩
  have hat := G.at_
  rw [List.map_cons] at hat
  refine ⟨_, rfl, L, _, (0 : Int), _, rfl, rfl, SqL.of hat, atI_nat (j := 0) rfl, ?_⟩
  have ht0 := G.tr r0 List.mem_cons_self
  have ho0 := G.ok r0 List.mem_cons_self
  refine ⟨_, rfl, _, rfl, L, _, rfl, SqL.of hat, fun p hp => ?_⟩
  rw [cut_tail]
  have s1 : Same H (upd H p (.lst (rs.map fun r => V.ref r.a))) := sm_new hp
  refine ⟨p, rfl, ⟨_, SqL.of upd_same⟩, for_list (K := K) (a := p) (xs := rs.map fun r => V.ref r.a) (fun i σ H' => ∃ (u : Addr) (l : Str) (ch : Str → Int) (z : Option V), σ = [some (.ref L), some (.ref u), z] ∧ TAt K H' u b szs ps r0.f l ch ∧ TOk szs ps r0.f l ch ∧ (∃ q, (r0 :: rs)[i]? = some q ∧ q.l = l) ∧ Same (upd H p (.lst (rs.map fun r => V.ref r.a))) H')
    ⟨r0.a, r0.l, r0.ch, none, rfl, ht0.same s1, ho0, ⟨r0, rfl, rfl⟩, Same.refl _⟩ (fun i σ H' _ ⟨_, _, _, _, _, _, _, _, h⟩ => h.seq (SqL.of upd_same)) ?_ ?_⟩
  · rintro i x σ H1 hx ⟨u, l, ch, z, rfl, t1, o1, ⟨q, hq, rfl⟩, s2⟩
    obtain ⟨r, hr2, rfl⟩ := map_getF hx
    have hrm := List.mem_of_getElem? hr2
    have hj := G.jn i q r hq (by rw [List.getElem?_cons_succ]; exact hr2)
    have tr := (G.tr r (List.mem_cons_of_mem _ hrm)).same (s1.trans s2)
    have okr := G.ok r (List.mem_cons_of_mem _ hrm)
    rw [hj] at tr okr
    obtain ⟨dx1, d1, ky1, bv1, sd1, e1, _⟩ := id t1.ex
    obtain ⟨dx2, d2, ky2, bv2, sd2, e2, _⟩ := id tr.ex
    refine ⟨_, rfl, _, rfl, u, dx1, _, r.a, dx2, _, rfl, e1, rfl, e2, u, r.a, b, szs, ps, r0.f, q.l, r.l, ch, r.ch, rfl, t1, tr, O, o1, okr, fun H2 v ch' s3 t3 o3 => ⟨v, rfl, v, r.l, ch', _, rfl, t3, o3, ⟨r, by rw [List.getElem?_cons_succ]; exact hr2, rfl⟩, s2.trans s3⟩⟩
  · rintro σ H1 ⟨u, l, ch, z, rfl, t1, o1, _, s2⟩
    exact ⟨_, rfl, k _ u (s1.trans s2)⟩
end
end Rd
/-! log_numbers: walk. -/
namespace Rd
open PySem PySem.Spec PyProof.Rows L2 Gr
theorem addB_ok {x : Str} {K : PySem.W.Frag} (h : addB x K = true) : PySem.W.findIn K (.ref (He.ga K x)) "__radd__" = some none ∧ PySem.W.subIn K (.type "int") (.ref (He.ga K x)) = some false := by
  unfold addB at h
  obtain ⟨h1, h2⟩ := He.ba h
  exact ⟨of_decide_eq_true h1, of_decide_eq_true h2⟩
/-- the numbers of a corridor, trace by trace -/
def NumsOk (szs : List (Str × Nat)) (ps : List (Str × Str)) (x y : Str) (rs : List TR) (is : List Int) : Prop := is.length = rs.length ∧ ∀ (j : Nat) (r : TR), rs[j]? = some r → ∃ (i m : Int), is[j]? = some i ∧ NumOk szs ps r.f r.l r.ch x y i m
theorem NumsOk.app {szs : List (Str × Nat)} {ps : List (Str × Str)} {x y : Str} {l : List TR} {n : Nat} {is : List Int} {r : TR} {i m : Int} (h : NumsOk szs ps x y (l.take n) is) (hr : l[n]? = some r) (k : NumOk szs ps r.f r.l r.ch x y i m) :
    NumsOk szs ps x y (l.take (n + 1)) (is ++ [i]) := by
  obtain ⟨h1, h2⟩ := h
  have hn : n < l.length := (List.getElem?_eq_some_iff.mp hr).1
  have e1 : is.length = n := by rw [h1, List.length_take]; omega
  rw [take_snoc hr]
  refine ⟨by rw [List.length_append, List.length_append, h1]; rfl, fun j q hj => ?_⟩
  by_cases hjn : j < n
  · rw [List.getElem?_append_left (by rw [List.length_take]; omega)] at hj
    obtain ⟨i', m', e, ok⟩ := h2 j q hj
    exact ⟨i', m', by rw [List.getElem?_append_left (by omega)]; exact e, ok⟩
  · rw [List.getElem?_append_right (by rw [List.length_take]; omega), List.length_take] at hj
    have hj0 : j - min n l.length = 0 := by
      cases e : j - min n l.length with
      | zero => rfl
      | succ z =>
        rw [e] at hj
        cases hj
    rw [hj0] at hj
    have e2 := Option.some.inj hj
    subst e2
    exact ⟨i, m, by rw [List.getElem?_append_right (by omega), show j - is.length = 0 from by omega]; rfl, k⟩
def spLN (K : PySem.W.Frag) : Sp := fun vs H Q E => ∃ (L b : Addr) (x y : Str) (szs : List (Str × Nat)) (ps : List (Str × Str)) (r0 : TR) (rs : List TR), vs = [.ref L, .str x, .str y] ∧ LogAt K H L b szs ps (r0 :: rs) ∧ BOk szs ps ∧ pairS x y ∈ ps ∧
  ((∀ r ∈ r0 :: rs, TPos szs ps r.f r.l r.ch) → ∀ H' n is m i0, Same H H' → NAt K H' n is.sum m → NumsOk szs ps x y (r0 :: rs) is → NumOk szs ps r0.f r0.l r0.ch x y i0 m → Q (.ref n) H') ∧
  (∀ r ∈ r0 :: rs, TNot szs ps r.f r.l r.ch → ∀ d H', Same H H' → E (.ref (iC K)) d H')
-- slots of log_numbers: 0 log 1 one 2 other 3 trace 4 found
theorem sc_log_numbers : FnScope ["log", "one", "other", "trace", "found"] ["log", "one", "other"] (defScope s_log_numbers) := ⟨rfl, rfl, rfl, by decide +kernel, rfl, by decide +kernel, by decide +kernel⟩
section
variable {P : Program} {w : World} {K : PySem.W.Frag} {mg : Str → Option Value} {base : Heap}
theorem ce_log_numbers (T : Wd K mg base) : CaE P w K mg base 12 "log_numbers" (spLN K) := by
  obtain ⟨fd, F⟩ := T.L.F_log_numbers
  refine caE_of F T.g_log_numbers (F.binds (ps := ["log", "one", "other"]) fun _ _ _ _ _ _ us hl => match us, hl with | [_, _, _], _ => rfl) sc_log_numbers (fun vs H Q E ⟨_, _, _, _, _, _, _, _, e, _⟩ => by rw [e]; rfl) ?_
  rintro cdv A outer s0 H vs Q E hr ⟨L, b, x, y, szs, ps, r0, rs, rfl, G, O, hin, k1, k2⟩
  refine ⟨_, (pss_cons (ps_expr (pe_ca (ca_log_total T) hr (by decide) rfl (pa_cons (pv 0) pa_nil))) (pss_cons (ps_expr (pe_ca (ca_corridor_modulus T) hr (by decide) rfl (pa_cons (pe_pr (pr_Trace_building T) hr (by decide) (pe_ix ix_list (pv 0) pe_int (fun _ _ => rfl))) (pa_cons (pv 1) (pa_cons (pv 2) pa_nil))))) (pss_cons (ps_for (passes_of rfl) rfl (pi_list (pv 0)) (pg_name (i := 3) sc_log_numbers.nd rfl (Or.inl rfl)) (pss_one (ps_expr (pe_caE (ce_need_possible T) (takes_of rfl rfl rfl rfl) hr (by decide) rfl (pa_cons (pv 3) pa_nil))))) (pss_cons (ps_set (i := 4) sc_log_numbers.nd rfl (Or.inl rfl) (pe_ca (ca_corridor_numbers T) hr (by decide) rfl (pa_cons (pe_ix ix_list (pv 0) pe_int (fun _ _ => rfl)) (pa_cons (pv 1) (pa_cons (pv 2) pa_nil))))) (pss_cons (ps_for (passes_of rfl) rfl (pi_list (pe_slice sl_list (pv 0) (po_some pe_int) po_none)) (pg_name (i := 3) sc_log_numbers.nd rfl (Or.inl rfl)) (pss_one (ps_set (i := 4) sc_log_numbers.nd rfl (Or.inl rfl) (pe_op (op_add_int (mt_Numbers_dadd T) (opB_ok (ex_16 T.L.more)).2.1 (addB_ok (ex_19 T.L.more)).1 (addB_ok (ex_19 T.L.more)).2 hr (by decide)) (pv 4) (pe_pr (pr_Numbers_least T) hr (by decide) (pe_ca (ca_corridor_numbers T) hr (by decide) rfl (pa_cons (pv 3) (pa_cons (pv 1) (pa_cons (pv 2) pa_nil))))))))) (pss_one (ps_ret (pv 4)))))))), ?_⟩
  have hat := G.at_
  rw [List.map_cons] at hat
  have ht0 := G.tr r0 List.mem_cons_self
  have ho0 := G.ok r0 List.mem_cons_self
  obtain ⟨dx, d, ky, bv, sd, h1, h2, h3, h4, h5⟩ := id ht0.ex
  refine ⟨_, rfl, L, b, szs, ps, r0, rs, rfl, G, O, fun H1 r s1 => ?_⟩
  refine ⟨_, rfl, L, _, (0 : Int), _, rfl, rfl, SqL.of (s1 _ _ hat), atI_nat (j := 0) rfl, r0.a, dx, _, rfl, s1 _ _ h1, r0.a, b, szs, ps, r0.f, r0.l, r0.ch, rfl, ht0.same s1, ?_⟩
  refine ⟨_, rfl, _, rfl, b, x, y, szs, ps, rfl, h3.same s1, O, hin, fun m0 H2 s2 hm0 hm01 => ?_⟩
  have sH2 := s1.trans s2
  refine ⟨_, rfl, L, rfl, ⟨_, SqL.of (sH2 _ _ G.at_)⟩, for_list (K := K) (a := L) (xs := (r0 :: rs).map fun r => V.ref r.a) (fun i σ H' => ∃ z : Option V, σ = [some (.ref L), some (.str x), some (.str y), z, none] ∧ (∀ (j : Nat) (r : TR), j < i → (r0 :: rs)[j]? = some r → TPos szs ps r.f r.l r.ch) ∧ Same H H')
    ⟨none, rfl, fun j r h => absurd h (Nat.not_lt_zero _), sH2⟩ (fun i σ H' _ ⟨_, _, _, h⟩ => SqL.of (h _ _ G.at_)) ?_ ?_⟩
  · rintro i v σ H3 hx ⟨z, rfl, hp, s3⟩
    obtain ⟨q, hq, rfl⟩ := map_getF hx
    have hqm := List.mem_of_getElem? hq
    refine ⟨_, rfl, q.a, b, szs, ps, q.f, q.l, q.ch, rfl, (G.tr q hqm).same s3, O, G.ok q hqm, fun hpos H4 s4 => ⟨_, rfl, fun j q2 hj hq2 => ?_, s3.trans s4⟩, fun hneg d H4 s4 => k2 q hqm hneg d H4 (s3.trans s4)⟩
    by_cases hji : j = i
    · subst hji
      rw [hq] at hq2
      cases hq2
      exact hpos
    · exact hp j q2 (by omega) hq2
  rintro σ H3 ⟨z, rfl, hp, s3⟩
  have allp : ∀ r ∈ r0 :: rs, TPos szs ps r.f r.l r.ch := fun q hq => by
    obtain ⟨j, hj, e⟩ := List.mem_iff_getElem.mp hq
    exact hp j q (by rw [List.length_map]; exact hj) (List.getElem?_eq_some_iff.mpr ⟨hj, e⟩)
  refine ⟨_, rfl, L, _, (0 : Int), _, rfl, rfl, SqL.of (s3 _ _ hat), atI_nat (j := 0) rfl, _, rfl, _, rfl, r0.a, b, x, y, szs, ps, r0.f, r0.l, r0.ch, rfl, ht0.same s3, O, ho0, allp r0 List.mem_cons_self, hin, fun H4 n0 i0 m s4 N0 ok0 => ?_⟩
  have sH4 := s3.trans s4
  refine ⟨_, rfl, _, rfl, L, _, rfl, SqL.of (sH4 _ _ hat), fun p hp => ?_⟩
  rw [cut_tail]
  have s5 : Same H4 (upd H4 p (.lst (rs.map fun r => V.ref r.a))) := sm_new hp
  obtain ⟨dn0, en0⟩ := id N0
  refine ⟨p, rfl, ⟨_, SqL.of upd_same⟩, for_list (K := K) (a := p) (xs := rs.map fun r => V.ref r.a) (fun i σ H' => ∃ (n : Addr) (is : List Int) (z : Option V), σ = [some (.ref L), some (.str x), some (.str y), z, some (.ref n)] ∧ NAt K H' n is.sum m ∧ NumsOk szs ps x y ((r0 :: rs).take (i + 1)) is ∧ Same (upd H4 p (.lst (rs.map fun r => V.ref r.a))) H')
    ⟨n0, [i0], _, rfl, ⟨dn0, by rw [show [i0].sum = i0 from by simp]; exact s5 _ _ en0⟩, ⟨rfl, fun j q hj => ?_⟩, Same.refl _⟩ (fun i σ H' _ ⟨_, _, _, _, _, _, h⟩ => h.seq (SqL.of upd_same)) ?_ ?_⟩
  · cases j with
    | zero =>
      have e2 := Option.some.inj hj
      subst e2
      exact ⟨i0, m, rfl, ok0⟩
    | succ j => cases hj
  · rintro i v σ H5 hx ⟨n, is, z, rfl, N1, ok1, s6⟩
    obtain ⟨q, hq, rfl⟩ := map_getF hx
    have hqm : q ∈ r0 :: rs := List.mem_cons_of_mem _ (List.mem_of_getElem? hq)
    have sH5 := sH4.trans (s5.trans s6)
    obtain ⟨dn1, en1⟩ := id N1
    refine ⟨_, rfl, _, rfl, _, rfl, _, rfl, q.a, b, x, y, szs, ps, q.f, q.l, q.ch, rfl, (G.tr q hqm).same sH5, O, G.ok q hqm, allp q hqm, hin, fun H6 n2 i2 m2 s7 N2 ok2 => ?_⟩
    obtain ⟨dn2, en2⟩ := id N2
    refine ⟨n2, dn2, _, rfl, en2, n2, i2, m2, rfl, N2, n, dn1, _, i2, rfl, s7 _ _ en1, rfl, n, is.sum, m, i2, rfl, ⟨dn1, s7 _ _ en1⟩, fun H7 n3 s8 N3 => ⟨n3, rfl, n3, is ++ [i2], _, rfl, ?_, ok1.app (by rw [List.getElem?_cons_succ]; exact hq) ok2, s6.trans (s7.trans s8)⟩⟩
    rw [List.sum_append, show [i2].sum = i2 from by simp]
    exact N3
  · rintro σ H5 ⟨n, is, z, rfl, N1, ok1, s6⟩
    rw [List.length_map, List.take_of_length_le (by rw [List.length_cons]; exact Nat.le_refl _)] at ok1
    exact ⟨_, rfl, k1 allp H5 n is m i0 (sH4.trans (s5.trans s6)) N1 ok1 ok0⟩
end
end Rd
/-! _law_told: walk. -/
namespace Rd
open PySem PySem.Spec PyProof.Rows L2 Gr
/-- what is told of a log and a corridor -/
def ToldV (K : PySem.W.Frag) (H : Hp) (szs : List (Str × Nat)) (ps : List (Str × Str)) (x y : Str) (r0 : TR) (rs : List TR) (v : V) : Prop := (v = .non ∧ ∃ r ∈ r0 :: rs, TNot szs ps r.f r.l r.ch) ∨
  ∃ (n : Addr) (is : List Int) (m i0 : Int), v = .ref n ∧ NAt K H n is.sum m ∧ (∀ r ∈ r0 :: rs, TPos szs ps r.f r.l r.ch) ∧ NumsOk szs ps x y (r0 :: rs) is ∧ NumOk szs ps r0.f r0.l r0.ch x y i0 m
def spTold (K : PySem.W.Frag) : Sp := fun vs H Q _ => ∃ (L b p : Addr) (x y : Str) (szs : List (Str × Nat)) (ps : List (Str × Str)) (r0 : TR) (rs : List TR), vs = [.ref L, .ref p] ∧ LogAt K H L b szs ps (r0 :: rs) ∧ BOk szs ps ∧ SqT K H p [.str y, .str x] ∧ pairS x y ∈ ps ∧
  ∀ v H', Same H H' → ToldV K H' szs ps x y r0 rs v → Q v H'
-- slots of _law_told: 0 _law_traces 1 _law_two 2 e
theorem sc_z_told : FnScope ["_law_traces", "_law_two", "e"] ["_law_traces", "_law_two"] (defScope s_z_told) := ⟨rfl, rfl, rfl, by decide +kernel, rfl, by decide +kernel, by decide +kernel⟩
section
variable {P : Program} {w : World} {K : PySem.W.Frag} {mg : Str → Option Value} {base : Heap}
theorem ca_z_told (T : Wd K mg base) : Ca P w K mg base 13 "_law_told" (spTold K) [] := by
  obtain ⟨fd, F⟩ := T.L.F_z_told
  refine ca_of F T.g__law_told (F.binds (ps := ["_law_traces", "_law_two"]) fun _ _ _ _ _ _ us hl => match us, hl with | [_, _], _ => rfl) sc_z_told (fun vs H Q E ⟨_, _, _, _, _, _, _, _, _, e, _⟩ => by rw [e]; rfl) ?_
  rintro cdv A outer s0 H vs Q E hr ⟨L, b, p, x, y, szs, ps, r0, rs, rfl, G, O, hp, hin, k⟩
  refine ⟨_, (pss_one (ps_try_as (i := 2) rfl rfl sc_z_told.nd rfl rfl ⟨rfl, by decide, .inl T.g_Impossible⟩ takes0 (fun W pn xe tk po => pss_one (ps_ret (pe_caE (ce_log_numbers T) tk hr (by decide) rfl (pa_cons (pv 0) (pa_cons (pe_ix (r := rIxT K) ix_tup (pv 1) pe_int (fun _ _ => rfl)) (pa_cons (pe_ix (r := rIxT K) ix_tup (pv 1) pe_int (fun _ _ => rfl)) pa_nil)))))) (fun a oe cls d pn hz hf => pss_one (ps_ret pe_non)))), ?_⟩
  refine ⟨_, rfl, _, rfl, p, _, (1 : Int), _, rfl, rfl, hp, rfl, _, rfl, p, _, (0 : Int), _, rfl, rfl, hp, rfl, L, b, x, y, szs, ps, r0, rs, rfl, G, O, hin, fun ha H' n is m i0 s1 N ok ok0 => k _ _ s1 (.inr ⟨n, is, m, i0, rfl, N, ha, ok, ok0⟩), fun r hr2 hneg d H' s1 => ?_⟩
  exact ⟨true, (oexR_ok (ex_23 T.L.more)).2.2.2.2, fun _ a ha => k _ _ s1 (.inl ⟨rfl, r, hr2, hneg⟩), fun z => by cases z⟩
end
end Rd
/-! The law's tape: _law_begin, _law_draw. -/
namespace Rd
open PySem PySem.Spec PyProof.Rows L2 Gr
/-- the tape at t: n cells are read -/
def TpAt (H : Hp) (t c : Addr) (n : Nat) : Prop := ∃ (cells : List Int) (left : Int), t ≠ c ∧ H t = some (.dK [(Sum.inr "cells", .ref c), (Sum.inr "place", .int (n : Nat)), (Sum.inr "left", .int left)]) ∧ H c = some (.lst (cells.map V.int)) ∧ cells ≠ [] ∧ cells.length ≤ 63 ∧ 0 ≤ left
theorem tp_left {c : Addr} {p l : V} : valV ([(Sum.inr "cells", .ref c), (Sum.inr "place", p), (Sum.inr "left", l)] : List (Key × V)) (Sum.inr "left") = some l := rfl
theorem tp_place {c : Addr} {p l : V} : valV ([(Sum.inr "cells", .ref c), (Sum.inr "place", p), (Sum.inr "left", l)] : List (Key × V)) (Sum.inr "place") = some p := rfl
theorem tp_cells {c : Addr} {p l : V} : valV ([(Sum.inr "cells", .ref c), (Sum.inr "place", p), (Sum.inr "left", l)] : List (Key × V)) (Sum.inr "cells") = some (.ref c) := rfl
theorem tp_putP {c : Addr} {p l q : V} : putK ([(Sum.inr "cells", .ref c), (Sum.inr "place", p), (Sum.inr "left", l)] : List (Key × V)) (Sum.inr "place") q = ([(Sum.inr "cells", .ref c), (Sum.inr "place", q), (Sum.inr "left", l)] : List (Key × V)) := rfl
theorem tp_putL {c : Addr} {p l q : V} : putK ([(Sum.inr "cells", .ref c), (Sum.inr "place", p), (Sum.inr "left", l)] : List (Key × V)) (Sum.inr "left") q = ([(Sum.inr "cells", .ref c), (Sum.inr "place", p), (Sum.inr "left", q)] : List (Key × V)) := rfl
theorem tp_mk {c p l : V} : mergeK [] ([(Sum.inr "cells", c), (Sum.inr "place", p), (Sum.inr "left", l)] : List (Key × V)) = ([(Sum.inr "cells", c), (Sum.inr "place", p), (Sum.inr "left", l)] : List (Key × V)) := rfl
theorem SameX.refl {b : Addr} (H : Hp) : SameX b H H := fun _ _ _ e => e
theorem cut_head (xs : List V) : cutV xs none (some 63) = xs.take 63 := by
  unfold cutV HT.sIx
  simp
def spBegin (K : PySem.W.Frag) : Sp := fun vs H Q _ => ∃ (a : Addr) (ns : List Int), vs = [.ref a] ∧ SqL K H a (ns.map V.int) ∧ ∀ H' t c, Same H H' → TpAt H' t c 0 → Q (.ref t) H'
-- slots of _law_begin: 0 _law_script
theorem sc_z_begin : FnScope ["_law_script"] ["_law_script"] (defScope s_z_begin) := ⟨rfl, rfl, rfl, by decide +kernel, rfl, by decide +kernel, by decide +kernel⟩
section
variable {P : Program} {w : World} {K : PySem.W.Frag} {mg : Str → Option Value} {base : Heap}
theorem ca_z_begin (T : Wd K mg base) : Ca P w K mg base 1 "_law_begin" (spBegin K) [] := by
  obtain ⟨fd, F⟩ := T.L.F_z_begin
  refine ca_of F T.g__law_begin (F.binds (ps := ["_law_script"]) fun _ _ _ _ _ _ us hl => match us, hl with | [_], _ => rfl) sc_z_begin (fun vs H Q E ⟨_, _, e, _⟩ => by rw [e]; rfl) ?_
  rintro cdv A outer s H vs Q E hr ⟨a, ns, rfl, ha, k⟩
  refine ⟨_, (pss_one (ps_ret (pe_disp (pps_cons pe_str (pe_orT (pe_slice sl_list (pv 0) po_none (po_some pe_int)) (pe_one (pe_lst (pa_cons pe_int pa_nil)))) (pps_cons pe_str pe_int (pps_cons pe_str pe_int pps_nil))) (by rfl) (by rfl) (fun z => by cases z) (by decide)))), ?_⟩
  intro t ht
  refine ⟨_, rfl, 63, rfl, a, _, rfl, (sm_new ht).seq ha, fun p hp => ?_⟩
  have hpt : t ≠ p := ne_of_none upd_same hp
  rw [cut_head]
  refine ⟨!((ns.map V.int).take 63).isEmpty, .inl ⟨_, SqL.of upd_same, rfl⟩, ?_⟩
  by_cases hns : ns = []
  · subst hns
    refine iteF ⟨Nat.le_of_ble_eq_true rfl, fun p2 hp2 => ?_⟩
    have hpt2 : t ≠ p2 := ne_of_none (by rw [upd_ne hpt, upd_same]) hp2
    refine ⟨by rw [upd_ne hpt2, upd_ne hpt, upd_same], [(Sum.inr "cells", .ref p2), (Sum.inr "place", .int 0), (Sum.inr "left", .int 0)], rfl, Nat.le_of_ble_eq_true rfl, ?_⟩
    rw [tp_mk]
    refine k _ t p2 ((((sm_new ht).new hp).new hp2).put ht) ⟨[0], 0, hpt2, upd_same, by rw [upd_ne hpt2.symm, upd_same]; rfl, by simp, by simp, by decide⟩
  · have e : (!((ns.map V.int).take 63).isEmpty) = true := by
      cases ns with
      | nil => exact absurd rfl hns
      | cons z zs => rfl
    rw [e]
    refine iteT ?_
    refine ⟨by rw [upd_ne hpt, upd_same], [(Sum.inr "cells", .ref p), (Sum.inr "place", .int 0), (Sum.inr "left", .int 0)], rfl, Nat.le_of_ble_eq_true rfl, ?_⟩
    rw [tp_mk]
    refine k _ t p (((sm_new ht).new hp).put ht) ⟨ns.take 63, 0, hpt, upd_same, by rw [upd_ne hpt.symm, upd_same, List.map_take], fun z => hns ?_, by rw [List.length_take]; omega, by decide⟩
    cases ns with
    | nil => rfl
    | cons z zs => cases ‹_›
end
def spDraw (K : PySem.W.Frag) : Sp := fun vs H Q _ => ∃ (t c : Addr) (n m : Nat), vs = [.ref t, .int (m : Nat)] ∧ TpAt H t c n ∧ n ≤ 100000 ∧ 1 ≤ m ∧ m ≤ 100000 ∧ ∀ H' (j n' : Nat), SameX t H H' → TpAt H' t c n' → n' ≤ n + 1 → j < m → Q (.int (j : Nat)) H'
-- slots of _law_draw: 0 _law_tape 1 _law_many 2 _law_place 3 _law_cells 4 _law_cell 5 _law_found
theorem sc_z_draw : FnScope ["_law_tape", "_law_many", "_law_place", "_law_cells", "_law_cell", "_law_found"] ["_law_tape", "_law_many"] (defScope s_z_draw) := ⟨rfl, rfl, rfl, by decide +kernel, rfl, by decide +kernel, by decide +kernel⟩
section
variable {P : Program} {w : World} {K : PySem.W.Frag} {mg : Str → Option Value} {base : Heap}
theorem ca_z_draw (T : Wd K mg base) : Ca P w K mg base 1 "_law_draw" (spDraw K) [] := by
  obtain ⟨fd, F⟩ := T.L.F_z_draw
  refine ca_of F T.g__law_draw (F.binds (ps := ["_law_tape", "_law_many"]) fun _ _ _ _ _ _ us hl => match us, hl with | [_, _], _ => rfl) sc_z_draw (fun vs H Q E ⟨_, _, _, _, e, _⟩ => by rw [e]; rfl) ?_
  rintro cdv A outer s H vs Q E hr ⟨t, c, n, m, rfl, ⟨cells, left, htc, ht, hc, hne, h63, hl0⟩, hn, hm, hm2, k⟩
  refine ⟨_, (pss_cons (ps_if (pt_cmpR op_lt (pe_dget (hu_of hr) (pv 0) pe_str (fun _ _ => rfl)) (pv 1) (by rfl)) (pss_cons (ps_par (i := 2) (j := 3) (by rfl) sc_z_draw.nd rfl rfl (by decide) rfl rfl (pa_cons (pe_dget (hu_of hr) (pv 0) pe_str (fun _ _ => rfl)) (pa_cons (pe_dget (hu_of hr) (pv 0) pe_str (fun _ _ => rfl)) pa_nil)) (by rfl)) (pss_cons (ps_asg (pe_tup (pa_cons (pe_ix ix_list (pv 3) (pe_op op_modN (pe_callTy (call_int1) (by rfl) T.f_int (by decide +kernel) (pa_cons (pv 2) pa_nil)) (pe_callB (call_len_seq) (by rfl) T.f_len (by decide +kernel) (pa_cons (pv 3) pa_nil))) (fun _ _ => rfl)) (pa_cons (pe_op op_add (pv 2) pe_int) pa_nil))) (pg_tup rfl (pgs_cons (pg_name (i := 4) sc_z_draw.nd rfl (Or.inl rfl)) (pgs_cons (pg_sub (pv 0) pe_str (set_dict (hu_of hr))) pgs_nil)))) (pss_cons (ps_dput (hu_of hr) (pv 0) pe_str (pe_op op_modN (pe_callTy (call_int1) (by rfl) T.f_int (by decide +kernel) (pa_cons (pe_op op_pow (pe_op op_add (pe_op op_add (pe_op op_modN (pe_callTy (call_int1) (by rfl) T.f_int (by decide +kernel) (pa_cons (pv 4) pa_nil)) pe_int) (pe_op op_mul pe_int (pv 2))) pe_int) pe_int) pa_nil)) (pe_op op_add (pe_op op_pow pe_int pe_int) pe_int)) rfl) (pss_one (ps_if (PW.pt (pw_and (pt_cmpR op_ge (pv 4) (pe_op op_pow pe_int pe_int) (by rfl)) (pw_and1 (pt_cmpR op_lt (pv 2) (pe_callB (call_len_seq) (by rfl) T.f_len (by decide +kernel) (pa_cons (pv 3) pa_nil)) (by rfl))))) (pss_one (ps_dput (hu_of hr) (pv 0) pe_str (pe_op op_sub (pv 4) (pe_op op_pow pe_int pe_int)) rfl)) pss_nil))))) pss_nil) (pss_cons (ps_asg (pe_tup (pa_cons (pe_op op_modN (pe_callTy (call_int1) (by rfl) T.f_int (by decide +kernel) (pa_cons (pe_dget (hu_of hr) (pv 0) pe_str (fun _ _ => rfl)) pa_nil)) (pv 1)) (pa_cons (pe_op op_fdivN (pe_dget (hu_of hr) (pv 0) pe_str (fun _ _ => rfl)) (pv 1)) pa_nil))) (pg_tup rfl (pgs_cons (pg_name (i := 5) sc_z_draw.nd rfl (Or.inl rfl)) (pgs_cons (pg_sub (pv 0) pe_str (set_dict (hu_of hr))) pgs_nil)))) (pss_one (ps_ret (pv 5))))), ?_⟩
  refine ⟨_, rfl, t, _, rfl, DGet.k (k := Sum.inr "left") ht, _, rfl, _, _, rfl, rfl, _, rfl, ?_⟩
  refine if_via2 (fun σ' H' => ∃ (z2 z3 z4 z5 : Option V) (n' : Nat) (left' : Int), σ' = [some (.ref t), some (.int (m : Nat)), z2, z3, z4, z5] ∧ SameX t H H' ∧ H' t = some (.dK [(Sum.inr "cells", .ref c), (Sum.inr "place", .int (n' : Nat)), (Sum.inr "left", .int left')]) ∧ n' ≤ n + 1 ∧ 0 ≤ left') ?_ (fun _ ky => ?_) (fun _ => ⟨_, _, _, _, n, left, rfl, SameX.refl _, ht, Nat.le_succ _, hl0⟩)
  · rintro σ' H' ⟨z2, z3, z4, z5, n', left', rfl, ss, ht', hn', hl'⟩
    have hm0 : ((m : Nat) : Int) ≠ 0 := by omega
    have hfm : Int.fmod left' (m : Nat) = ((left'.toNat % m : Nat) : Int) := by
      obtain ⟨q, rfl⟩ := Int.eq_ofNat_of_zero_le hl'
      rw [Int.fmod_eq_emod_of_nonneg _ (by omega)]
      rfl
    have hfd : (0 : Int) ≤ Int.fdiv left' (m : Nat) := by
      rw [Int.fdiv_eq_ediv_of_nonneg _ (by omega)]
      exact Int.ediv_nonneg hl' (by omega)
    refine ⟨_, rfl, t, _, rfl, DGet.k (k := Sum.inr "left") ht', .inl ⟨_, rfl, _, rfl, _, _, rfl, rfl, hm0, _, rfl, t, _, rfl, DGet.k (k := Sum.inr "left") ht', _, rfl, _, _, rfl, rfl, ?_, Nat.le_of_ble_eq_true rfl, fun p hp => ?_⟩⟩
    · exact ⟨hm0, by omega⟩
    have npt : t ≠ p := ne_of_none ht' hp
    refine ⟨p, _, rfl, SqT.of upd_same, rfl, _, _, rfl, _, _, rfl, _, rfl, t, _, rfl, DPut.k (k := Sum.inr "left") (by rw [upd_ne npt]; exact ht') (by rw [sizeLine_eq]; exact Nat.le_of_ble_eq_true rfl), rfl, _, rfl, ?_⟩
    rw [tp_putL]
    show Q (V.int (Int.fmod left' (m : Nat))) _
    rw [hfm]
    have ncp : c ≠ p := ne_of_none (ss _ _ (Ne.symm htc) hc) hp
    refine k _ _ n' ((ss.new hp).trans sameX_put) ⟨cells, _, htc, upd_same, by rw [upd_ne (Ne.symm htc), upd_ne ncp]; exact ss _ _ (Ne.symm htc) hc, hne, h63, hfd⟩ hn' (Nat.mod_lt _ (by omega))
  have hlen : 0 < cells.length := List.length_pos_iff.mpr hne
  have hfj : Int.fmod (n : Nat) ((cells.map V.int).length : Nat) = ((n % cells.length : Nat) : Int) := by
    rw [List.length_map, Int.fmod_eq_emod_of_nonneg _ (by omega)]
    rfl
  have hj : n % cells.length < cells.length := Nat.mod_lt _ hlen
  obtain ⟨cell, hcell⟩ : ∃ cell, cells[n % cells.length]? = some cell := ⟨_, List.getElem?_eq_getElem hj⟩
  have hat : atI (cells.map V.int) (Int.fmod (n : Nat) ((cells.map V.int).length : Nat)) = some (.int cell) := by
    rw [hfj]
    exact atI_nat (by rw [List.getElem?_map, hcell]; rfl)
  refine ⟨_, rfl, t, _, rfl, DGet.k (k := Sum.inr "place") ht, _, rfl, t, _, rfl, DGet.k (k := Sum.inr "cells") ht, _, _, rfl, ?_⟩
  refine ⟨_, rfl, _, rfl, .inl ⟨_, rfl, _, rfl, c, _, rfl, .inl (SqL.of hc), _, _, rfl, rfl, (by show (((cells.map V.int).length : Nat) : Int) ≠ 0; rw [List.length_map]; omega), c, _, _, _, rfl, rfl, SqL.of hc, hat, _, rfl, _, _, rfl, rfl, Nat.le_of_ble_eq_true rfl, fun p hp => ?_⟩⟩
  have npt : t ≠ p := ne_of_none ht hp
  refine ⟨p, _, rfl, SqT.of upd_same, rfl, _, _, rfl, _, _, rfl, _, rfl, t, _, rfl, DPut.k (k := Sum.inr "place") (by rw [upd_ne npt]; exact ht) (by rw [sizeLine_eq]; exact Nat.le_of_ble_eq_true rfl), rfl, ?_⟩
  rw [tp_putP]
  generalize hH1 : upd (upd H p _) t (HO.dK [(Sum.inr "cells", .ref c), (Sum.inr "place", .int ((n : Nat) + 1)), (Sum.inr "left", .int left)]) = H1
  have ncp : c ≠ p := ne_of_none hc hp
  have ss1 : SameX t H H1 := by
    rw [← hH1]
    exact ((SameX.refl H).new hp).trans sameX_put
  have ht1 : H1 t = some (.dK [(Sum.inr "cells", .ref c), (Sum.inr "place", .int ((n + 1 : Nat) : Int)), (Sum.inr "left", .int left)]) := by
    rw [← hH1, upd_same]
    rfl
  have hc1 : H1 c = some (.lst (cells.map V.int)) := ss1 _ _ (Ne.symm htc) hc
  clear hH1
  have he : 0 ≤ Int.fmod cell 2147483647 ∧ Int.fmod cell 2147483647 < 2147483647 := by
    rw [Int.fmod_eq_emod_of_nonneg _ (by omega)]
    exact ⟨Int.emod_nonneg _ (by omega), Int.emod_lt_of_pos _ (by omega)⟩
  refine ⟨_, rfl, .inl ⟨_, rfl, _, _, rfl, rfl, (by show (2147483647 : Int) ≠ 0; decide), _, rfl, _, _, rfl, rfl, .inl ⟨by decide, by decide⟩, _, _, rfl, rfl, _, _, rfl, rfl, _, _, rfl, rfl, ⟨by decide, by decide, ?_⟩, .inl ⟨_, rfl, _, _, rfl, rfl, ⟨by decide, by decide, by decide⟩, _, _, rfl, rfl, _, _, rfl, rfl, ?_, _, rfl, t, _, rfl, DPut.k (k := Sum.inr "left") ht1 (by rw [sizeLine_eq]; exact Nat.le_of_ble_eq_true rfl), ?_⟩⟩⟩
  · show (Int.fmod cell 2147483647 + 69621 * ((n : Nat) : Int) + 48271).natAbs < 2 ^ 64
    omega
  · show ((10 : Int) ^ (50 : Int).toNat + 151) ≠ 0
    decide
  rw [tp_putL]
  generalize hH2 : upd H1 t (HO.dK _) = H2
  have hl2 : ∃ left2 : Int, 0 ≤ left2 ∧ H2 t = some (.dK [(Sum.inr "cells", .ref c), (Sum.inr "place", .int ((n + 1 : Nat) : Int)), (Sum.inr "left", .int left2)]) := by
    rw [← hH2]
    refine ⟨_, ?_, upd_same⟩
    show 0 ≤ Int.fmod _ ((10 : Int) ^ (50 : Int).toNat + 151)
    rw [Int.fmod_eq_emod_of_nonneg _ (by decide)]
    exact Int.emod_nonneg _ (by decide)
  obtain ⟨left2, hl2, ht2⟩ := hl2
  have ss2 : SameX t H H2 := by
    rw [← hH2]
    exact ss1.trans sameX_put
  have hc2 : H2 c = some (.lst (cells.map V.int)) := ss2 _ _ (Ne.symm htc) hc
  clear hH2
  refine ⟨_, rfl, _, _, rfl, rfl, ⟨by decide, by decide, by decide⟩, _, _, rfl, rfl, _, rfl, ?_⟩
  have fin : ∀ (left3 : Int) (H3 : Hp), SameX t H2 H3 → 0 ≤ left3 → H3 t = some (.dK [(Sum.inr "cells", .ref c), (Sum.inr "place", .int ((n + 1 : Nat) : Int)), (Sum.inr "left", .int left3)]) → _ := fun left3 H3 s3 h3 h4 => ky [some (.ref t), some (.int (m : Nat)), some (.int (n : Nat)), some (.ref c), some (.int cell), none] H3 ⟨_, _, _, _, n + 1, left3, rfl, ss2.trans s3, h4, Nat.le_refl _, h3⟩
  by_cases hbig : (10 : Int) ^ (18 : Int).toNat ≤ cell
  · rw [decide_eq_true hbig]
    refine iteT ⟨_, rfl, _, rfl, c, _, rfl, .inl (SqL.of hc2), _, _, rfl, rfl, _, rfl, ?_⟩
    refine if_via2 (fun σ' H' => σ' = [some (.ref t), some (.int (m : Nat)), some (.int (n : Nat)), some (.ref c), some (.int cell), none] ∧ ∃ left3 : Int, SameX t H2 H' ∧ 0 ≤ left3 ∧ H' t = some (.dK [(Sum.inr "cells", .ref c), (Sum.inr "place", .int ((n + 1 : Nat) : Int)), (Sum.inr "left", .int left3)])) (fun σ' H' ⟨e, left3, s3, h3, h4⟩ => by rw [e]; exact fin left3 H' s3 h3 h4) (fun _ kz => ?_) (fun _ => ⟨rfl, left2, SameX.refl _, hl2, ht2⟩)
    refine ⟨_, rfl, _, _, rfl, rfl, ⟨by decide, by decide, by decide⟩, _, _, rfl, rfl, _, rfl, t, _, rfl, DPut.k (k := Sum.inr "left") ht2 (by rw [sizeLine_eq]; exact Nat.le_of_ble_eq_true rfl), ?_⟩
    rw [tp_putL]
    exact kz _ _ ⟨rfl, _, sameX_put, by show 0 ≤ cell - (10 : Int) ^ (18 : Int).toNat; omega, upd_same⟩
  · rw [decide_eq_false hbig]
    exact iteF (iteF (fin left2 H2 (SameX.refl _) hl2 ht2))
end
end Rd
/-! _law_pick. -/
namespace Rd
open PySem PySem.Spec PyProof.Rows L2 Gr
theorem ix_or {X : Cx} {r1 r2 : R2} (h1 : IxR X r1) (h2 : IxR X r2) : IxR X (fun x y H Q => r1 x y H Q ∨ r2 x y H Q) := fun value slice pins s σ H x y v u Q I rx ry h e => by
  rcases h with h | h
  · exact h1 value slice pins s σ H x y v u Q I rx ry h e
  · exact h2 value slice pins s σ H x y v u Q I rx ry h e
/-- what may be picked from -/
def PickPre (H : Hp) (it : V) : Prop := (∃ (a : Addr) (xs : List V), it = .ref a ∧ H a = some (.lst xs) ∧ xs ≠ [] ∧ xs.length ≤ 1000) ∨ ∃ z : Str, it = .str z ∧ 1 ≤ z.length ∧ z.length ≤ 1000
def Picked (H : Hp) (it v : V) : Prop := (∃ (a : Addr) (xs : List V), it = .ref a ∧ H a = some (.lst xs) ∧ v ∈ xs) ∨ ∃ (z : Str) (c : Nat), it = .str z ∧ c ∈ z.cps.toList ∧ v = .str ⟨#[c]⟩
theorem TpAt.nl {H : Hp} {t a c : Addr} {n : Nat} {xs : List V} (h : TpAt H t c n) (e : H a = some (.lst xs)) : a ≠ t := fun z => by
  obtain ⟨_, _, _, h1, _⟩ := h
  rw [z, h1] at e
  cases e
def spPick (K : PySem.W.Frag) : Sp := fun vs H Q _ => ∃ (t c : Addr) (n : Nat) (it : V), vs = [.ref t, it] ∧ TpAt H t c n ∧ n ≤ 100000 ∧ PickPre H it ∧ ∀ H' (v : V) (n' : Nat), SameX t H H' → TpAt H' t c n' → n' ≤ n + 1 → Picked H it v → Q v H'
-- slots of _law_pick: 0 _law_tape 1 _law_items
theorem sc_z_pick : FnScope ["_law_tape", "_law_items"] ["_law_tape", "_law_items"] (defScope s_z_pick) := ⟨rfl, rfl, rfl, by decide +kernel, rfl, by decide +kernel, by decide +kernel⟩
section
variable {P : Program} {w : World} {K : PySem.W.Frag} {mg : Str → Option Value} {base : Heap}
theorem ca_z_pick (T : Wd K mg base) : Ca P w K mg base 2 "_law_pick" (spPick K) [] := by
  obtain ⟨fd, F⟩ := T.L.F_z_pick
  refine ca_of F T.g__law_pick (F.binds (ps := ["_law_tape", "_law_items"]) fun _ _ _ _ _ _ us hl => match us, hl with | [_, _], _ => rfl) sc_z_pick (fun vs H Q E ⟨_, _, _, _, e, _⟩ => by rw [e]; rfl) ?_
  rintro cdv A outer s H vs Q E hr ⟨t, c, n, it, rfl, ht, hn, hp, k⟩
  refine ⟨_, (pss_one (ps_ret (pe_ix (ix_or ix_list ix_str) (pv 1) (pe_ca (ca_z_draw T) hr (by decide) rfl (pa_cons (pv 0) (pa_cons (pe_callB (call_len) (by rfl) T.f_len (by decide +kernel) (pa_cons (pv 1) pa_nil)) pa_nil))) (fun _ _ => rfl)))), ?_⟩
  rcases hp with ⟨a, xs, rfl, ha, hne, hl⟩ | ⟨z, rfl, hz1, hz2⟩
  · have hlen : 0 < xs.length := List.length_pos_iff.mpr hne
    refine ⟨_, rfl, _, rfl, _, rfl, .ref a, (xs.length : Nat), rfl, .inl ⟨xs, SqL.of ha, rfl⟩, t, c, n, xs.length, rfl, ht, hn, hlen, by omega, fun H' j n' ss tp hn' hj => .inl ⟨a, xs, _, xs[j], rfl, rfl, SqL.of (ss _ _ (ht.nl ha) ha), atI_nat (List.getElem?_eq_getElem hj), k _ _ n' ss tp hn' (.inl ⟨a, xs, rfl, ha, List.getElem_mem hj⟩)⟩⟩
  · have hlen : z.cps.toList.length = z.length := Array.length_toList
    refine ⟨_, rfl, _, rfl, _, rfl, .str z, z.length, rfl, ⟨by rw [sizeLine_eq]; omega, rfl⟩, t, c, n, z.length, rfl, ht, hn, hz1, by omega, fun H' j n' ss tp hn' hj => .inr ⟨z, _, z.cps.toList[j], rfl, rfl, by rw [sizeLine_eq]; omega, atI_nat (List.getElem?_eq_getElem (by omega)), k _ _ n' ss tp hn' (.inr ⟨z, _, rfl, List.getElem_mem _, rfl⟩)⟩⟩
end
end Rd
/-! _law_shuffled; emptiness of lists. -/
namespace Rd
open PySem PySem.Spec PyProof.Rows L2 Gr
theorem lay_all : ∀ {ds : List PyData}, (∀ d ∈ ds, d.canLay0 = true ∧ d.depth ≤ 60) → PyData.canLayAll0 ds = true ∧ PyData.depthAll ds ≤ 60
  | [], _ => ⟨by simp [PyData.canLayAll0], by simp [PyData.depthAll]⟩
  | d :: ds, h => by
    have h1 := h d List.mem_cons_self
    have h2 := lay_all (ds := ds) fun e he => h e (List.mem_cons_of_mem _ he)
    exact ⟨by simp [PyData.canLayAll0, h1.1, h2.1], by simp only [PyData.depthAll]; omega⟩
theorem shaped_list {ds : List PyData} (h : ∀ d ∈ ds, d.canLay0 = true ∧ d.depth ≤ 60) : SeqAt.shaped (.list ds) = true := by
  have h1 := lay_all h
  show (PyData.canLay0 (.list ds) && decide (PyData.depth (.list ds) ≤ 64)) = true
  rw [decide_eq_true (by simp only [PyData.depth]; omega), Bool.and_true]
  simp only [PyData.canLay0]
  exact h1.1
theorem eqv_nil : ∀ ds : List PyData, PyData.eqv (.list ds) (.list []) = ds.isEmpty
  | [] => by simp [PyData.eqv, PyData.eqvAll]
  | d :: ds => by simp [PyData.eqv, PyData.eqvAll]
/-- xs != [] -/
theorem ne_nil {K : PySem.W.Frag} {H : Hp} {a p : Addr} {xs : List V} {ds : List PyData} {Q : VK} (h : SqL K H a xs) (d : DpAll K H xs ds) (sh : ∀ d ∈ ds, d.canLay0 = true ∧ d.depth ≤ 60) (hp : SqL K H p []) (q : Q (.bl (!ds.isEmpty)) H) : rNeD K (.ref a) (.ref p) H Q :=
  ⟨.list ds, .list [], .lst h d, .lst hp .nil, shaped_list sh, shaped_list (fun _ z => by cases z), by rw [eqv_nil]; exact q⟩
theorem dpS (K : PySem.W.Frag) (H : Hp) : ∀ xs : List Str, DpAll K H (xs.map V.str) (xs.map PyData.str)
  | [] => .nil
  | x :: xs => .cons (.str x) (dpS K H xs)
theorem strs_lay {xs : List Str} (h : ∀ x ∈ xs, Nm x) : ∀ d ∈ xs.map PyData.str, d.canLay0 = true ∧ d.depth ≤ 60 := fun d hd => by
  obtain ⟨x, hx, rfl⟩ := List.mem_map.mp hd
  exact ⟨by simp only [PyData.canLay0]; exact (h x hx).ok, by simp only [PyData.depth]; omega⟩
theorem seqIx {j n : Nat} (h : j < n) : seqIndex? ((j : Nat) : Int) n = some j := by
  unfold seqIndex?
  have h1 : ¬ ((j : Nat) : Int) < 0 := by omega
  simp only [h1, if_false]
  rw [if_pos (by simp; omega)]
  simp
theorem TpAt.cl {H : Hp} {t c : Addr} {n : Nat} (h : TpAt H t c n) : ∃ xs, H c = some (.lst xs) := by
  obtain ⟨_, _, _, _, h3, _⟩ := h
  exact ⟨_, h3⟩
theorem TpAt.put {H : Hp} {t c a : Addr} {n : Nat} {o : HO} (h : TpAt H t c n) (h1 : a ≠ t) (h2 : a ≠ c) : TpAt (upd H a o) t c n := by
  obtain ⟨cells, left, e1, e2, e3, e4⟩ := h
  exact ⟨cells, left, e1, by rw [upd_ne h1.symm]; exact e2, by rw [upd_ne h2.symm]; exact e3, e4⟩
theorem TpAt.same {H H' : Hp} {t c : Addr} {n : Nat} (s : Same H H') (h : TpAt H t c n) : TpAt H' t c n := by
  obtain ⟨cells, left, h1, h2, h3, h4⟩ := h
  exact ⟨cells, left, h1, s _ _ h2, s _ _ h3, h4⟩
theorem SameX.put0 {H H' : Hp} {t a : Addr} {o : HO} (s : SameX t H H') (h : H a = none) : SameX t H (upd H' a o) := fun b u n e => by
  rw [upd_ne (ne_of_none e h)]
  exact s b u n e
theorem map_erase {α β : Type} (g : α → β) : ∀ (l : List α) (j : Nat), (l.map g).eraseIdx j = (l.eraseIdx j).map g
  | [], _ => rfl
  | _ :: _, 0 => rfl
  | x :: l, j + 1 => by
    show g x :: (l.map g).eraseIdx j = g x :: (l.eraseIdx j).map g
    rw [map_erase g l j]
theorem erase_perm {α : Type} : ∀ (l : List α) (j : Nat) (h : j < l.length), (l[j] :: l.eraseIdx j).Perm l
  | x :: l, 0, _ => List.Perm.refl _
  | x :: l, j + 1, h => by
    have h' : j < l.length := by simpa using h
    show (l[j] :: x :: l.eraseIdx j).Perm (x :: l)
    exact (List.Perm.swap x l[j] _).trans ((erase_perm l j (by simpa using h)).cons x)
def spShuf (K : PySem.W.Frag) : Sp := fun vs H Q _ => ∃ (t c a : Addr) (n : Nat) (xs : List Str), vs = [.ref t, .ref a] ∧ TpAt H t c n ∧ n + xs.length ≤ 100000 ∧ H a = some (.lst (xs.map V.str)) ∧ xs.length ≤ 100 ∧ (∀ x ∈ xs, Nm x) ∧
  ∀ H' p (ys : List Str) (n' : Nat), SameX t H H' → TpAt H' t c n' → n' ≤ n + xs.length → H' p = some (.lst (ys.map V.str)) → ys.Perm xs → Q (.ref p) H'
-- slots of _law_shuffled: 0 _law_tape 1 _law_items 2 _law_rest 3 _law_found
theorem sc_z_shuffled : FnScope ["_law_tape", "_law_items", "_law_rest", "_law_found"] ["_law_tape", "_law_items"] (defScope s_z_shuffled) := ⟨rfl, rfl, rfl, by decide +kernel, rfl, by decide +kernel, by decide +kernel⟩
section
variable {P : Program} {w : World} {K : PySem.W.Frag} {mg : Str → Option Value} {base : Heap}
theorem ca_z_shuffled (T : Wd K mg base) : Ca P w K mg base 2 "_law_shuffled" (spShuf K) [] := by
  obtain ⟨fd, F⟩ := T.L.F_z_shuffled
  refine ca_of F T.g__law_shuffled (F.binds (ps := ["_law_tape", "_law_items"]) fun _ _ _ _ _ _ us hl => match us, hl with | [_, _], _ => rfl) sc_z_shuffled (fun vs H Q E ⟨_, _, _, _, _, e, _⟩ => by rw [e]; rfl) ?_
  rintro cdv A outer s H vs Q E hr ⟨t, c, a, n, xs, rfl, ht, hn, ha, hl, hnm, k⟩
  refine ⟨_, (pss_cons (ps_par (i := 2) (j := 3) (by rfl) sc_z_shuffled.nd rfl rfl (by decide) rfl rfl (pa_cons (pe_callTy (call_list_of) (by rfl) T.f_list (by decide +kernel) (pa_cons (pv 1) pa_nil)) (pa_cons (pe_lst pa_nil) pa_nil)) (by rfl)) (pss_cons (ps_while PassesOwn.never (pt_cmpR (op_neD hr.units) (pv 2) (pe_lst pa_nil) (by rfl)) (pss_one (ps_expr (pe_bm PySem.F.plainAttrs_list PySem.F.slot_list_append PySem.F.type_list_append mt_append (pv 3) (pa_cons (pe_bm PySem.F.plainAttrs_list PySem.F.slot_list_pop PySem.F.type_list_pop mt_popAt (pv 2) (pa_cons (pe_ca (ca_z_draw T) hr (by decide) rfl (pa_cons (pv 0) (pa_cons (pe_callB (call_len) (by rfl) T.f_len (by decide +kernel) (pa_cons (pv 2) pa_nil)) pa_nil))) pa_nil)) pa_nil))))) (pss_one (ps_ret (pv 3))))), ?_⟩
  refine ⟨_, rfl, a, _, rfl, .inl (SqL.of ha), fun r hr0 => ⟨Nat.le_of_ble_eq_true rfl, fun f hf => ⟨_, _, rfl, ?_⟩⟩⟩
  have nrf : r ≠ f := ne_of_none upd_same hf
  have hf0 : H f = none := by rw [upd_ne nrf.symm] at hf; exact hf
  have s0 : Same H (upd (upd H r (.lst (xs.map V.str))) f (.lst [])) := (sm_new hr0).new hf
  refine while_by (fun σ H' => ∃ (rest found : List Str) (n' : Nat), σ = [some (.ref t), some (.ref a), some (.ref r), some (.ref f)] ∧ SameX t H H' ∧ TpAt H' t c n' ∧ H' r = some (.lst (rest.map V.str)) ∧ H' f = some (.lst (found.map V.str)) ∧ n' + rest.length ≤ n + xs.length ∧ (rest ++ found).Perm xs)
    (fun σ H' => match H' r with | some (.lst ys) => ys.length | _ => 0) ?_ ?_ (mono_test mono_var (fun σ H Q Q' h t => ⟨t.1, fun p hp => h _ _ (t.2 p hp)⟩) (fun x y H Q Q' h ⟨d, e, a1, a2, a3, a4, q⟩ => ⟨d, e, a1, a2, a3, a4, h _ _ q⟩))
  · refine ⟨xs, [], n, rfl, s0.x, ht.same s0, by rw [upd_ne nrf, upd_same], upd_same, Nat.le_refl _, by rw [List.append_nil]⟩
  rintro σ H1 ⟨rest, found, n', rfl, ss, tp, hr1, hf1, hle, hperm⟩
  have hlen := hperm.length_eq
  rw [List.length_append] at hlen
  refine ⟨_, rfl, Nat.le_of_ble_eq_true rfl, fun p hp => ?_⟩
  have s1 : Same H1 (upd H1 p (.lst [])) := sm_new hp
  refine ne_nil (SqL.of (s1 _ _ hr1)) (dpS K _ rest) (strs_lay fun x hx => hnm x (hperm.mem_iff.mp (List.mem_append_left _ hx))) (SqL.of upd_same) ⟨_, rfl, ?_⟩
  by_cases hre : rest = []
  · subst hre
    exact iteF ⟨_, rfl, k _ f found n' (ss.trans s1.x) (tp.same s1) (by simp at hle; omega) (s1 _ _ hf1) hperm⟩
  have e : (!(rest.map PyData.str).isEmpty) = true := by
    cases rest with
    | nil => exact absurd rfl hre
    | cons z zs => rfl
  have hpos : 1 ≤ rest.length := List.length_pos_iff.mpr hre
  rw [e]
  refine iteT ⟨_, rfl, .inl ⟨rfl, _, SqL.of (s1 _ _ hf1)⟩, _, rfl, .inl ⟨rfl, _, SqL.of (s1 _ _ hr1)⟩, _, rfl, _, rfl, .ref r, rest.length, rfl, .inl ⟨_, SqL.of (s1 _ _ hr1), (List.length_map ..).symm⟩, t, c, n', rest.length, rfl, tp.same s1, by omega, hpos, by omega, fun H2 j n2 ss2 tp2 hn2 hj => ?_⟩
  have nrt : r ≠ t := tp.nl hr1
  have nft : f ≠ t := tp.nl hf1
  have hr2 := ss2 _ _ nrt (s1 _ _ hr1)
  have hf2 := ss2 _ _ nft (s1 _ _ hf1)
  refine ⟨r, _, ((j : Nat) : Int), j, .str rest[j], rfl, rfl, hr2, by omega, by omega, seqIx (by rw [List.length_map]; exact hj), by rw [List.getElem?_map, List.getElem?_eq_getElem hj]; rfl, ?_⟩
  have ncr : r ≠ c := by
    obtain ⟨ys, hy⟩ := ht.cl
    exact (ne_of_none hy hr0).symm
  have ncf : f ≠ c := by
    obtain ⟨ys, hy⟩ := ht.cl
    exact (ne_of_none hy hf0).symm
  refine ⟨f, _, _, rfl, rfl, by rw [upd_ne nrf.symm]; exact hf2, by rw [List.length_map, sizeLine_eq]; omega, ⟨rest.eraseIdx j, found ++ [rest[j]], n2, rfl, ?_, (tp2.put nrt ncr).put nft ncf, ?_, ?_, ?_, ?_⟩, ?_⟩
  · exact ((ss.trans (s1.x.trans ss2)).put0 hr0).put0 hf0
  · rw [upd_ne nrf, upd_same, map_erase]
  · rw [upd_same, List.map_append]
    rfl
  · rw [List.length_eraseIdx_of_lt hj]
    omega
  · refine List.Perm.trans ?_ hperm
    rw [← List.append_assoc]
    refine (List.perm_append_comm).trans ?_
    show (rest[j] :: (rest.eraseIdx j ++ found)).Perm _
    rw [← List.cons_append]
    exact List.Perm.append_right _ (erase_perm rest j hj)
  · rw [upd_ne nrf, upd_same, hr1]
    show ((rest.map V.str).eraseIdx j).length < (rest.map V.str).length
    rw [List.length_eraseIdx_of_lt (by rw [List.length_map]; exact hj), List.length_map]
    omega
end
end Rd
/-! _law_names. -/
namespace Rd
open PySem PySem.Spec PyProof.Rows L2 Gr
theorem letters_in (q : Nat) (h : q ∈ ("abcdefghijklmnopqrstuvwxyz" : Str).cps.toList) : 97 ≤ q ∧ q ≤ 122 := by
  have k : ∀ q ∈ ("abcdefghijklmnopqrstuvwxyz" : Str).cps.toList, 97 ≤ q ∧ q ≤ 122 := by decide +kernel
  exact k q h
theorem joinL_chars : ∀ cs : List Nat, TL.joinL [] (cs.map fun z => [z]) = cs
  | [] => rfl
  | [_] => rfl
  | a :: b :: r => by
    show [a] ++ ([] ++ TL.joinL [] ((b :: r).map fun z => [z])) = a :: b :: r
    rw [joinL_chars (b :: r)]
    rfl
theorem join_chars (cs : List Nat) : Txt.join ("" : Str) (cs.map fun z => SX.S [z]) = SX.S cs := by
  have h := SX.join_S [] (cs.map fun z => [z])
  rw [List.map_map, joinL_chars] at h
  exact h
theorem chars_len : ∀ cs : List Nat, ((cs.map fun z => SX.S [z]).map fun x => x.length).sum = cs.length
  | [] => rfl
  | z :: r => by
    rw [List.map_cons, List.map_cons, List.sum_cons, chars_len r, List.length_cons]
    show 1 + r.length = r.length + 1
    omega
theorem letters_at (r : Nat) (h : r < 26) : (("abcdefghijklmnopqrstuvwxyz" : Str).cps.toList)[r]? = some (97 + r) := by
  have k : ∀ r : Fin 26, (("abcdefghijklmnopqrstuvwxyz" : Str).cps.toList)[r.1]? = some (97 + r.1) := by decide +kernel
  exact k ⟨r, h⟩
def nmK (cs : List Nat) (p fi st k : Nat) : List Nat := cs.take p ++ [97 + (fi + st * k) % 26] ++ cs.drop (p + 1)
theorem nmK_len {cs : List Nat} {p fi st k : Nat} (hp : p < cs.length) : (nmK cs p fi st k).length = cs.length := by
  unfold nmK
  rw [List.length_append, List.length_append, List.length_take, List.length_drop, List.length_singleton]
  omega
theorem nm_ok {cs : List Nat} {p fi st k : Nat} (hp : p < cs.length) (h8 : cs.length ≤ 8) (h : ∀ z ∈ cs, 97 ≤ z ∧ z ≤ 122) : Nm (SX.S (nmK cs p fi st k)) := by
  refine ⟨by rw [SX.S_len, nmK_len hp]; omega, fun z hz => ?_⟩
  have hz' : z ∈ nmK cs p fi st k := hz
  unfold nmK at hz'
  rcases List.mem_append.mp hz' with hz' | hz'
  · rcases List.mem_append.mp hz' with hz' | hz'
    · exact h z (List.mem_of_mem_take hz')
    · rw [List.mem_singleton.mp hz']
      omega
  · exact h z (List.mem_of_mem_drop hz')
theorem nmK_at {cs : List Nat} {p fi st k : Nat} (hp : p < cs.length) : (nmK cs p fi st k)[p]? = some (97 + (fi + st * k) % 26) := by
  unfold nmK
  rw [List.getElem?_append_left (by rw [List.length_append, List.length_take, List.length_singleton]; omega), List.getElem?_append_right (by rw [List.length_take]; omega), List.length_take, show p - min p cs.length = 0 from by omega]
  rfl
theorem nm_nodup {cs : List Nat} {p fi st m : Nat} (hp : p < cs.length) (hm : m ≤ 4) (hst : st ∈ [1, 3, 5, 7, 9, 11, 15, 17]) : ((List.range m).map fun k => SX.S (nmK cs p fi st k)).Nodup := by
  refine List.pairwise_map.mpr (List.Pairwise.imp_of_mem ?_ List.pairwise_lt_range)
  intro a b ha hb hab e
  have h1 := SX.S_inj e
  have h2 := congrArg (fun l => l[p]?) h1
  simp only [nmK_at hp] at h2
  have h3 := Option.some.inj h2
  have hb4 : b < m := List.mem_range.mp hb
  simp only [List.mem_cons, List.not_mem_nil, or_false] at hst
  have ha4 : a = 0 ∨ a = 1 ∨ a = 2 := by omega
  have hb5 : b = 1 ∨ b = 2 ∨ b = 3 := by omega
  rcases hst with rfl | rfl | rfl | rfl | rfl | rfl | rfl | rfl <;> omega
theorem ixN_ok {j n : Nat} (h : j < n) : ixN n ((j : Nat) : Int) = some j := by
  unfold ixN
  simp
  omega
theorem set_nodup {α : Type} {l : List α} {j : Nat} {x : α} (h : l.Nodup) (hx : x ∉ l) : (l.set j x).Nodup := by
  induction l generalizing j with
  | nil => exact h
  | cons y l ih =>
    obtain ⟨h1, h2⟩ := List.nodup_cons.mp h
    cases j with
    | zero => exact List.nodup_cons.mpr ⟨fun z => hx (List.mem_cons_of_mem _ z), h2⟩
    | succ j =>
      refine List.nodup_cons.mpr ⟨fun z => ?_, ih h2 fun z => hx (List.mem_cons_of_mem _ z)⟩
      rcases List.mem_or_eq_of_mem_set z with z | z
      · exact h1 z
      · exact hx (z ▸ List.mem_cons_self)
def spNames (K : PySem.W.Frag) : Sp := fun vs H Q _ => ∃ (t c : Addr) (n m : Nat), vs = [.ref t, .int (m : Nat)] ∧ TpAt H t c n ∧ n + 20 ≤ 100000 ∧ m ≤ 4 ∧ ∀ H' p (xs : List Str) (n' : Nat), SameX t H H' → TpAt H' t c n' → n' ≤ n + 20 → H' p = some (.lst (xs.map V.str)) → p ≠ c → xs.length = m → xs.Nodup → (∀ x ∈ xs, Nm x) → Q (.ref p) H'
-- slots of _law_names: 0 _law_tape* 1 _law_many 2 _law_letters* 3 _law_base 4 _law_k 5 _law_at 6 _law_first 7 _law_step 8 _law_found 9 _law_letter
theorem sc_z_names : FnScope ["_law_tape", "_law_many", "_law_letters", "_law_base", "_law_k", "_law_at", "_law_first", "_law_step", "_law_found", "_law_letter"] ["_law_tape", "_law_many"] (defScope s_z_names) := ⟨rfl, rfl, rfl, by decide +kernel, rfl, by decide +kernel, by decide +kernel⟩
section
variable {P : Program} {w : World} {K : PySem.W.Frag} {mg : Str → Option Value} {base : Heap}
theorem ca_z_names (T : Wd K mg base) : Ca P w K mg base 3 "_law_names" (spNames K) [] := by
  obtain ⟨fd, F⟩ := T.L.F_z_names
  refine ca_of F T.g__law_names (F.binds (ps := ["_law_tape", "_law_many"]) fun _ _ _ _ _ _ us hl => match us, hl with | [_, _], _ => rfl) sc_z_names (fun vs H Q E ⟨_, _, _, _, e, _⟩ => by rw [e]; rfl) ?_
  rintro cdv A outer s H vs Q E hr ⟨t, c, n, m, rfl, ht, hn, hm, k⟩
  refine ⟨_, (pss_cons (ps_set (i := 2) sc_z_names.nd rfl (Or.inr rfl) pe_str) (pss_cons (ps_set (i := 3) sc_z_names.nd rfl (Or.inl rfl) (pe_join pe_str (pe_lc (own := [("_law_k", 4)]) (g := gName 4) rfl sc_z_names.nd (pi_range1 (by rfl) T.f_range (pa_cons (pe_op op_add pe_int (pe_ca (ca_z_draw T) hr (by decide) rfl (pa_cons (pv 0) (pa_cons pe_int pa_nil)))) pa_nil)) (blkOk_by (own := [("_law_k", 4)]) (N := ["_law_tape", "_law_many", "_law_letters", "_law_base", "_law_k", "_law_at", "_law_first", "_law_step", "_law_found", "_law_letter"]) (sc := defScope s_z_names) (by decide +kernel)) (fun _ _ _ _ _ => (pg_name (i := 4) sc_z_names.nd rfl (Or.inl rfl))) (fun _ _ _ _ _ => pts_nil) (fun _ _ _ _ _ => (pe_ca (ca_z_pick T) hr (by decide) rfl (pa_cons (pv 0) (pa_cons (pv 2) pa_nil))))))) (pss_cons (ps_par3 (i := 5) (j := 6) (l := 7) (by rfl) sc_z_names.nd rfl rfl rfl (by decide) (by decide) (by decide) rfl rfl rfl (pa_cons (pe_ca (ca_z_draw T) hr (by decide) rfl (pa_cons (pv 0) (pa_cons (pe_callB (call_len) (by rfl) T.f_len (by decide +kernel) (pa_cons (pv 3) pa_nil)) pa_nil))) (pa_cons (pe_ca (ca_z_draw T) hr (by decide) rfl (pa_cons (pv 0) (pa_cons pe_int pa_nil))) (pa_cons (pe_ca (ca_z_pick T) hr (by decide) rfl (pa_cons (pv 0) (pa_cons (pe_lst (pa_cons pe_int (pa_cons pe_int (pa_cons pe_int (pa_cons pe_int (pa_cons pe_int (pa_cons pe_int (pa_cons pe_int (pa_cons pe_int pa_nil))))))))) pa_nil))) pa_nil))) (by rfl)) (pss_cons (ps_set (i := 8) sc_z_names.nd rfl (Or.inl rfl) (pe_lst pa_nil)) (pss_cons (ps_for PassesOwn.never rfl (pi_range1 (by rfl) T.f_range (pa_cons (pv 1) pa_nil)) (pg_name (i := 4) sc_z_names.nd rfl (Or.inl rfl)) (pss_cons (ps_set (i := 9) sc_z_names.nd rfl (Or.inl rfl) (pe_ix ix_str (pv 2) (pe_op op_modN (pe_callTy (call_int1) (by rfl) T.f_int (by decide +kernel) (pa_cons (pe_op op_add (pv 6) (pe_op op_mul (pv 7) (pv 4))) pa_nil)) pe_int) (fun _ _ => rfl))) (pss_one (ps_expr (pe_bm PySem.F.plainAttrs_list PySem.F.slot_list_append PySem.F.type_list_append mt_append (pv 8) (pa_cons (pe_op op_add_str (pe_op op_add_str (pe_slice C8.sl_txt (pv 3) po_none (po_some (pv 5))) (pv 9)) (pe_slice C8.sl_txt (pv 3) (po_some (pe_op op_add (pv 5) pe_int)) po_none)) pa_nil)))))) (pss_cons (ps_if (PW.pt (pw_and (pt_cmpR op_gt (pv 5) pe_int (by rfl)) (pw_and (pt_cmpR op_gt (pv 1) pe_int (by rfl)) (pw_and1 (pt_cmpR op_eq (pe_ca (ca_z_draw T) hr (by decide) rfl (pa_cons (pv 0) (pa_cons pe_int pa_nil))) pe_int (by rfl)))))) (pss_one (ps_asg (pe_slice C8.sl_txt (pv 3) po_none (po_some (pv 5))) (pg_sub (pv 8) (pe_ca (ca_z_draw T) hr (by decide) rfl (pa_cons (pv 0) (pa_cons (pv 1) pa_nil))) set_list))) pss_nil) (pss_one (ps_ret (pv 8))))))))), ?_⟩
  refine ⟨⟨_, rfl⟩, _, rfl, t, c, n, 8, rfl, ht, by omega, by omega, by omega, fun H1 j n1 ss1 tp1 hn1 hj => ⟨_, _, rfl, rfl, _, rfl, by omega, by omega, fun D hD => ?_⟩⟩
  have ej : ((1 : Int) + ((j : Nat) : Int)).toNat = j + 1 := by omega
  have nDt : D ≠ t := by
    obtain ⟨ys, el, e1, e2, _⟩ := tp1
    exact (ne_of_none e2 hD).symm
  have nDc : D ≠ c := by
    obtain ⟨ys, hy⟩ := tp1.cl
    exact (ne_of_none hy hD).symm
  have hD0 : H D = none := by
    cases e : H D with
    | none => rfl
    | some u =>
      have := ss1 _ _ nDt e
      rw [hD] at this
      cases this
  refine lc_range (n := ((1 : Int) + ((j : Nat) : Int)).toNat) (fun i H' => ∃ (cs : List Nat) (n' : Nat), H' D = some (.lst ((cs.map fun z => SX.S [z]).map V.str)) ∧ cs.length = i ∧ (∀ z ∈ cs, 97 ≤ z ∧ z ≤ 122) ∧ SameX t H H' ∧ TpAt H' t c n' ∧ n' ≤ n + 1 + i)
    ⟨[], n1, upd_same, rfl, (fun z hz => absurd hz List.not_mem_nil), ss1.put0 hD0, tp1.put nDt nDc, by omega⟩ ?_ ?_
  · rintro i H2 hi ⟨cs, n', g1, g2, g3, ss2, tp2, hn2⟩
    refine ⟨rfl, _, rfl, _, rfl, t, c, n', _, rfl, tp2, by omega, .inr ⟨_, rfl, by decide, by decide⟩, fun H3 v n3 ss3 tp3 hn3 hv => ?_⟩
    rcases hv with ⟨_, _, e, _⟩ | ⟨z, q, e, hq, rfl⟩
    · cases e
    have hz := V.str.inj e
    subst hz
    have hqb : 97 ≤ q ∧ q ≤ 122 := letters_in q hq
    refine ⟨_, ss3 _ _ nDt g1, by rw [List.length_map, List.length_map, sizeLine_eq]; omega, cs ++ [q], n3, ?_, by rw [List.length_append, g2]; rfl, ?_, (ss2.trans ss3).put0 hD0, tp3.put nDt nDc, by omega⟩
    · rw [upd_same, List.map_append, List.map_append]
      rfl
    · intro z hz
      rcases List.mem_append.mp hz with hz | hz
      · exact g3 z hz
      · rw [List.mem_singleton.mp hz]
        exact hqb
  rintro H2 ⟨cs, n2, g1, g2, g3, ss2, tp2, hn2⟩
  rw [ej] at g2 hn2
  refine ⟨_, D, cs.map fun z => SX.S [z], rfl, rfl, .inl (SqL.of g1), ?_, ?_⟩
  · rw [chars_len, List.length_map]
    show cs.length + cs.length * 0 ≤ 16777216
    omega
  rw [join_chars]
  have hcs1 : 1 ≤ cs.length := by omega
  have hcs8 : cs.length ≤ 8 := by omega
  refine ⟨_, rfl, _, rfl, .str (SX.S cs), cs.length, rfl, ⟨by show cs.length ≤ sizeLine; rw [sizeLine_eq]; omega, rfl⟩, t, c, n2, cs.length, rfl, tp2, by omega, hcs1, by omega, fun H3 at_ n3 ss3 tp3 hn3 hat => ?_⟩
  refine ⟨_, rfl, t, c, n3, 26, rfl, tp3, by omega, by omega, by omega, fun H4 fi n4 ss4 tp4 hn4 hfi => ?_⟩
  refine ⟨_, rfl, Nat.le_of_ble_eq_true rfl, fun l hl => ⟨t, c, n4, .ref l, rfl, tp4.same (sm_new hl), by omega, .inl ⟨l, _, rfl, upd_same, by simp, by simp⟩, fun H5 v n5 ss5 tp5 hn5 hv => ⟨_, _, _, rfl, ?_⟩⟩⟩
  obtain ⟨st, hst, rfl⟩ : ∃ st : Nat, st ∈ [1, 3, 5, 7, 9, 11, 15, 17] ∧ v = .int (st : Nat) := by
    rcases hv with ⟨l2, xs, e, e2, hm2⟩ | ⟨z, q, e, _⟩
    · have := V.ref.inj e
      subst this
      rw [upd_same] at e2
      cases e2
      rcases List.mem_cons.mp hm2 with h | hm2
      · exact ⟨1, by simp, h⟩
      rcases List.mem_cons.mp hm2 with h | hm2
      · exact ⟨3, by simp, h⟩
      rcases List.mem_cons.mp hm2 with h | hm2
      · exact ⟨5, by simp, h⟩
      rcases List.mem_cons.mp hm2 with h | hm2
      · exact ⟨7, by simp, h⟩
      rcases List.mem_cons.mp hm2 with h | hm2
      · exact ⟨9, by simp, h⟩
      rcases List.mem_cons.mp hm2 with h | hm2
      · exact ⟨11, by simp, h⟩
      rcases List.mem_cons.mp hm2 with h | hm2
      · exact ⟨15, by simp, h⟩
      rcases List.mem_cons.mp hm2 with h | hm2
      · exact ⟨17, by simp, h⟩
      · cases hm2
    · cases e
  have ss5' : SameX t H H5 := ss2.trans (ss3.trans (ss4.trans ((sm_new hl).x.trans ss5)))
  have hn5' : n5 ≤ n + 12 := by omega
  refine ⟨Nat.le_of_ble_eq_true rfl, fun f hf => ?_⟩
  have nft : f ≠ t := by
    obtain ⟨ys, el, e1, e2, _⟩ := tp5
    exact (ne_of_none e2 hf).symm
  have nfc : f ≠ c := by
    obtain ⟨ys, hy⟩ := tp5.cl
    exact (ne_of_none hy hf).symm
  have hf0 : H f = none := by
    cases e : H f with
    | none => rfl
    | some u =>
      have := ss5' _ _ nft e
      rw [hf] at this
      cases this
  refine ⟨_, rfl, _, rfl, by omega, by omega, for_range (n := ((m : Nat) : Int).toNat) (fun i σ H' => ∃ z4 z9 : Option V, σ = [some (.ref t), some (.int (m : Nat)), some (.str "abcdefghijklmnopqrstuvwxyz"), some (.str (SX.S cs)), z4, some (.int (at_ : Nat)), some (.int (fi : Nat)), some (.int (st : Nat)), some (.ref f), z9] ∧ H' f = some (.lst (((List.range i).map fun k => SX.S (nmK cs at_ fi st k)).map V.str)) ∧ SameX t H H' ∧ TpAt H' t c n5)
    ⟨none, none, rfl, upd_same, ss5'.put0 hf0, tp5.put nft nfc⟩ ?_ ?_⟩
  · rintro i σ H6 hi ⟨z4, z9, rfl, g1, ss6, tp6⟩
    have him : i < m := by omega
    have hst17 : st ≤ 17 := by
      simp at hst
      omega
    have hat26 : atI (("abcdefghijklmnopqrstuvwxyz" : Str).cps.toList) (Int.fmod ((fi : Nat) + (st : Nat) * ((0 : Int) + (i : Nat))) 26) = some (97 + (fi + st * i) % 26) := by
      have e : Int.fmod ((fi : Nat) + (st : Nat) * ((0 : Int) + (i : Nat))) 26 = (((fi + st * i) % 26 : Nat) : Int) := by
        rw [Int.fmod_eq_emod_of_nonneg _ (by omega)]
        push_cast
        rw [Int.zero_add]
      rw [e]
      exact atI_nat (letters_at _ (Nat.mod_lt _ (by omega)))
    refine ⟨_, rfl, _, rfl, _, rfl, _, rfl, _, _, rfl, rfl, .inl ⟨by omega, by omega⟩, _, _, rfl, rfl, .inl ⟨_, rfl, _, _, rfl, rfl, (by show (26 : Int) ≠ 0; decide), _, _, _, rfl, rfl, by decide, hat26, ?_⟩⟩
    have e1 : Txt.slice (SX.S cs) none (some ((at_ : Nat) : Int)) = SX.S (cs.take at_) := by
      rw [SX.slice_to (by omega)]
      rfl
    have e2 : Txt.slice (SX.S cs) (some (((at_ : Nat) : Int) + 1)) none = SX.S (cs.drop (at_ + 1)) := by
      rw [SX.slice_from (by omega), show (((at_ : Nat) : Int) + 1).toNat = at_ + 1 from by omega]
    refine ⟨_, rfl, .inl ⟨rfl, _, SqL.of g1⟩, _, rfl, _, rfl, _, rfl, _, rfl, by rw [SX.S_len, sizeLine_eq]; omega, _, rfl, _, _, rfl, rfl, ?_, _, rfl, _, rfl, _, _, rfl, rfl, _, rfl, _, rfl, by rw [SX.S_len, sizeLine_eq]; omega, _, _, rfl, rfl, ?_, f, _, _, rfl, rfl, g1, by rw [List.length_map, List.length_map, List.length_range, sizeLine_eq]; omega, _, _, rfl, ?_, ss6.put0 hf0, tp6.put nft nfc⟩
    · rw [e1, SX.S_len, List.length_take, sizeLine_eq]
      show min at_ cs.length + 1 ≤ 16777216
      omega
    · rw [e1, e2]
      show (SX.S (cs.take at_) ++ SX.S [97 + (fi + st * i) % 26]).length + (SX.S (cs.drop (at_ + 1))).length ≤ sizeLine
      rw [SX.S_cat, SX.S_len, SX.S_len, List.length_append, List.length_take, List.length_drop, List.length_singleton, sizeLine_eq]
      omega
    · rw [upd_same, e1, e2]
      show some (HO.lst (_ ++ [V.str (SX.S (cs.take at_) ++ SX.S [97 + (fi + st * i) % 26] ++ SX.S (cs.drop (at_ + 1)))])) = _
      rw [SX.S_cat, SX.S_cat, List.range_succ, List.map_append, List.map_append]
      rfl
  rintro σ H6 ⟨z4, z9, rfl, g1, ss6, tp6⟩
  have emm : ((m : Nat) : Int).toNat = m := by omega
  rw [emm] at g1
  have fin0 := fun (H7 : Hp) (n7 : Nat) (s7 : SameX t H6 H7) (t7 : TpAt H7 t c n7) (h7 : n7 ≤ n + 13) => k H7 f _ n7 (ss6.trans s7) t7 (by omega) (s7 _ _ nft g1) nfc (by rw [List.length_map, List.length_range]) (nm_nodup hat hm hst) (fun x hx => by
    obtain ⟨q, _, rfl⟩ := List.mem_map.mp hx
    exact nm_ok hat hcs8 g3)
  refine ⟨_, rfl, _, _, rfl, rfl, _, rfl, ?_⟩
  by_cases hp0 : (0 : Int) < ((at_ : Nat) : Int)
  case neg =>
    rw [decide_eq_false hp0]
    exact iteF (iteF ⟨_, rfl, fin0 H6 n5 (SameX.refl _) tp6 (by omega)⟩)
  rw [decide_eq_true hp0]
  refine iteT ⟨_, rfl, _, _, rfl, rfl, _, rfl, ?_⟩
  by_cases hm0 : (0 : Int) < ((m : Nat) : Int)
  case neg =>
    rw [decide_eq_false hm0]
    exact iteF (iteF ⟨_, rfl, fin0 H6 n5 (SameX.refl _) tp6 (by omega)⟩)
  rw [decide_eq_true hm0]
  refine iteT ⟨_, rfl, t, c, n5, 3, rfl, tp6, by omega, by omega, by omega, fun H7 j3 n7 ss7 tp7 hn7 hj3 => ?_⟩
  refine ⟨rfl, _, rfl, ?_⟩
  by_cases hz : j3 = 0
  case neg =>
    rw [decide_eq_false (fun z => hz (by have := V.int.inj z; omega))]
    exact iteF ⟨_, rfl, fin0 H7 n7 ss7 tp7 (by omega)⟩
  rw [decide_eq_true (by rw [hz]; rfl)]
  have hat1 : 1 ≤ at_ := by omega
  have hm1 : 1 ≤ m := by omega
  have g7 := ss7 _ _ nft g1
  have e1 : Txt.slice (SX.S cs) none (some ((at_ : Nat) : Int)) = SX.S (cs.take at_) := by
    rw [SX.slice_to (by omega)]
    rfl
  refine iteT ⟨_, rfl, _, rfl, _, rfl, _, rfl, by rw [SX.S_len, sizeLine_eq]; omega, _, rfl, _, rfl, _, rfl, t, c, n7, m, rfl, tp7, by omega, hm1, by omega, fun H8 j n8 ss8 tp8 hn8 hj => ⟨f, _, _, j, rfl, rfl, ss8 _ _ nft g7, ?_, _, rfl, ?_⟩⟩
  · exact ixN_ok (by rw [List.length_map, List.length_map, List.length_range]; exact hj)
  rw [e1]
  refine k _ f (((List.range m).map fun k => SX.S (nmK cs at_ fi st k)).set j (SX.S (cs.take at_))) n8 ((ss6.trans (ss7.trans ss8)).put0 hf0) (tp8.put nft nfc) (by omega) ?_ nfc (by rw [List.length_set, List.length_map, List.length_range]) ?_ ?_
  · rw [upd_same, List.map_set]
  · refine set_nodup (nm_nodup hat hm hst) fun hx => ?_
    obtain ⟨q, _, e⟩ := List.mem_map.mp hx
    have h1 := congrArg List.length (SX.S_inj e)
    rw [nmK_len hat, List.length_take] at h1
    omega
  · intro x hx
    rcases List.mem_or_eq_of_mem_set hx with hx | rfl
    · obtain ⟨q, _, rfl⟩ := List.mem_map.mp hx
      exact nm_ok hat hcs8 g3
    · refine ⟨by rw [SX.S_len, List.length_take]; omega, fun z hz => ?_⟩
      have hz' : z ∈ cs.take at_ := hz
      exact g3 z (List.mem_of_mem_take hz')
end
end Rd
/-! _law_gcd, _law_gcd_all. -/
namespace Rd
open PySem PySem.Spec PyProof.Rows L2 Gr
def spLG : Sp := fun vs H Q _ => ∃ p q : Nat, vs = [.int (p : Nat), .int (q : Nat)] ∧ Q (.int (Nat.gcd p q : Nat)) H
-- slots of _law_gcd: 0 _law_one 1 _law_other
theorem sc_z_gcd : FnScope ["_law_one", "_law_other"] ["_law_one", "_law_other"] (defScope s_z_gcd) := ⟨rfl, rfl, rfl, by decide +kernel, rfl, by decide +kernel, by decide +kernel⟩
section
variable {P : Program} {w : World} {K : PySem.W.Frag} {mg : Str → Option Value} {base : Heap}
theorem ca_z_gcd (T : Wd K mg base) : Ca P w K mg base 1 "_law_gcd" spLG [] := by
  obtain ⟨fd, F⟩ := T.L.F_z_gcd
  refine ca_of F T.g__law_gcd (F.binds (ps := ["_law_one", "_law_other"]) fun _ _ _ _ _ _ us hl => match us, hl with | [_, _], _ => rfl) sc_z_gcd (fun vs H Q E ⟨_, _, e, _⟩ => by rw [e]; rfl) ?_
  rintro cdv A outer s H vs Q E hr ⟨p0, q0, rfl, k⟩
  refine ⟨_, (pss_cons (ps_while PassesOwn.never (pt_cmpR op_ne (pv 1) pe_int (by rfl)) (pss_one (ps_par (i := 0) (j := 1) (by rfl) sc_z_gcd.nd rfl rfl (by decide) rfl rfl (pa_cons (pv 1) (pa_cons (pe_op op_modN (pe_callTy (call_int1) (by rfl) T.f_int (by decide +kernel) (pa_cons (pv 0) pa_nil)) (pv 1)) pa_nil)) (by rfl)))) (pss_one (ps_ret (pv 0)))), ?_⟩
  refine while_by (fun σ H'' => H'' = H ∧ ∃ p q : Nat, σ = [some (.int (p : Nat)), some (.int (q : Nat))] ∧ Nat.gcd p q = Nat.gcd p0 q0)
    (fun σ _ => match σ with | [_, some (.int q)] => q.toNat | _ => 0) ⟨rfl, p0, q0, rfl, rfl⟩ ?_ (mono_test mono_var mono_c (fun _ _ _ _ _ h ⟨e, q⟩ => ⟨e, h _ _ q⟩))
  rintro σ H'' ⟨rfl, p, q, rfl, hg⟩
  refine ⟨_, rfl, rfl, _, rfl, ?_⟩
  by_cases hq : q = 0
  · subst hq
    refine iteNS (by rfl) ?_
    refine ⟨_, rfl, ?_⟩
    rw [Nat.gcd_zero_right] at hg
    rw [hg]
    exact k
  · have hne : (V.int (q : Int)) ≠ V.int 0 := fun e => hq (by have := V.int.inj e; omega)
    rw [decide_eq_false hne]
    refine iteT ⟨_, rfl, _, rfl, .inl ⟨_, rfl, _, rfl, _, _, rfl, rfl, (by show ((q : Nat) : Int) ≠ 0; omega), _, _, rfl, ⟨rfl, q, p % q, ?_, ?_⟩, ?_⟩⟩
    · show [some (.int (q : Int)), some (V.int (Int.fmod p q))] = _
      rw [Int.fmod_eq_emod_of_nonneg _ (by omega)]
      rfl
    · rw [← hg, Nat.gcd_comm p q, Nat.gcd_rec q p, Nat.gcd_comm]
    · show (Int.fmod p q).toNat < (q : Int).toNat
      rw [Int.fmod_eq_emod_of_nonneg _ (by omega)]
      have := Nat.mod_lt p (Nat.pos_of_ne_zero hq)
      omega
end
def spLGA (K : PySem.W.Frag) : Sp := fun vs H Q _ => ∃ (a : Addr) (ns : List Nat), vs = [.ref a] ∧ SqL K H a (ns.map fun n => V.int (n : Nat)) ∧ Q (.int (gcdN ns : Nat)) H
-- slots of _law_gcd_all: 0 _law_numbers 1 _law_found 2 _law_number
theorem sc_z_gcd_all : FnScope ["_law_numbers", "_law_found", "_law_number"] ["_law_numbers"] (defScope s_z_gcd_all) := ⟨rfl, rfl, rfl, by decide +kernel, rfl, by decide +kernel, by decide +kernel⟩
section
variable {P : Program} {w : World} {K : PySem.W.Frag} {mg : Str → Option Value} {base : Heap}
theorem ca_z_gcd_all (T : Wd K mg base) : Ca P w K mg base 2 "_law_gcd_all" (spLGA K) [] := by
  obtain ⟨fd, F⟩ := T.L.F_z_gcd_all
  refine ca_of F T.g__law_gcd_all (F.binds (ps := ["_law_numbers"]) fun _ _ _ _ _ _ us hl => match us, hl with | [_], _ => rfl) sc_z_gcd_all (fun vs H Q E ⟨_, _, e, _⟩ => by rw [e]; rfl) ?_
  rintro cdv A outer s H vs Q E hr ⟨a, ns, rfl, ha, k⟩
  refine ⟨_, (pss_cons (ps_set (i := 1) sc_z_gcd_all.nd rfl (Or.inl rfl) pe_int) (pss_cons (ps_for PassesOwn.never rfl (pi_list (pv 0)) (pg_name (i := 2) sc_z_gcd_all.nd rfl (Or.inl rfl)) (pss_one (ps_set (i := 1) sc_z_gcd_all.nd rfl (Or.inl rfl) (pe_ca (ca_z_gcd T) hr (by decide) rfl (pa_cons (pv 1) (pa_cons (pv 2) pa_nil)))))) (pss_one (ps_ret (pv 1))))), ?_⟩
  refine ⟨_, rfl, a, rfl, ⟨_, ha⟩, for_list (K := K) (a := a) (xs := ns.map fun n => V.int (n : Nat)) (fun i σ H' => H' = H ∧ ∃ z : Option V, σ = [some (.ref a), some (.int (gcdN (ns.take i) : Nat)), z]) ⟨rfl, none, rfl⟩ (fun i σ H' _ ⟨e, _⟩ => e ▸ ha) ?_ ?_⟩
  · rintro i v σ H' hi ⟨rfl, z, rfl⟩
    obtain ⟨q, hq, rfl⟩ := map_getF hi
    refine ⟨_, rfl, _, rfl, gcdN (ns.take i), q, rfl, rfl, some (.int (q : Nat)), ?_⟩
    rw [take_snoc hq, gcdN_snoc]
    rfl
  · rintro σ H' ⟨rfl, z, rfl⟩
    refine ⟨_, rfl, ?_⟩
    rw [List.length_map, List.take_length]
    exact k
end
def spLL : Sp := fun vs H Q _ => ∃ p q : Nat, vs = [.int (p : Nat), .int (q : Nat)] ∧ 1 ≤ p ∧ 1 ≤ q ∧ p ≤ 1000000 ∧ q ≤ 1000000 ∧ Q (.int (Nat.lcm p q : Nat)) H
-- slots of _law_lcm: 0 _law_one 1 _law_other
theorem sc_z_lcm : FnScope ["_law_one", "_law_other"] ["_law_one", "_law_other"] (defScope s_z_lcm) := ⟨rfl, rfl, rfl, by decide +kernel, rfl, by decide +kernel, by decide +kernel⟩
section
variable {P : Program} {w : World} {K : PySem.W.Frag} {mg : Str → Option Value} {base : Heap}
theorem ca_z_lcm (T : Wd K mg base) : Ca P w K mg base 2 "_law_lcm" spLL [] := by
  obtain ⟨fd, F⟩ := T.L.F_z_lcm
  refine ca_of F T.g__law_lcm (F.binds (ps := ["_law_one", "_law_other"]) fun _ _ _ _ _ _ us hl => match us, hl with | [_, _], _ => rfl) sc_z_lcm (fun vs H Q E ⟨_, _, e, _⟩ => by rw [e]; rfl) ?_
  rintro cdv A outer s H vs Q E hr ⟨p, q, rfl, hp, hq, hp2, hq2, k⟩
  refine ⟨_, (pss_one (ps_ret (pe_op op_fdivN (pe_op op_mul (pv 0) (pv 1)) (pe_ca (ca_z_gcd T) hr (by decide) rfl (pa_cons (pv 0) (pa_cons (pv 1) pa_nil)))))), ?_⟩
  have hg : 1 ≤ Nat.gcd p q := Nat.gcd_pos_of_pos_left _ (by omega)
  have hg2 : Nat.gcd p q ≤ p := Nat.gcd_le_left _ (by omega)
  refine ⟨_, rfl, _, rfl, _, _, rfl, rfl, .inl ⟨by omega, by omega⟩, _, rfl, _, rfl, p, q, rfl, _, _, rfl, rfl, ⟨by omega, by omega⟩, ?_⟩
  have e : Int.fdiv (((p : Nat) : Int) * ((q : Nat) : Int)) ((Nat.gcd p q : Nat) : Int) = ((Nat.lcm p q : Nat) : Int) := by
    rw [Int.fdiv_eq_ediv_of_nonneg _ (by omega)]
    unfold Nat.lcm
    push_cast
    rfl
  show Q (.int (Int.fdiv (((p : Nat) : Int) * ((q : Nat) : Int)) ((Nat.gcd p q : Nat) : Int))) H
  rw [e]
  exact k
end
end Rd
/-! Plans; _law_near. -/
namespace Rd
open PySem PySem.Spec PyProof.Rows L2 Gr
/-- t.index(x) of texts -/
def rTIx (K : PySem.W.Frag) : V → List V → Hp → VK → Prop := fun x xs H Q => ∃ p, ∃ ys : List Str, ∃ z j, x = .ref p ∧ xs = [.str z] ∧ SqT K H p (ys.map V.str) ∧ ys[j]? = some z ∧ (∀ m, m < j → ys[m]? ≠ some z) ∧ Q (.int (j : Nat)) H
/-- a tuple that is made, its object known to have no dict -/
def tTupF (t : TA) : TE := fun σ H Q => t σ H fun xs H1 => xs.length ≤ sizeLine ∧ ∀ p o, H1 p = none → o.dict = none → Q (.ref p) (upd H1 p (.frz o (.tup xs)))
theorem pe_tupF {X : Cx} {es : List Expr} {t : TA} {x1 : Nat} {pos : Pos} (h : PA X es t) : PE X (.Tuple es x1 pos) (tTupF t) := by
  refine ⟨fun pins s σ H Q I hq => ?_⟩
  refine wpAny_Tuple_spliced (thn (h.run pos pins s σ H _ I hq) fun us s1 ⟨xs, H1, I1, r, z, q⟩ => ⟨by rw [← r.length]; exact z, ?_⟩)
  have hf : H1 s1.heap.objs.size = none := I1.hok.fresh (Nat.le_refl _)
  refine ⟨.ref s1.heap.objs.size, _, I1.laid (t' := s1.toks) (o := .frz { cls := .type "tuple", data := .seq us.toArray } (.tup xs)) (fun b u e => Heap.get?_push_of_some _ e) (Nat.le_refl _) ?_, rfl, q _ { cls := .type "tuple", data := .seq us.toArray } hf rfl⟩
  exact ⟨Heap.get?_push_size _ rfl, z, us, r, ⟨_, Heap.get?_push_size _ rfl, rfl, _, rfl⟩⟩
/-- t.index(x), t such a tuple -/
def tTIx (K : PySem.W.Frag) (to : TE) (t : TA) : TE := fun σ H Q => to σ H fun x H1 => (∃ (p : Addr) (o : Obj) (xs : List V), x = .ref p ∧ H1 p = some (.frz o (.tup xs)) ∧ o.dict = none) ∧ t σ H1 fun xs H2 => rTIx K x xs H2 Q
theorem pe_tixK {X : Cx} {K : PySem.W.Frag} {o e : Expr} {to : TE} {t : TA} {apos cpos : Pos} (hK : X.K = K) (ho : PE X o to) (ha : PA X [e] t)
    (hbase : attributeBase o "index" X.env (eval o X.env) = eval o X.env := by rfl)
    (hfew : ((backTo cpos (starEach [e] X.env)).all (fun x => !x.1) && (backToKw cpos (keywordEach [] X.env)).all (fun x => x.1.isSome) && decide (([e] : List Expr).length + ([] : List Keyword).length + (if ([] : List Keyword).isEmpty then 0 else 1) < 30)) = true := by rfl)
    (hline : (apos.endLine == cpos.line) = true := by rfl) (hs : starEach [e] X.env = (false, eval e X.env) :: starEach [] X.env := by rfl) (hplain : (backTo cpos (starEach [] X.env)).any (·.1) = false := by rfl) :
    PE X (.Call (.Attribute o "index" apos) [e] [] cpos) (tTIx K to t) := by
  subst hK
  refine ⟨fun pins s σ H Q I h => ?_⟩
  refine wpAny_Call_method_late hbase hfew hline rfl (thn (ho.run pins s σ H _ I h) fun v s1 ⟨x, H1, I1, r1, ⟨p, ob, ys, ex, hp, hd⟩, q1⟩ => ?_)
  subst ex
  obtain rfl : v = Value.ref p := r1
  obtain ⟨h1, z, its, rr, h2⟩ := (show ObjOk X.prog X.w H1 s1.heap p (.frz ob (.tup ys)) from I1.hok p _ hp)
  refine ⟨"tuple", "tuple.index", PySem.F.plainAttrs_tuple, PySem.F.slot_tuple_index, PySem.F.type_tuple_index, (let ⟨o, ho, hc, _⟩ := h2; ⟨o, ho, hc⟩), (fun a e => by cases e; exact ⟨ob, h1, hd⟩), ?_⟩
  have hA := ha.run cpos pins s1 σ H1 _ I1 q1
  rw [hs] at hA ⊢
  refine Calls.callWith_builtin (by show (false || (backTo cpos (starEach [] X.env)).any (·.1)) = false; rw [hplain] <;> rfl) (Calls.evalArgs_plain ?_)
  exact thn hA fun us s2 ⟨vs, H2, I2, r2, q2⟩ => mt_tup_index pins s2 σ H2 (.ref p) vs (.ref p) us Q I2 rfl r2 q2
/-- a pair of texts that the law has made -/
def PrF (H : Hp) (u : Addr) (q : Str × Str) : Prop := ∃ o : Obj, H u = some (.frz o (.tup [.str q.1, .str q.2])) ∧ o.dict = none
theorem PrF.same {H H' : Hp} {u : Addr} {q : Str × Str} (s : Same H H') : PrF H u q → PrF H' u q := fun ⟨o, h, d⟩ => ⟨o, s _ _ h, d⟩
def spPairF : Sp := fun vs H Q _ => ∃ x y : Str, vs = [.str x, .str y] ∧ ∀ H' p, Same H H' → PrF H' p (pairS x y) → Q (.ref p) H'
-- slots of _law_pair: 0 _law_one 1 _law_other
theorem sc_z_pair : FnScope ["_law_one", "_law_other"] ["_law_one", "_law_other"] (defScope s_z_pair) := ⟨rfl, rfl, rfl, by decide +kernel, rfl, by decide +kernel, by decide +kernel⟩
section
variable {P : Program} {w : World} {K : PySem.W.Frag} {mg : Str → Option Value} {base : Heap}
theorem ca_z_pair (T : Wd K mg base) : Ca P w K mg base 1 "_law_pair" spPairF [] := by
  obtain ⟨fd, F⟩ := T.L.F_z_pair
  refine ca_of F T.g__law_pair (F.binds (ps := ["_law_one", "_law_other"]) fun _ _ _ _ _ _ us hl => match us, hl with | [_, _], _ => rfl) sc_z_pair (fun vs H Q E ⟨_, _, e, _⟩ => by rw [e]; rfl) ?_
  rintro cdv A outer s H vs Q E hr ⟨x, y, rfl, k⟩
  refine ⟨_, (pss_one (ps_ret (pe_ifExp (pt_cmpR op_lt_str (pv 0) (pv 1) (by rfl)) (pe_tupF (pa_cons (pv 0) (pa_cons (pv 1) pa_nil))) (pe_tupF (pa_cons (pv 1) (pa_cons (pv 0) pa_nil)))))), ?_⟩
  refine ⟨_, rfl, _, rfl, _, _, rfl, rfl, _, rfl, ?_⟩
  have e : decide (x.cps.toList < y.cps.toList) = ltS x y := rfl
  rw [e]
  unfold pairS at k
  cases q : ltS x y with
  | true =>
    rw [q] at k
    exact iteT ⟨_, rfl, _, rfl, (by show 2 ≤ sizeLine; decide), fun p o hp hd => k _ p (sm_new hp) ⟨o, upd_same, hd⟩⟩
  | false =>
    rw [q] at k
    exact iteF ⟨_, rfl, _, rfl, (by show 2 ≤ sizeLine; decide), fun p o hp hd => k _ p (sm_new hp) ⟨o, upd_same, hd⟩⟩
end
theorem PrF.sq {K : PySem.W.Frag} {H : Hp} {u : Addr} {q : Str × Str} (h : PrF H u q) : SqT K H u ([q.1, q.2].map V.str) := let ⟨o, h, _⟩ := h; .inl (.inr ⟨o, h⟩)
theorem PrF.put {H : Hp} {u a : Addr} {q : Str × Str} {b : HO} (n : u ≠ a) (h : PrF H u q) : PrF (upd H a b) u q := let ⟨o, h, d⟩ := h; ⟨o, by rw [upd_ne n]; exact h, d⟩
/-- pairs that the law has made, in a list -/
def PrL (H : Hp) : List V → List (Str × Str) → Prop := Paired fun v q => ∃ u, v = .ref u ∧ PrF H u q
theorem PrL.same {H H' : Hp} (s : Same H H') {xs : List V} {ps : List (Str × Str)} (h : PrL H xs ps) : PrL H' xs ps := Paired.mapP h fun _ _ ⟨u, e, k⟩ => ⟨u, e, k.same s⟩
theorem PrL.len {H : Hp} {xs : List V} {ps : List (Str × Str)} (h : PrL H xs ps) : xs.length = ps.length := Paired.length h
theorem PrL.get {H : Hp} : ∀ {xs : List V} {ps : List (Str × Str)} {i : Nat} {v : V}, PrL H xs ps → xs[i]? = some v → ∃ p u, ps[i]? = some p ∧ v = .ref u ∧ PrF H u p
  | _, _, i, v, .nil, e => by simp at e
  | _, _, 0, v, .cons ⟨u, e1, h⟩ _, e => by
    simp at e
    subst e
    exact ⟨_, u, rfl, e1, h⟩
  | _, _, i + 1, v, .cons _ a, e => by
    obtain ⟨p, u, h1, h2, h3⟩ := PrL.get (i := i) (v := v) a (by simpa using e)
    exact ⟨p, u, by simpa using h1, h2, h3⟩
/-- a plan: sizes by rooms, pairs -/
structure PlAt (H : Hp) (p d l : Addr) (szs : List (Str × Nat)) (ps : List (Str × Str)) : Prop where
  t : H p = some (.tup [.ref d, .ref l])
  d : H d = some (.dK (SzD szs))
  l : ∃ xs, H l = some (.lst xs) ∧ PrL H xs ps
theorem PlAt.same {H H' : Hp} {p d l : Addr} {szs : List (Str × Nat)} {ps : List (Str × Str)} (s : Same H H') (h : PlAt H p d l szs ps) : PlAt H' p d l szs ps :=
  ⟨s _ _ h.t, s _ _ h.d, let ⟨xs, h1, h2⟩ := h.l; ⟨xs, s _ _ h1, h2.same s⟩⟩
/-- the neighbours of a room -/
def nearS (ps : List (Str × Str)) (x : Str) : List Str := (ps.filter fun q => decide (q.1 = x) || decide (q.2 = x)).map fun q => if q.1 = x then q.2 else q.1
theorem nearS_mem {ps : List (Str × Str)} {x y : Str} : y ∈ nearS ps x ↔ Adj ps x y := by
  unfold nearS
  rw [List.mem_map]
  constructor
  · rintro ⟨q, hq, e⟩
    obtain ⟨h1, h2⟩ := List.mem_filter.mp hq
    by_cases c : q.1 = x
    · rw [if_pos c] at e
      rw [← c, ← e]
      exact .inl h1
    · rw [if_neg c] at e
      simp [c] at h2
      rw [← h2, ← e]
      exact .inr h1
  · rintro (h | h)
    · exact ⟨(x, y), List.mem_filter.mpr ⟨h, by simp⟩, by simp⟩
    · refine ⟨(y, x), List.mem_filter.mpr ⟨h, by simp⟩, ?_⟩
      by_cases c : y = x
      · simp [c]
      · simp [c]
theorem nearS_len (ps : List (Str × Str)) (x : Str) : (nearS ps x).length ≤ ps.length := by
  unfold nearS
  rw [List.length_map]
  exact List.length_filter_le _ _
def spNear : Sp := fun vs H Q _ => ∃ (p d l : Addr) (x : Str) (szs : List (Str × Nat)) (ps : List (Str × Str)), vs = [.ref p, .str x] ∧ PlAt H p d l szs ps ∧ ps.length ≤ 31 ∧ ∀ H' u (ys : List Str), Same H H' → H' u = some (.lst (ys.map V.str)) → H u = none → (∀ y, y ∈ ys ↔ Adj ps x y) → ys.length ≤ ps.length → Q (.ref u) H'
-- slots of _law_near: 0 _law_plan 1 _law_room* 2 _law_two
theorem sc_z_near : FnScope ["_law_plan", "_law_room", "_law_two"] ["_law_plan", "_law_room"] (defScope s_z_near) := ⟨rfl, rfl, rfl, by decide +kernel, rfl, by decide +kernel, by decide +kernel⟩
section
variable {P : Program} {w : World} {K : PySem.W.Frag} {mg : Str → Option Value} {base : Heap}
theorem ca_z_near (T : Wd K mg base) : Ca P w K mg base 1 "_law_near" spNear [] := by
  obtain ⟨fd, F⟩ := T.L.F_z_near
  refine ca_of F T.g__law_near (F.binds (ps := ["_law_plan", "_law_room"]) fun _ _ _ _ _ _ us hl => match us, hl with | [_, _], _ => rfl) sc_z_near (fun vs H Q E ⟨_, _, _, _, _, _, e, _⟩ => by rw [e]; rfl) ?_
  rintro cdv A outer s H vs Q E hr ⟨p, d, l, x, szs, ps, rfl, hp, h31, k⟩
  refine ⟨_, (pss_one (ps_ret (pe_callB (r := rSortedS K) cr_sortedS (by rfl) T.f_sorted (by decide +kernel) (pa_cons (pe_lc (own := [("_law_two", 2)]) (g := gName 2) rfl sc_z_near.nd (pi_list (pe_ix ix_tup (pv 0) pe_int (fun _ _ => rfl))) (blkOk_by (own := [("_law_two", 2)]) (N := ["_law_plan", "_law_room", "_law_two"]) (sc := defScope s_z_near) (by decide +kernel)) (fun _ _ _ _ _ => (pg_name (i := 2) sc_z_near.nd rfl (Or.inl rfl))) (fun _ _ _ _ _ => (pts_one (pt_cmpR (r := rIn K false) op_in_seq (pv 1) (pv 2) (by rfl)))) (fun _ _ _ _ _ => (pe_ix (r := rIxT K) ix_tup (pv 2) (pe_op op_sub pe_int (pe_tixK (K := K) rfl (pv 2) (pa_cons (pv 1) pa_nil))) (fun _ _ => rfl)))) pa_nil)))), ?_⟩
  obtain ⟨xs, hl, hxs⟩ := hp.l
  have el := hxs.len
  refine ⟨_, rfl, p, _, (1 : Int), .ref l, rfl, rfl, SqT.of hp.t, rfl, l, rfl, ⟨xs, SqL.of hl⟩, fun D hD => lc_list (K := K) (a := l) (xs := xs) (fun i H' => H' D = some (.lst ((nearS (ps.take i) x).map V.str)) ∧ Same H H') ⟨upd_same, sm_new hD⟩ (fun i H' _ h => SqL.of (h.2 _ _ hl)) ?_ ?_⟩
  · rintro i v H' hi ⟨g1, ss⟩
    obtain ⟨q, u, hq, rfl, hu⟩ := hxs.get hi
    have hu' := hu.same ss
    have ek := filter_snoc (fun q : Str × Str => decide (q.1 = x) || decide (q.2 = x)) hq
    have hlen : ((nearS (ps.take i) x).map V.str).length < sizeLine := by
      rw [List.length_map, sizeLine_eq]
      have h1 := nearS_len (ps.take i) x
      rw [List.length_take] at h1
      omega
    refine ⟨rfl, _, rfl, _, rfl, u, _, rfl, .inr hu'.sq, rfl, all_flat _, _, rfl, ?_⟩
    show if inV (V.str x) ([q.1, q.2].map V.str) = true then _ else _
    rw [inV_str]
    by_cases e1 : q.1 = x
    · have e2 : decide (x ∈ [q.1, q.2]) = true := by simp [e1]
      rw [e2]
      rw [if_pos (by simp [e1])] at ek
      obtain ⟨ob, ho, hdd⟩ := id hu'
      refine iteT ⟨_, rfl, _, rfl, ⟨u, ob, _, rfl, ho, hdd⟩, _, rfl, u, [q.1, q.2], x, 0, rfl, rfl, hu'.sq, by rw [← e1]; rfl, fun m h => absurd h (Nat.not_lt_zero _), _, _, rfl, rfl, u, _, (1 : Int), .str q.2, rfl, rfl, hu'.sq, rfl, _, g1, hlen, ?_, ss.put hD⟩
      rw [upd_same]
      unfold nearS
      rw [ek, List.map_append, List.map_append]
      show _ = some (HO.lst (_ ++ [V.str (if q.1 = x then q.2 else q.1)]))
      rw [if_pos e1]
    · by_cases e3 : q.2 = x
      · have e2 : decide (x ∈ [q.1, q.2]) = true := by simp [e3]
        rw [e2]
        rw [if_pos (by simp [e3])] at ek
        obtain ⟨ob, ho, hdd⟩ := id hu'
        refine iteT ⟨_, rfl, _, rfl, ⟨u, ob, _, rfl, ho, hdd⟩, _, rfl, u, [q.1, q.2], x, 1, rfl, rfl, hu'.sq, by rw [← e3]; rfl, fun m h z => ?_, _, _, rfl, rfl, u, _, (0 : Int), .str q.1, rfl, rfl, hu'.sq, rfl, _, g1, hlen, ?_, ss.put hD⟩
        · have hm : m = 0 := by omega
          subst hm
          exact e1 (Option.some.inj z)
        · rw [upd_same]
          unfold nearS
          rw [ek, List.map_append, List.map_append]
          show _ = some (HO.lst (_ ++ [V.str (if q.1 = x then q.2 else q.1)]))
          rw [if_neg e1]
      · have e2 : decide (x ∈ [q.1, q.2]) = false := by simp [Ne.symm e1, Ne.symm e3]
        rw [e2]
        rw [if_neg (by simp [e1, e3])] at ek
        refine iteF ⟨?_, ss⟩
        rw [g1]
        unfold nearS
        rw [ek]
  rintro H2 ⟨g1, ss⟩
  rw [el, List.take_length] at g1
  have h64 : (nearS ps x).length < 64 := by
    have := nearS_len ps x
    omega
  refine ⟨D, nearS ps x, rfl, SqL.of g1, h64, fun ys q hperm _ hq => k _ q ys (ss.new hq) upd_same ?_ (fun y => (hperm.mem_iff).trans nearS_mem) ?_⟩
  · cases e : H q with
    | none => rfl
    | some o =>
      have := ss _ _ e
      rw [hq] at this
      cases this
  · rw [hperm.length_eq]
    exact nearS_len ps x
end
end Rd
/-! Walks, what they leave modulo sizes, the group of closed walks. Plain Lean. -/
namespace Gr
section
variable {α : Type} [DecidableEq α]
/-- one at u -/
def ind (u : α) : α → Int := fun w => if w = u then 1 else 0
/-- a walk, by its arrivals -/
inductive Wk (ps : List (α × α)) (x : α) : α → (α → Int) → Prop
  | nil : Wk ps x x (fun _ => 0)
  | step {y z : α} {a : α → Int} : Wk ps x y a → Adj ps y z → Wk ps x z (fun w => a w + ind z w)
def isP (p : α × α) (y z : α) : Prop := (y, z) = p ∨ (z, y) = p
instance (p : α × α) (y z : α) : Decidable (isP p y z) := by unfold isP; infer_instance
/-- a walk, by its arrivals and its crossings of p -/
inductive Wc (ps : List (α × α)) (p : α × α) (x : α) : α → (α → Int) → Nat → Prop
  | nil : Wc ps p x x (fun _ => 0) 0
  | step {y z : α} {a : α → Int} {k : Nat} : Wc ps p x y a k → Adj ps y z → Wc ps p x z (fun w => a w + ind z w) (k + if isP p y z then 1 else 0)
variable {ps qs : List (α × α)} {p : α × α} {x y z f : α} {a b : α → Int} {k l : Nat}
theorem Wk.cast (h : Wk ps x y a) (e : ∀ w, a w = b w) : Wk ps x y b := by
  have e' : a = b := funext e
  rw [← e']
  exact h
theorem Wc.cast (h : Wc ps p x y a k) (e : ∀ w, a w = b w) (ek : k = l) : Wc ps p x y b l := by
  have e' : a = b := funext e
  rw [← e', ← ek]
  exact h
theorem Wk.trans (h : Wk ps x y a) (g : Wk ps y z b) : Wk ps x z (fun w => a w + b w) := by
  induction g with
  | nil => exact h.cast fun w => by dsimp only; omega
  | step _ ad ih => exact (ih.step ad).cast fun w => by dsimp only; omega
theorem Wc.trans (h : Wc ps p x y a k) (g : Wc ps p y z b l) : Wc ps p x z (fun w => a w + b w) (k + l) := by
  induction g with
  | nil => exact h.cast (fun w => by dsimp only; omega) (by omega)
  | step _ ad ih => exact (ih.step ad).cast (fun w => by dsimp only; omega) (by omega)
theorem Conn.wk (h : Conn ps x y) : ∃ a, Wk ps x y a := by
  induction h with
  | refl => exact ⟨_, .nil⟩
  | step _ ad ih =>
    obtain ⟨a, h⟩ := ih
    exact ⟨_, h.step ad⟩
theorem Wk.conn (h : Wk ps x y a) : Conn ps x y := by
  induction h with
  | nil => exact .refl
  | step _ ad ih => exact ih.step ad
theorem Wk.lift (h : Wk qs x y a) (m : ∀ q ∈ qs, q ∈ ps ∧ q ≠ p ∧ (q.2, q.1) ≠ p) : Wc ps p x y a 0 := by
  induction h with
  | nil => exact .nil
  | step _ ad ih =>
    refine (ih.step (ad.elim (fun h => .inl (m _ h).1) fun h => .inr (m _ h).1)).cast (fun _ => rfl) ?_
    rw [if_neg]
    rintro (e | e)
    · exact ad.elim (fun h => (m _ h).2.1 e) fun h => (m _ h).2.2 e
    · exact ad.elim (fun h => (m _ h).2.2 e) fun h => (m _ h).2.1 e
theorem Wc.wk (h : Wc ps p x y a k) : Wk ps x y a := by
  induction h with
  | nil => exact .nil
  | step _ ad ih => exact ih.step ad
/-- a walk that does not cross p goes on within the rest -/
theorem Wc.free (h : Wc ps p x y a k) (hk : k = 0) : Wk (ps.filter (· ≠ p)) x y a := by
  induction h with
  | nil => exact .nil
  | @step y z a k _ ad ih =>
    by_cases e : isP p y z
    · rw [if_pos e] at hk
      omega
    · refine (ih (by omega)).step ?_
      rcases ad with ad | ad
      · exact .inl (List.mem_filter.mpr ⟨ad, by simpa using fun h => e (.inl h)⟩)
      · exact .inr (List.mem_filter.mpr ⟨ad, by simpa using fun h => e (.inr h)⟩)
/-- a sum over rooms -/
def sumR (rm : List α) (t : α → Int) : Int := (rm.map t).sum
theorem sumR_cons (r : α) (rm : List α) (t : α → Int) : sumR (r :: rm) t = t r + sumR rm t := by
  unfold sumR
  rw [List.map_cons, List.sum_cons]
theorem sumR_add (rm : List α) (t u : α → Int) : sumR rm (fun w => t w + u w) = sumR rm t + sumR rm u := by
  induction rm with
  | nil => rfl
  | cons r rm ih => rw [sumR_cons, sumR_cons, sumR_cons, ih]; omega
theorem sumR_mul (rm : List α) (m : Int) (t : α → Int) : sumR rm (fun w => m * t w) = m * sumR rm t := by
  induction rm with
  | nil => simp [sumR]
  | cons r rm ih => rw [sumR_cons, sumR_cons, ih, Int.mul_add]
theorem sumR_congr {rm : List α} {t u : α → Int} (h : ∀ r ∈ rm, t r = u r) : sumR rm t = sumR rm u := by
  unfold sumR
  rw [List.map_congr_left h]
theorem sumR_zero {rm : List α} {t : α → Int} (h : ∀ r ∈ rm, t r = 0) : sumR rm t = 0 := by
  induction rm with
  | nil => rfl
  | cons r rm ih => rw [sumR_cons, h r List.mem_cons_self, ih fun w hw => h w (List.mem_cons_of_mem _ hw)]; rfl
theorem sumR_ind {rm : List α} (nd : rm.Nodup) {z : α} (h : z ∈ rm) (g : α → Int) : sumR rm (fun w => g w * ind z w) = g z := by
  induction rm with
  | nil => cases h
  | cons r rm ih =>
    obtain ⟨n1, n2⟩ := List.nodup_cons.mp nd
    rw [sumR_cons]
    rcases List.mem_cons.mp h with e | h
    · subst e
      rw [sumR_zero (rm := rm) fun w hw => by
        have : w ≠ z := fun e => n1 (e ▸ hw)
        unfold ind
        rw [if_neg this, Int.mul_zero]]
      unfold ind
      rw [if_pos rfl]
      omega
    · have : r ≠ z := fun e => n1 (e ▸ h)
      rw [ih n2 h]
      unfold ind
      rw [if_neg this]
      omega
theorem sumR_dvd {rm : List α} {t : α → Int} {m : Int} (h : ∀ r ∈ rm, m ∣ t r) : m ∣ sumR rm t := by
  induction rm with
  | nil => exact ⟨0, by simp [sumR]⟩
  | cons r rm ih =>
    rw [sumR_cons]
    exact Int.dvd_add (h r List.mem_cons_self) (ih fun w hw => h w (List.mem_cons_of_mem _ hw))
/-- weights of rooms that cancel along steps, up to the crossings of p -/
theorem Wc.law {rm : List α} (nd : rm.Nodup) (hin : ∀ q ∈ ps, q.1 ∈ rm ∧ q.2 ∈ rm) {M κ : Int} {h : α → Int} (hh : ∀ u v, Adj ps u v → M ∣ h u + h v - (if isP p u v then κ else 0)) (w : Wc ps p x y a k) :
    M ∣ 2 * sumR rm (fun z => h z * a z) + h x - h y - κ * (k : Int) := by
  induction w with
  | nil =>
    rw [sumR_zero (fun r _ => by simp)]
    exact ⟨0, by simp⟩
  | @step y z a k _ ad ih =>
    have hz : z ∈ rm := ad.elim (fun h => (hin _ h).2) fun h => (hin _ h).1
    have e1 : sumR rm (fun w => h w * (a w + ind z w)) = sumR rm (fun w => h w * a w) + h z := by
      rw [← sumR_ind nd hz h, ← sumR_add]
      exact sumR_congr fun r _ => by rw [Int.mul_add]
    rw [e1]
    obtain ⟨c, hc⟩ := ih
    obtain ⟨d, hd⟩ := hh _ _ ad
    refine ⟨c + d, ?_⟩
    rw [Int.mul_add M c d, ← hc, ← hd]
    by_cases e : isP p y z
    · rw [if_pos e, if_pos e]
      push_cast
      rw [Int.mul_add κ, Int.mul_one]
      omega
    · rw [if_neg e, if_neg e, Nat.add_zero]
      omega
theorem Wk.law {rm : List α} (nd : rm.Nodup) (hin : ∀ q ∈ ps, q.1 ∈ rm ∧ q.2 ∈ rm) {h : α → Int} (hh : ∀ u v, Adj ps u v → h u + h v = 0) (w : Wk ps x y a) :
    2 * sumR rm (fun z => h z * a z) + h x - h y = 0 := by
  induction w with
  | nil =>
    rw [sumR_zero (fun r _ => by simp)]
    omega
  | @step y z a _ ad ih =>
    have hz : z ∈ rm := ad.elim (fun h => (hin _ h).2) fun h => (hin _ h).1
    have e1 : sumR rm (fun w => h w * (a w + ind z w)) = sumR rm (fun w => h w * a w) + h z := by
      rw [← sumR_ind nd hz h, ← sumR_add]
      exact sumR_congr fun r _ => by rw [Int.mul_add]
    rw [e1]
    have := hh _ _ ad
    omega
/-- the sum of the arrivals grows by one a step -/
theorem Wk.total {rm : List α} (nd : rm.Nodup) (hin : ∀ q ∈ ps, q.1 ∈ rm ∧ q.2 ∈ rm) (ad : Adj ps y z) (a : α → Int) : sumR rm (fun w => a w + ind z w) = sumR rm a + 1 := by
  have hz : z ∈ rm := ad.elim (fun h => (hin _ h).2) fun h => (hin _ h).1
  have e := sumR_ind nd hz (fun _ => 1)
  rw [sumR_add]
  simp only [Int.one_mul] at e
  rw [show sumR rm (fun w => ind z w) = sumR rm (ind z) from rfl] at *
  rw [e]
end
end Gr
/-! The group of closed walks modulo sizes; which changes walks leave. Plain Lean. -/
namespace Gr
section
variable {α : Type} [DecidableEq α]
/-- t is left, modulo the sizes of the rooms, by a closed walk at f -/
def Cl (ps : List (α × α)) (s : α → Int) (rm : List α) (f : α) (t : α → Int) : Prop := ∃ a, Wk ps f f a ∧ ∀ z ∈ rm, s z ∣ a z - t z
variable {ps : List (α × α)} {s : α → Int} {rm : List α} {f u v : α} {t t' : α → Int}
theorem Cl.cast (h : Cl ps s rm f t) (e : ∀ z ∈ rm, s z ∣ t z - t' z) : Cl ps s rm f t' :=
  let ⟨a, h1, h2⟩ := h
  ⟨a, h1, fun z hz => by
    have e1 := Int.dvd_add (h2 z hz) (e z hz)
    rw [show a z - t z + (t z - t' z) = a z - t' z from by omega] at e1
    exact e1⟩
theorem Cl.eq (h : Cl ps s rm f t) (e : ∀ z ∈ rm, t z = t' z) : Cl ps s rm f t' := h.cast fun z hz => by rw [e z hz, Int.sub_self]; exact ⟨0, by simp⟩
theorem Cl.zero : Cl ps s rm f (fun _ => 0) := ⟨_, .nil, fun z _ => ⟨0, by simp⟩⟩
theorem Cl.add (h : Cl ps s rm f t) (g : Cl ps s rm f t') : Cl ps s rm f (fun w => t w + t' w) :=
  let ⟨a, h1, h2⟩ := h
  let ⟨b, g1, g2⟩ := g
  ⟨_, h1.trans g1, fun z hz => by
    have e := Int.dvd_add (h2 z hz) (g2 z hz)
    rw [show a z - t z + (b z - t' z) = a z + b z - (t z + t' z) from by omega] at e
    exact e⟩
theorem Cl.nmul (h : Cl ps s rm f t) : ∀ n : Nat, Cl ps s rm f (fun w => (n : Int) * t w)
  | 0 => Cl.zero.eq fun z _ => by simp
  | n + 1 => ((h.nmul n).add h).eq fun z _ => by push_cast; rw [Int.add_mul, Int.one_mul]
theorem common : ∀ (rm : List α), (∀ z ∈ rm, 0 < s z) → ∃ N : Nat, 0 < N ∧ ∀ z ∈ rm, s z ∣ (N : Int)
  | [], _ => ⟨1, by omega, fun z h => nomatch h⟩
  | r :: rm, h => by
    obtain ⟨N, h1, h2⟩ := common rm fun z hz => h z (List.mem_cons_of_mem _ hz)
    have h3 := h r List.mem_cons_self
    refine ⟨N * (s r).toNat, Nat.mul_pos h1 (by omega), fun z hz => ?_⟩
    have e : ((s r).toNat : Int) = s r := by omega
    push_cast
    rw [e]
    rcases List.mem_cons.mp hz with rfl | hz
    · exact ⟨(N : Int), Int.mul_comm _ _⟩
    · exact Int.dvd_trans (h2 z hz) ⟨s r, rfl⟩
theorem Cl.neg (pos : ∀ z ∈ rm, 0 < s z) (h : Cl ps s rm f t) : Cl ps s rm f (fun w => -t w) := by
  obtain ⟨N, h1, h2⟩ := common rm pos
  refine (h.nmul (N - 1)).cast fun z hz => ?_
  have e : ((N - 1 : Nat) : Int) * t z - -t z = (N : Int) * t z := by
    rw [show ((N - 1 : Nat) : Int) = (N : Int) - 1 from by omega, Int.sub_mul, Int.one_mul]
    omega
  rw [e]
  exact Int.dvd_trans (h2 z hz) ⟨t z, rfl⟩
theorem Cl.sub (pos : ∀ z ∈ rm, 0 < s z) (h : Cl ps s rm f t) (g : Cl ps s rm f t') : Cl ps s rm f (fun w => t w - t' w) := (h.add (g.neg pos)).eq fun z _ => by first | omega | (dsimp only; omega)
theorem Cl.mul (pos : ∀ z ∈ rm, 0 < s z) (h : Cl ps s rm f t) (m : Int) : Cl ps s rm f (fun w => m * t w) := by
  rcases Int.le_total 0 m with e | e
  · exact (h.nmul m.toNat).eq fun z _ => by rw [show ((m.toNat : Nat) : Int) = m from by omega]
  · exact ((h.nmul (-m).toNat).neg pos).eq fun z _ => by
      rw [show (((-m).toNat : Nat) : Int) = -m from by omega, Int.neg_mul]
      omega
/-- there and back along a pair -/
theorem Cl.edge (pos : ∀ z ∈ rm, 0 < s z) (c : Conn ps f u) (ad : Adj ps u v) : Cl ps s rm f (fun w => ind u w + ind v w) := by
  obtain ⟨a, ha⟩ := c.wk
  obtain ⟨b, hb⟩ := c.symm.wk
  have h1 : Cl ps s rm f (fun w => a w + b w) := ⟨_, ha.trans hb, fun z _ => ⟨0, by simp⟩⟩
  have h2 : Cl ps s rm f (fun w => a w + ind v w + ind u w + b w) := ⟨_, ((ha.step ad).step ad.symm).trans hb, fun z _ => ⟨0, by simp⟩⟩
  exact (h2.sub pos h1).eq fun z _ => by first | omega | (dsimp only; omega)
/-- plus or minus one -/
def sgb (b : Bool) : Int := if b = true then 1 else -1
theorem sgb_sq (b : Bool) : sgb b * sgb b = 1 := by cases b <;> rfl
theorem sgb_not (b : Bool) : sgb (!b) = -sgb b := by cases b <;> rfl
/-- rooms whose ones are told by that of f, with signs -/
theorem Cl.spread (pos : ∀ z ∈ rm, 0 < s z) {c : α → Bool} {l : List α} (nd : l.Nodup) (h : ∀ z ∈ l, Cl ps s rm f (fun w => sgb (c z) * ind z w - sgb (c f) * ind f w)) (t : α → Int) :
    Cl ps s rm f (fun w => (if w ∈ l then t w else 0) - sumR l (fun z => sgb (c z) * t z) * (sgb (c f) * ind f w)) := by
  induction l with
  | nil => exact Cl.zero.eq fun z _ => by simp [sumR]
  | cons r l ih =>
    obtain ⟨n1, n2⟩ := List.nodup_cons.mp nd
    refine ((ih n2 fun z hz => h z (List.mem_cons_of_mem _ hz)).add ((h r List.mem_cons_self).mul pos (sgb (c r) * t r))).eq fun z _ => ?_
    rw [sumR_cons]
    have e1 : (if z ∈ r :: l then t z else 0) = (if z ∈ l then t z else 0) + t r * ind r z := by
      unfold ind
      by_cases e : z = r
      · subst e
        simp [n1]
      · simp [e]
    have e2 : sgb (c r) * t r * (sgb (c r) * ind r z - sgb (c f) * ind f z) = t r * ind r z - sgb (c r) * t r * (sgb (c f) * ind f z) := by
      rw [Int.mul_sub]
      congr 1
      rw [show sgb (c r) * t r * (sgb (c r) * ind r z) = sgb (c r) * sgb (c r) * (t r * ind r z) from by ac_rfl, sgb_sq, Int.one_mul]
    rw [e1, e2, Int.add_mul]
    omega
theorem Cl.two (pos : ∀ z ∈ rm, 0 < s z) {c : α → Bool} (hc : Col ps c) (h : Conn ps f u) : Cl ps s rm f (fun w => sgb (c u) * ind u w - sgb (c f) * ind f w) := by
  induction h with
  | refl => exact Cl.zero.eq fun z _ => by omega
  | @step u v h ad ih =>
    refine (ih.sub pos ((Cl.edge pos h ad).mul pos (sgb (c u)))).eq fun z _ => ?_
    rw [hc.adj ad, sgb_not, Int.mul_add, Int.neg_mul]
    omega
/-- g is a sum of multiples of the sizes -/
def Gen (s : α → Int) (rm : List α) (g : Int) : Prop := ∀ Q : Int → Prop, Q 0 → (∀ a b, Q a → Q b → Q (a + b)) → (∀ a, Q a → Q (-a)) → (∀ z ∈ rm, Q (s z)) → Q g
theorem Cl.gen (pos : ∀ z ∈ rm, 0 < s z) {c : α → Bool} {g : Int} (hg : Gen s rm g) (h : ∀ z ∈ rm, Cl ps s rm f (fun w => sgb (c z) * ind z w - sgb (c f) * ind f w)) : Cl ps s rm f (fun w => g * ind f w) := by
  refine hg (fun g => Cl ps s rm f (fun w => g * ind f w)) (Cl.zero.eq fun z _ => by simp) (fun a b h1 h2 => (h1.add h2).eq fun z _ => by rw [Int.add_mul]) (fun a h1 => (h1.neg pos).eq fun z _ => by rw [Int.neg_mul]) fun z hz => ?_
  have h0 : Cl ps s rm f (fun w => s z * ind z w) := Cl.zero.cast fun r _ => by
    unfold ind
    by_cases e : r = z
    · rw [e, if_pos rfl]
      exact ⟨-1, by omega⟩
    · rw [if_neg e]
      exact ⟨0, by simp⟩
  refine ((h0.mul pos (sgb (c z) * sgb (c f))).sub pos ((h z hz).mul pos (s z * sgb (c f)))).eq fun w _ => ?_
  rw [Int.mul_sub, show s z * sgb (c f) * (sgb (c f) * ind f w) = sgb (c f) * sgb (c f) * (s z * ind f w) from by ac_rfl, sgb_sq, show sgb (c z) * sgb (c f) * (s z * ind z w) = s z * sgb (c f) * (sgb (c z) * ind z w) from by ac_rfl]
  omega
/-- changes that a walk leaves: two sides -/
theorem orbit_two (pos : ∀ z ∈ rm, 0 < s z) (nd : rm.Nodup) (hin : ∀ q ∈ ps, q.1 ∈ rm ∧ q.2 ∈ rm) (cn : ∀ z ∈ rm, Conn ps f z) {c : α → Bool} (hc : Col ps c) {g : Int} (hg : Gen s rm g) {l : α} (hl : l ∈ rm) {t : α → Int}
    (hb : 2 * g ∣ 2 * sumR rm (fun z => sgb (c z) * t z) + sgb (c f) - sgb (c l)) : ∃ a, Wk ps f l a ∧ ∀ z ∈ rm, s z ∣ a z - t z := by
  obtain ⟨a0, h0⟩ := (cn l hl).wk
  have e0 := h0.law nd hin (h := fun z => sgb (c z)) fun u v ad => by rw [hc.adj ad, sgb_not]; omega
  have two : ∀ z ∈ rm, Cl ps s rm f (fun w => sgb (c z) * ind z w - sgb (c f) * ind f w) := fun z hz => Cl.two pos hc (cn z hz)
  have e1 : sumR rm (fun z => sgb (c z) * (t z - a0 z)) = sumR rm (fun z => sgb (c z) * t z) - sumR rm (fun z => sgb (c z) * a0 z) := by
    have := sumR_add rm (fun z => sgb (c z) * (t z - a0 z)) (fun z => sgb (c z) * a0 z)
    rw [sumR_congr (u := fun z => sgb (c z) * t z) fun r _ => by rw [Int.mul_sub]; omega] at this
    omega
  obtain ⟨q, hq⟩ := hb
  have e2 : sumR rm (fun z => sgb (c z) * (t z - a0 z)) = g * q := by
    have h3 : 2 * sumR rm (fun z => sgb (c z) * (t z - a0 z)) = 2 * (g * q) := by
      rw [← Int.mul_assoc, ← hq, e1]
      omega
    omega
  have sp := Cl.spread pos (c := c) nd two (fun z => t z - a0 z)
  rw [e2] at sp
  obtain ⟨b, hb1, hb2⟩ := (sp.add ((Cl.gen pos hg two).mul pos (q * sgb (c f)))).eq (t' := fun z => t z - a0 z) fun z hz => by
    rw [if_pos hz, show q * sgb (c f) * (g * ind f z) = g * q * (sgb (c f) * ind f z) from by ac_rfl]
    omega
  refine ⟨_, hb1.trans h0, fun z hz => ?_⟩
  have := hb2 z hz
  rw [show b z - (t z - a0 z) = b z + a0 z - t z from by omega] at this
  exact this
/-- the sign of a parity -/
def par (n : Int) : Bool := decide (n % 2 = 0)
theorem par_succ (n : Int) : par (n + 1) = !par n := by
  unfold par
  by_cases h : n % 2 = 0
  · rw [decide_eq_true h, decide_eq_false (by omega)]
    rfl
  · rw [decide_eq_false h, decide_eq_true (by omega)]
    rfl
theorem Cl.par (pos : ∀ z ∈ rm, 0 < s z) (nd : rm.Nodup) (hin : ∀ q ∈ ps, q.1 ∈ rm ∧ q.2 ∈ rm) {a : α → Int} (h : Wk ps f u a) : Cl ps s rm f (fun w => ind u w - sgb (par (sumR rm a)) * ind f w) := by
  induction h with
  | nil =>
    rw [sumR_zero (fun _ _ => rfl)]
    exact Cl.zero.eq fun z _ => by
      show (0 : Int) = ind f z - 1 * ind f z
      omega
  | @step u v a h ad ih =>
    rw [Wk.total nd hin ad, par_succ, sgb_not]
    refine ((Cl.edge pos h.conn ad).sub pos ih).eq fun z _ => ?_
    rw [Int.neg_mul]
    omega
/-- not two-sided: an odd closed walk -/
theorem odd_walk (nd : rm.Nodup) (hin : ∀ q ∈ ps, q.1 ∈ rm ∧ q.2 ∈ rm) (cn : ∀ z ∈ rm, Conn ps f z) (hc : ∀ c, ¬ Col ps c) : ∃ a, Wk ps f f a ∧ sumR rm a % 2 = 1 := by
  refine Classical.byContradiction fun no => ?_
  have no' : ∀ u a b, Wk ps f u a → Wk ps f u b → sumR rm a % 2 = sumR rm b % 2 := by
    intro u a b ha hb
    obtain ⟨c, hu⟩ := ha.conn.symm.wk
    have k : ∀ a, Wk ps f u a → (sumR rm a + sumR rm c) % 2 = 0 := fun a ha => by
      refine Classical.byContradiction fun q => no ⟨_, ha.trans hu, ?_⟩
      rw [show sumR rm (fun w => a w + c w) = _ from sumR_add rm a c]
      omega
    have h1 := k a ha
    have h2 := k b hb
    omega
  refine hc (fun u => @decide (∃ a, Wk ps f u a ∧ sumR rm a % 2 = 0) (Classical.propDecidable _)) fun q hq => ?_
  obtain ⟨a, ha⟩ := (cn q.1 (hin q hq).1).wk
  have hb := ha.step (z := q.2) (.inl hq)
  have e := Wk.total nd hin (.inl hq : Adj ps q.1 q.2) a
  have key : ∀ u a, Wk ps f u a → ((∃ a, Wk ps f u a ∧ sumR rm a % 2 = 0) ↔ sumR rm a % 2 = 0) := fun u a ha => ⟨fun ⟨b, hb, e⟩ => by rw [no' u a b ha hb]; exact e, fun e => ⟨a, ha, e⟩⟩
  intro z
  have z' := @decide_eq_decide _ _ (Classical.propDecidable _) (Classical.propDecidable _) |>.mp z
  rw [key _ _ ha, key _ _ hb, e] at z'
  omega
theorem orbit_odd (pos : ∀ z ∈ rm, 0 < s z) (nd : rm.Nodup) (hin : ∀ q ∈ ps, q.1 ∈ rm ∧ q.2 ∈ rm) (cn : ∀ z ∈ rm, Conn ps f z) (hc : ∀ c, ¬ Col ps c) {l : α} (hl : l ∈ rm) (hf : f ∈ rm) (t : α → Int) :
    ∃ a, Wk ps f l a ∧ ∀ z ∈ rm, s z ∣ a z - t z := by
  obtain ⟨a0, h0⟩ := (cn l hl).wk
  obtain ⟨o, ho, ho1⟩ := odd_walk nd hin cn hc
  have p2 : Cl ps s rm f (fun w => 2 * ind f w) := (Cl.par pos nd hin ho).eq fun z _ => by
    have : par (sumR rm o) = false := by
      unfold par
      rw [decide_eq_false (by omega)]
    rw [this]
    show ind f z - (-1) * ind f z = 2 * ind f z
    omega
  have one : ∀ z ∈ rm, Cl ps s rm f (fun w => sgb ((fun _ => true) z) * ind z w - sgb ((fun _ => true) f) * ind f w) := fun z hz => by
    obtain ⟨a, ha⟩ := (cn z hz).wk
    have h1 := Cl.par (s := s) pos nd hin ha
    cases e : par (sumR rm a) with
    | true =>
      rw [e] at h1
      exact h1.eq fun w _ => by
        show ind z w - 1 * ind f w = 1 * ind z w - 1 * ind f w
        omega
    | false =>
      rw [e] at h1
      exact (h1.sub pos p2).eq fun w _ => by
        show ind z w - (-1) * ind f w - 2 * ind f w = 1 * ind z w - 1 * ind f w
        omega
  have all : ∀ t, Cl ps s rm f (fun w => t w - sumR rm t * ind f w) := fun t => (Cl.spread pos (c := fun _ => true) nd one t).eq fun z hz => by
    rw [if_pos hz]
    show t z - sumR rm (fun z => 1 * t z) * (1 * ind f z) = _
    simp only [Int.one_mul]
  have u1 : Cl ps s rm f (fun w => sumR rm o * ind f w) := ((show Cl ps s rm f o from ⟨o, ho, fun z _ => ⟨0, by simp⟩⟩).sub pos (all o)).eq fun z _ => by first | omega | (dsimp only; omega)
  have u2 : Cl ps s rm f (fun w => ind f w) := (u1.sub pos (p2.mul pos (sumR rm o / 2))).eq fun z _ => by
    have e : sumR rm o = 2 * (sumR rm o / 2) + 1 := by omega
    have e2 : sumR rm o * ind f z = 2 * (sumR rm o / 2 * ind f z) + ind f z := by
      conv => lhs; rw [e]
      rw [Int.add_mul, Int.one_mul, Int.mul_assoc]
    rw [e2, show sumR rm o / 2 * (2 * ind f z) = 2 * (sumR rm o / 2 * ind f z) from by ac_rfl]
    omega
  obtain ⟨b, hb1, hb2⟩ := ((all fun z => t z - a0 z).add (u2.mul pos (sumR rm fun z => t z - a0 z))).eq (t' := fun z => t z - a0 z) fun z _ => by first | omega | (dsimp only; omega)
  refine ⟨_, hb1.trans h0, fun z hz => ?_⟩
  have := hb2 z hz
  rw [show b z - (t z - a0 z) = b z + a0 z - t z from by omega] at this
  exact this
end
end Gr
/-! Walks with so many crossings: over a bridge, over a pair of a ring. Plain Lean. -/
namespace Gr
section
variable {α : Type} [DecidableEq α]
variable {ps : List (α × α)} {p : α × α} {s : α → Int}
theorem Wk.out {qs : List (α × α)} {rm : List α} {x y : α} {a : α → Int} (hin : ∀ q ∈ qs, q.1 ∈ rm ∧ q.2 ∈ rm) (h : Wk qs x y a) {z : α} (hz : z ∉ rm) : a z = 0 := by
  induction h with
  | nil => rfl
  | @step u v a _ ad ih =>
    have hv : v ∈ rm := ad.elim (fun h => (hin _ h).2) fun h => (hin _ h).1
    show a z + ind v z = 0
    unfold ind
    rw [ih, if_neg (fun e : z = v => hz (e ▸ hv))]
    rfl
/-- a part of a graph within which p is not crossed -/
structure Side (ps : List (α × α)) (p : α × α) (s : α → Int) (A : List α) (x : α) (h : α → Int) (M : Int) : Prop where
  nd : A.Nodup
  mem : x ∈ A
  out : ∀ z, z ∉ A → h z = 0
  orb : ∀ u ∈ A, ∀ v ∈ A, ∀ t : α → Int, M ∣ 2 * sumR A (fun z => h z * t z) + h u - h v → ∃ a, Wc ps p u v a 0 ∧ (∀ z ∈ A, s z ∣ a z - t z) ∧ ∀ z, z ∉ A → a z = 0
  wlk : ∀ u ∈ A, ∀ v ∈ A, ∃ a, Wc ps p u v a 0 ∧ (∀ z, z ∉ A → a z = 0) ∧ M ∣ 2 * sumR A (fun z => h z * a z) + h u - h v
theorem sumR_lin (rm : List α) (h t a b : α → Int) : sumR rm (fun z => h z * (t z - a z - b z)) = sumR rm (fun z => h z * t z) - sumR rm (fun z => h z * a z) - sumR rm (fun z => h z * b z) := by
  induction rm with
  | nil => rfl
  | cons r rm ih =>
    rw [sumR_cons, sumR_cons, sumR_cons, sumR_cons, ih, Int.mul_sub, Int.mul_sub]
    omega
section
variable {A B : List α} {x y : α} {hA hB : α → Int} {MA MB : Int}
/-- one crossing into A, the last one -/
theorem bridge_last (SA : Side ps p s A x hA MA) (SB : Side ps p s B y hB MB) (dj : ∀ z ∈ A, z ∉ B) (ad : Adj ps y x) (hp : isP p y x) (k : Nat)
    (ih : ∀ (f l : α) (t : α → Int), f ∈ A ∨ f ∈ B → l ∈ B → (f ∈ B ↔ k % 2 = 0) → 1 ≤ k → MA ∣ 2 * sumR A (fun z => hA z * t z) + hA f - hA l - hA x * (k : Int) → MB ∣ 2 * sumR B (fun z => hB z * t z) + hB f - hB l - hB y * (k : Int) →
      ∃ a, Wc ps p f l a k ∧ (∀ z ∈ A, s z ∣ a z - t z) ∧ ∀ z ∈ B, s z ∣ a z - t z)
    (f l : α) (t : α → Int) (hf : f ∈ A ∨ f ∈ B) (hl : l ∈ A) (hk : f ∈ A ↔ (k + 1) % 2 = 0) (cA : MA ∣ 2 * sumR A (fun z => hA z * t z) + hA f - hA l - hA x * ((k + 1 : Nat) : Int)) (cB : MB ∣ 2 * sumR B (fun z => hB z * t z) + hB f - hB l - hB y * ((k + 1 : Nat) : Int)) :
    ∃ a, Wc ps p f l a (k + 1) ∧ (∀ z ∈ A, s z ∣ a z - t z) ∧ ∀ z ∈ B, s z ∣ a z - t z := by
  have dj' : ∀ z ∈ B, z ∉ A := fun z hz hz' => dj z hz' hz
  have hxB : x ∉ B := dj x SA.mem
  have hyA : y ∉ A := dj' y SB.mem
  have hBl : hB l = 0 := SB.out l (dj l hl)
  have hAy : hA y = 0 := SA.out y hyA
  have indA : sumR A (fun z => hA z * ind x z) = hA x := sumR_ind SA.nd SA.mem hA
  have indB : ∀ z ∈ B, ind x z = 0 := fun z hz => by
    unfold ind
    rw [if_neg (fun e : z = x => hxB (e ▸ hz))]
  have e1 : ((k + 1 : Nat) : Int) = (k : Int) + 1 := by push_cast; rfl
  rw [e1] at cA cB
  by_cases hk0 : k = 0
  · subst hk0
    have hfA : f ∉ A := fun h => by
      have := hk.mp h
      omega
    have hfB : f ∈ B := hf.resolve_left hfA
    have hAf : hA f = 0 := SA.out f hfA
    obtain ⟨a1, w1, c1, o1⟩ := SB.orb f hfB y SB.mem t (by
      have e : 2 * sumR B (fun z => hB z * t z) + hB f - hB l - hB y * (((0 : Nat) : Int) + 1) = 2 * sumR B (fun z => hB z * t z) + hB f - hB y := by
        rw [hBl]
        simp
      rw [e] at cB
      exact cB)
    obtain ⟨a2, w2, c2, o2⟩ := SA.orb x SA.mem l hl (fun z => t z - ind x z - 0) (by
      have z0 : sumR A (fun z => hA z * (0 : Int)) = 0 := sumR_zero (fun _ _ => Int.mul_zero _)
      rw [sumR_lin A hA t (ind x) (fun _ => 0), indA, z0]
      have e : 2 * sumR A (fun z => hA z * t z) + hA f - hA l - hA x * (((0 : Nat) : Int) + 1) = 2 * (sumR A (fun z => hA z * t z) - hA x - 0) + hA x - hA l := by
        rw [hAf]
        simp
        omega
      rw [e] at cA
      exact cA)
    refine ⟨_, ((w1.step ad).trans w2).cast (fun _ => rfl) (by rw [if_pos hp]), fun z hz => ?_, fun z hz => ?_⟩
    · have := c2 z hz
      have q1 := o1 z (dj z hz)
      rw [show a1 z + ind x z + a2 z - t z = a2 z - (t z - ind x z - 0) from by omega]
      exact this
    · have := c1 z hz
      have q1 := o2 z (dj' z hz)
      have q2 := indB z hz
      rw [show a1 z + ind x z + a2 z - t z = a1 z - t z from by omega]
      exact this
  · obtain ⟨a2, w2, o2, c2⟩ := SA.wlk x SA.mem l hl
    obtain ⟨a1, w1, q1, q2⟩ := ih f y (fun z => t z - a2 z - ind x z) hf SB.mem ⟨fun h => by
        have : ¬ (k + 1) % 2 = 0 := fun e => dj f (hk.mpr e) h
        omega, fun h => hf.resolve_left fun e => by
        have := hk.mp e
        omega⟩ (by omega) (by
      rw [sumR_lin A hA t a2 (ind x), indA, hAy]
      have := Int.dvd_sub cA c2
      rw [show 2 * sumR A (fun z => hA z * t z) + hA f - hA l - hA x * ((k : Int) + 1) - (2 * sumR A (fun z => hA z * a2 z) + hA x - hA l) = 2 * (sumR A (fun z => hA z * t z) - sumR A (fun z => hA z * a2 z) - hA x) + hA f - 0 - hA x * (k : Int) from by rw [Int.mul_add (hA x), Int.mul_one]; omega] at this
      exact this) (by
      rw [sumR_congr (rm := B) (u := fun z => hB z * t z) fun z hz => by rw [o2 z (dj' z hz), indB z hz]; simp]
      rw [show 2 * sumR B (fun z => hB z * t z) + hB f - hB l - hB y * ((k : Int) + 1) = 2 * sumR B (fun z => hB z * t z) + hB f - hB y - hB y * (k : Int) from by rw [Int.mul_add (hB y), Int.mul_one, hBl]; omega] at cB
      exact cB)
    refine ⟨_, ((w1.step ad).trans w2).cast (fun _ => rfl) (by rw [if_pos hp]), fun z hz => ?_, fun z hz => ?_⟩
    · have := q1 z hz
      rw [show a1 z - (t z - a2 z - ind x z) = a1 z + ind x z + a2 z - t z from by omega] at this
      exact this
    · have := q2 z hz
      rw [show a1 z - (t z - a2 z - ind x z) = a1 z + ind x z + a2 z - t z from by omega] at this
      exact this
/-- so many crossings of a bridge -/
theorem bridge_all (SA : Side ps p s A x hA MA) (SB : Side ps p s B y hB MB) (dj : ∀ z ∈ A, z ∉ B) (ad : Adj ps x y) (hp : isP p x y) : ∀ k : Nat,
    (∀ (f l : α) (t : α → Int), f ∈ A ∨ f ∈ B → l ∈ A → (f ∈ A ↔ k % 2 = 0) → 1 ≤ k → MA ∣ 2 * sumR A (fun z => hA z * t z) + hA f - hA l - hA x * (k : Int) → MB ∣ 2 * sumR B (fun z => hB z * t z) + hB f - hB l - hB y * (k : Int) →
      ∃ a, Wc ps p f l a k ∧ (∀ z ∈ A, s z ∣ a z - t z) ∧ ∀ z ∈ B, s z ∣ a z - t z) ∧
    (∀ (f l : α) (t : α → Int), f ∈ A ∨ f ∈ B → l ∈ B → (f ∈ B ↔ k % 2 = 0) → 1 ≤ k → MA ∣ 2 * sumR A (fun z => hA z * t z) + hA f - hA l - hA x * (k : Int) → MB ∣ 2 * sumR B (fun z => hB z * t z) + hB f - hB l - hB y * (k : Int) →
      ∃ a, Wc ps p f l a k ∧ (∀ z ∈ A, s z ∣ a z - t z) ∧ ∀ z ∈ B, s z ∣ a z - t z) := by
  intro k
  induction k with
  | zero => exact ⟨fun f l t _ _ _ h => absurd h (by omega), fun f l t _ _ _ h => absurd h (by omega)⟩
  | succ k ih =>
    have hp' : isP p y x := hp.elim .inr .inl
    refine ⟨fun f l t hf hl hk _ cA cB => bridge_last SA SB dj ad.symm hp' k ih.2 f l t hf hl hk cA cB, fun f l t hf hl hk _ cA cB => ?_⟩
    obtain ⟨a, h1, h2, h3⟩ := bridge_last SB SA (fun z hz hz' => dj z hz' hz) ad hp k (fun f l t hf hl hk h1 cB cA => by
      obtain ⟨a, h1, h2, h3⟩ := ih.1 f l t hf.symm hl hk h1 cA cB
      exact ⟨a, h1, h3, h2⟩) f l t hf.symm hl hk cB cA
    exact ⟨a, h1, h3, h2⟩
/-- so many crossings of a pair whose ends are on one side of the rest -/
theorem ring_all (SA : Side ps p s A x hA MA) (hy : y ∈ A) (hxy : hA x = hA y) (ad : Adj ps x y) (hp : isP p x y) : ∀ (k : Nat) (f l : α) (t : α → Int), f ∈ A → l ∈ A → MA ∣ 2 * sumR A (fun z => hA z * t z) + hA f - hA l - 2 * hA x * (k : Int) →
    ∃ a, Wc ps p f l a k ∧ ∀ z ∈ A, s z ∣ a z - t z := by
  intro k
  induction k with
  | zero =>
    intro f l t hf hl c
    rw [show 2 * hA x * ((0 : Nat) : Int) = 0 from by simp, Int.sub_zero] at c
    obtain ⟨a, h1, h2, _⟩ := SA.orb f hf l hl t c
    exact ⟨a, h1, h2⟩
  | succ k ih =>
    intro f l t hf hl c
    obtain ⟨a2, w2, o2, c2⟩ := SA.wlk y hy l hl
    have indA : sumR A (fun z => hA z * ind y z) = hA y := sumR_ind SA.nd hy hA
    obtain ⟨a1, w1, q1⟩ := ih f x (fun z => t z - a2 z - ind y z) hf SA.mem (by
      rw [sumR_lin A hA t a2 (ind y), indA]
      have := Int.dvd_sub c c2
      rw [show 2 * sumR A (fun z => hA z * t z) + hA f - hA l - 2 * hA x * ((k + 1 : Nat) : Int) - (2 * sumR A (fun z => hA z * a2 z) + hA y - hA l) = 2 * (sumR A (fun z => hA z * t z) - sumR A (fun z => hA z * a2 z) - hA y) + hA f - hA x - 2 * hA x * (k : Int) from by
        push_cast
        rw [Int.mul_add (2 * hA x), Int.mul_one, hxy]
        omega] at this
      exact this)
    refine ⟨_, ((w1.step ad).trans w2).cast (fun _ => rfl) (by rw [if_pos hp]), fun z hz => ?_⟩
    have := q1 z hz
    rw [show a1 z - (t z - a2 z - ind y z) = a1 z + ind y z + a2 z - t z from by omega] at this
    exact this
end
/-- a part with two sides -/
theorem side_two {qs : List (α × α)} {A : List α} {x : α} {c : α → Bool} {g : Int} (pos : ∀ z ∈ A, 0 < s z) (nd : A.Nodup) (hx : x ∈ A) (hin : ∀ q ∈ qs, q.1 ∈ A ∧ q.2 ∈ A) (sub : ∀ q ∈ qs, q ∈ ps ∧ q ≠ p ∧ (q.2, q.1) ≠ p) (cn : ∀ z ∈ A, Conn qs x z) (hc : Col qs c) (hg : Gen s A g) :
    Side ps p s A x (fun z => if z ∈ A then sgb (c z) else 0) (2 * g) where
  nd := nd
  mem := hx
  out := fun z hz => if_neg hz
  orb := fun u hu v hv t hd => by
    rw [if_pos hu, if_pos hv, sumR_congr (rm := A) (u := fun z => sgb (c z) * t z) fun z hz => by rw [if_pos hz]] at hd
    obtain ⟨a, h1, h2⟩ := orbit_two pos nd hin (fun z hz => ((cn u hu).symm.trans (cn z hz))) hc hg hv hd
    exact ⟨a, h1.lift sub, h2, fun z hz => h1.out hin hz⟩
  wlk := fun u hu v hv => by
    obtain ⟨a, h1⟩ := ((cn u hu).symm.trans (cn v hv)).wk
    refine ⟨a, h1.lift sub, fun z hz => h1.out hin hz, ?_⟩
    rw [if_pos hu, if_pos hv, sumR_congr (rm := A) (u := fun z => sgb (c z) * a z) fun z hz => by rw [if_pos hz]]
    rw [h1.law nd hin (h := fun z => sgb (c z)) fun u v ad => by rw [hc.adj ad, sgb_not]; omega]
    exact ⟨0, by simp⟩
/-- a part that has no two sides -/
theorem side_one {qs : List (α × α)} {A : List α} {x : α} (pos : ∀ z ∈ A, 0 < s z) (nd : A.Nodup) (hx : x ∈ A) (hin : ∀ q ∈ qs, q.1 ∈ A ∧ q.2 ∈ A) (sub : ∀ q ∈ qs, q ∈ ps ∧ q ≠ p ∧ (q.2, q.1) ≠ p) (cn : ∀ z ∈ A, Conn qs x z) (hc : ∀ c, ¬ Col qs c) :
    Side ps p s A x (fun z => if z ∈ A then 1 else 0) 2 where
  nd := nd
  mem := hx
  out := fun z hz => if_neg hz
  orb := fun u hu v hv t hd => by
    obtain ⟨a, h1, h2⟩ := orbit_odd pos nd hin (fun z hz => ((cn u hu).symm.trans (cn z hz))) hc hv hu t
    exact ⟨a, h1.lift sub, h2, fun z hz => h1.out hin hz⟩
  wlk := fun u hu v hv => by
    obtain ⟨a, h1⟩ := ((cn u hu).symm.trans (cn v hv)).wk
    refine ⟨a, h1.lift sub, fun z hz => h1.out hin hz, ?_⟩
    rw [if_pos hu, if_pos hv]
    exact ⟨sumR A (fun z => (if z ∈ A then 1 else 0) * a z), by omega⟩
/-- the sums of pairs at rooms, by weights -/
theorem edge_law {rm : List α} (nd : rm.Nodup) (hin : ∀ q ∈ ps, q.1 ∈ rm ∧ q.2 ∈ rm) (ne : ∀ q ∈ ps, q.1 ≠ q.2) (h : α → Int) (v : α × α → Int) : sumR rm (fun z => h z * (ps.map fun q => if q.1 = z ∨ q.2 = z then v q else 0).sum) = (ps.map fun q => v q * (h q.1 + h q.2)).sum := by
  induction ps with
  | nil => exact sumR_zero fun z _ => by simp
  | cons q qs ih =>
    rw [List.map_cons, List.sum_cons, ← ih (fun r hr => hin r (List.mem_cons_of_mem _ hr)) (fun r hr => ne r (List.mem_cons_of_mem _ hr))]
    obtain ⟨h1, h2⟩ := hin q List.mem_cons_self
    have hne := ne q List.mem_cons_self
    have e : v q * (h q.1 + h q.2) = sumR rm (fun z => v q * (h z * ind q.1 z)) + sumR rm (fun z => v q * (h z * ind q.2 z)) := by
      rw [sumR_mul, sumR_mul, sumR_ind nd h1, sumR_ind nd h2, Int.mul_add]
    rw [e, ← sumR_add, ← sumR_add]
    refine sumR_congr fun z _ => ?_
    rw [List.map_cons, List.sum_cons, Int.mul_add]
    congr 1
    unfold ind
    by_cases e1 : z = q.1
    · subst e1
      rw [if_pos rfl, if_neg hne, if_pos (.inl rfl), Int.mul_one, Int.mul_comm]
      simp
    · by_cases e2 : z = q.2
      · subst e2
        rw [if_neg e1, if_pos rfl, if_pos (.inr rfl), Int.mul_one, Int.mul_comm]
        simp
      · rw [if_neg e1, if_neg e2, if_neg (fun e => e.elim (fun e => e1 e.symm) fun e => e2 e.symm)]
        simp
/-- .. of which only p counts -/
theorem edge_dvd {M κ : Int} (nd : ps.Nodup) {h : α → Int} {v : α × α → Int} (hp : p ∈ ps) (hh : ∀ q ∈ ps, M ∣ h q.1 + h q.2 - (if q = p then κ else 0)) : M ∣ (ps.map fun q => v q * (h q.1 + h q.2)).sum - κ * v p := by
  have key : ∀ qs : List (α × α), qs.Nodup → (∀ q ∈ qs, M ∣ h q.1 + h q.2 - (if q = p then κ else 0)) → M ∣ (qs.map fun q => v q * (h q.1 + h q.2)).sum - (if p ∈ qs then κ * v p else 0) := by
    intro qs
    induction qs with
    | nil => exact fun _ _ => ⟨0, by simp⟩
    | cons q qs ih =>
      intro nd hh
      obtain ⟨n1, n2⟩ := List.nodup_cons.mp nd
      have h1 := ih n2 fun r hr => hh r (List.mem_cons_of_mem _ hr)
      have h2 : M ∣ v q * (h q.1 + h q.2 - (if q = p then κ else 0)) := Int.dvd_trans (hh q List.mem_cons_self) ⟨v q, Int.mul_comm _ _⟩
      have h3 := Int.dvd_add h2 h1
      rw [List.map_cons, List.sum_cons]
      by_cases e : q = p
      · subst e
        rw [if_pos rfl, if_neg n1] at h3
        rw [if_pos List.mem_cons_self]
        rw [show v q * (h q.1 + h q.2 - κ) + ((qs.map fun q => v q * (h q.1 + h q.2)).sum - 0) = v q * (h q.1 + h q.2) + (qs.map fun q => v q * (h q.1 + h q.2)).sum - κ * v q from by rw [Int.mul_sub, Int.mul_comm κ]; omega] at h3
        exact h3
      · rw [if_neg e, Int.sub_zero] at h3
        have e2 : (p ∈ q :: qs) ↔ p ∈ qs := ⟨fun z => (List.mem_cons.mp z).resolve_left fun z => e z.symm, List.mem_cons_of_mem _⟩
        simp only [e2]
        rw [show v q * (h q.1 + h q.2) + ((qs.map fun q => v q * (h q.1 + h q.2)).sum - (if p ∈ qs then κ * v p else 0)) = v q * (h q.1 + h q.2) + (qs.map fun q => v q * (h q.1 + h q.2)).sum - (if p ∈ qs then κ * v p else 0) from by omega] at h3
        exact h3
  have := key ps nd hh
  rw [if_pos hp] at this
  exact this
end
end Gr
/-! A search by rounds: the least number of crossings to each position. Plain Lean. -/
namespace Gr
section
variable {Q : Type}
/-- reached with so many crossings -/
inductive Rk (E0 E1 : Q → Q → Prop) (q0 : Q) : Q → Nat → Prop
  | nil : Rk E0 E1 q0 q0 0
  | free {q r : Q} {k : Nat} : Rk E0 E1 q0 q k → E0 q r → Rk E0 E1 q0 r k
  | cross {q r : Q} {k : Nat} : Rk E0 E1 q0 q k → E1 q r → Rk E0 E1 q0 r (k + 1)
/-- a round on its way: ex are the steps that are not looked at yet -/
structure BF (E0 E1 : Q → Q → Prop) (q0 : Q) (fd : List (Q × Nat)) (now later : List Q) (c : Nat) (ex : Q → Q → Prop) : Prop where
  nd : (fd.map (·.1)).Nodup
  real : ∀ q k, (q, k) ∈ fd → Rk E0 E1 q0 q k ∧ k ≤ c
  least : ∀ q k j, (q, k) ∈ fd → Rk E0 E1 q0 q j → k ≤ j
  low : ∀ q k, Rk E0 E1 q0 q k → k < c → ∃ j, j ≤ k ∧ (q, j) ∈ fd
  free : ∀ q k r, (q, k) ∈ fd → E0 q r → ex q r ∨ (∃ j, j ≤ k ∧ (r, j) ∈ fd) ∨ (k = c ∧ r ∈ now)
  cross : ∀ q k r, (q, k) ∈ fd → E1 q r → ex q r ∨ (∃ j, j ≤ k + 1 ∧ (r, j) ∈ fd) ∨ (k + 1 = c ∧ r ∈ now) ∨ (k = c ∧ r ∈ later)
  start : (q0, 0) ∈ fd ∨ (c = 0 ∧ q0 ∈ now)
  now : ∀ q ∈ now, Rk E0 E1 q0 q c
  later : ∀ q ∈ later, Rk E0 E1 q0 q (c + 1)
variable {E0 E1 : Q → Q → Prop} {q0 q r : Q} {fd : List (Q × Nat)} {now now' later later' : List Q} {c : Nat} {ex ex' : Q → Q → Prop}
def exN : Q → Q → Prop := fun _ _ => False
theorem BF.begin : BF E0 E1 q0 [] [q0] [] 0 exN where
  nd := List.nodup_nil
  real := fun _ _ h => nomatch h
  least := fun _ _ _ h => nomatch h
  low := fun _ _ _ h => absurd h (Nat.not_lt_zero _)
  free := fun _ _ _ h => nomatch h
  cross := fun _ _ _ h => nomatch h
  start := .inr ⟨rfl, List.mem_cons_self⟩
  now := fun q h => by
    rw [List.mem_singleton.mp h]
    exact .nil
  later := fun _ h => nomatch h
/-- one that is known is dropped -/
theorem BF.old (b : BF E0 E1 q0 fd now later c exN) (hq : q ∈ fd.map (·.1)) (h1 : ∀ x ∈ now, x ∈ now' ∨ x = q) (h2 : ∀ x ∈ now', x ∈ now) : BF E0 E1 q0 fd now' later c exN := by
  obtain ⟨⟨q', k⟩, hm, rfl⟩ := List.mem_map.mp hq
  have hk := (b.real _ _ hm).2
  exact { b with
    free := fun q1 k1 r h e => by
      rcases b.free q1 k1 r h e with h3 | h3 | ⟨h3, h4⟩
      · exact .inl h3
      · exact .inr (.inl h3)
      · rcases h1 r h4 with h5 | h5
        · exact .inr (.inr ⟨h3, h5⟩)
        · exact .inr (.inl ⟨k, by omega, by rw [h5]; exact hm⟩)
    cross := fun q1 k1 r h e => by
      rcases b.cross q1 k1 r h e with h3 | h3 | ⟨h3, h4⟩ | h3
      · exact .inl h3
      · exact .inr (.inl h3)
      · rcases h1 r h4 with h5 | h5
        · exact .inr (.inr (.inl ⟨h3, h5⟩))
        · exact .inr (.inl ⟨k, by omega, by rw [h5]; exact hm⟩)
      · exact .inr (.inr (.inr h3))
    start := by
      rcases b.start with h3 | ⟨h3, h4⟩
      · exact .inl h3
      · rcases h1 _ h4 with h5 | h5
        · exact .inr ⟨h3, h5⟩
        · refine .inl ?_
          have : k = 0 := by omega
          rw [← this, h5]
          exact hm
    now := fun x hx => b.now x (h2 x hx) }
/-- a new one -/
theorem BF.new (b : BF E0 E1 q0 fd now later c exN) (hq : q ∉ fd.map (·.1)) (hqn : q ∈ now) (h1 : ∀ x ∈ now, x ∈ now' ∨ x = q) (h2 : ∀ x ∈ now', x ∈ now) : BF E0 E1 q0 (fd ++ [(q, c)]) now' later c (fun a _ => a = q) where
  nd := by
    rw [List.map_append, List.nodup_append]
    refine ⟨b.nd, by simp, fun a ha z hz e => ?_⟩
    simp at hz
    rw [e, hz] at ha
    exact hq ha
  real := fun x k h => by
    rcases List.mem_append.mp h with h | h
    · exact b.real x k h
    · simp at h
      rw [h.1, h.2]
      exact ⟨b.now q hqn, Nat.le_refl _⟩
  least := fun x k j h hj => by
    rcases List.mem_append.mp h with h | h
    · exact b.least x k j h hj
    · simp at h
      rw [h.1] at hj
      rw [h.2]
      refine Nat.le_of_not_lt fun hlt => hq ?_
      obtain ⟨i, _, hi⟩ := b.low q j hj hlt
      exact List.mem_map.mpr ⟨_, hi, rfl⟩
  low := fun x k h hk => by
    obtain ⟨j, h3, h4⟩ := b.low x k h hk
    exact ⟨j, h3, List.mem_append_left _ h4⟩
  free := fun x k r h e => by
    rcases List.mem_append.mp h with h | h
    · have hk := (b.real x k h).2
      rcases b.free x k r h e with h3 | ⟨j, h3, h4⟩ | ⟨h3, h4⟩
      · exact h3.elim
      · exact .inr (.inl ⟨j, h3, List.mem_append_left _ h4⟩)
      · rcases h1 r h4 with h5 | h5
        · exact .inr (.inr ⟨h3, h5⟩)
        · exact .inr (.inl ⟨c, by omega, by rw [h5]; simp⟩)
    · simp at h
      exact .inl h.1
  cross := fun x k r h e => by
    rcases List.mem_append.mp h with h | h
    · have hk := (b.real x k h).2
      rcases b.cross x k r h e with h3 | ⟨j, h3, h4⟩ | ⟨h3, h4⟩ | h3
      · exact h3.elim
      · exact .inr (.inl ⟨j, h3, List.mem_append_left _ h4⟩)
      · rcases h1 r h4 with h5 | h5
        · exact .inr (.inr (.inl ⟨h3, h5⟩))
        · exact .inr (.inl ⟨c, by omega, by rw [h5]; simp⟩)
      · exact .inr (.inr (.inr h3))
    · simp at h
      exact .inl h.1
  start := by
    rcases b.start with h3 | ⟨h3, h4⟩
    · exact .inl (List.mem_append_left _ h3)
    · rcases h1 _ h4 with h5 | h5
      · exact .inr ⟨h3, h5⟩
      · refine .inl (List.mem_append_right _ ?_)
        rw [h5, h3]
        simp
  now := fun x hx => b.now x (h2 x hx)
  later := b.later
/-- fewer steps are left to be looked at -/
theorem BF.less (b : BF E0 E1 q0 fd now later c ex) (h0 : ∀ x y, E0 x y → ex x y → ex' x y) (h1 : ∀ x y, E1 x y → ex x y → ex' x y) : BF E0 E1 q0 fd now later c ex' :=
  { b with
    free := fun x k r h e => (b.free x k r h e).imp_left (h0 x r e)
    cross := fun x k r h e => (b.cross x k r h e).imp_left (h1 x r e) }
/-- r, a free step from q -/
theorem BF.pushF (b : BF E0 E1 q0 fd now later c ex) (hq : (q, c) ∈ fd) (e0 : E0 q r) (n1 : ¬ E1 q r) (hx : ∀ x y, ex x y → ex' x y ∨ (x = q ∧ y = r)) : BF E0 E1 q0 fd (now ++ [r]) later c ex' :=
  { b with
    free := fun x k y h e => by
      rcases b.free x k y h e with h3 | h3 | ⟨h3, h4⟩
      · rcases hx x y h3 with h4 | ⟨h4, h5⟩
        · exact .inl h4
        · subst h4 h5
          have e1 := b.least x k c h (b.real _ _ hq).1
          have e2 := b.least x c k hq (b.real _ _ h).1
          exact .inr (.inr ⟨by omega, by simp⟩)
      · exact .inr (.inl h3)
      · exact .inr (.inr ⟨h3, List.mem_append_left _ h4⟩)
    cross := fun x k y h e => by
      rcases b.cross x k y h e with h3 | h3 | ⟨h3, h4⟩ | h3
      · rcases hx x y h3 with h4 | ⟨h4, h5⟩
        · exact .inl h4
        · subst h4 h5
          exact absurd e n1
      · exact .inr (.inl h3)
      · exact .inr (.inr (.inl ⟨h3, List.mem_append_left _ h4⟩))
      · exact .inr (.inr (.inr h3))
    start := b.start.imp_right fun h => ⟨h.1, List.mem_append_left _ h.2⟩
    now := fun x hx => by
      rcases List.mem_append.mp hx with hx | hx
      · exact b.now x hx
      · rw [List.mem_singleton.mp hx]
        exact (b.real _ _ hq).1.free e0 }
/-- r, a crossing step from q -/
theorem BF.pushC (b : BF E0 E1 q0 fd now later c ex) (hq : (q, c) ∈ fd) (e0 : E1 q r) (n0 : ¬ E0 q r) (hx : ∀ x y, ex x y → ex' x y ∨ (x = q ∧ y = r)) : BF E0 E1 q0 fd now (later ++ [r]) c ex' :=
  { b with
    free := fun x k y h e => by
      rcases b.free x k y h e with h3 | h3 | h3
      · rcases hx x y h3 with h4 | ⟨h4, h5⟩
        · exact .inl h4
        · subst h4 h5
          exact absurd e n0
      · exact .inr (.inl h3)
      · exact .inr (.inr h3)
    cross := fun x k y h e => by
      rcases b.cross x k y h e with h3 | h3 | h3 | ⟨h3, h4⟩
      · rcases hx x y h3 with h4 | ⟨h4, h5⟩
        · exact .inl h4
        · subst h4 h5
          have e1 := b.least x k c h (b.real _ _ hq).1
          have e2 := b.least x c k hq (b.real _ _ h).1
          exact .inr (.inr (.inr ⟨by omega, by simp⟩))
      · exact .inr (.inl h3)
      · exact .inr (.inr (.inl h3))
      · exact .inr (.inr (.inr ⟨h3, List.mem_append_left _ h4⟩))
    later := fun x hx => by
      rcases List.mem_append.mp hx with hx | hx
      · exact b.later x hx
      · rw [List.mem_singleton.mp hx]
        exact (b.real _ _ hq).1.cross e0 }
/-- nothing is left now: all with so few crossings are found -/
theorem BF.full (b : BF E0 E1 q0 fd [] later c exN) {q : Q} {k : Nat} (h : Rk E0 E1 q0 q k) (hk : k ≤ c) : ∃ j, j ≤ k ∧ (q, j) ∈ fd := by
  induction h with
  | nil =>
    rcases b.start with h | ⟨_, h⟩
    · exact ⟨0, Nat.le_refl _, h⟩
    · cases h
  | @free q r k _ e ih =>
    obtain ⟨j, h1, h2⟩ := ih hk
    rcases b.free q j r h2 e with h3 | ⟨i, h3, h4⟩ | ⟨_, h3⟩
    · exact h3.elim
    · exact ⟨i, by omega, h4⟩
    · cases h3
  | @cross q r k _ e ih =>
    obtain ⟨j, h1, h2⟩ := ih (by omega)
    rcases b.cross q j r h2 e with h3 | ⟨i, h3, h4⟩ | ⟨_, h3⟩ | ⟨h3, _⟩
    · exact h3.elim
    · exact ⟨i, by omega, h4⟩
    · cases h3
    · omega
/-- the next round -/
theorem BF.next (b : BF E0 E1 q0 fd [] later c exN) : BF E0 E1 q0 fd later [] (c + 1) exN where
  nd := b.nd
  real := fun q k h => ⟨(b.real q k h).1, Nat.le_succ_of_le (b.real q k h).2⟩
  least := b.least
  low := fun q k h hk => b.full h (by omega)
  free := fun q k r h e => by
    rcases b.free q k r h e with h3 | h3 | ⟨_, h3⟩
    · exact h3.elim
    · exact .inr (.inl h3)
    · cases h3
  cross := fun q k r h e => by
    rcases b.cross q k r h e with h3 | h3 | ⟨_, h3⟩ | ⟨h3, h4⟩
    · exact h3.elim
    · exact .inr (.inl h3)
    · cases h3
    · exact .inr (.inr (.inl ⟨by omega, h4⟩))
  start := by
    rcases b.start with h | ⟨_, h⟩
    · exact .inl h
    · cases h
  now := b.later
  later := fun _ h => nomatch h
/-- nothing is left at all -/
theorem BF.allF (b : BF E0 E1 q0 fd [] [] c exN) {q : Q} {k : Nat} (h : Rk E0 E1 q0 q k) : ∃ j, j ≤ k ∧ (q, j) ∈ fd := by
  induction h with
  | nil =>
    rcases b.start with h | ⟨_, h⟩
    · exact ⟨0, Nat.le_refl _, h⟩
    · cases h
  | @free q r k _ e ih =>
    obtain ⟨j, h1, h2⟩ := ih
    rcases b.free q j r h2 e with h3 | ⟨i, h3, h4⟩ | ⟨_, h3⟩
    · exact h3.elim
    · exact ⟨i, by omega, h4⟩
    · cases h3
  | @cross q r k _ e ih =>
    obtain ⟨j, h1, h2⟩ := ih
    rcases b.cross q j r h2 e with h3 | ⟨i, h3, h4⟩ | ⟨_, h3⟩ | ⟨_, h3⟩
    · exact h3.elim
    · exact ⟨i, by omega, h4⟩
    · cases h3
    · cases h3
end
end Gr
/-! A search with two sides. Plain Lean. -/
namespace Gr
section
variable {α : Type} [DecidableEq α]
/-- a colour that changes along every pair that is reached -/
def ColC (ps : List (α × α)) (s : α) (c : α → Bool) : Prop := ∀ q ∈ ps, Conn ps s q.1 → c q.1 ≠ c q.2
variable {ps : List (α × α)} {s x y : α} {sd : List (α × Nat)} {wt wt' : List α} {ex ex' : α → α → Prop} {d : Nat} {fl : Bool}
theorem ColC.adj {c : α → Bool} (h : ColC ps s c) (k : Conn ps s x) (a : Adj ps x y) : c y = !c x := by
  rcases a with a | a
  · have := h _ a k
    simp at this
    cases e1 : c x <;> cases e2 : c y <;> simp [e1, e2] at this ⊢
  · have := h _ a (k.step (.inr a))
    simp at this
    cases e1 : c x <;> cases e2 : c y <;> simp [e1, e2] at this ⊢
/-- sides are given to the rooms that are reached; those of wt are to be looked at, ex are steps that are not looked at yet -/
structure DF (ps : List (α × α)) (s : α) (sd : List (α × Nat)) (wt : List α) (ex : α → α → Prop) (fl : Bool) : Prop where
  nd : (sd.map (·.1)).Nodup
  start : (s, 0) ∈ sd
  val : ∀ x d, (x, d) ∈ sd → d ≤ 1
  conn : ∀ x d, (x, d) ∈ sd → Conn ps s x
  frc : ∀ x d c, (x, d) ∈ sd → ColC ps s c → c x = if d = 0 then c s else !c s
  wsub : ∀ x ∈ wt, x ∈ sd.map (·.1)
  wnd : wt.Nodup
  done : ∀ x d y, (x, d) ∈ sd → Adj ps x y → x ∈ wt ∨ ex x y ∨ ∃ e, (y, e) ∈ sd ∧ (fl = true → d ≠ e)
  odd : fl = false → ∀ c, ¬ ColC ps s c
theorem df_one (nd : (sd.map (·.1)).Nodup) {d e : Nat} (h : (x, d) ∈ sd) (h' : (x, e) ∈ sd) : d = e := by
  obtain ⟨i, hi⟩ := mem_get h
  obtain ⟨j, hj⟩ := mem_get h'
  have ei : (sd.map (·.1))[i]? = some x := by rw [List.getElem?_map, hi]; rfl
  have ej : (sd.map (·.1))[j]? = some x := by rw [List.getElem?_map, hj]; rfl
  obtain ⟨li, gi⟩ := List.getElem?_eq_some_iff.mp ei
  obtain ⟨lj, gj⟩ := List.getElem?_eq_some_iff.mp ej
  have eij : i = j := (List.getElem_inj nd).mp (gi.trans gj.symm)
  rw [eij, hj] at hi
  cases hi
  rfl
theorem DF.begin : DF ps s [(s, 0)] [s] (fun _ _ => False) true where
  nd := by simp
  start := List.mem_cons_self
  val := fun x d h => by
    simp at h
    omega
  conn := fun x d h => by
    simp at h
    rw [h.1]
    exact .refl
  frc := fun x d c h _ => by
    simp at h
    rw [h.1, h.2]
    rfl
  wsub := fun x h => by simpa using h
  wnd := by simp
  done := fun x d y h _ => by
    simp at h
    exact .inl (by simp [h.1])
  odd := fun h => nomatch h
theorem DF.pop (D : DF ps s sd (wt ++ [x]) (fun _ _ => False) fl) : DF ps s sd wt (fun a _ => a = x) fl :=
  { D with
    wsub := fun y hy => D.wsub y (List.mem_append_left _ hy)
    wnd := (List.nodup_append.mp D.wnd).1
    done := fun a d b h ad => by
      rcases D.done a d b h ad with h1 | h1 | h1
      · rcases List.mem_append.mp h1 with h1 | h1
        · exact .inl h1
        · exact .inr (.inl (List.mem_singleton.mp h1))
      · exact h1.elim
      · exact .inr (.inr h1) }
theorem DF.less (D : DF ps s sd wt ex fl) (h : ∀ a b, Adj ps a b → ex a b → ex' a b) : DF ps s sd wt ex' fl :=
  { D with
    done := fun a d b h1 ad => by
      rcases D.done a d b h1 ad with h2 | h2 | h2
      · exact .inl h2
      · exact .inr (.inl (h a b ad h2))
      · exact .inr (.inr h2) }
/-- y has its side already -/
theorem DF.see (D : DF ps s sd wt ex fl) {e : Nat} (hx : (x, d) ∈ sd) (hy : (y, e) ∈ sd) (ad : Adj ps x y) (h : ∀ a b, Adj ps a b → ex a b → ex' a b ∨ (a = x ∧ b = y)) : DF ps s sd wt ex' (fl && decide (e ≠ d)) :=
  { D with
    done := fun a f b h1 ad' => by
      rcases D.done a f b h1 ad' with h2 | h2 | ⟨g, h2, h3⟩
      · exact .inl h2
      · rcases h a b ad' h2 with h3 | ⟨h3, h4⟩
        · exact .inr (.inl h3)
        · subst h3 h4
          refine .inr (.inr ⟨e, hy, fun hf => ?_⟩)
          have := df_one D.nd hx h1
          simp at hf
          omega
      · exact .inr (.inr ⟨g, h2, fun hf => h3 (by simp at hf; exact hf.1)⟩)
    odd := fun hf c hc => by
      rw [Bool.and_eq_false_iff] at hf
      rcases hf with hf | hf
      · exact D.odd hf c hc
      · have e1 : e = d := by simpa using hf
        have h1 := D.frc _ _ c hx hc
        have h2 := D.frc _ _ c hy hc
        have h3 := hc.adj (D.conn _ _ hx) ad
        rw [e1] at h2
        rw [h1, h2] at h3
        cases hd : (if d = 0 then c s else !c s) <;> rw [hd] at h3 <;> cases h3 }
/-- y gets the other side -/
theorem DF.add (D : DF ps s sd wt ex fl) (hx : (x, d) ∈ sd) (hy : y ∉ sd.map (·.1)) (ad : Adj ps x y) (h : ∀ a b, Adj ps a b → ex a b → ex' a b ∨ (a = x ∧ b = y)) : DF ps s (sd ++ [(y, 1 - d)]) (wt ++ [y]) ex' fl where
  nd := by
    rw [List.map_append, List.nodup_append]
    refine ⟨D.nd, by simp, fun a ha z hz e => ?_⟩
    simp at hz
    rw [e, hz] at ha
    exact hy ha
  start := List.mem_append_left _ D.start
  val := fun a e h1 => by
    rcases List.mem_append.mp h1 with h1 | h1
    · exact D.val a e h1
    · simp at h1
      omega
  conn := fun a e h1 => by
    rcases List.mem_append.mp h1 with h1 | h1
    · exact D.conn a e h1
    · simp at h1
      rw [h1.1]
      exact (D.conn _ _ hx).step ad
  frc := fun a e c h1 hc => by
    rcases List.mem_append.mp h1 with h1 | h1
    · exact D.frc a e c h1 hc
    · simp at h1
      rw [h1.1, h1.2, hc.adj (D.conn _ _ hx) ad, D.frc _ _ c hx hc]
      have := D.val _ _ hx
      by_cases e0 : d = 0
      · rw [e0]
        rfl
      · have e1 : d = 1 := by omega
        rw [e1]
        simp
  wsub := fun a h1 => by
    rw [List.map_append]
    rcases List.mem_append.mp h1 with h1 | h1
    · exact List.mem_append_left _ (D.wsub a h1)
    · exact List.mem_append_right _ (by simpa using h1)
  wnd := by
    rw [List.nodup_append]
    refine ⟨D.wnd, by simp, fun a ha z hz e => ?_⟩
    simp at hz
    rw [e, hz] at ha
    exact hy (D.wsub _ ha)
  done := fun a f b h1 ad' => by
    rcases List.mem_append.mp h1 with k1 | k1
    · rcases D.done a f b k1 ad' with h2 | h2 | ⟨g, h2, h3⟩
      · exact .inl (List.mem_append_left _ h2)
      · rcases h a b ad' h2 with h3 | ⟨h3, h4⟩
        · exact .inr (.inl h3)
        · subst h3 h4
          refine .inr (.inr ⟨1 - d, List.mem_append_right _ List.mem_cons_self, fun _ => ?_⟩)
          have := df_one D.nd hx k1
          have := D.val _ _ hx
          omega
      · exact .inr (.inr ⟨g, List.mem_append_left _ h2, h3⟩)
    · simp at k1
      exact .inl (List.mem_append_right _ (by simp [k1.1]))
  odd := D.odd
theorem DF.all (D : DF ps s sd [] (fun _ _ => False) fl) : x ∈ sd.map (·.1) ↔ Conn ps s x := by
  constructor
  · intro h
    obtain ⟨⟨a, d⟩, h1, rfl⟩ := List.mem_map.mp h
    exact D.conn _ _ h1
  · intro h
    induction h with
    | refl => exact List.mem_map.mpr ⟨_, D.start, rfl⟩
    | step _ ad ih =>
      obtain ⟨⟨a, d⟩, h1, rfl⟩ := List.mem_map.mp ih
      rcases D.done _ _ _ h1 ad with h2 | h2 | ⟨g, h2, _⟩
      · cases h2
      · exact h2.elim
      · exact List.mem_map.mpr ⟨_, h2, rfl⟩
theorem DF.len (D : DF ps s sd wt ex fl) {rm : List α} (h : ∀ x, Conn ps s x → x ∈ rm) : sd.length ≤ rm.length ∧ wt.length ≤ rm.length := by
  have h1 := nodup_le D.nd fun x hx => by
    obtain ⟨⟨a, d⟩, h1, rfl⟩ := List.mem_map.mp hx
    exact h _ (D.conn _ _ h1)
  have h2 := nodup_le D.wnd D.wsub
  rw [List.length_map] at h1 h2
  omega
/-- the colour that the sides give -/
def sdC (sd : List (α × Nat)) (x : α) : Bool := decide ((x, 0) ∈ sd)
theorem DF.colour (D : DF ps s sd [] (fun _ _ => False) true) : ColC ps s (sdC sd) := fun q hq hc => by
  obtain ⟨⟨a, d⟩, h1, h0⟩ := List.mem_map.mp (D.all.mpr hc)
  have h0' : a = q.1 := h0
  subst h0'
  rcases D.done _ _ q.2 h1 (.inl hq) with h2 | h2 | ⟨e, h2, h3⟩
  · cases h2
  · exact h2.elim
  · have h4 := h3 rfl
    have v1 := D.val _ _ h1
    have v2 := D.val _ _ h2
    unfold sdC
    intro z
    have z' := decide_eq_decide.mp z
    by_cases e0 : d = 0
    · subst e0
      have h5 := df_one D.nd h2 (z'.mp h1)
      omega
    · have e1 : e = 0 := by omega
      subst e1
      have h5 := df_one D.nd h1 (z'.mpr h2)
      omega
end
end Gr
/-! _law_sides_due. -/
namespace Rd
open PySem PySem.Spec PyProof.Rows L2 Gr
theorem PrL.dp {K : PySem.W.Frag} {H : Hp} : ∀ {xs : List V} {ps : List (Str × Str)}, PrL H xs ps → DpAll K H xs (ps.map pD)
  | _, _, .nil => .nil
  | _, _, .cons ⟨u, e, h⟩ r => .cons (by rw [e]; exact pD_mk h.sq) (PrL.dp r)
theorem PrL.put {H : Hp} {D : Addr} {o : HO} {ys : List V} (hD : H D = some (.lst ys) ∨ H D = none) {xs : List V} {ps : List (Str × Str)} (h : PrL H xs ps) : PrL (upd H D o) xs ps := Paired.mapP h fun _ _ ⟨u, e, k⟩ => ⟨u, e, k.put fun z => by
  obtain ⟨ob, h1, _⟩ := k
  rw [z] at h1
  rcases hD with hD | hD
  · rw [hD] at h1
    cases h1
  · rw [hD] at h1
    cases h1⟩
theorem PrL.app {H : Hp} : ∀ {xs ys : List V} {ps qs : List (Str × Str)}, PrL H xs ps → PrL H ys qs → PrL H (xs ++ ys) (ps ++ qs)
  | _, _, _, _, .nil, b => b
  | _, _, _, _, .cons h a, b => .cons h (PrL.app a b)
theorem pairs_lay {ps : List (Str × Str)} (h : Nms ps) : ∀ d ∈ ps.map pD, d.canLay0 = true ∧ d.depth ≤ 60 := fun d hd => by
  obtain ⟨q, hq, rfl⟩ := List.mem_map.mp hd
  obtain ⟨h1, h2⟩ := h q hq
  exact ⟨by simp [pD, PyData.canLay0, PyData.canLayAll0, h1.ok, h2.ok], by simp [pD, PyData.depth, PyData.depthAll]⟩
theorem szD_get {sd : List (Str × Nat)} (nd : (sd.map (·.1)).Nodup) {x : Str} {d : Nat} (h : (x, d) ∈ sd) : valV (SzD sd) (Sum.inr x) = some (.int (d : Nat)) := by
  rw [szD_val, lookup_of nd h]
  rfl
theorem szD_no {sd : List (Str × Nat)} {x : Str} (h : x ∉ sd.map (·.1)) : valV (SzD sd) (Sum.inr x) = none := by
  rw [szD_val]
  have e := lookup_some (szs := sd) (x := x)
  rw [decide_eq_false h] at e
  cases q : sd.lookup x with
  | none => rfl
  | some n =>
    rw [q] at e
    cases e
theorem szD_put {sd : List (Str × Nat)} {x : Str} {d : Nat} (h : x ∉ sd.map (·.1)) : putK (SzD sd) (Sum.inr x) (.int (d : Nat)) = SzD (sd ++ [(x, d)]) := by
  rw [putK_new _ (szD_no h)]
  unfold SzD
  rw [List.map_append]
  rfl
/-- what is told of two sides -/
def SdV (ps : List (Str × Str)) (v : V) : Prop := (v = .non ∧ ∀ c, ¬ Col ps c) ∨ ∃ a c, v = .ref a ∧ Col ps c
def spSD : Sp := fun vs H Q _ => ∃ (p d l : Addr) (szs : List (Str × Nat)) (ps : List (Str × Str)), vs = [.ref p] ∧ PlAt H p d l szs ps ∧ BOk szs ps ∧ ∀ H' v, Same H H' → SdV ps v → Q v H'
theorem col_colC {ps : List (Str × Str)} {s : Str} {c : Str → Bool} (h : Col ps c) : ColC ps s c := fun q hq _ => h q hq
-- slots of _law_sides_due: 0 _law_plan 1 _law_rooms 2 _law_side* 3 _law_waiting 4 _law_room 5 _law_other 6 _law_alike 7 _law_two
theorem sc_z_sides_due : FnScope ["_law_plan", "_law_rooms", "_law_side", "_law_waiting", "_law_room", "_law_other", "_law_alike", "_law_two"] ["_law_plan"] (defScope s_z_sides_due) := ⟨rfl, rfl, rfl, by decide +kernel, rfl, by decide +kernel, by decide +kernel⟩
section
variable {P : Program} {w : World} {K : PySem.W.Frag} {mg : Str → Option Value} {base : Heap}
theorem ca_z_sides_due (T : Wd K mg base) : Ca P w K mg base 2 "_law_sides_due" spSD [] := by
  obtain ⟨fd, F⟩ := T.L.F_z_sides_due
  refine ca_of F T.g__law_sides_due (F.binds (ps := ["_law_plan"]) fun _ _ _ _ _ _ us hl => match us, hl with | [_], _ => rfl) sc_z_sides_due (fun vs H Q E ⟨_, _, _, _, _, e, _⟩ => by rw [e]; rfl) ?_
  rintro cdv A outer s0 H vs Q E hr ⟨p, d, l, szs, ps, rfl, hp, O, k⟩
  refine ⟨_, (pss_cons (ps_set (i := 1) sc_z_sides_due.nd rfl (Or.inl rfl) (pe_callB (call_sortedD rfl) (by rfl) T.f_sorted (by decide +kernel) (pa_cons (pe_ix ix_tup (pv 0) pe_int (fun _ _ => rfl)) pa_nil))) (pss_cons (ps_asg (pe_tup (pa_cons (pe_disp (pps_cons (pe_ix ix_list (pv 1) pe_int (fun _ _ => rfl)) pe_int pps_nil) (by rfl) (by rfl) (fun z => by cases z) (by decide)) (pa_cons (pe_lst (pa_cons (pe_ix ix_list (pv 1) pe_int (fun _ _ => rfl)) pa_nil)) pa_nil))) (pg_tup rfl (pgs_cons (pg_name (i := 2) sc_z_sides_due.nd rfl (Or.inr rfl)) (pgs_cons (pg_name (i := 3) sc_z_sides_due.nd rfl (Or.inl rfl)) pgs_nil)))) (pss_cons (ps_while PassesOwn.never (pt_cmpR (op_neD hr.units) (pv 3) (pe_lst pa_nil) (by rfl)) (pss_cons (ps_set (i := 4) sc_z_sides_due.nd rfl (Or.inl rfl) (pe_bm0 PySem.F.plainAttrs_list PySem.F.slot_list_pop PySem.F.type_list_pop mt_pop (pv 3))) (pss_one (ps_for PassesOwn.never rfl (pi_list (pe_ca (ca_z_near T) hr (by decide) rfl (pa_cons (pv 0) (pa_cons (pv 4) pa_nil)))) (pg_name (i := 5) sc_z_sides_due.nd rfl (Or.inl rfl)) (pss_one (ps_if (pt_cmp (pc_dnotin (hu_of hr) (pv 5) (pv 2))) (pss_cons (ps_dput (hu_of hr) (pv 2) (pv 5) (pe_op op_sub pe_int (pe_dget (hu_of hr) (pv 2) (pv 4) (fun _ _ => rfl))) rfl) (pss_one (ps_expr (pe_bm PySem.F.plainAttrs_list PySem.F.slot_list_append PySem.F.type_list_append mt_append (pv 3) (pa_cons (pv 5) pa_nil))))) pss_nil)))))) (pss_cons (ps_setLc (i := 6) (own := [("_law_two", 7)]) (g := gName 7) rfl sc_z_sides_due.nd rfl rfl (sw_true rfl rfl rfl (by decide +kernel)) (pi_list (pe_ix ix_tup (pv 0) pe_int (fun _ _ => rfl))) (blkOk_by (own := [("_law_two", 7)]) (N := ["_law_plan", "_law_rooms", "_law_side", "_law_waiting", "_law_room", "_law_other", "_law_alike", "_law_two"]) (sc := defScope s_z_sides_due) (by decide +kernel)) (fun _ _ _ _ _ => (pg_name (i := 7) sc_z_sides_due.nd rfl (Or.inl rfl))) (fun _ _ _ _ _ => (pts_one (pt_cmpR op_eq (pe_dget (hu_of hr) (pv 2) (pe_ix (r := rIxT K) ix_tup (pv 7) pe_int (fun _ _ => rfl)) (fun _ _ => rfl)) (pe_dget (hu_of hr) (pv 2) (pe_ix (r := rIxT K) ix_tup (pv 7) pe_int (fun _ _ => rfl)) (fun _ _ => rfl)) (by rfl)))) (fun _ _ _ _ _ => (pv 7))) (pss_one (ps_ret (pe_ifExp (pt_cmpR (op_neD hr.units) (pv 6) (pe_lst pa_nil) (by rfl)) pe_non (pv 2)))))))), ?_⟩
  obtain ⟨xs, hl, hxs⟩ := hp.l
  refine ⟨_, rfl, p, _, (0 : Int), .ref d, rfl, rfl, SqT.of hp.t, rfl, d, SzD szs, szs.map (·.1), rfl, .of hp.d, szD_keys szs, by have := O.few; rw [List.length_map]; omega, fun ys r hperm hsort hr1 => ?_⟩
  obtain ⟨s, ys', rfl⟩ : ∃ s ys', ys = s :: ys' := by
    cases ys with
    | nil =>
      have h1 := hperm.length_eq
      have h2 := O.ne
      cases szs with
      | nil => exact absurd rfl h2
      | cons a b => cases h1
    | cons s ys' => exact ⟨s, ys', rfl⟩
  have hs : s ∈ szs.map (·.1) := hperm.mem_iff.mp List.mem_cons_self
  intro a ha
  have s1 : Same H (upd H r (.lst ((s :: ys').map V.str))) := sm_new hr1
  have nra : r ≠ a := ne_of_none upd_same ha
  refine ⟨_, rfl, r, _, (0 : Int), .str s, rfl, rfl, SqL.of (by rw [upd_ne nra, upd_same]), atI_nat (j := 0) rfl, upd_same, [(Sum.inr s, .int 0)], rfl, Nat.le_of_ble_eq_true rfl, ?_⟩
  refine ⟨_, rfl, r, _, (0 : Int), .str s, rfl, rfl, SqL.of (by rw [upd_ne nra, upd_ne nra, upd_same]), atI_nat (j := 0) rfl, Nat.le_of_ble_eq_true rfl, fun wl hw => ?_⟩
  have naw : a ≠ wl := ne_of_none upd_same hw
  refine ⟨Nat.le_of_ble_eq_true rfl, fun t ht => ?_⟩
  have nat : a ≠ t := ne_of_none (by rw [upd_ne naw, upd_same]) ht
  have nwt : wl ≠ t := ne_of_none upd_same ht
  refine ⟨t, _, rfl, SqT.of upd_same, rfl, _, _, rfl, _, _, rfl, rfl, ?_⟩
  have ha0 : H a = none := by
    rw [upd_ne nra.symm] at ha
    exact ha
  have hw0 : H wl = none := by
    rw [upd_ne naw.symm, upd_ne naw.symm] at hw
    by_cases e : wl = r
    · rw [e]
      exact hr1
    · rw [upd_ne e] at hw
      exact hw
  have ss1 : Same H (upd (upd (upd (upd (upd H r (.lst ((s :: ys').map V.str))) a (.dK [])) a (.dK (SzD [(s, 0)]))) wl (.lst ([s].map V.str))) t (.tup [.ref a, .ref wl])) := ((((s1.new ha).put ha0).new hw).new ht)
  refine while_by (fun σ H' => ∃ (sd : List (Str × Nat)) (wt : List Str) (z4 z5 : Option V) (fl : Bool), σ = [some (.ref p), some (.ref r), some (.ref a), some (.ref wl), z4, z5, none, none] ∧ DF ps s sd wt (fun _ _ => False) fl ∧
      H' a = some (.dK (SzD sd)) ∧ H' wl = some (.lst (wt.map V.str)) ∧ Same H H')
    (fun σ H' => match H' a, H' wl with | some (.dK kvs), some (.lst ws) => 2 * szs.length - 2 * kvs.length + ws.length | _, _ => 0) ?_ ?_ (mono_test mono_var (fun σ H Q Q' h t => ⟨t.1, fun p hp => h _ _ (t.2 p hp)⟩) (fun x y H Q Q' h ⟨d, e, a1, a2, a3, a4, q⟩ => ⟨d, e, a1, a2, a3, a4, h _ _ q⟩))
  · exact ⟨[(s, 0)], [s], none, none, true, rfl, .begin, by rw [upd_ne nat, upd_ne naw, upd_same]; rfl, by rw [upd_ne nwt, upd_same]; rfl, ss1⟩
  rintro σ H' ⟨sd, wt, z4, z5, fl, rfl, D, ea, ew, ss⟩
  have rmc : ∀ x, Conn ps s x → x ∈ szs.map (·.1) := fun x h => by
    induction h with
    | refl => exact hs
    | step _ ad ih => exact ad.elim (fun h => (O.ends _ h).2) fun h => (O.ends _ h).1
  have dl := D.len rmc
  rw [List.length_map] at dl
  have few := O.few
  have wnm : ∀ x ∈ wt, Nm x := fun x hx => O.nmR (by
    obtain ⟨⟨y, e⟩, h1, rfl⟩ := List.mem_map.mp (D.wsub x hx)
    exact rmc _ (D.conn _ _ h1))
  refine ⟨_, rfl, Nat.le_of_ble_eq_true rfl, fun e he => ?_⟩
  have sE : Same H' (upd H' e (.lst [])) := sm_new he
  refine ne_nil (SqL.of (sE _ _ ew)) (dpS K _ wt) (strs_lay wnm) (SqL.of upd_same) ⟨_, rfl, ?_⟩
  rcases List.eq_nil_or_concat wt with hwt | ⟨wt', x, hwt⟩
  · -- the sides are given
    subst hwt
    refine iteF ?_
    have hl' := ss.trans sE
    refine ⟨_, rfl, p, _, (1 : Int), .ref l, rfl, rfl, SqT.of (hl' _ _ hp.t), rfl, l, rfl, ⟨xs, SqL.of (hl' _ _ hl)⟩, fun L hL => lc_list (K := K) (a := l) (xs := xs) (fun i H2 => ∃ (vs : List V) (al : List (Str × Str)), H2 L = some (.lst vs) ∧ PrL H2 vs al ∧ vs.length ≤ i ∧ (∀ q ∈ al, q ∈ ps ∧ ∃ f, (q.1, f) ∈ sd ∧ (q.2, f) ∈ sd) ∧ (∀ q ∈ ps.take i, ∀ f, (q.1, f) ∈ sd → (q.2, f) ∈ sd → q ∈ al) ∧ Same (upd H' e (.lst [])) H2)
      ⟨[], [], upd_same, .nil, Nat.le_refl _, (fun q h => nomatch h), (fun q h => nomatch h), sm_new hL⟩ (fun i H2 _ ⟨_, _, _, _, _, _, _, h⟩ => SqL.of ((hl'.trans h) _ _ hl)) ?_ ?_⟩
    · rintro i v H2 hi ⟨vs, al, g1, g2, g3, g4, g5, s2⟩
      have sH2 := hl'.trans s2
      obtain ⟨q, u, hq, rfl, hu⟩ := hxs.get hi
      have hip := (List.getElem?_eq_some_iff.mp hq).1
      have h31 := O.fewP
      have hqm := List.mem_of_getElem? hq
      have hu' := hu.same sH2
      obtain ⟨f1, m1⟩ : ∃ f1, (q.1, f1) ∈ sd := by
        obtain ⟨⟨y, f⟩, h1, e1⟩ := List.mem_map.mp (D.all.mpr (O.cn s hs q.1 (O.ends q hqm).1))
        cases e1
        exact ⟨f, h1⟩
      obtain ⟨f2, m2⟩ : ∃ f2, (q.2, f2) ∈ sd := by
        obtain ⟨⟨y, f⟩, h1, e1⟩ := List.mem_map.mp (D.all.mpr (O.cn s hs q.2 (O.ends q hqm).2))
        cases e1
        exact ⟨f, h1⟩
      have ea2 := (sE.trans s2) _ _ ea
      refine ⟨rfl, _, rfl, _, rfl, u, _, (0 : Int), .str q.1, rfl, rfl, hu'.sq, rfl, a, _, rfl, .inl ⟨_, Sum.inr q.1, .inl ea2, rfl, (szD_get D.nd m1).symm⟩, _, rfl, _, rfl, u, _, (1 : Int), .str q.2, rfl, rfl, hu'.sq, rfl, a, _, rfl, .inl ⟨_, Sum.inr q.2, .inl ea2, rfl, (szD_get D.nd m2).symm⟩, rfl, _, rfl, ?_⟩
      by_cases ef : f1 = f2
      · subst ef
        rw [decide_eq_true rfl]
        refine iteT ⟨_, rfl, _, g1, by rw [sizeLine_eq]; omega, vs ++ [.ref u], al ++ [q], upd_same, (g2.put (.inl g1)).app (PrL.put (.inl g1) (.cons ⟨u, rfl, hu'⟩ .nil)), by rw [List.length_append]; show vs.length + 1 ≤ i + 1; omega, fun z hz => ?_, fun z hz f => ?_, s2.put hL⟩
        · rcases List.mem_append.mp hz with hz | hz
          · exact g4 z hz
          · rw [List.mem_singleton.mp hz]
            exact ⟨hqm, f1, m1, m2⟩
        · rw [take_snoc hq] at hz
          rcases List.mem_append.mp hz with hz | hz
          · exact fun h1 h2 => List.mem_append_left _ (g5 z hz f h1 h2)
          · exact fun _ _ => List.mem_append_right _ hz
      · rw [decide_eq_false fun z => ef (by have := V.int.inj z; omega)]
        refine iteF ⟨vs, al, g1, g2, by omega, g4, fun z hz f h1 h2 => ?_, s2⟩
        rw [take_snoc hq] at hz
        rcases List.mem_append.mp hz with hz | hz
        · exact g5 z hz f h1 h2
        · rw [List.mem_singleton.mp hz] at h1 h2
          exact absurd ((df_one D.nd m1 h1).trans (df_one D.nd m2 h2).symm) ef
    rintro H2 ⟨vs, al, g1, g2, g3, g4, g5, s2⟩
    rw [hxs.len, List.take_length] at g5
    refine ⟨_, rfl, Nat.le_of_ble_eq_true rfl, fun e2 he2 => ?_⟩
    have s3 : Same H2 (upd H2 e2 (.lst [])) := sm_new he2
    refine ne_nil (SqL.of (s3 _ _ g1)) (g2.same s3).dp (pairs_lay fun q hq => O.nms q (g4 q hq).1) (SqL.of upd_same) ⟨_, rfl, ?_⟩
    have sF := hl'.trans (s2.trans s3)
    cases al with
    | nil =>
      refine iteF ⟨_, rfl, k _ _ sF (.inr ⟨a, sdC sd, rfl, fun q hq => ?_⟩)⟩
      obtain ⟨⟨y, f1⟩, m1, e1⟩ := List.mem_map.mp (D.all.mpr (O.cn s hs q.1 (O.ends q hq).1))
      obtain ⟨⟨y', f2⟩, m2, e2'⟩ := List.mem_map.mp (D.all.mpr (O.cn s hs q.2 (O.ends q hq).2))
      cases e1
      cases e2'
      have v1 := D.val _ _ m1
      have v2 := D.val _ _ m2
      have hne : f1 ≠ f2 := fun ef => by
        subst ef
        cases g5 q hq f1 m1 m2
      unfold sdC
      intro z
      have z' := decide_eq_decide.mp z
      by_cases e0 : f1 = 0
      · subst e0
        have := df_one D.nd m2 (z'.mp m1)
        omega
      · have e1 : f2 = 0 := by omega
        subst e1
        have := df_one D.nd m1 (z'.mpr m2)
        omega
    | cons q al' =>
      refine iteT (k _ _ sF (.inl ⟨rfl, fun c hc => ?_⟩))
      obtain ⟨h1, f, m1, m2⟩ := g4 q List.mem_cons_self
      exact hc q h1 ((D.frc _ _ c m1 (col_colC hc)).trans (D.frc _ _ c m2 (col_colC hc)).symm)
  · -- one more room
    rw [List.concat_eq_append] at hwt
    subst hwt
    have e1 : (!((wt' ++ [x]).map PyData.str).isEmpty) = true := by cases wt' <;> rfl
    rw [e1]
    have ew' := sE _ _ ew
    refine iteT ⟨_, rfl, .inl ⟨rfl, _, SqL.of ew'⟩, wl, _, .str x, rfl, rfl, ew', ?_, ?_⟩
    · rw [List.length_map, List.length_append, List.length_singleton, List.getElem?_map, Nat.add_sub_cancel, List.getElem?_append_right (Nat.le_refl _), Nat.sub_self]
      rfl
    have hdl : ((wt' ++ [x]).map V.str).dropLast = wt'.map V.str := by rw [List.map_append]; exact List.dropLast_concat
    rw [hdl]
    obtain ⟨⟨x', dx⟩, hx, ex⟩ := List.mem_map.mp (D.wsub x (List.mem_append_right _ List.mem_cons_self))
    cases ex
    have s2 : Same H (upd (upd H' e (.lst [])) wl (.lst (wt'.map V.str))) := (ss.trans sE).put hw0
    refine ⟨_, rfl, _, rfl, p, d, l, x', szs, ps, rfl, hp.same s2, O.fewP, fun H2 u ns s3 hu hu0 hns hnl => ?_⟩
    have sH2 := s2.trans s3
    have nwa : a ≠ wl := naw
    have ea2 : H2 a = some (.dK (SzD sd)) := s3 _ _ (by rw [upd_ne naw]; exact sE _ _ ea)
    have ew2 : H2 wl = some (.lst (wt'.map V.str)) := s3 _ _ upd_same
    have nua : u ≠ a := (ne_of_none (by rw [upd_ne naw]; exact sE _ _ ea) hu0).symm
    have nuw : u ≠ wl := (ne_of_none upd_same hu0).symm
    refine ⟨u, rfl, ⟨_, SqL.of hu⟩, for_list (K := K) (a := u) (xs := ns.map V.str) (fun m σ H3 => ∃ (sd2 : List (Str × Nat)) (wt2 : List Str) (z5 : Option V) (fl : Bool), σ = [some (.ref p), some (.ref r), some (.ref a), some (.ref wl), some (.str x'), z5, none, none] ∧
        DF ps s sd2 wt2 (fun c b => c = x' ∧ b ∉ ns.take m) fl ∧ (x', dx) ∈ sd2 ∧ H3 a = some (.dK (SzD sd2)) ∧ H3 wl = some (.lst (wt2.map V.str)) ∧ H3 u = some (.lst (ns.map V.str)) ∧ 2 * szs.length - 2 * sd2.length + wt2.length < 2 * szs.length - 2 * sd.length + (wt' ++ [x']).length ∧ Same H H3) ?_ (fun m σ H3 _ ⟨_, _, _, _, _, _, _, _, _, h, _⟩ => SqL.of h) ?_ ?_⟩
    · exact ⟨sd, wt', z5, fl, rfl, D.pop.less fun c b _ h => ⟨h, by simp⟩, hx, ea2, ew2, hu, by rw [List.length_append, List.length_singleton]; omega, sH2⟩
    · rintro m v σ H3 hm ⟨sd2, wt2, z5', fl2, rfl, D2, hx2, ga, gw, gu, gm, s4⟩
      obtain ⟨y, hy, rfl⟩ := map_get hm
      have hadj : Adj ps x' y := (hns y).mp (List.mem_of_getElem? hy)
      have shr : ∀ c b, Adj ps c b → (c = x' ∧ b ∉ ns.take m) → (c = x' ∧ b ∉ ns.take (m + 1)) ∨ (c = x' ∧ b = y) := fun c b _ h => by
        by_cases eb : b = y
        · exact .inr ⟨h.1, eb⟩
        · refine .inl ⟨h.1, fun z => ?_⟩
          rw [take_snoc hy] at z
          rcases List.mem_append.mp z with z | z
          · exact h.2 z
          · exact eb (List.mem_singleton.mp z)
      refine ⟨_, rfl, _, rfl, a, _, rfl, DGet.k (k := Sum.inr y) ga, _, rfl, ?_⟩
      by_cases hseen : y ∈ sd2.map (·.1)
      · obtain ⟨⟨y', f⟩, h1, h2⟩ := List.mem_map.mp hseen
        cases h2
        rw [szD_get D2.nd h1]
        exact iteF ⟨sd2, wt2, _, _, rfl, D2.see hx2 h1 hadj shr, hx2, ga, gw, gu, gm, s4⟩
      · rw [szD_no hseen]
        have D3 := D2.add hx2 hseen hadj shr
        have dl3 := D3.len rmc
        rw [List.length_map, List.length_append, List.length_append, List.length_singleton, List.length_singleton] at dl3
        have vx := D2.val _ _ hx2
        have ev : (V.int ((1 : Int) - (dx : Nat))) = V.int ((1 - dx : Nat) : Int) := by
          congr 1
          omega
        have dp := DPut.k (k := Sum.inr y) (v := V.int ((1 : Int) - (dx : Nat))) ga (by unfold SzD; rw [List.length_map, sizeLine_eq]; omega)
        rw [ev, szD_put hseen, ← ev] at dp
        refine iteT ⟨_, rfl, _, rfl, a, _, rfl, .inl ⟨_, Sum.inr x', .inl ga, rfl, (szD_get D2.nd hx2).symm⟩, _, _, rfl, rfl, _, rfl, _, rfl, a, _, rfl, dp, ?_⟩
        have gw' : (upd H3 a (.dK (SzD (sd2 ++ [(y, 1 - dx)])))) wl = some (.lst (wt2.map V.str)) := by rw [upd_ne naw.symm]; exact gw
        refine ⟨_, rfl, .inl ⟨rfl, _, SqL.of gw'⟩, _, rfl, wl, _, _, rfl, rfl, gw', by rw [List.length_map, sizeLine_eq]; omega, sd2 ++ [(y, 1 - dx)], wt2 ++ [y], _, fl2, rfl, D3, List.mem_append_left _ hx2, by rw [upd_ne naw, upd_same], by rw [upd_same, List.map_append]; rfl, by rw [upd_ne nuw, upd_ne nua]; exact gu, ?_, (s4.put ha0).put hw0⟩
        rw [List.length_append, List.length_append, List.length_singleton, List.length_singleton]
        omega
    · rintro σ H3 ⟨sd2, wt2, z5', fl2, rfl, D2, hx2, ga, gw, gu, gm, s4⟩
      rw [List.length_map, List.take_length] at D2
      refine ⟨⟨sd2, wt2, _, _, fl2, rfl, D2.less fun c b ad h => h.2 ((hns b).mpr (by rw [← h.1]; exact ad)), ga, gw, s4⟩, ?_⟩
      show (match H3 a, H3 wl with | some (.dK kvs), some (.lst ws) => 2 * szs.length - 2 * kvs.length + ws.length | _, _ => 0) < (match H' a, H' wl with | some (.dK kvs), some (.lst ws) => 2 * szs.length - 2 * kvs.length + ws.length | _, _ => 0)
      rw [ga, gw, ea, ew]
      show 2 * szs.length - 2 * (SzD sd2).length + (wt2.map V.str).length < 2 * szs.length - 2 * (SzD sd).length + ((wt' ++ [x']).map V.str).length
      unfold SzD
      rw [List.length_map, List.length_map, List.length_map, List.length_map]
      exact gm
end
end Rd
/-! _law_bank_gcd. -/
namespace Rd
open PySem PySem.Spec PyProof.Rows L2 Gr
theorem and_via {fl r : Bool} {tb : TE} {σ : L2.St} {H : Hp} {Q : VK} (h1 : fl = true → ∀ Q' : VK, Q' (.bl r) H → tb σ H Q') (h2 : Q (.bl (fl && r)) H) : if fl = true then tb σ H Q else Q (.bl false) H := by
  cases fl with
  | true => exact iteT (h1 rfl Q h2)
  | false => exact iteF h2
/-- what is told of the bank of a bridge at a room -/
def BkV (szs : List (Str × Nat)) (ps : List (Str × Str)) (two : Str × Str) (room : Str) (v : V) : Prop := (v = .non ∧ Conn (keptP ps two) two.1 two.2) ∨
  ∃ (g : Nat) (rs : List Str), v = .int (g : Nat) ∧ ¬ Conn (keptP ps two) two.1 two.2 ∧ rs.Nodup ∧ (∀ z, z ∈ rs ↔ Conn (keptP ps two) room z) ∧ BG szs ps rs g ∧ 1 ≤ g ∧ g ≤ 1000000
def spBkG (K : PySem.W.Frag) : Sp := fun vs H Q _ => ∃ (p d l t2 : Addr) (room : Str) (szs : List (Str × Nat)) (ps : List (Str × Str)) (two : Str × Str), vs = [.ref p, .str room, .ref t2] ∧ PlAt H p d l szs ps ∧ BOk szs ps ∧ SqT K H t2 ([two.1, two.2].map V.str) ∧ two ∈ ps ∧ (room = two.1 ∨ room = two.2) ∧
  ∀ H' v, Same H H' → BkV szs ps two room v → Q v H'
theorem adj_iff {qs : List (Str × Str)} (ord : ∀ q ∈ qs, ltS q.1 q.2 = true) {x y : Str} : Adj qs x y ↔ pairS x y ∈ qs := by
  constructor
  · rintro (h | h)
    · have e : ltS x y = true := ord _ h
      unfold pairS
      rw [e]
      exact h
    · have e : ltS x y = false := ltS_asym (ord _ h)
      unfold pairS
      rw [e]
      exact h
  · intro h
    unfold pairS at h
    split at h
    · exact .inl h
    · exact .inr h
theorem kept_ord {szs : List (Str × Nat)} {ps : List (Str × Str)} (O : BOk szs ps) {two : Str × Str} : ∀ q ∈ keptP ps two, ltS q.1 q.2 = true := fun q hq => O.ord q (List.mem_filter.mp hq).1
-- slots of _law_bank_gcd: 0 _law_plan* 1 _law_room 2 _law_two 3 _law_side 4 _law_waiting 5 _law_is_even 6 _law_here 7 _law_other
theorem sc_z_bank_gcd : FnScope ["_law_plan", "_law_room", "_law_two", "_law_side", "_law_waiting", "_law_is_even", "_law_here", "_law_other"] ["_law_plan", "_law_room", "_law_two"] (defScope s_z_bank_gcd) := ⟨rfl, rfl, rfl, by decide +kernel, rfl, by decide +kernel, by decide +kernel⟩
section
variable {P : Program} {w : World} {K : PySem.W.Frag} {mg : Str → Option Value} {base : Heap}
theorem ca_z_bank_gcd (T : Wd K mg base) : Ca P w K mg base 3 "_law_bank_gcd" (spBkG K) [] := by
  obtain ⟨fd, F⟩ := T.L.F_z_bank_gcd
  refine ca_of F T.g__law_bank_gcd (F.binds (ps := ["_law_plan", "_law_room", "_law_two"]) fun _ _ _ _ _ _ us hl => match us, hl with | [_, _, _], _ => rfl) sc_z_bank_gcd (fun vs H Q E ⟨_, _, _, _, _, _, _, _, e, _⟩ => by rw [e]; rfl) ?_
  rintro cdv A outer s0 H vs Q E hr ⟨p, d, l, t2, s, szs, ps, two, rfl, hp, O, ht2, htwo, hroom, k⟩
  refine ⟨_, (pss_cons (ps_par (i := 3) (j := 4) (by rfl) sc_z_bank_gcd.nd rfl rfl (by decide) rfl rfl (pa_cons (pe_disp (pps_cons (pv 1) pe_int pps_nil) (by rfl) (by rfl) (fun z => by cases z) (by decide)) (pa_cons (pe_lst (pa_cons (pv 1) pa_nil)) pa_nil)) (by rfl)) (pss_cons (ps_set (i := 5) sc_z_bank_gcd.nd rfl (Or.inl rfl) pe_bl) (pss_cons (ps_while PassesOwn.never (pt_cmpR (op_neD hr.units) (pv 4) (pe_lst pa_nil) (by rfl)) (pss_cons (ps_set (i := 6) sc_z_bank_gcd.nd rfl (Or.inl rfl) (pe_bm0 PySem.F.plainAttrs_list PySem.F.slot_list_pop PySem.F.type_list_pop mt_pop (pv 4))) (pss_one (ps_for PassesOwn.never rfl (pi_list (pe_ca (ca_z_near T) hr (by decide) rfl (pa_cons (pv 0) (pa_cons (pv 6) pa_nil)))) (pg_name (i := 7) sc_z_bank_gcd.nd rfl (Or.inl rfl)) (pss_one (ps_if (pt_cmpR (op_neD hr.units) (pe_ca (ca_z_pair T) hr (by decide) rfl (pa_cons (pv 6) (pa_cons (pv 7) pa_nil))) (pv 2) (by rfl)) (pss_cons (ps_set (i := 5) sc_z_bank_gcd.nd rfl (Or.inl rfl) (pe_and (pv 5) (pe_one (pe_cmpR op_ne (pe_dget2 (hu_of hr) (pv 3) (pv 7) (pe_op op_sub pe_int (pe_dget (hu_of hr) (pv 3) (pv 6) (fun _ _ => rfl))) (by constructor <;> rfl)) (pe_dget (hu_of hr) (pv 3) (pv 6) (fun _ _ => rfl)) (by rfl))))) (pss_one (ps_if (pt_cmp (pc_dnotin (hu_of hr) (pv 7) (pv 3))) (pss_cons (ps_dput (hu_of hr) (pv 3) (pv 7) (pe_op op_sub pe_int (pe_dget (hu_of hr) (pv 3) (pv 6) (fun _ _ => rfl))) rfl) (pss_one (ps_expr (pe_bm PySem.F.plainAttrs_list PySem.F.slot_list_append PySem.F.type_list_append mt_append (pv 4) (pa_cons (pv 7) pa_nil))))) pss_nil))) pss_nil)))))) (pss_cons (ps_if (PW.pt (pw_and (pt_cmp (pc_din (hu_of hr) (pe_ix ix_tup (pv 2) pe_int (fun _ _ => rfl)) (pv 3))) (pw_and1 (pt_cmp (pc_din (hu_of hr) (pe_ix ix_tup (pv 2) pe_int (fun _ _ => rfl)) (pv 3)))))) (pss_one (ps_ret pe_non)) pss_nil) (pss_one (ps_ret (pe_ifExp (pt_val (pv 5)) (pe_ca (ca_z_gcd_all T) hr (by decide) rfl (pa_cons (pe_lock (pe_lc (own := [("_law_other", 7)]) (g := gName 7) rfl sc_z_bank_gcd.nd (pi_keys (pv 3)) (blkOk_by (own := [("_law_other", 7)]) (N := ["_law_plan", "_law_room", "_law_two", "_law_side", "_law_waiting", "_law_is_even", "_law_here", "_law_other"]) (sc := defScope s_z_bank_gcd) (by decide +kernel)) (fun _ _ _ _ _ => (pg_name (i := 7) sc_z_bank_gcd.nd rfl (Or.inl rfl))) (fun _ _ _ _ _ => pts_nil) (fun _ _ _ _ _ => (pe_dget (hu_of hr) (pe_ix (r := rIxT K) ix_tup (pv 0) pe_int (fun _ _ => rfl)) (pv 7) (fun _ _ => rfl))))) pa_nil)) pe_int))))))), ?_⟩
  have hs : s ∈ szs.map (·.1) := by
    rcases hroom with e | e
    · rw [e]
      exact (O.ends _ htwo).1
    · rw [e]
      exact (O.ends _ htwo).2
  have rmc : ∀ x, Conn (keptP ps two) s x → x ∈ szs.map (·.1) := fun x h => conn_rooms O hs h
  intro a ha
  refine ⟨_, rfl, upd_same, [(Sum.inr s, .int 0)], rfl, Nat.le_of_ble_eq_true rfl, ?_⟩
  refine ⟨_, rfl, Nat.le_of_ble_eq_true rfl, fun wl hw => ?_⟩
  have naw : a ≠ wl := ne_of_none upd_same hw
  have hw0 : H wl = none := by
    rw [upd_ne naw.symm, upd_ne naw.symm] at hw
    exact hw
  have ss1 : Same H (upd (upd (upd H a (.dK [])) a (.dK (SzD [(s, 0)]))) wl (.lst ([s].map V.str))) := ((sm_new ha).put ha).new hw
  refine ⟨_, _, rfl, ?_⟩
  refine while_by (fun σ H' => ∃ (sd : List (Str × Nat)) (wt : List Str) (z6 z7 : Option V) (fl : Bool), σ = [some (.ref p), some (.str s), some (.ref t2), some (.ref a), some (.ref wl), some (.bl fl), z6, z7] ∧ DF (keptP ps two) s sd wt (fun _ _ => False) fl ∧
      H' a = some (.dK (SzD sd)) ∧ H' wl = some (.lst (wt.map V.str)) ∧ Same H H')
    (fun σ H' => match H' a, H' wl with | some (.dK kvs), some (.lst ws) => 2 * szs.length - 2 * kvs.length + ws.length | _, _ => 0) ?_ ?_ (mono_test mono_var (fun σ H Q Q' h t => ⟨t.1, fun p hp => h _ _ (t.2 p hp)⟩) (fun x y H Q Q' h ⟨d, e, a1, a2, a3, a4, q⟩ => ⟨d, e, a1, a2, a3, a4, h _ _ q⟩))
  · exact ⟨[(s, 0)], [s], none, none, true, rfl, .begin, by rw [upd_ne naw, upd_same]; rfl, by rw [upd_same]; rfl, ss1⟩
  rintro σ H' ⟨sd, wt, z6, z7, fl, rfl, D, ea, ew, ss⟩
  have dl := D.len rmc
  rw [List.length_map] at dl
  have few := O.few
  have wnm : ∀ x ∈ wt, Nm x := fun x hx => O.nmR (by
    obtain ⟨⟨y, e⟩, h1, rfl⟩ := List.mem_map.mp (D.wsub x hx)
    exact rmc _ (D.conn _ _ h1))
  refine ⟨_, rfl, Nat.le_of_ble_eq_true rfl, fun e he => ?_⟩
  have sE : Same H' (upd H' e (.lst [])) := sm_new he
  refine ne_nil (SqL.of (sE _ _ ew)) (dpS K _ wt) (strs_lay wnm) (SqL.of upd_same) ⟨_, rfl, ?_⟩
  rcases List.eq_nil_or_concat wt with hwt | ⟨wt', x, hwt⟩
  · -- the bank is found
    subst hwt
    refine iteF ?_
    have hl' := ss.trans sE
    have ea2 := sE _ _ ea
    have mem : ∀ z, z ∈ sd.map (·.1) ↔ Conn (keptP ps two) s z := fun z => D.all
    have no_of : ¬ (two.1 ∈ sd.map (·.1) ∧ two.2 ∈ sd.map (·.1)) → ¬ Conn (keptP ps two) two.1 two.2 := fun h c => h (by
      rcases hroom with e | e
      · subst e
        exact ⟨(mem _).mpr .refl, (mem _).mpr c⟩
      · subst e
        exact ⟨(mem _).mpr c.symm, (mem _).mpr .refl⟩)
    -- behind the test
    have fin : ¬ (two.1 ∈ sd.map (·.1) ∧ two.2 ∈ sd.map (·.1)) → tRet (tIf (tB (tVar 5)) (tCall (spLGA K) [] E0 (tCons (tLockE (tLc (iKeys (tVar 3)) (gName 7) tYes (tDGet (tOp (rIxT K) (tVar 0) (L2.tC (V.int 0))) (tVar 7)) [7])) tNil)) (L2.tC (V.int 1)))
        { nx := fun x H' => Q V.non H', rt := Q } [some (.ref p), some (.str s), some (.ref t2), some (.ref a), some (.ref wl), some (.bl fl), z6, z7] (upd H' e (.lst [])) := fun hno => by
      have hnc := no_of hno
      have innq : ∀ q ∈ inn ps (sd.map (·.1)), q ∈ keptP ps two ∧ q.1 ∈ sd.map (·.1) ∧ q.2 ∈ sd.map (·.1) := fun q hq => by
        obtain ⟨h1, h2⟩ := List.mem_filter.mp hq
        rw [Bool.and_eq_true] at h2
        have h3 := of_decide_eq_true h2.1
        have h4 := of_decide_eq_true h2.2
        exact ⟨List.mem_filter.mpr ⟨h1, by simpa using fun e : q = two => hno (e ▸ ⟨h3, h4⟩)⟩, h3, h4⟩
      refine ⟨_, rfl, fl, rfl, ?_⟩
      cases fl with
      | false =>
        refine iteF (k _ _ hl' (.inr ⟨1, sd.map (·.1), rfl, hnc, D.nd, mem, .inl ⟨rfl, fun c hc => D.odd rfl c fun q hq hcq => ?_⟩, Nat.le_refl _, by omega⟩))
        have h1 := (mem _).mpr hcq
        have h2 := (mem _).mpr (hcq.step (.inl hq))
        exact hc q (List.mem_filter.mpr ⟨(List.mem_filter.mp hq).1, by rw [decide_eq_true h1, decide_eq_true h2]; rfl⟩)
      | true =>
        refine iteT ⟨a, _, ea2, trivial, fun od => ?_⟩
        have nda : d ≠ a := ne_of_none hp.d ha
        have npa : p ≠ a := ne_of_none hp.t ha
        refine ⟨_, rfl, a, od, rfl, .inl ⟨_, upd_same, fun L hL => ?_⟩⟩
        have nLa : L ≠ a := fun z => by rw [z, upd_same] at hL; cases hL
        have hL1 : (upd H' e (.lst [])) L = none := by rwa [upd_ne nLa] at hL
        refine lc_it walk_keys (fun i H2 => H2 L = some (.lst ((((sd.map (·.1)).take i).map (szn szs)).map fun n => V.int (n : Nat))) ∧ Same (upd (upd H' e (.lst [])) a (.frz od (.dK (SzD sd)))) H2) ⟨upd_same, sm_new hL⟩ (fun i H2 _ h => h.2 _ _ upd_same) ?_ ?_
        · rintro i x Hq H2 hi ⟨g1, g2⟩ ⟨rfl, kk, vv, hk, rfl⟩
          obtain ⟨q, hq, eq⟩ := map_get hk
          cases eq
          have hqx : (sd.map (·.1))[i]? = some q.1 := by rw [List.getElem?_map, hq]; rfl
          have hqm : q.1 ∈ szs.map (·.1) := rmc _ ((mem _).mp (List.mem_of_getElem? hqx))
          have hp2 : H2 p = some (.tup [.ref d, .ref l]) := g2 _ _ (by rw [upd_ne npa]; exact hl' _ _ hp.t)
          have hd2 : H2 d = some (.dK (SzD szs)) := g2 _ _ (by rw [upd_ne nda]; exact hl' _ _ hp.d)
          have ev : valV (SzD szs) (Sum.inr q.1) = some (.int (szn szs q.1 : Nat)) := by
            rw [szD_val]
            unfold szn
            obtain ⟨m, hm⟩ : ∃ m, szs.lookup q.1 = some m := by
              have h1 := lookup_some (szs := szs) (x := q.1)
              rw [decide_eq_true hqm] at h1
              exact Option.isSome_iff_exists.mp h1
            rw [hm]
            rfl
          refine ⟨rfl, _, rfl, p, _, (0 : Int), .ref d, rfl, rfl, SqT.of hp2, atI_nat (j := 0) rfl, _, rfl, d, _, rfl, .inl ⟨_, Sum.inr q.1, .inl hd2, rfl, ev.symm⟩, _, g1, ?_, ?_, g2.put hL⟩
          · rw [List.length_map, List.length_map, List.length_take, List.length_map, sizeLine_eq]
            omega
          · rw [upd_same, take_snoc hqx, List.map_append, List.map_append]
            rfl
        rintro H2 ⟨g1, g2⟩
        have hn : (SzD sd).length = (sd.map (·.1)).length := by unfold SzD; rw [List.length_map, List.length_map]
        rw [hn, List.take_length] at g1
        refine ⟨g2 _ _ upd_same, L, _, rfl, SqL.of (by rw [upd_ne nLa]; exact g1), k _ _ ?_ (.inr ⟨_, sd.map (·.1), rfl, hnc, D.nd, mem, .inr ⟨⟨sdC sd, fun q hq => ?_⟩, rfl⟩, ?_⟩)⟩
        · exact hl'.trans (lock_same ea2 g2)
        · obtain ⟨h1, h2, h3⟩ := innq q hq
          exact D.colour q h1 ((mem _).mp h2)
        · refine gcdN_le (fun z => ?_) fun n hn => ?_
          · have h1 : s ∈ sd.map (·.1) := (mem s).mpr .refl
            rw [List.map_eq_nil_iff.mp z] at h1
            cases h1
          · obtain ⟨x, hx, rfl⟩ := List.mem_map.mp hn
            exact szn_pos O (rmc x ((mem x).mp hx))
    refine ⟨_, rfl, t2, _, (0 : Int), .str two.1, rfl, rfl, hl'.tup ht2, atI_nat (j := 0) rfl, _, rfl, a, _, rfl, DGet.k (k := Sum.inr two.1) ea2, _, rfl, ?_⟩
    by_cases h1 : two.1 ∈ sd.map (·.1)
    case neg =>
      rw [szD_no h1]
      exact iteF (iteF (fin fun h => h1 h.1))
    have s1 : (valV (SzD sd) (Sum.inr two.1)).isSome = true := by
      obtain ⟨⟨y, f⟩, m1, e1⟩ := List.mem_map.mp h1
      cases e1
      rw [szD_get D.nd m1]
      rfl
    rw [s1]
    refine iteT ⟨_, rfl, t2, _, (1 : Int), .str two.2, rfl, rfl, hl'.tup ht2, atI_nat (j := 1) rfl, _, rfl, a, _, rfl, DGet.k (k := Sum.inr two.2) ea2, _, rfl, ?_⟩
    by_cases h2 : two.2 ∈ sd.map (·.1)
    case neg =>
      rw [szD_no h2]
      exact iteF (fin fun h => h2 h.2)
    have s2 : (valV (SzD sd) (Sum.inr two.2)).isSome = true := by
      obtain ⟨⟨y, f⟩, m1, e1⟩ := List.mem_map.mp h2
      cases e1
      rw [szD_get D.nd m1]
      rfl
    rw [s2]
    exact iteT (k _ _ hl' (.inl ⟨rfl, ((mem _).mp h1).symm.trans ((mem _).mp h2)⟩))
  · -- one more room
    rw [List.concat_eq_append] at hwt
    subst hwt
    have e1 : (!((wt' ++ [x]).map PyData.str).isEmpty) = true := by cases wt' <;> rfl
    rw [e1]
    have ew' := sE _ _ ew
    refine iteT ⟨_, rfl, .inl ⟨rfl, _, SqL.of ew'⟩, wl, _, .str x, rfl, rfl, ew', ?_, ?_⟩
    · rw [List.length_map, List.length_append, List.length_singleton, List.getElem?_map, Nat.add_sub_cancel, List.getElem?_append_right (Nat.le_refl _), Nat.sub_self]
      rfl
    have hdl : ((wt' ++ [x]).map V.str).dropLast = wt'.map V.str := by rw [List.map_append]; exact List.dropLast_concat
    rw [hdl]
    obtain ⟨⟨x', dx⟩, hx, ex⟩ := List.mem_map.mp (D.wsub x (List.mem_append_right _ List.mem_cons_self))
    cases ex
    have hxn := O.nmR (rmc _ (D.conn _ _ hx))
    have s2 : Same H (upd (upd H' e (.lst [])) wl (.lst (wt'.map V.str))) := (ss.trans sE).put hw0
    refine ⟨_, rfl, _, rfl, p, d, l, x', szs, ps, rfl, hp.same s2, O.fewP, fun H2 u ns s3 hu hu0 hns hnl => ?_⟩
    have sH2 := s2.trans s3
    have ea2 : H2 a = some (.dK (SzD sd)) := s3 _ _ (by rw [upd_ne naw]; exact sE _ _ ea)
    have ew2 : H2 wl = some (.lst (wt'.map V.str)) := s3 _ _ upd_same
    have nua : u ≠ a := (ne_of_none (by rw [upd_ne naw]; exact sE _ _ ea) hu0).symm
    have nuw : u ≠ wl := (ne_of_none upd_same hu0).symm
    refine ⟨u, rfl, ⟨_, SqL.of hu⟩, for_list (K := K) (a := u) (xs := ns.map V.str) (fun m σ H3 => ∃ (sd2 : List (Str × Nat)) (wt2 : List Str) (z7 : Option V) (fl : Bool), σ = [some (.ref p), some (.str s), some (.ref t2), some (.ref a), some (.ref wl), some (.bl fl), some (.str x'), z7] ∧
        DF (keptP ps two) s sd2 wt2 (fun c b => c = x' ∧ b ∉ ns.take m) fl ∧ (x', dx) ∈ sd2 ∧ H3 a = some (.dK (SzD sd2)) ∧ H3 wl = some (.lst (wt2.map V.str)) ∧ H3 u = some (.lst (ns.map V.str)) ∧ 2 * szs.length - 2 * sd2.length + wt2.length < 2 * szs.length - 2 * sd.length + (wt' ++ [x']).length ∧ Same H H3) ?_ (fun m σ H3 _ ⟨_, _, _, _, _, _, _, _, _, h, _⟩ => SqL.of h) ?_ ?_⟩
    · exact ⟨sd, wt', z7, fl, rfl, D.pop.less fun c b _ h => ⟨h, by simp⟩, hx, ea2, ew2, hu, by rw [List.length_append, List.length_singleton]; omega, sH2⟩
    · rintro m v σ H3 hm ⟨sd2, wt2, z7', fl2, rfl, D2, hx2, ga, gw, gu, gm, s4⟩
      obtain ⟨y, hy, rfl⟩ := map_get hm
      have hadj : Adj ps x' y := (hns y).mp (List.mem_of_getElem? hy)
      have hyn : Nm y := O.nmR (hadj.elim (fun h => (O.ends _ h).2) fun h => (O.ends _ h).1)
      have shr : ∀ c b, Adj (keptP ps two) c b → (c = x' ∧ b ∉ ns.take m) → (c = x' ∧ b ∉ ns.take (m + 1)) ∨ (c = x' ∧ b = y) := fun c b _ h => by
        by_cases eb : b = y
        · exact .inr ⟨h.1, eb⟩
        · refine .inl ⟨h.1, fun z => ?_⟩
          rw [take_snoc hy] at z
          rcases List.mem_append.mp z with z | z
          · exact h.2 z
          · exact eb (List.mem_singleton.mp z)
      have hpin : pairS x' y ∈ ps := (adj_iff O.ord).mp hadj
      refine ⟨_, rfl, _, rfl, x', y, rfl, fun H4 pp s5 hpp => ⟨_, rfl, pD (pairS x' y), pD two, pD_mk hpp.sq, pD_mk ((s4.trans s5).tup ht2), pD_shaped (O.nms _ hpin), pD_shaped (O.nms _ htwo), _, rfl, ?_⟩⟩
      rw [pD_eqv]
      have ga4 := s5 _ _ ga
      have gw4 := s5 _ _ gw
      have gu4 := s5 _ _ gu
      have s6 := s4.trans s5
      by_cases hpt : pairS x' y = two
      · rw [decide_eq_true hpt]
        refine iteF ⟨sd2, wt2, _, fl2, rfl, D2.less fun c b ad h => ⟨h.1, fun z => ?_⟩, hx2, ga4, gw4, gu4, gm, s6⟩
        rw [take_snoc hy] at z
        rcases List.mem_append.mp z with z | z
        · exact h.2 z
        · rw [List.mem_singleton.mp z, h.1] at ad
          have := (adj_iff (kept_ord O)).mp ad
          rw [hpt] at this
          simpa using (List.mem_filter.mp this).2
      rw [decide_eq_false hpt]
      have hadk : Adj (keptP ps two) x' y := (adj_iff (kept_ord O)).mpr (List.mem_filter.mpr ⟨hpin, by simpa using hpt⟩)
      have vx := D2.val _ _ hx2
      have gx := (szD_get D2.nd hx2).symm
      by_cases hseen : y ∈ sd2.map (·.1)
      · obtain ⟨⟨y', f⟩, h1, h2⟩ := List.mem_map.mp hseen
        cases h2
        have gy := (szD_get D2.nd h1).symm
        refine iteT ⟨_, rfl, fl2, rfl, and_via (r := decide (f ≠ dx)) (fun _ Q' q => ?_) ?_⟩
        · refine ⟨_, rfl, a, rfl, .inl ⟨_, .of ga4⟩, _, rfl, _, rfl, _, rfl, a, _, rfl, .inl ⟨_, Sum.inr x', .inl ga4, rfl, gx⟩, _, _, rfl, rfl, some (.int (f : Nat)), .inl ⟨_, Sum.inr y', .inl ga4, rfl, gy⟩, _, rfl, _, rfl, a, _, rfl, .inl ⟨_, Sum.inr x', .inl ga4, rfl, gx⟩, rfl, ?_⟩
          have e3 : (!decide (V.int (f : Nat) = V.int (dx : Nat))) = decide (f ≠ dx) := by
            by_cases e4 : f = dx
            · subst e4
              simp
            · rw [decide_eq_true e4, decide_eq_false fun z => e4 (by have := V.int.inj z; omega)]
              rfl
          show Q' (.bl (!decide (V.int (f : Nat) = V.int (dx : Nat)))) H4
          rw [e3]
          exact q
        · refine ⟨_, rfl, _, rfl, a, _, rfl, DGet.k (k := Sum.inr y') ga4, _, rfl, ?_⟩
          rw [← gy]
          exact iteF ⟨sd2, wt2, _, _, rfl, D2.see hx2 h1 hadk shr, hx2, ga4, gw4, gu4, gm, s6⟩
      · have D3 := D2.add hx2 hseen hadk shr
        have dl3 := D3.len rmc
        rw [List.length_map, List.length_append, List.length_append, List.length_singleton, List.length_singleton] at dl3
        have ev : (V.int ((1 : Int) - (dx : Nat))) = V.int ((1 - dx : Nat) : Int) := by
          congr 1
          omega
        have gy := (szD_no hseen).symm
        refine iteT ⟨_, rfl, fl2, rfl, and_via (r := true) (fun _ Q' q => ?_) ?_⟩
        · refine ⟨_, rfl, a, rfl, .inl ⟨_, .of ga4⟩, _, rfl, _, rfl, _, rfl, a, _, rfl, .inl ⟨_, Sum.inr x', .inl ga4, rfl, gx⟩, _, _, rfl, rfl, none, .inl ⟨_, Sum.inr y, .inl ga4, rfl, gy⟩, _, rfl, _, rfl, a, _, rfl, .inl ⟨_, Sum.inr x', .inl ga4, rfl, gx⟩, rfl, ?_⟩
          show Q' (.bl (!decide (V.int ((1 : Int) - (dx : Nat)) = V.int (dx : Nat)))) H4
          rw [decide_eq_false fun z => by have := V.int.inj z; omega]
          exact q
        rw [Bool.and_true]
        refine ⟨_, rfl, _, rfl, a, _, rfl, DGet.k (k := Sum.inr y) ga4, _, rfl, ?_⟩
        rw [← gy]
        have dp := DPut.k (k := Sum.inr y) (v := V.int ((1 : Int) - (dx : Nat))) ga4 (by unfold SzD; rw [List.length_map, sizeLine_eq]; omega)
        rw [ev, szD_put hseen, ← ev] at dp
        refine iteT ⟨_, rfl, _, rfl, a, _, rfl, .inl ⟨_, Sum.inr x', .inl ga4, rfl, gx⟩, _, _, rfl, rfl, _, rfl, _, rfl, a, _, rfl, dp, ?_⟩
        have gw' : (upd H4 a (.dK (SzD (sd2 ++ [(y, 1 - dx)])))) wl = some (.lst (wt2.map V.str)) := by rw [upd_ne naw.symm]; exact gw4
        refine ⟨_, rfl, .inl ⟨rfl, _, SqL.of gw'⟩, _, rfl, wl, _, _, rfl, rfl, gw', by rw [List.length_map, sizeLine_eq]; omega, sd2 ++ [(y, 1 - dx)], wt2 ++ [y], _, fl2, rfl, D3, List.mem_append_left _ hx2, by rw [upd_ne naw, upd_same], by rw [upd_same, List.map_append]; rfl, by rw [upd_ne nuw, upd_ne nua]; exact gu4, ?_, (s6.put ha).put hw0⟩
        rw [List.length_append, List.length_append, List.length_singleton, List.length_singleton]
        omega
    · rintro σ H3 ⟨sd2, wt2, z7', fl2, rfl, D2, hx2, ga, gw, gu, gm, s4⟩
      rw [List.length_map, List.take_length] at D2
      refine ⟨⟨sd2, wt2, _, _, fl2, rfl, D2.less fun c b ad h => h.2 ((hns b).mpr (by rw [← h.1]; exact ad.elim (fun z => .inl (List.mem_filter.mp z).1) fun z => .inr (List.mem_filter.mp z).1)), ga, gw, s4⟩, ?_⟩
      show (match H3 a, H3 wl with | some (.dK kvs), some (.lst ws) => 2 * szs.length - 2 * kvs.length + ws.length | _, _ => 0) < (match H' a, H' wl with | some (.dK kvs), some (.lst ws) => 2 * szs.length - 2 * kvs.length + ws.length | _, _ => 0)
      rw [ga, gw, ea, ew]
      show 2 * szs.length - 2 * (SzD sd2).length + (wt2.map V.str).length < 2 * szs.length - 2 * (SzD sd).length + ((wt' ++ [x']).map V.str).length
      unfold SzD
      rw [List.length_map, List.length_map, List.length_map, List.length_map]
      exact gm
end
end Rd
/-! _law_corridor_due. -/
namespace Rd
open PySem PySem.Spec PyProof.Rows L2 Gr
def spCD (K : PySem.W.Frag) : Sp := fun vs H Q _ => ∃ (p d l t2 : Addr) (szs : List (Str × Nat)) (ps : List (Str × Str)) (two : Str × Str), vs = [.ref p, .ref t2] ∧ PlAt H p d l szs ps ∧ BOk szs ps ∧ SqT K H t2 ([two.1, two.2].map V.str) ∧ two ∈ ps ∧
  ∀ H' (m : Nat), Same H H' → MOk szs ps two.2 two.1 m → Q (.int (m : Nat)) H'
theorem pairS_rev {szs : List (Str × Nat)} {ps : List (Str × Str)} (O : BOk szs ps) {two : Str × Str} (h : two ∈ ps) : pairS two.2 two.1 = two := by
  have e : ltS two.2 two.1 = false := ltS_asym (O.ord _ h)
  unfold pairS
  rw [e]
  rfl
theorem bok_kept {szs : List (Str × Nat)} {ps : List (Str × Str)} (O : BOk szs ps) {two : Str × Str} (h2 : two ∈ ps) (h : Conn (keptP ps two) two.1 two.2) : BOk szs (keptP ps two) :=
  { O with
    ends := fun q hq => O.ends q (List.mem_filter.mp hq).1
    fewP := Nat.le_trans (List.length_filter_le _ _) O.fewP
    ord := kept_ord O
    ndP := O.ndP.filter _
    cn := fun x hx y hy => by
      have e := pairS_rev O h2
      have h' : Conn (keptP ps (pairS two.2 two.1)) two.2 two.1 := by rw [e]; exact h.symm
      have := conn_keep h' (O.cn x hx y hy)
      rw [e] at this
      exact this }
theorem BkV.two {szs : List (Str × Nat)} {ps : List (Str × Str)} {two : Str × Str} {x : Str} {v : V} (h : BkV szs ps two x v) : v = .non ∨ ∃ g : Nat, v = .int (g : Nat) := h.elim (fun h => .inl h.1) fun ⟨g, _, h, _⟩ => .inr ⟨g, h⟩
-- slots of _law_corridor_due: 0 _law_plan* 1 _law_two* 2 _law_one 3 _law_other 4 _law_left_here 5 _law_pair_here 6 _law_room
theorem sc_z_corridor_due : FnScope ["_law_plan", "_law_two", "_law_one", "_law_other", "_law_left_here", "_law_pair_here", "_law_room"] ["_law_plan", "_law_two"] (defScope s_z_corridor_due) := ⟨rfl, rfl, rfl, by decide +kernel, rfl, by decide +kernel, by decide +kernel⟩
section
variable {P : Program} {w : World} {K : PySem.W.Frag} {mg : Str → Option Value} {base : Heap}
theorem ca_z_corridor_due (T : Wd K mg base) : Ca P w K mg base 4 "_law_corridor_due" (spCD K) [] := by
  obtain ⟨fd, F⟩ := T.L.F_z_corridor_due
  refine ca_of F T.g__law_corridor_due (F.binds (ps := ["_law_plan", "_law_two"]) fun _ _ _ _ _ _ us hl => match us, hl with | [_, _], _ => rfl) sc_z_corridor_due (fun vs H Q E ⟨_, _, _, _, _, _, _, e, _⟩ => by rw [e]; rfl) ?_
  rintro cdv A outer s0 H vs Q E hr ⟨p, d, l, t2, szs, ps, two, rfl, hp, O, ht2, htwo, k⟩
  refine ⟨_, (pss_cons (ps_par (i := 2) (j := 3) (by rfl) sc_z_corridor_due.nd rfl rfl (by decide) rfl rfl (pa_cons (pe_ca (ca_z_bank_gcd T) hr (by decide) rfl (pa_cons (pv 0) (pa_cons (pe_ix ix_tup (pv 1) pe_int (fun _ _ => rfl)) (pa_cons (pv 1) pa_nil)))) (pa_cons (pe_ca (ca_z_bank_gcd T) hr (by decide) rfl (pa_cons (pv 0) (pa_cons (pe_ix ix_tup (pv 1) pe_int (fun _ _ => rfl)) (pa_cons (pv 1) pa_nil)))) pa_nil)) (by rfl)) (pss_cons (ps_if (pt_cmpR op_notN (pv 2) pe_non (by rfl)) (pss_one (ps_ret (pe_op op_mul pe_int (pe_ca (ca_z_lcm T) hr (by decide) rfl (pa_cons (pv 2) (pa_cons (pv 3) pa_nil)))))) pss_nil) (pss_cons (ps_setLc (i := 4) (own := [("_law_pair_here", 5)]) (g := gName 5) rfl sc_z_corridor_due.nd rfl rfl (sw_true rfl rfl rfl (by decide +kernel)) (pi_list (pe_ix ix_tup (pv 0) pe_int (fun _ _ => rfl))) (blkOk_by (own := [("_law_pair_here", 5)]) (N := ["_law_plan", "_law_two", "_law_one", "_law_other", "_law_left_here", "_law_pair_here", "_law_room"]) (sc := defScope s_z_corridor_due) (by decide +kernel)) (fun _ _ _ _ _ => (pg_name (i := 5) sc_z_corridor_due.nd rfl (Or.inl rfl))) (fun _ _ _ _ _ => (pts_one (pt_cmpR (r := rNeD K) (op_neD hr.units) (pv 5) (pv 1) (by rfl)))) (fun _ _ _ _ _ => (pv 5))) (pss_cons (ps_if (PW.pt (pw_or (pt_cmpR op_notN (pe_ca (ca_z_sides_due T) hr (by decide) rfl (pa_cons (pv 0) pa_nil)) pe_non (by rfl)) (pw_or1 (pt_cmpR op_isN (pe_ca (ca_z_sides_due T) hr (by decide) rfl (pa_cons (pe_tup (pa_cons (pe_ix ix_tup (pv 0) pe_int (fun _ _ => rfl)) (pa_cons (pv 4) pa_nil))) pa_nil)) pe_non (by rfl))))) (pss_one (ps_ret pe_int)) pss_nil) (pss_one (ps_ret (pe_ca (ca_z_gcd_all T) hr (by decide) rfl (pa_cons (pe_lock (pe_lc (own := [("_law_room", 6)]) (g := gName 6) rfl sc_z_corridor_due.nd (pi_keys (pe_ix ix_tup (pv 0) pe_int (fun _ _ => rfl))) (blkOk_by (own := [("_law_room", 6)]) (N := ["_law_plan", "_law_two", "_law_one", "_law_other", "_law_left_here", "_law_pair_here", "_law_room"]) (sc := defScope s_z_corridor_due) (by decide +kernel)) (fun _ _ _ _ _ => (pg_name (i := 6) sc_z_corridor_due.nd rfl (Or.inl rfl))) (fun _ _ _ _ _ => pts_nil) (fun _ _ _ _ _ => (pe_dget (hu_of hr) (pe_ix (r := rIxT K) ix_tup (pv 0) pe_int (fun _ _ => rfl)) (pv 6) (fun _ _ => rfl))))) pa_nil)))))))), ?_⟩
  obtain ⟨xs, hl, hxs⟩ := hp.l
  have etwo := pairS_rev O htwo
  refine ⟨_, rfl, _, rfl, t2, _, (0 : Int), .str two.1, rfl, rfl, ht2, atI_nat (j := 0) rfl, _, rfl, p, d, l, t2, two.1, szs, ps, two, rfl, hp, O, ht2, htwo, .inl rfl, fun H1 v1 s1 hv1 => ?_⟩
  refine ⟨_, rfl, _, rfl, t2, _, (1 : Int), .str two.2, rfl, rfl, s1.tup ht2, atI_nat (j := 1) rfl, _, rfl, p, d, l, t2, two.2, szs, ps, two, rfl, hp.same s1, O, s1.tup ht2, htwo, .inr rfl, fun H2 v2 s2 hv2 => ?_⟩
  have sH2 := s1.trans s2
  refine ⟨_, _, rfl, ?_⟩
  rcases hv1 with ⟨rfl, hc⟩ | ⟨g1, r1, rfl, hnc, n1, m1, B1, p1, q1⟩
  · -- no bridge
    refine ⟨_, rfl, rfl, _, rfl, iteF ?_⟩
    have hxs2 := hxs.same sH2
    refine ⟨_, rfl, p, _, (1 : Int), .ref l, rfl, rfl, SqT.of (sH2 _ _ hp.t), atI_nat (j := 1) rfl, l, rfl, ⟨xs, SqL.of (sH2 _ _ hl)⟩, fun L hL => lc_list (K := K) (a := l) (xs := xs) (fun i H3 => ∃ vs, H3 L = some (.lst vs) ∧ PrL H3 vs (keptP (ps.take i) two) ∧ vs.length ≤ i ∧ Same H2 H3) ⟨[], upd_same, .nil, Nat.le_refl _, sm_new hL⟩ (fun i H3 _ ⟨_, _, _, _, h⟩ => SqL.of ((sH2.trans h) _ _ hl)) ?_ ?_⟩
    · rintro i v H3 hi ⟨vs, g1, g2, g3, ss⟩
      obtain ⟨q, u, hq, rfl, hu⟩ := hxs.get hi
      have hip := (List.getElem?_eq_some_iff.mp hq).1
      have hqm := List.mem_of_getElem? hq
      have sH3 := sH2.trans ss
      have hu' := hu.same sH3
      have h31 := O.fewP
      refine ⟨rfl, _, rfl, _, rfl, pD q, pD two, pD_mk hu'.sq, pD_mk (sH3.tup ht2), pD_shaped (O.nms _ hqm), pD_shaped (O.nms _ htwo), _, rfl, ?_⟩
      rw [pD_eqv]
      unfold keptP
      rw [filter_snoc _ hq]
      by_cases e : q = two
      · rw [decide_eq_true e, if_neg (by simp [e])]
        exact iteF ⟨vs, g1, g2, by omega, ss⟩
      · rw [decide_eq_false e, if_pos (by simp [e])]
        refine iteT ⟨_, rfl, _, g1, by rw [sizeLine_eq]; omega, vs ++ [.ref u], upd_same, (g2.put (.inl g1)).app (PrL.put (.inl g1) (.cons ⟨u, rfl, hu'⟩ .nil)), by rw [List.length_append]; show vs.length + 1 ≤ i + 1; omega, ss.put hL⟩
    rintro H3 ⟨vs, g1, g2, g3, s3⟩
    rw [hxs.len, List.take_length] at g2
    have sH3 := sH2.trans s3
    have hcn : Conn (keptP ps (pairS two.2 two.1)) two.2 two.1 := by rw [etwo]; exact hc.symm
    have okk := bok_kept O htwo hc
    -- 1 or the gcd
    have one : ∀ H', Same H H' → ((∃ c, Col ps c) ∨ ∀ c, ¬ Col (keptP ps two) c) → Q (.int ((1 : Nat) : Int)) H' := fun H' sH' h => k H' 1 sH' (.inr ⟨hcn, .inl ⟨by rw [etwo]; exact h, rfl⟩⟩)
    refine ⟨_, rfl, p, d, l, szs, ps, rfl, hp.same sH3, O, fun H4 v4 s4 hv4 => ?_⟩
    have sH4 := sH3.trans s4
    rcases hv4 with ⟨rfl, hno⟩ | ⟨a4, c4, rfl, hc4⟩
    case inr =>
      refine ⟨rfl, _, rfl, iteT (iteT (one _ sH4 (.inl ⟨c4, hc4⟩)))⟩
    refine ⟨rfl, _, rfl, iteF ?_⟩
    refine ⟨_, rfl, p, _, (0 : Int), .ref d, rfl, rfl, SqT.of (sH4 _ _ hp.t), atI_nat (j := 0) rfl, _, rfl, Nat.le_of_ble_eq_true rfl, fun t ht => ?_⟩
    have s5 : Same H4 (upd H4 t (.tup [.ref d, .ref L])) := sm_new ht
    have sH5 := sH4.trans s5
    refine ⟨t, d, L, szs, keptP ps two, rfl, ⟨upd_same, sH5 _ _ hp.d, vs, (s4.trans s5) _ _ g1, g2.same (s4.trans s5)⟩, okk, fun H6 v6 s6 hv6 => ?_⟩
    have sH6 := sH5.trans s6
    rcases hv6 with ⟨rfl, hno6⟩ | ⟨a6, c6, rfl, hc6⟩
    · exact ⟨rfl, _, rfl, iteT (one _ sH6 (.inr hno6))⟩
    refine ⟨rfl, _, rfl, iteF ?_⟩
    have hd6 := sH6 _ _ hp.d
    refine ⟨d, _, hd6, trivial, fun od => ?_⟩
    have npd : p ≠ d := fun z => by
      have h1 := hp.t
      rw [z, hp.d] at h1
      cases h1
    refine ⟨_, rfl, p, _, (0 : Int), .ref d, rfl, rfl, SqT.of (by rw [upd_ne npd]; exact sH6 _ _ hp.t), atI_nat (j := 0) rfl, d, od, rfl, .inl ⟨_, upd_same, fun D hD => ?_⟩⟩
    have nDd : D ≠ d := fun z => by rw [z, upd_same] at hD; cases hD
    refine lc_it walk_keys (fun i H7 => H7 D = some (.lst (((szs.map (·.2)).take i).map fun n => V.int (n : Nat))) ∧ Same (upd H6 d (.frz od (.dK (SzD szs)))) H7) ⟨upd_same, sm_new hD⟩ (fun i H7 _ h => h.2 _ _ upd_same) ?_ ?_
    · rintro i x Hq H7 hi ⟨g1, g2⟩ ⟨rfl, kk, vv, hk, rfl⟩
      obtain ⟨q, hq, eq⟩ := map_get hk
      cases eq
      have hqx : (szs.map (·.2))[i]? = some q.2 := by rw [List.getElem?_map, hq]; rfl
      have hqm := List.mem_of_getElem? hq
      have few := O.few
      have ev : valV (SzD szs) (Sum.inr q.1) = some (.int (q.2 : Nat)) := szD_get O.nd hqm
      refine ⟨rfl, _, rfl, p, _, (0 : Int), .ref d, rfl, rfl, SqT.of (g2 _ _ (by rw [upd_ne npd]; exact sH6 _ _ hp.t)), atI_nat (j := 0) rfl, _, rfl, d, _, rfl, .inl ⟨_, Sum.inr q.1, .inr ⟨od, g2 _ _ upd_same⟩, rfl, ev.symm⟩, _, g1, ?_, ?_, g2.put hD⟩
      · rw [List.length_map, List.length_take, List.length_map, sizeLine_eq]
        omega
      · rw [upd_same, take_snoc hqx, List.map_append]
        rfl
    rintro H7 ⟨g1, g2⟩
    have hn : (SzD szs).length = (szs.map (·.2)).length := by unfold SzD; rw [List.length_map, List.length_map]
    rw [hn, List.take_length] at g1
    refine ⟨g2 _ _ upd_same, D, _, rfl, SqL.of (by rw [upd_ne nDd]; exact g1), k _ _ (sH6.trans (lock_same hd6 g2)) (.inr ⟨hcn, .inr ⟨hno, ⟨c6, by rw [etwo]; exact hc6⟩, rfl⟩⟩)⟩
  · -- a bridge
    rcases hv2 with ⟨rfl, hc⟩ | ⟨g2, r2, rfl, _, n2, m2, B2, p2, q2⟩
    · exact absurd hc hnc
    refine ⟨_, rfl, rfl, _, rfl, iteT ⟨_, rfl, _, rfl, g1, g2, rfl, p1, p2, q1, q2, _, _, rfl, rfl, .inl ⟨by decide, by decide⟩, ?_⟩⟩
    have := k H2 (2 * Nat.lcm g1 g2) sH2 (.inl ⟨by rw [etwo]; exact fun c => hnc c.symm, r2, r1, g2, g1, n2, n1, by rw [etwo]; exact m2, by rw [etwo]; exact m1, B2, B1, by rw [Nat.lcm_comm]⟩)
    push_cast at this
    exact this
end
end Rd
/-! A dict whose keys are tuples of a text and a tuple of ints. -/
namespace Rd
open PySem PySem.Spec PyProof.Rows L2 Gr
/-- a position: a room and what the dials show -/
abbrev Po := Str × List Int
def pk (q : Po) : NestedKey := .tup [.text q.1, .tup (q.2.map NestedKey.num)]
theorem num_inj : ∀ {xs ys : List Int}, xs.map NestedKey.num = ys.map NestedKey.num → xs = ys
  | [], [], _ => rfl
  | [], _ :: _, h => by cases h
  | _ :: _, [], h => by cases h
  | x :: xs, y :: ys, h => by
    rw [List.map_cons, List.map_cons] at h
    injection h with h1 h2
    injection h1 with h1
    rw [h1, num_inj h2]
theorem pk_inj {q r : Po} (h : pk q = pk r) : q = r := by
  unfold pk at h
  injection h with h
  injection h with h1 h2
  injection h1 with h1
  injection h2 with h2 _
  injection h2 with h2
  exact Prod.ext h1 (num_inj h2)
theorem num_depth : ∀ xs : List Int, NestedKey.depthAll (xs.map NestedKey.num) = 0
  | [] => by simp [NestedKey.depthAll]
  | x :: xs => by simp [NestedKey.depthAll, NestedKey.depth, num_depth xs]
theorem pk_depth (q : Po) : (pk q).depth ≤ 8 := by
  unfold pk
  simp [NestedKey.depth, NestedKey.depthAll, num_depth]
/-- a position's tuple -/
def PosAt (K : PySem.W.Frag) (H : Hp) (b : Addr) (q : Po) : Prop := ∃ t, SqT K H b [.str q.1, .ref t] ∧ SqT K H t (q.2.map V.int)
theorem PosAt.same {K : PySem.W.Frag} {H H' : Hp} {b : Addr} {q : Po} (s : Same H H') : PosAt K H b q → PosAt K H' b q := fun ⟨t, h1, h2⟩ => ⟨t, s.tup h1, s.tup h2⟩
/-- what is no tuple -/
def NoTp (o : Option HO) : Prop := ∀ u, o = some u → (∀ xs, u ≠ .tup xs) ∧ ∀ ob v, u ≠ .frz ob v
theorem sqT_upd {K : PySem.W.Frag} {H : Hp} {a t : Addr} {o : HO} {ys : List V} (h : NoTp (H a)) (s : SqT K H t ys) : SqT K (upd H a o) t ys := by
  have key : ∀ u, H t = some u → ((∃ xs, u = .tup xs) ∨ ∃ ob v, u = .frz ob v) → upd H a o t = some u := fun u e h1 => by
    by_cases hta : t = a
    · subst hta
      obtain ⟨h2, h3⟩ := h u e
      rcases h1 with ⟨xs, h1⟩ | ⟨ob, v, h1⟩
      · exact absurd h1 (h2 xs)
      · exact absurd h1 (h3 ob v)
    · rw [upd_ne hta]
      exact e
  rcases s with (s | ⟨ob, s⟩) | s
  · exact .inl (.inl (key _ s (.inl ⟨_, rfl⟩)))
  · exact .inl (.inr ⟨ob, key _ s (.inr ⟨_, _, rfl⟩)⟩)
  · exact .inr s
theorem PosAt.upd {K : PySem.W.Frag} {H : Hp} {a b : Addr} {o : HO} {q : Po} (h : NoTp (H a)) : PosAt K H b q → PosAt K (upd H a o) b q := fun ⟨t, h1, h2⟩ => ⟨t, sqT_upd h h1, sqT_upd h h2⟩
theorem noTp_lst {o : Option HO} {xs : List V} (h : o = some (.lst xs)) : NoTp o := fun u e => by
  rw [h] at e
  cases e
  exact ⟨(fun _ z => by cases z), (fun _ _ z => by cases z)⟩
theorem noTp_none {o : Option HO} (h : o = none) : NoTp o := fun u e => by
  rw [h] at e
  cases e
section
variable {X : Cx} {pins : List (Addr × Obj)} {σ : L2.St} {H : Hp} {s : Shared} {b : Addr} {q : Po}
theorem nums_are {h : Heap} : ∀ {xs : List Int} {us : List Value}, Vals (xs.map V.int) us → NestedAll h (xs.map NestedKey.num) us
  | [], _, r => by
    cases r
    exact .nil
  | x :: xs, _, r => by
    cases r with
    | cons r1 r2 =>
      obtain ⟨t, rfl⟩ := (show ∃ t, _ = Value.int x t from r1)
      exact .cons (.int x t) (nums_are r2)
theorem pos_is (I : Inv X pins σ H s) (h : PosAt X.K H b q) : (nestedKind X.prog X.w).is s.heap (pk q) b := by
  obtain ⟨t, h1, h2⟩ := h
  obtain ⟨its, r, ⟨o, e, hc, n, d⟩, _⟩ := I.tuple h1
  obtain ⟨its2, r2, ⟨o2, e2, hc2, n2, d2⟩, _⟩ := I.tuple h2
  refine ⟨.tup e hc d ?_, pk_depth q⟩
  cases r with
  | cons r3 r4 =>
    cases r4 with
    | cons r5 r6 =>
      cases r6
      obtain ⟨tk, rfl⟩ := (show ∃ t, _ = Value.str q.1 t from r3)
      obtain rfl : _ = Value.ref t := r5
      exact .cons (.text q.1 tk) (.cons (.tup e2 hc2 d2 (nums_are r2)) .nil)
end
/-- what stands at such a dict -/
def fdO (P : Program) (w : World) (a : Addr) (xs : List (NestedKey × Addr × Value)) : HO := .ext fun h => ∃ o es ep, h.get? a = some o ∧ o.ExactDict ∧ o.data = .dict es ep ∧ es.toList = xs.map (entryOfKey (nestedKind P w)) ∧ (xs.map (·.1)).Nodup
theorem fdO_ok {P : Program} {w : World} {a : Addr} {xs : List (NestedKey × Addr × Value)} {H : Hp} {h : Heap} {o : Obj} {es : Array DictEntry} {ep : Nat} (h1 : h.get? a = some o) (h2 : o.ExactDict) (h3 : o.data = .dict es ep) (h4 : es.toList = xs.map (entryOfKey (nestedKind P w))) (h5 : (xs.map (·.1)).Nodup) :
    ObjOk P w H h a (fdO P w a xs) := ⟨⟨o, es, ep, h1, h2, h3, h4, h5⟩, ⟨o, h1⟩, fun _ _ ⟨o, es, ep, k1, k2⟩ k => ⟨o, es, ep, k o k1, k2⟩⟩
theorem fdO_mut {P : Program} {w : World} {a : Addr} {xs : List (NestedKey × Addr × Value)} : Mut (some (fdO P w a xs)) := trivial
theorem fdO_noTp {P : Program} {w : World} {a : Addr} {xs : List (NestedKey × Addr × Value)} {o : Option HO} (h : o = some (fdO P w a xs)) : NoTp o := fun u e => by
  rw [h] at e
  cases e
  exact ⟨(fun _ z => by cases z), (fun _ _ z => by cases z)⟩
abbrev FdP (K : PySem.W.Frag) (H : Hp) : List (Po × Nat) → List (NestedKey × Addr × Value) → Prop := Paired fun (e : Po × Nat) (x : NestedKey × Addr × Value) => x.1 = pk e.1 ∧ PosAt K H x.2.1 e.1 ∧ RelV (.int (e.2 : Nat)) x.2.2
/-- positions and their costs in the dict at a -/
def FdAt (P : Program) (w : World) (K : PySem.W.Frag) (H : Hp) (a : Addr) (fd : List (Po × Nat)) : Prop := (a == sysModules) = false ∧ ∃ xs, H a = some (fdO P w a xs) ∧ FdP K H fd xs
theorem FdP.same {K : PySem.W.Frag} {H H' : Hp} (s : Same H H') {fd : List (Po × Nat)} {xs : List (NestedKey × Addr × Value)} (h : FdP K H fd xs) : FdP K H' fd xs := Paired.mapP h fun _ _ ⟨h1, h2, h3⟩ => ⟨h1, h2.same s, h3⟩
theorem FdP.upd {K : PySem.W.Frag} {H : Hp} {c : Addr} {o : HO} (n : NoTp (H c)) {fd : List (Po × Nat)} {xs : List (NestedKey × Addr × Value)} (h : FdP K H fd xs) : FdP K (upd H c o) fd xs := Paired.mapP h fun _ _ ⟨h1, h2, h3⟩ => ⟨h1, h2.upd n, h3⟩
theorem FdAt.same {P : Program} {w : World} {K : PySem.W.Frag} {H H' : Hp} {a : Addr} {fd : List (Po × Nat)} (s : Same H H') : FdAt P w K H a fd → FdAt P w K H' a fd := fun ⟨h0, xs, h1, h2⟩ => ⟨h0, xs, s _ _ h1, h2.same s⟩
theorem FdAt.upd {P : Program} {w : World} {K : PySem.W.Frag} {H : Hp} {a c : Addr} {o : HO} {fd : List (Po × Nat)} (n : NoTp (H c)) (ne : a ≠ c) : FdAt P w K H a fd → FdAt P w K (upd H c o) a fd := fun ⟨h0, xs, h1, h2⟩ => ⟨h0, xs, by rw [upd_ne ne]; exact h1, h2.upd n⟩
theorem FdAt.noTp {P : Program} {w : World} {K : PySem.W.Frag} {H : Hp} {a : Addr} {fd : List (Po × Nat)} : FdAt P w K H a fd → NoTp (H a) := fun ⟨_, _, h, _⟩ => fdO_noTp h
theorem FdAt.ex {P : Program} {w : World} {K : PySem.W.Frag} {H : Hp} {a : Addr} {fd : List (Po × Nat)} : FdAt P w K H a fd → ∃ o, H a = some o := fun ⟨_, _, h, _⟩ => ⟨_, h⟩
theorem FdAt.nl {P : Program} {w : World} {K : PySem.W.Frag} {H : Hp} {a c : Addr} {fd : List (Po × Nat)} {xs : List V} (h : FdAt P w K H a fd) (e : H c = some (.lst xs)) : a ≠ c := fun z => by
  obtain ⟨_, _, h, _⟩ := h
  rw [z, e] at h
  cases h
def fdGet (fd : List (Po × Nat)) (q : Po) : Option Nat := (fd.find? fun e => decide (e.1 = q)).map (·.2)
theorem fdGet_some {fd : List (Po × Nat)} {q : Po} : (fdGet fd q).isSome = decide (q ∈ fd.map (·.1)) := by
  induction fd with
  | nil => rfl
  | cons e fd ih =>
    unfold fdGet
    rw [List.find?_cons]
    by_cases h : e.1 = q
    · rw [decide_eq_true h]
      simp [h]
    · rw [decide_eq_false h]
      show (fdGet fd q).isSome = _
      rw [ih]
      simp [Ne.symm h]
theorem fdGet_mem {fd : List (Po × Nat)} {q : Po} {k : Nat} (h : fdGet fd q = some k) : (q, k) ∈ fd := by
  unfold fdGet at h
  obtain ⟨e, h1, h2⟩ := Option.map_eq_some_iff.mp h
  have h3 := List.mem_of_find?_eq_some h1
  have h4 := List.find?_some h1
  have h5 : e.1 = q := of_decide_eq_true h4
  rw [← h5, ← h2]
  exact h3
theorem FdP.val {K : PySem.W.Frag} {H : Hp} {fd : List (Po × Nat)} {xs : List (NestedKey × Addr × Value)} (r : FdP K H fd xs) (q : Po) : RelO ((fdGet fd q).map fun c => V.int (c : Nat)) ((atKey xs (pk q)).map (·.2)) := by
  induction r with
  | nil => exact True.intro
  | @cons e x es xs h t ih =>
    obtain ⟨h1, _, h2⟩ := h
    by_cases c : e.1 = q
    · have e' : x.1 = pk q := by rw [h1, c]
      have b1 : atKey (x :: xs) (pk q) = some x.2 := by simp [atKey, List.find?_cons, e']
      have b2 : fdGet (e :: es) q = some e.2 := by simp [fdGet, List.find?_cons, c]
      rw [b1, b2]
      exact h2
    · have e' : ¬ x.1 = pk q := fun z => c (pk_inj (h1.symm.trans z))
      have b1 : atKey (x :: xs) (pk q) = atKey xs (pk q) := by simp [atKey, List.find?_cons, e']
      have b2 : fdGet (e :: es) q = fdGet es q := by simp [fdGet, List.find?_cons, c]
      rw [b1, b2]
      exact ih
theorem FdP.snoc {K : PySem.W.Frag} {H : Hp} {fd : List (Po × Nat)} {xs : List (NestedKey × Addr × Value)} (r : FdP K H fd xs) {q : Po} {c : Nat} {b : Addr} {u : Value} (h : PosAt K H b q) (ru : RelV (.int (c : Nat)) u) : FdP K H (fd ++ [(q, c)]) (xs ++ [(pk q, b, u)]) := Paired.snoc r ⟨rfl, h, ru⟩
section
variable {X : Cx} {pins : List (Addr × Obj)} {σ : L2.St} {H : Hp} {s : Shared} {a : Addr} {fd : List (Po × Nat)}
theorem fd_of (I : Inv X pins σ H s) {xs : List (NestedKey × Addr × Value)} (h : H a = some (fdO X.prog X.w a xs)) (r : FdP X.K H fd xs) : s.heap.DictOfH (nestedKind X.prog X.w) a xs := by
  obtain ⟨⟨o, es, ep, h1, h2, h3, h4, h5⟩, _⟩ := (show ObjOk X.prog X.w H s.heap a (fdO X.prog X.w a xs) from I.hok a _ h)
  refine ⟨o, es, ep, h1, h2, h3, h4, fun x hx => ?_, h5⟩
  have all : ∀ {l : List (Po × Nat)} {m : List (NestedKey × Addr × Value)}, FdP X.K H l m → ∀ x ∈ m, (nestedKind X.prog X.w).is s.heap x.1 x.2.1 := by
    intro l m q
    induction q with
    | nil => intro x hx; cases hx
    | @cons p q ps qs hq t ih =>
      intro x hx
      rcases List.mem_cons.mp hx with e | hx
      · subst e
        rw [hq.1]
        exact pos_is I hq.2.1
      · exact ih x hx
  exact all r x hx
end
/-! ### rules -/
def tDNewN (P : Program) (w : World) : TE := fun _ H Q => ∀ p, H p = none → (p == sysModules) = false → Q (.ref p) (upd H p (fdO P w p []))
theorem pe_dnewN {X : Cx} {pos : Pos} : PE X (.Dict [] [] pos) (tDNewN X.prog X.w) := ⟨fun pins s σ H Q I h =>
  wpAny_Dict_empty ⟨.ref s.heap.objs.size, _, I.laid (a := s.heap.objs.size) (o := fdO X.prog X.w s.heap.objs.size []) (t' := s.toks) (fun _ _ q => Heap.get?_push_of_some _ q) (Nat.le_refl _) (fdO_ok (Heap.get?_push_size _ rfl) ⟨rfl, rfl, rfl⟩ rfl rfl List.nodup_nil), rfl, h _ (I.hok.fresh (Nat.le_refl _)) (beq_eq_false_iff_ne.mpr (Ne.symm (Nat.ne_of_lt I.big)))⟩⟩
/-- q in found -/
def rInN (P : Program) (w : World) (K : PySem.W.Frag) : R2 := fun x y H Q => ∃ (a b : Addr) (q : Po) (fd : List (Po × Nat)), y = .ref a ∧ x = .ref b ∧ PosAt K H b q ∧ FdAt P w K H a fd ∧ Q (.bl (decide (q ∈ fd.map (·.1)))) H
theorem op_inN {X : Cx} (hu : X.A.units + 65 < cLine) : OpR X (compareOp .In) (rInN X.prog X.w X.K) := by
  intro pins s σ H x y v u Q I rx ry h
  obtain ⟨a, b, q, fd, rfl, rfl, hq, ⟨hs, xs, ha, hf⟩, hQ⟩ := h
  obtain rfl : v = Value.ref b := rx
  obtain rfl : u = Value.ref a := ry
  refine wpAny_in_heap (knd := nestedKind X.prog X.w) (by show X.A.units + 1 + 8 < cLine; omega) (pos_is I hq) hs (fd_of I ha hf) ?_
  have e := (hf.val q).isSome_eq
  rw [Option.isSome_map, Option.isSome_map, fdGet_some] at e
  rw [← e]
  exact ⟨.bl _, H, I.tok _, rfl, hQ⟩
/-- found[q] = c, q new -/
def rSetN (P : Program) (w : World) (K : PySem.W.Frag) : TSet := fun o i v H Q => ∃ (a b : Addr) (q : Po) (fd : List (Po × Nat)) (c : Nat), o = .ref a ∧ i = .ref b ∧ v = .int (c : Nat) ∧ PosAt K H b q ∧ FdAt P w K H a fd ∧ q ∉ fd.map (·.1) ∧ fd.length ≤ 1000000 ∧
  ∀ ob, NoTp (some ob) → FdAt P w K (upd H a ob) a (fd ++ [(q, c)]) → Q (upd H a ob)
theorem set_N {X : Cx} (hu : X.A.units + 65 < cLine) : PSet X (rSetN X.prog X.w X.K) := by
  intro pins s σ H o i v ov iv u Q I ro ri rv h
  obtain ⟨a, b, q, fd, c, rfl, rfl, rfl, hq, ⟨hs, xs, ha, hf⟩, hn, hl, hQ⟩ := h
  obtain rfl : ov = Value.ref a := ro
  obtain rfl : iv = Value.ref b := ri
  have dd := fd_of I ha hf
  have e := (hf.val q).isSome_eq
  rw [Option.isSome_map, Option.isSome_map, fdGet_some, decide_eq_false hn] at e
  have hno : atKey xs (pk q) = none := by
    cases z : atKey xs (pk q) with
    | none => rfl
    | some p =>
      rw [z] at e
      cases e
  have hl2 : fd.length = xs.length := Paired.length hf
  refine wpAny_setItem_heap (knd := nestedKind X.prog X.w) (hsz := by rw [sizeLine_eq]; omega) (by show X.A.units + 1 + 8 < cLine; omega) (pos_is I hq) dd fun h' dd' hs' => ?_
  rw [storedH_new hno] at dd'
  obtain ⟨o', es, ep, h1, h2, h3, h4, _, h5⟩ := dd'
  have nt : NoTp (H a) := fdO_noTp ha
  refine ⟨_, d_write I (by rw [ha]; exact fdO_mut) hs' ⟨o', h1⟩ (fdO_ok h1 h2 h3 h4 h5), hQ _ (fdO_noTp rfl) ⟨hs, _, upd_same, ?_⟩⟩
  exact FdP.snoc (hf.upd nt) (hq.upd nt) rv
/-- found.get(q) -/
def fdV (fd : List (Po × Nat)) (q : Po) : V := match fdGet fd q with
  | some c => .int (c : Nat)
  | none => .non
def tGetN (P : Program) (w : World) (K : PySem.W.Frag) (td ty : TE) : TE := fun σ H Q => td σ H fun x H1 => ∃ a fd, x = .ref a ∧ FdAt P w K H1 a fd ∧ ty σ H1 fun y H2 => ∃ b q, y = .ref b ∧ PosAt K H2 b q ∧ FdAt P w K H2 a fd ∧ Q (fdV fd q) H2
theorem pe_getN {X : Cx} {o e : Expr} {apos cpos : Pos} {td ty : TE} (hu : X.A.units + 65 < cLine) (ho : PE X o td) (he : PE X e ty) (m : M1 X o "get" apos e cpos) : PE X (.Call (.Attribute o "get" apos) [e] [] cpos) (tGetN X.prog X.w X.K td ty) := by
  refine ⟨fun pins s σ H Q I h => ?_⟩
  refine wpAny_Call_method m.base m.few m.line PySem.F.plainAttrs_dict PySem.F.slot_dict_get PySem.F.type_dict_get (thn (ho.run pins s σ H _ I h) fun u s1 ⟨x, H1, I1, rx, a, fd, ex, ⟨hs, xs, ha, hf⟩, q1⟩ => ?_)
  subst ex
  obtain rfl : u = Value.ref a := rx
  have d1 := fd_of I1 ha hf
  refine ⟨d1.typeIs, fun b q => ?_, ?_⟩
  · cases q
    obtain ⟨ob, _, _, h1, h2, _⟩ := d1
    exact ⟨ob, h1, h2.2.1⟩
  rw [m.trees]
  refine Calls.callWith_builtin rfl (Calls.evalArgs_plain (Calls.spliced_cons (thn (he.run pins s1 σ H1 _ I1 q1) fun iv s2 ⟨y, H2, I2, ry, b, q, ey, hq, ⟨_, xs2, ha2, hf2⟩, q2⟩ => Calls.spliced_nil ?_)))
  subst ey
  obtain rfl : iv = Value.ref b := ry
  have d2 := fd_of I2 ha2 hf2
  refine call_meetsIn PySem.F.slot_dict_get d2.typeIs PySem.F.entry_dict_get (PySem.F.args_dict_get_2 _ _) (meetsH_dict_get (nestedKind X.prog X.w) a b hs) ⟨(by show X.A.units + 1 + 8 < cLine; omega), pk q, xs2, pos_is I2 hq, d2, ⟨_, H2, I2.tok _, ?_, q2⟩⟩
  have e := hf2.val q
  unfold fdV
  cases z : fdGet fd q with
  | none =>
    rw [z] at e
    cases z2 : (atKey xs2 (pk q)).map (·.2) with
    | none => rfl
    | some v =>
      rw [z2] at e
      exact e.elim
  | some c =>
    rw [z] at e
    cases z2 : (atKey xs2 (pk q)).map (·.2) with
    | none =>
      rw [z2] at e
      exact e.elim
    | some v =>
      rw [z2] at e
      exact e
end Rd
/-! The plain law: what the numbers of a corridor are, by walks. -/
namespace Rd
open PySem Gr
/-- the sizes as numbers -/
def szI (szs : List (Str × Nat)) (z : Str) : Int := ((szn szs z : Nat) : Int)
theorem gen_gcd {Q : Int → Prop} (h2 : ∀ a b, Q a → Q b → Q (a + b)) (h3 : ∀ a, Q a → Q (-a)) (p q : Int) (hp : Q p) (hq : Q q) : Q (Int.gcd p q : Int) := by
  have nat : ∀ m n : Nat, Q (m : Int) → Q (n : Int) → Q ((Nat.gcd m n : Nat) : Int) := by
    intro m n
    induction m, n using Nat.gcd.induction with
    | H0 n =>
      intro _ h
      rw [Nat.gcd_zero_left]
      exact h
    | H1 m n hm ih =>
      intro h4 h5
      rw [Nat.gcd_rec]
      refine ih ?_ h4
      have mul : ∀ j : Nat, Q ((n : Int) - (m : Int) * (j : Int)) := by
        intro j
        induction j with
        | zero =>
          rw [show (n : Int) - (m : Int) * ((0 : Nat) : Int) = (n : Int) from by simp]
          exact h5
        | succ j ih =>
          have := h2 _ _ ih (h3 _ h4)
          rw [show (n : Int) - (m : Int) * (j : Int) + -(m : Int) = (n : Int) - (m : Int) * ((j + 1 : Nat) : Int) from by push_cast; rw [Int.mul_add, Int.mul_one]; omega] at this
          exact this
      have := mul (n / m)
      have e : ((n % m : Nat) : Int) = (n : Int) - (m : Int) * ((n / m : Nat) : Int) := by
        have h6 := Nat.div_add_mod n m
        have h7 : ((m * (n / m) + n % m : Nat) : Int) = (n : Int) := by rw [h6]
        push_cast at h7 ⊢
        omega
      rw [e]
      exact this
  have abs : ∀ a : Int, Q a → Q ((a.natAbs : Nat) : Int) := fun a h => by
    rcases Int.natAbs_eq a with e | e
    · rw [← e]
      exact h
    · have := h3 _ h
      rw [show ((a.natAbs : Nat) : Int) = -a from by omega]
      exact this
  exact nat _ _ (abs p hp) (abs q hq)
theorem gen_gcdL {s : Str → Int} {rm : List Str} : Gen s rm (gcdL (rm.map s)) := fun Q h1 h2 h3 h4 => by
  have key : ∀ (l : List Str) (a : Int), (∀ z ∈ l, Q (s z)) → Q a → Q ((l.map s).foldl (fun f n => (Int.gcd f n : Int)) a) := by
    intro l
    induction l with
    | nil => exact fun a _ h => h
    | cons z l ih => exact fun a h h5 => ih _ (fun y hy => h y (List.mem_cons_of_mem _ hy)) (gen_gcd h2 h3 _ _ h5 (h z List.mem_cons_self))
  exact key rm 0 h4 h1
theorem gen_gcdN {szs : List (Str × Nat)} {rm : List Str} : Gen (szI szs) rm ((gcdN (rm.map (szn szs)) : Nat) : Int) := by
  rw [← gcdN_L, List.map_map]
  exact gen_gcdL
theorem gz_map {szs : List (Str × Nat)} (nd : (szs.map (·.1)).Nodup) : gz szs = gcdL ((szs.map (·.1)).map (szI szs)) := by
  unfold gz
  rw [← szn_map nd]
  rfl
theorem gz_gen {szs : List (Str × Nat)} (nd : (szs.map (·.1)).Nodup) : Gen (szI szs) (szs.map (·.1)) (gz szs) := by
  rw [gz_map nd]
  exact gen_gcdL
theorem gz_dvd {szs : List (Str × Nat)} (nd : (szs.map (·.1)).Nodup) {z : Str} (hz : z ∈ szs.map (·.1)) : gz szs ∣ szI szs z := by
  rw [gz_map nd]
  exact gcd_dvd (List.mem_map.mpr ⟨z, hz, rfl⟩)
theorem gcdN_dvd {szs : List (Str × Nat)} {rm : List Str} {z : Str} (hz : z ∈ rm) : ((gcdN (rm.map (szn szs)) : Nat) : Int) ∣ szI szs z := by
  rw [← gcdN_L, List.map_map]
  exact gcd_dvd (List.mem_map.mpr ⟨z, hz, rfl⟩)
theorem bal_two2 (c : Str → Bool) (rm : List Str) (f l : Str) (ch : Str → Int) : 2 * balC c rm f l ch = 2 * sumR rm (fun z => sgb (c z) * ch z) + sgb (c f) - sgb (c l) := by
  have e : (rm.map fun x => if c x = true then ch x else -ch x).sum = sumR rm (fun z => sgb (c z) * ch z) := by
    unfold sumR
    congr 1
    refine List.map_congr_left fun z _ => ?_
    unfold sgb
    by_cases h : c z = true
    · rw [if_pos h, if_pos h, Int.one_mul]
    · rw [if_neg h, if_neg h]
      omega
  unfold balC
  rw [e]
  unfold sgb
  split <;> split <;> omega
section
variable {szs : List (Str × Nat)} {ps : List (Str × Str)} {f l : Str} {ch : Str → Int}
theorem szI_pos (O : BOk szs ps) : ∀ z ∈ szs.map (·.1), 0 < szI szs z := fun z hz => by
  have := (szn_pos O hz).1
  unfold szI
  omega
/-- a possible trace: some walk leaves it -/
theorem pos_walk (O : BOk szs ps) (hf : f ∈ szs.map (·.1)) (hl : l ∈ szs.map (·.1)) (h : TPos szs ps f l ch) : ∃ a, Wk ps f l a ∧ ∀ z ∈ szs.map (·.1), szI szs z ∣ a z - ch z := by
  rcases h with h | ⟨c, hc, hb⟩
  · exact orbit_odd (szI_pos O) O.nd O.ends (fun z hz => O.cn f hf z hz) h hl hf ch
  · refine orbit_two (szI_pos O) O.nd O.ends (fun z hz => O.cn f hf z hz) hc (gz_gen O.nd) hl ?_
    rw [← bal_two2]
    exact Int.mul_dvd_mul_left 2 (Int.dvd_of_emod_eq_zero hb)
/-- an impossible one: none does -/
theorem not_walk (O : BOk szs ps) (h : TNot szs ps f l ch) : ¬ ∃ a, Wk ps f l a ∧ ∀ z ∈ szs.map (·.1), szI szs z ∣ a z - ch z := fun ⟨a, hw, ha⟩ => by
  obtain ⟨c, hc, hb⟩ := h
  have e := hw.law O.nd O.ends (h := fun z => sgb (c z)) fun u v ad => by rw [hc.adj ad, sgb_not]; omega
  refine hb (Int.emod_eq_zero_of_dvd ?_)
  have e2 := bal_two2 c (szs.map (·.1)) f l ch
  have e3 := sumR_add (szs.map (·.1)) (fun z => sgb (c z) * (a z - ch z)) (fun z => sgb (c z) * ch z)
  rw [sumR_congr (u := fun z => sgb (c z) * a z) fun z _ => by rw [Int.mul_sub]; omega] at e3
  have d : gz szs ∣ sumR (szs.map (·.1)) (fun z => sgb (c z) * (a z - ch z)) := sumR_dvd fun z hz => Int.dvd_trans (gz_dvd O.nd hz) (Int.dvd_trans (ha z hz) ⟨sgb (c z), Int.mul_comm _ _⟩)
  have e4 : balC c (szs.map (·.1)) f l ch = -sumR (szs.map (·.1)) (fun z => sgb (c z) * (a z - ch z)) := by omega
  rw [e4]
  exact Int.dvd_neg.mpr d
theorem pos_or (h : ¬ TNot szs ps f l ch) : TPos szs ps f l ch := by
  by_cases q : ∃ c, Col ps c
  · obtain ⟨c, hc⟩ := q
    refine .inr ⟨c, hc, Classical.byContradiction fun n => h ⟨c, hc, n⟩⟩
  · exact .inl fun c hc => q ⟨c, hc⟩
theorem not_swap (O : BOk szs ps) {p : Str × Str} (hp : p ∈ ps) : ∀ q ∈ ps, (q.2, q.1) ≠ p := fun q hq e => by
  have h1 := O.ord q hq
  have h2 := O.ord p hp
  rw [← e] at h2
  have := ltS_asym h1
  rw [this] at h2
  cases h2
theorem kept_sub (O : BOk szs ps) {p : Str × Str} (hp : p ∈ ps) : ∀ q ∈ keptP ps p, q ∈ ps ∧ q ≠ p ∧ (q.2, q.1) ≠ p := fun q hq => by
  obtain ⟨h1, h2⟩ := List.mem_filter.mp hq
  exact ⟨h1, by simpa using h2, not_swap O hp q h1⟩
/-- a walk without p in what is open -/
theorem wk_open {ps' : List (Str × Str)} {p : Str × Str} (hp : ∀ q, q ∈ ps' ↔ q ∈ keptP ps p ∧ Conn (keptP ps p) f q.1) {y : Str} {a : Str → Int} (h : Wk (keptP ps p) f y a) : Wk ps' f y a := by
  induction h with
  | nil => exact .nil
  | @step y z a hw ad ih =>
    refine ih.step ?_
    rcases ad with ad | ad
    · exact .inl ((hp _).mpr ⟨ad, hw.conn⟩)
    · exact .inr ((hp _).mpr ⟨ad, hw.conn.step (.inr ad)⟩)
/-- the paper's word is right -/
theorem avo_iff (O : BOk szs ps) (OT : TOk szs ps f l ch) {p : Str × Str} (hp : p ∈ ps) {szs' : List (Str × Nat)} {ps' : List (Str × Str)} {l' : Str} {ch' : Str → Int} (O' : BOk szs' ps') (OT' : TOk szs' ps' f l' ch') (op : Opn szs ps f l ch p szs' ps' l' ch') :
    Avo szs l ch szs' ps' f l' ch' ↔ ∃ a, Wc ps p f l a 0 ∧ ∀ z ∈ szs.map (·.1), szI szs z ∣ a z - ch z := by
  constructor
  · rintro ⟨h1, h2⟩
    have hl' : l ∈ szs'.map (·.1) := Classical.byContradiction fun n => (h1 l OT.l n).1 rfl
    have el : l' = l := op.last.1 ((op.rooms l).mp hl')
    subst el
    obtain ⟨a, hw, ha⟩ := pos_walk O' OT'.f OT'.l h2
    refine ⟨a, hw.lift fun q hq => kept_sub O hp q ((op.prs q).mp hq).1, fun z hz => ?_⟩
    by_cases hz' : z ∈ szs'.map (·.1)
    · have := ha z hz'
      unfold szI at this ⊢
      rw [op.size z hz', op.chs z hz'] at this
      exact this
    · rw [hw.out O'.ends hz', (h1 z hz hz').2]
      exact ⟨0, by simp⟩
  · rintro ⟨a, hw, ha⟩
    have hk := hw.free rfl
    have hk' := wk_open op.prs hk
    have el : l' = l := op.last.1 hk.conn
    have hl' : l ∈ szs'.map (·.1) := (op.rooms l).mpr hk.conn
    subst el
    refine ⟨fun x hx hn => ⟨fun e => hn (e ▸ hl'), ?_⟩, pos_or fun hno => not_walk O' hno ⟨a, hk', fun z hz => ?_⟩⟩
    · have h1 := ha x hx
      rw [hk'.out O'.ends hn] at h1
      obtain ⟨h2, h3⟩ := OT.ch x hx
      obtain ⟨j, hj⟩ := h1
      unfold szI at hj
      have hx1 := (szn_pos O hx).1
      have : ch x = -(((szn szs x : Nat) : Int) * j) := by omega
      rcases Int.lt_trichotomy j 0 with q | q | q
      · have : ((szn szs x : Nat) : Int) * j ≤ ((szn szs x : Nat) : Int) * (-1) := Int.mul_le_mul_of_nonneg_left (by omega) (by omega)
        omega
      · rw [q] at this
        simp at this
        exact this
      · have : 0 < ((szn szs x : Nat) : Int) * j := Int.mul_pos (by omega) q
        omega
    · have hzz : z ∈ szs.map (·.1) := conn_rooms O OT.f ((op.rooms z).mp hz)
      have := ha z hzz
      unfold szI at this ⊢
      rw [op.size z hz, op.chs z hz]
      exact this
end
end Rd
/-! The plain law: the numbers of a corridor begin at the least number of crossings. -/
namespace Rd
open PySem Gr
section
variable {szs : List (Str × Nat)} {ps : List (Str × Str)} {f l x y : Str} {ch : Str → Int} {p : Str × Str}
theorem sumR_sub {A rm : List Str} (nA : A.Nodup) (nd : rm.Nodup) (hs : ∀ z ∈ A, z ∈ rm) {t : Str → Int} (h0 : ∀ z, z ∉ A → t z = 0) : sumR rm t = sumR A t := by
  have key : ∀ A : List Str, A.Nodup → (∀ z ∈ A, z ∈ rm) → sumR rm (fun z => if z ∈ A then t z else 0) = sumR A t := by
    intro A
    induction A with
    | nil => exact fun _ _ => sumR_zero fun z _ => by simp
    | cons r A ih =>
      intro nA hs
      obtain ⟨n1, n2⟩ := List.nodup_cons.mp nA
      rw [sumR_cons, ← ih n2 fun z hz => hs z (List.mem_cons_of_mem _ hz), ← sumR_ind nd (hs r List.mem_cons_self) t, ← sumR_add]
      refine sumR_congr fun z _ => ?_
      unfold ind
      by_cases e : z = r
      · subst e
        simp [n1]
      · simp [e]
  rw [← key A nA hs]
  refine sumR_congr fun z _ => ?_
  by_cases e : z ∈ A
  · rw [if_pos e]
  · rw [if_neg e, h0 z e]
theorem isP_of (O : BOk szs ps) (hp : p ∈ ps) {u v : Str} (h : (u, v) ∈ ps) : isP p u v ↔ (u, v) = p :=
  ⟨fun e => e.resolve_right (not_swap O hp _ h), .inl⟩
theorem isP_of' (O : BOk szs ps) (hp : p ∈ ps) {u v : Str} (h : (v, u) ∈ ps) : isP p u v ↔ (v, u) = p :=
  ⟨fun e => e.resolve_left (not_swap O hp _ h), .inr⟩
/-- weights that cancel along pairs, but for p -/
def Wt (ps : List (Str × Str)) (p : Str × Str) (h : Str → Int) (M κ : Int) : Prop := ∀ q ∈ ps, M ∣ h q.1 + h q.2 - (if q = p then κ else 0)
theorem w_law (O : BOk szs ps) (hp : p ∈ ps) {h : Str → Int} {M κ : Int} (hh : Wt ps p h M κ) {a : Str → Int} {k : Nat} (w : Wc ps p f l a k) : M ∣ 2 * sumR (szs.map (·.1)) (fun z => h z * a z) + h f - h l - κ * (k : Int) :=
  w.law O.nd O.ends fun u v ad => by
    rcases ad with ad | ad
    · have := hh _ ad
      by_cases e : (u, v) = p
      · rw [if_pos e] at this
        rw [if_pos ((isP_of O hp ad).mpr e)]
        exact this
      · rw [if_neg e] at this
        rw [if_neg fun z => e ((isP_of O hp ad).mp z)]
        exact this
    · have := hh _ ad
      by_cases e : (v, u) = p
      · rw [if_pos e] at this
        rw [if_pos ((isP_of' O hp ad).mpr e), Int.add_comm (h u)]
        exact this
      · rw [if_neg e] at this
        rw [if_neg fun z => e ((isP_of' O hp ad).mp z), Int.add_comm (h u)]
        exact this
theorem v_law (O : BOk szs ps) (hp : p ∈ ps) (hf : f ∈ szs.map (·.1)) (hl : l ∈ szs.map (·.1)) {h : Str → Int} {M κ : Int} (hh : Wt ps p h M κ) {v : Str × Str → Int} {w ch' : Str → Int} (hw : ∀ x, w x = 2 * ch' x + (if x = f then 1 else 0) - (if x = l then 1 else 0))
    (hv : ∀ x ∈ szs.map (·.1), esum ps v x = w x) : M ∣ 2 * sumR (szs.map (·.1)) (fun z => h z * ch' z) + h f - h l - κ * v p := by
  have e1 := edge_law O.nd O.ends (fun q hq e => by
    have := O.ord q hq
    rw [e] at this
    exact ltS_irr _ this) h v
  have e2 : sumR (szs.map (·.1)) (fun z => h z * w z) = 2 * sumR (szs.map (·.1)) (fun z => h z * ch' z) + h f - h l := by
    have a1 := sumR_ind O.nd hf h
    have a2 := sumR_ind O.nd hl h
    have a3 := sumR_mul (szs.map (·.1)) 2 (fun z => h z * ch' z)
    have a4 := sumR_add (szs.map (·.1)) (fun z => h z * w z) (fun z => h z * ind l z)
    have a5 := sumR_add (szs.map (·.1)) (fun z => 2 * (h z * ch' z)) (fun z => h z * ind f z)
    have a6 : sumR (szs.map (·.1)) (fun z => h z * w z + h z * ind l z) = sumR (szs.map (·.1)) (fun z => 2 * (h z * ch' z) + h z * ind f z) := sumR_congr fun z _ => by
      have : w z + ind l z = 2 * ch' z + ind f z := by
        rw [hw]
        unfold ind
        omega
      rw [← Int.mul_add, this, Int.mul_add, show h z * (2 * ch' z) = 2 * (h z * ch' z) from by ac_rfl]
    omega
  have e3 := edge_dvd O.ndP (v := v) hp hh
  rw [← e1, sumR_congr (u := fun z => h z * w z) fun z hz => by rw [← hv z hz]; rfl, e2] at e3
  exact e3
/-- the bank of a bridge, as a part -/
theorem bank_side (O : BOk szs ps) (hp : p ∈ ps) (hpe : p = (x, y) ∨ p = (y, x)) (hx : x ∈ szs.map (·.1)) {rs : List Str} {g : Nat} (nd : rs.Nodup) (hrs : ∀ z, z ∈ rs ↔ Conn (keptP ps p) x z) (hy : y ∉ rs) (B : BG szs ps rs g) :
    ∃ h : Str → Int, Side ps p (szI szs) rs x h (2 * (g : Int)) ∧ (∀ z ∈ rs, h z = 1 ∨ h z = -1) ∧ (∀ z ∈ rs, (g : Int) ∣ szI szs z) ∧ Wt ps p h (2 * (g : Int)) (h x) := by
  have hxr : x ∈ rs := (hrs x).mpr .refl
  have sub : ∀ z ∈ rs, z ∈ szs.map (·.1) := fun z hz => conn_rooms O hx ((hrs z).mp hz)
  have pos : ∀ z ∈ rs, 0 < szI szs z := fun z hz => szI_pos O z (sub z hz)
  have hinn : ∀ q ∈ inn ps rs, q ∈ ps ∧ q.1 ∈ rs ∧ q.2 ∈ rs := fun q hq => by
    obtain ⟨h1, h2⟩ := List.mem_filter.mp hq
    simp at h2
    exact ⟨h1, h2⟩
  have hin : ∀ q ∈ inn ps rs, q.1 ∈ rs ∧ q.2 ∈ rs := fun q hq => (hinn q hq).2
  have hsub : ∀ q ∈ inn ps rs, q ∈ ps ∧ q ≠ p ∧ (q.2, q.1) ≠ p := fun q hq => by
    obtain ⟨h1, h2, h3⟩ := hinn q hq
    refine ⟨h1, fun e => ?_, not_swap O hp q h1⟩
    subst e
    rcases hpe with e | e
    · rw [e] at h3
      exact hy h3
    · rw [e] at h2
      exact hy h2
  have cn : ∀ z ∈ rs, Conn (inn ps rs) x z := fun z hz => bank_conn hrs x hxr z hz
  have hq : ∀ q ∈ ps, q ≠ p → (q.1 ∈ rs ↔ q.2 ∈ rs) := fun q hq hne => by
    have hk : q ∈ keptP ps p := List.mem_filter.mpr ⟨hq, by simpa using hne⟩
    exact ⟨fun h => (hrs _).mpr (((hrs _).mp h).step (.inl hk)), fun h => (hrs _).mpr (((hrs _).mp h).step (.inr hk))⟩
  have wt : ∀ (h : Str → Int) (M : Int), (∀ z, z ∉ rs → h z = 0) → (∀ q ∈ inn ps rs, M ∣ h q.1 + h q.2) → Wt ps p h M (h x) := fun h M h0 h1 q hqp => by
    by_cases e : q = p
    · rw [if_pos e, e]
      have hy0 := h0 y hy
      rcases hpe with e2 | e2
      · rw [e2]
        exact ⟨0, by show h x + h y - h x = _; omega⟩
      · rw [e2]
        exact ⟨0, by show h y + h x - h x = _; omega⟩
    · rw [if_neg e, Int.sub_zero]
      by_cases e1 : q.1 ∈ rs
      · exact h1 q (List.mem_filter.mpr ⟨hqp, by simp [e1, (hq q hqp e).mp e1]⟩)
      · rw [h0 _ e1, h0 _ fun z => e1 ((hq q hqp e).mpr z)]
        exact ⟨0, by simp⟩
  rcases B with ⟨rfl, hc⟩ | ⟨⟨c, hc⟩, rfl⟩
  · refine ⟨_, side_one pos nd hxr hin hsub cn hc, fun z hz => .inl (if_pos hz), fun z _ => ⟨szI szs z, by simp⟩, wt _ _ (fun z hz => if_neg hz) fun q hq' => ?_⟩
    obtain ⟨_, h2, h3⟩ := hinn q hq'
    rw [if_pos h2, if_pos h3]
    exact ⟨1, by simp⟩
  · refine ⟨_, side_two pos nd hxr hin hsub cn hc gen_gcdN, fun z hz => ?_, fun z hz => gcdN_dvd hz, wt _ _ (fun z hz => if_neg hz) fun q hq' => ?_⟩
    · rw [if_pos hz]
      unfold sgb
      cases c z
      · exact .inr rfl
      · exact .inl rfl
    · obtain ⟨_, h2, h3⟩ := hinn q hq'
      rw [if_pos h2, if_pos h3, hc.adj (.inl hq' : Adj (inn ps rs) q.1 q.2), sgb_not]
      exact ⟨0, by simp; omega⟩
theorem dvd_pm {g κ d : Int} (hκ : κ = 1 ∨ κ = -1) (h : g ∣ κ * d) : g ∣ d := by
  rcases hκ with rfl | rfl
  · rw [Int.one_mul] at h
    exact h
  · rw [Int.neg_mul, Int.one_mul] at h
    exact Int.dvd_neg.mp h
/-- what a part tells of the crossings -/
theorem bank_mod (O : BOk szs ps) (hp : p ∈ ps) (hf : f ∈ szs.map (·.1)) (hl : l ∈ szs.map (·.1)) {rs : List Str} {h : Str → Int} {g : Nat} {κ : Int} (h0 : ∀ z, z ∉ rs → h z = 0) (hg : ∀ z ∈ rs, (g : Int) ∣ szI szs z) (hh : Wt ps p h (2 * (g : Int)) κ)
    {v : Str × Str → Int} {w ch' t : Str → Int} (hw : ∀ x, w x = 2 * ch' x + (if x = f then 1 else 0) - (if x = l then 1 else 0)) (hv : ∀ x ∈ szs.map (·.1), esum ps v x = w x) (ht : ∀ z ∈ szs.map (·.1), szI szs z ∣ t z - ch' z) :
    2 * (g : Int) ∣ 2 * sumR (szs.map (·.1)) (fun z => h z * t z) + h f - h l - κ * v p := by
  have h1 := v_law O hp hf hl hh hw hv
  have e := sumR_add (szs.map (·.1)) (fun z => h z * (t z - ch' z)) (fun z => h z * ch' z)
  rw [sumR_congr (u := fun z => h z * t z) fun z _ => by rw [Int.mul_sub]; omega] at e
  have d : (g : Int) ∣ sumR (szs.map (·.1)) (fun z => h z * (t z - ch' z)) := sumR_dvd fun z hz => by
    by_cases q : z ∈ rs
    · exact Int.dvd_trans (hg z q) (Int.dvd_trans (ht z hz) ⟨h z, Int.mul_comm _ _⟩)
    · rw [h0 z q]
      exact ⟨0, by simp⟩
  have d2 := Int.dvd_add (Int.mul_dvd_mul_left 2 d) h1
  rw [e]
  rw [show 2 * sumR (szs.map (·.1)) (fun z => h z * (t z - ch' z)) + (2 * sumR (szs.map (·.1)) (fun z => h z * ch' z) + h f - h l - κ * v p) = 2 * (sumR (szs.map (·.1)) (fun z => h z * (t z - ch' z)) + sumR (szs.map (·.1)) (fun z => h z * ch' z)) + h f - h l - κ * v p from by omega] at d2
  exact d2
theorem lcm_two {g1 g2 : Nat} {d : Int} (h1 : 2 * (g1 : Int) ∣ d) (h2 : 2 * (g2 : Int) ∣ d) : ((2 * Nat.lcm g1 g2 : Nat) : Int) ∣ d := by
  have a1 : ((2 * g1 : Nat) : Int) ∣ d := by push_cast; exact h1
  have a2 : ((2 * g2 : Nat) : Int) ∣ d := by push_cast; exact h2
  have b1 := Int.ofNat_dvd_left.mp a1
  have b2 := Int.ofNat_dvd_left.mp a2
  have c := Nat.lcm_dvd b1 b2
  rw [Nat.lcm_mul_left] at c
  exact Int.ofNat_dvd_left.mpr c
theorem kept_or (O : BOk szs ps) (hpe : p = (x, y) ∨ p = (y, x)) {z : Str} (h : Conn ps x z) : Conn (keptP ps p) x z ∨ Conn (keptP ps p) y z := by
  induction h with
  | refl => exact .inl .refl
  | @step u v _ ad ih =>
    have key : ∀ q : Str × Str, q ∈ ps → (Conn (keptP ps p) x q.1 ∨ Conn (keptP ps p) y q.1 ↔ Conn (keptP ps p) x q.2 ∨ Conn (keptP ps p) y q.2) := fun q hq => by
      by_cases e : q = p
      · rw [e]
        rcases hpe with e | e
        · rw [e]
          exact ⟨fun _ => .inr .refl, fun _ => .inl .refl⟩
        · rw [e]
          exact ⟨fun _ => .inl .refl, fun _ => .inr .refl⟩
      · have hk : q ∈ keptP ps p := List.mem_filter.mpr ⟨hq, by simpa using e⟩
        exact ⟨fun h => h.imp (fun h => h.step (.inl hk)) fun h => h.step (.inl hk), fun h => h.imp (fun h => h.step (.inr hk)) fun h => h.step (.inr hk)⟩
    rcases ad with ad | ad
    · exact (key _ ad).mp ih
    · exact (key _ ad).mpr ih
theorem odd_mul {κ : Int} (hκ : κ = 1 ∨ κ = -1) (k : Int) : (κ * k) % 2 = k % 2 := by
  rcases hκ with rfl | rfl
  · rw [Int.one_mul]
  · omega
theorem rest_pos {i v m : Int} (hm : 1 ≤ m) (hi : i = (v - 1) % m + 1) : 1 ≤ i ∧ i ≤ m ∧ m ∣ i - v := by
  have h1 := Int.emod_nonneg (v - 1) (show m ≠ 0 by omega)
  have h2 := Int.emod_lt_of_pos (v - 1) (show 0 < m by omega)
  refine ⟨by omega, by omega, ?_⟩
  have h3 := Int.emod_def (v - 1) m
  refine ⟨-((v - 1) / m), ?_⟩
  rw [Int.mul_neg]
  omega
/-- the least number of crossings -/
theorem num_least (O : BOk szs ps) (OT : TOk szs ps f l ch) (hpos : TPos szs ps f l ch) (hp : pairS x y ∈ ps) {i m : Int} (N : NumOk szs ps f l ch x y i m) :
    ∃ k : Nat, i = (k : Int) ∧ (∃ a, Wc ps (pairS x y) f l a k ∧ ∀ z ∈ szs.map (·.1), szI szs z ∣ a z - ch z) ∧ ∀ (j : Nat) (a : Str → Int), Wc ps (pairS x y) f l a j → (∀ z ∈ szs.map (·.1), szI szs z ∣ a z - ch z) → k ≤ j := by
  obtain ⟨n, rfl, hn, hm, szs', ps', l', ch', O', OT', op, hi⟩ := N
  have av := avo_iff O OT hp O' OT' op
  rcases hi with ⟨ha, rfl⟩ | ⟨ha, v, ⟨w, ⟨c', hc1, hw, _⟩, hv⟩, hi⟩
  · exact ⟨0, rfl, av.mp ha, fun _ _ _ _ => Nat.zero_le _⟩
  have ha' := fun h => ha (av.mpr h)
  obtain ⟨hi1, hi2, hi3⟩ := rest_pos (by omega) hi
  obtain ⟨k, rfl⟩ := Int.eq_ofNat_of_zero_le (show 0 ≤ i by omega)
  have hpe : pairS x y = (x, y) ∨ pairS x y = (y, x) := by
    unfold pairS
    split
    · exact .inl rfl
    · exact .inr rfl
  obtain ⟨hx, hy⟩ := pairS_ends O hp
  have hip : isP (pairS x y) x y := hpe.imp Eq.symm Eq.symm
  have had : Adj ps x y := by
    rcases hpe with e | e
    · rw [e] at hp
      exact .inl hp
    · rw [e] at hp
      exact .inr hp
  -- from the two parts
  suffices h : (∀ (j : Nat) (a : Str → Int), Wc ps (pairS x y) f l a j → (∀ z ∈ szs.map (·.1), szI szs z ∣ a z - ch z) → (n : Int) ∣ (j : Int) - v (pairS x y)) ∧ ∃ a, Wc ps (pairS x y) f l a k ∧ ∀ z ∈ szs.map (·.1), szI szs z ∣ a z - ch z by
    refine ⟨k, rfl, h.2, fun j a hw ht => ?_⟩
    have h1 := h.1 j a hw ht
    have hj : j ≠ 0 := fun e => by
      subst e
      exact ha' ⟨a, hw, ht⟩
    refine Nat.le_of_not_lt fun hlt => ?_
    have h2 := Int.dvd_sub hi3 h1
    rw [show (k : Int) - v (pairS x y) - ((j : Int) - v (pairS x y)) = (k : Int) - (j : Int) from by omega] at h2
    have h3 := Int.le_of_dvd (by omega) h2
    omega
  have tz : ∀ z ∈ szs.map (·.1), szI szs z ∣ ch z - c' z := fun z hz => by
    have := Int.dvd_neg.mpr (hc1 z hz)
    rw [show -(c' z - ch z) = ch z - c' z from by omega] at this
    exact this
  have az : ∀ a : Str → Int, (∀ z ∈ szs.map (·.1), szI szs z ∣ a z - ch z) → ∀ z ∈ szs.map (·.1), szI szs z ∣ a z - c' z := fun a h z hz => by
    have := Int.dvd_add (h z hz) (tz z hz)
    rw [show a z - ch z + (ch z - c' z) = a z - c' z from by omega] at this
    exact this
  rcases hm with ⟨hno, r1, r2, g1, g2, n1, n2, m1, m2, B1, B2, hmn⟩ | ⟨hcon, hm⟩
  · -- a bridge
    have hy1 : y ∉ r1 := fun h => hno ((m1 y).mp h)
    have hx2 : x ∉ r2 := fun h => hno ((m2 x).mp h).symm
    obtain ⟨hA, SA, pmA, gA, wA⟩ := bank_side O hp hpe hx n1 m1 hy1 B1
    obtain ⟨hB, SB, pmB, gB, wB⟩ := bank_side O hp (hpe.symm) hy n2 m2 hx2 B2
    have sub1 : ∀ z ∈ r1, z ∈ szs.map (·.1) := fun z hz => conn_rooms O hx ((m1 z).mp hz)
    have sub2 : ∀ z ∈ r2, z ∈ szs.map (·.1) := fun z hz => conn_rooms O hy ((m2 z).mp hz)
    have dj : ∀ z ∈ r1, z ∉ r2 := fun z h1 h2 => hno (((m1 z).mp h1).trans ((m2 z).mp h2).symm)
    have all : ∀ z ∈ szs.map (·.1), z ∈ r1 ∨ z ∈ r2 := fun z hz => (kept_or O hpe (O.cn x hx z hz)).imp (m1 z).mpr (m2 z).mpr
    have pA := pmA x SA.mem
    have pB := pmB y SB.mem
    have d1 : 2 * (g1 : Int) ∣ (n : Int) := by
      rw [hmn]
      have := Nat.mul_dvd_mul_left 2 (Nat.dvd_lcm_left g1 g2)
      have := Int.natCast_dvd_natCast.mpr this
      push_cast at this ⊢
      exact this
    have d2 : 2 * (g2 : Int) ∣ (n : Int) := by
      rw [hmn]
      have := Nat.mul_dvd_mul_left 2 (Nat.dvd_lcm_right g1 g2)
      have := Int.natCast_dvd_natCast.mpr this
      push_cast at this ⊢
      exact this
    refine ⟨fun j a hwk ht => ?_, ?_⟩
    · rw [hmn]
      refine lcm_two ?_ ?_
      · have e1 := bank_mod O hp OT.f OT.l SA.out gA wA hw hv (az a ht)
        have e2 := w_law O hp wA hwk
        have e3 := Int.dvd_sub e1 e2
        refine dvd_pm pA ?_
        rw [show ∀ s : Int, s + hA f - hA l - hA x * v (pairS x y) - (s + hA f - hA l - hA x * (j : Int)) = hA x * ((j : Int) - v (pairS x y)) from fun s => by rw [Int.mul_sub]; omega] at e3
        exact e3
      · have e1 := bank_mod O hp OT.f OT.l SB.out gB wB hw hv (az a ht)
        have e2 := w_law O hp wB hwk
        have e3 := Int.dvd_sub e1 e2
        refine dvd_pm pB ?_
        rw [show ∀ s : Int, s + hB f - hB l - hB y * v (pairS x y) - (s + hB f - hB l - hB y * (j : Int)) = hB y * ((j : Int) - v (pairS x y)) from fun s => by rw [Int.mul_sub]; omega] at e3
        exact e3
    · have cA : 2 * (g1 : Int) ∣ 2 * sumR r1 (fun z => hA z * ch z) + hA f - hA l - hA x * (k : Int) := by
        have e1 := bank_mod O hp OT.f OT.l SA.out gA wA hw hv tz
        rw [sumR_sub n1 O.nd sub1 (fun z hz => by rw [SA.out z hz, Int.zero_mul])] at e1
        have e2 := Int.dvd_trans d1 hi3
        have e3 := Int.dvd_sub e1 (Int.dvd_trans e2 ⟨hA x, Int.mul_comm _ _⟩ : 2 * (g1 : Int) ∣ hA x * ((k : Int) - v (pairS x y)))
        rw [show ∀ s : Int, s + hA f - hA l - hA x * v (pairS x y) - hA x * ((k : Int) - v (pairS x y)) = s + hA f - hA l - hA x * (k : Int) from fun s => by rw [Int.mul_sub]; omega] at e3
        exact e3
      have cB : 2 * (g2 : Int) ∣ 2 * sumR r2 (fun z => hB z * ch z) + hB f - hB l - hB y * (k : Int) := by
        have e1 := bank_mod O hp OT.f OT.l SB.out gB wB hw hv tz
        rw [sumR_sub n2 O.nd sub2 (fun z hz => by rw [SB.out z hz, Int.zero_mul])] at e1
        have e2 := Int.dvd_trans d2 hi3
        have e3 := Int.dvd_sub e1 (Int.dvd_trans e2 ⟨hB y, Int.mul_comm _ _⟩ : 2 * (g2 : Int) ∣ hB y * ((k : Int) - v (pairS x y)))
        rw [show ∀ s : Int, s + hB f - hB l - hB y * v (pairS x y) - hB y * ((k : Int) - v (pairS x y)) = s + hB f - hB l - hB y * (k : Int) from fun s => by rw [Int.mul_sub]; omega] at e3
        exact e3
      have par : ∀ (h : Str → Int) (rs : List Str) (s κ : Int) (g : Nat), (∀ z ∈ rs, h z = 1 ∨ h z = -1) → (∀ z, z ∉ rs → h z = 0) → (κ = 1 ∨ κ = -1) → 2 * (g : Int) ∣ 2 * s + h f - h l - κ * (k : Int) → l ∈ rs → (f ∈ rs ↔ k % 2 = 0) := fun h rs s κ g h1 h0 hκ hd hl => by
        have e0 := Int.emod_eq_zero_of_dvd (Int.dvd_trans (⟨(g : Int), rfl⟩ : (2 : Int) ∣ 2 * (g : Int)) hd)
        have e1 := odd_mul hκ (k : Int)
        have e2 : (h l) % 2 = 1 := by
          rcases h1 l hl with e | e <;> rw [e] <;> rfl
        by_cases hf : f ∈ rs
        · have e3 : (h f) % 2 = 1 := by
            rcases h1 f hf with e | e <;> rw [e] <;> rfl
          exact ⟨fun _ => by omega, fun _ => hf⟩
        · have e3 := h0 f hf
          exact ⟨fun h => absurd h hf, fun h => by omega⟩
      have br := bridge_all SA SB dj had hip k
      rcases all l OT.l with hl | hl
      · obtain ⟨a, q1, q2, q3⟩ := br.1 f l ch (all f OT.f) hl (par hA r1 _ _ g1 pmA SA.out pA cA hl) (by omega) cA cB
        exact ⟨a, q1, fun z hz => (all z hz).elim (q2 z) (q3 z)⟩
      · obtain ⟨a, q1, q2, q3⟩ := br.2 f l ch (all f OT.f) hl (par hB r2 _ _ g2 pmB SB.out pB cB hl) (by omega) cA cB
        exact ⟨a, q1, fun z hz => (all z hz).elim (q2 z) (q3 z)⟩
  · -- no bridge
    have cnk : ∀ z ∈ szs.map (·.1), Conn (keptP ps (pairS x y)) f z := fun z hz => conn_keep hcon (O.cn f OT.f z hz)
    have hink : ∀ q ∈ keptP ps (pairS x y), q.1 ∈ szs.map (·.1) ∧ q.2 ∈ szs.map (·.1) := fun q hq => O.ends q (List.mem_filter.mp hq).1
    have hsub := kept_sub O hp
    rcases hm with ⟨hm, rfl⟩ | ⟨hno, ⟨c, hc⟩, hmn⟩
    · refine absurd ?_ ha'
      rcases hm with ⟨c, hc⟩ | hc
      · rcases hpos with h | ⟨c2, hc2, hb⟩
        · exact absurd hc (h c)
        · have hk : Col (keptP ps (pairS x y)) c2 := fun q hq => hc2 q (List.mem_filter.mp hq).1
          obtain ⟨a, h1, h2⟩ := orbit_two (szI_pos O) O.nd hink cnk hk (gz_gen O.nd) OT.l (t := ch) (by
            rw [← bal_two2]
            exact Int.mul_dvd_mul_left 2 (Int.dvd_of_emod_eq_zero hb))
          exact ⟨a, h1.lift hsub, h2⟩
      · obtain ⟨a, h1, h2⟩ := orbit_odd (szI_pos O) O.nd hink cnk hc OT.l OT.f ch
        exact ⟨a, h1.lift hsub, h2⟩
    · have hcx : sgb (c x) = sgb (c y) := by
        have e : c x = c y := Classical.byContradiction fun ne => hno c fun q hq => by
          by_cases e : q = pairS x y
          · rw [e]
            rcases hpe with e2 | e2
            · rw [e2]
              exact ne
            · rw [e2]
              exact fun z => ne z.symm
          · exact hc q (List.mem_filter.mpr ⟨hq, by simpa using e⟩)
        rw [e]
      have hg : (n : Int) = gz szs := by rw [hmn, gz_N]
      have gen := gz_gen O.nd
      rw [← hg] at gen
      have S := side_two (p := pairS x y) (ps := ps) (szI_pos O) O.nd hx hink hsub (fun z hz => (cnk x hx).symm.trans (cnk z hz)) hc gen
      have wt : Wt ps (pairS x y) (fun z => if z ∈ szs.map (·.1) then sgb (c z) else 0) (2 * (n : Int)) (2 * sgb (c x)) := fun q hq => by
        obtain ⟨h1, h2⟩ := O.ends q hq
        show _ ∣ (if q.1 ∈ szs.map (·.1) then sgb (c q.1) else 0) + (if q.2 ∈ szs.map (·.1) then sgb (c q.2) else 0) - _
        rw [if_pos h1, if_pos h2]
        by_cases e : q = pairS x y
        · rw [if_pos e, e]
          rcases hpe with e2 | e2
          · rw [e2]
            exact ⟨0, by show sgb (c x) + sgb (c y) - 2 * sgb (c x) = _; rw [hcx]; omega⟩
          · rw [e2]
            exact ⟨0, by show sgb (c y) + sgb (c x) - 2 * sgb (c x) = _; rw [hcx]; omega⟩
        · rw [if_neg e, hc.adj (.inl (List.mem_filter.mpr ⟨hq, by simpa using e⟩) : Adj (keptP ps (pairS x y)) q.1 q.2), sgb_not]
          exact ⟨0, by omega⟩
      have gd : ∀ z ∈ szs.map (·.1), (n : Int) ∣ szI szs z := fun z hz => by
        rw [hg]
        exact gz_dvd O.nd hz
      have pm : sgb (c x) = 1 ∨ sgb (c x) = -1 := by
        unfold sgb
        cases c x
        · exact .inr rfl
        · exact .inl rfl
      refine ⟨fun j a hwk ht => ?_, ?_⟩
      · have e1 := bank_mod O hp OT.f OT.l S.out gd wt hw hv (az a ht)
        have e2 := w_law O hp wt hwk
        have e3 := Int.dvd_sub e1 e2
        rw [show ∀ s t u : Int, s + t - u - 2 * sgb (c x) * v (pairS x y) - (s + t - u - 2 * sgb (c x) * (j : Int)) = 2 * (sgb (c x) * ((j : Int) - v (pairS x y))) from fun s t u => by rw [Int.mul_sub, Int.mul_assoc, Int.mul_assoc]; omega] at e3
        exact dvd_pm pm (Int.dvd_of_mul_dvd_mul_left (by decide) e3)
      · refine ring_all S hy (by rw [if_pos hx, if_pos hy]; exact hcx) had hip k f l ch OT.f OT.l ?_
        have e1 := bank_mod O hp OT.f OT.l S.out gd wt hw hv tz
        have e2 : 2 * (n : Int) ∣ 2 * sgb (c x) * ((k : Int) - v (pairS x y)) := by
          rw [Int.mul_assoc]
          exact Int.mul_dvd_mul_left 2 (Int.dvd_trans hi3 ⟨sgb (c x), Int.mul_comm _ _⟩)
        have e3 := Int.dvd_sub e1 e2
        rw [if_pos hx]
        rw [show ∀ s t u : Int, s + t - u - 2 * sgb (c x) * v (pairS x y) - 2 * sgb (c x) * ((k : Int) - v (pairS x y)) = s + t - u - 2 * sgb (c x) * (k : Int) from fun s t u => by rw [Int.mul_sub]; omega] at e3
        exact e3
/-- the modulus is one -/
theorem bg_one {r r' : List Str} {g g' : Nat} (n1 : r.Nodup) (n2 : r'.Nodup) (h : ∀ z, z ∈ r ↔ z ∈ r') (B : BG szs ps r g) (B' : BG szs ps r' g') : g = g' := by
  have e : inn ps r = inn ps r' := by
    unfold inn
    refine List.filter_congr fun q _ => ?_
    rw [decide_eq_decide.mpr (h q.1), decide_eq_decide.mpr (h q.2)]
  have pg : gcdN (r.map (szn szs)) = gcdN (r'.map (szn szs)) := by
    have pp := (perm_of n1 n2 h).map (szn szs)
    unfold gcdN
    have key : ∀ (l m : List Nat), l.Perm m → ∀ a, l.foldl Nat.gcd a = m.foldl Nat.gcd a := by
      intro l m h
      induction h with
      | nil => exact fun _ => rfl
      | cons x _ ih => exact fun a => ih _
      | swap x y l =>
        intro a
        show l.foldl Nat.gcd (Nat.gcd (Nat.gcd a y) x) = l.foldl Nat.gcd (Nat.gcd (Nat.gcd a x) y)
        rw [Nat.gcd_assoc, Nat.gcd_comm y x, ← Nat.gcd_assoc]
      | trans _ _ h1 h2 => exact fun a => (h1 a).trans (h2 a)
    exact key _ _ pp 0
  rcases B with ⟨h1, h2⟩ | ⟨⟨c, hc⟩, h2⟩
  · rcases B' with ⟨h3, _⟩ | ⟨⟨c, hc⟩, _⟩
    · omega
    · rw [← e] at hc
      exact absurd hc (h2 c)
  · rcases B' with ⟨_, h4⟩ | ⟨_, h4⟩
    · rw [← e] at h4
      exact absurd hc (h4 c)
    · omega
theorem mok_one {m m' : Nat} (h : MOk szs ps x y m) (h' : MOk szs ps x y m') : m = m' := by
  rcases h with ⟨hn, r1, r2, g1, g2, n1, n2, m1, m2, B1, B2, e⟩ | ⟨hc, h⟩
  · rcases h' with ⟨_, r1', r2', g1', g2', n1', n2', m1', m2', B1', B2', e'⟩ | ⟨hc', _⟩
    · rw [e, e', bg_one n1 n1' (fun z => (m1 z).trans (m1' z).symm) B1 B1', bg_one n2 n2' (fun z => (m2 z).trans (m2' z).symm) B2 B2']
    · exact absurd hc' hn
  · rcases h' with ⟨hn, _⟩ | ⟨_, h'⟩
    · exact absurd hc hn
    · rcases h with ⟨h1, h2⟩ | ⟨h1, h2, h3⟩
      · rcases h' with ⟨_, h4⟩ | ⟨h4, ⟨c, hc⟩, _⟩
        · omega
        · rcases h1 with ⟨c', hc'⟩ | h1
          · exact absurd hc' (h4 c')
          · exact absurd hc (h1 c)
      · rcases h' with ⟨h4, _⟩ | ⟨_, _, h4⟩
        · obtain ⟨c, hc⟩ := h2
          rcases h4 with ⟨c', hc'⟩ | h4
          · exact absurd hc' (h1 c')
          · exact absurd hc (h4 c)
        · omega
end
end Rd
/-! Positions: steps, what is reached, how many there are. -/
namespace Rd
open PySem Gr
theorem isP_pair {two : Str × Str} (o : ltS two.1 two.2 = true) {u v : Str} : isP two u v ↔ pairS u v = two := by
  constructor
  · rintro (e | e)
    · rw [← e] at o ⊢
      have o' : ltS u v = true := o
      unfold pairS
      rw [o']
      rfl
    · rw [← e] at o ⊢
      have o' : ltS v u = true := o
      unfold pairS
      rw [ltS_asym o']
      rfl
  · intro e
    unfold pairS at e
    split at e
    · exact .inl e
    · exact .inr e
/-- the dials behind an arrival at v -/
def tik (szs : List (Str × Nat)) (v : Str) (φ : Str → Int) : Str → Int := fun z => if z = v then (φ z + 1) % szI szs z else φ z
def St0 (szs : List (Str × Nat)) (ps : List (Str × Str)) (two : Str × Str) (nms : List Str) (cr : Bool) (q r : Str × List Int) : Prop := ∃ φ v, q.2 = nms.map φ ∧ Adj ps q.1 v ∧ (decide (pairS q.1 v = two) = cr) ∧ r = (v, nms.map (tik szs v φ))
def q0 (f : Str) (nms : List Str) : Str × List Int := (f, nms.map fun _ => 0)
abbrev RkP (szs : List (Str × Nat)) (ps : List (Str × Str)) (two : Str × Str) (nms : List Str) (f : Str) := Rk (St0 szs ps two nms false) (St0 szs ps two nms true) (q0 f nms)
section
variable {szs : List (Str × Nat)} {ps : List (Str × Str)} {two : Str × Str} {nms : List Str} {f : Str} {q : Str × List Int} {k : Nat}
theorem map_eq_on {φ ψ : Str → Int} (h : nms.map φ = nms.map ψ) : ∀ z ∈ nms, φ z = ψ z := List.map_inj_left.mp h
theorem St0.one {cr : Bool} {r : Str × List Int} (h : St0 szs ps two nms cr q r) {φ : Str → Int} (e : q.2 = nms.map φ) : r = (r.1, nms.map (tik szs r.1 φ)) := by
  obtain ⟨ψ, v, h1, _, _, h2⟩ := h
  rw [h2]
  have h3 := map_eq_on (e.symm.trans h1)
  show (v, _) = (v, _)
  congr 1
  refine List.map_congr_left fun z hz => ?_
  unfold tik
  rw [h3 z hz]
theorem St0.adj {cr : Bool} {r : Str × List Int} (h : St0 szs ps two nms cr q r) : Adj ps q.1 r.1 ∧ decide (pairS q.1 r.1 = two) = cr := by
  obtain ⟨ψ, v, h1, h3, h4, h2⟩ := h
  rw [h2]
  exact ⟨h3, h4⟩
/-- what is reached, by walks -/
theorem rk_walk (O : BOk szs ps) (h2 : two ∈ ps) (hsub : ∀ z ∈ nms, z ∈ szs.map (·.1)) (h : RkP szs ps two nms f q k) : ∃ a, Wc ps two f q.1 a k ∧ q.2 = nms.map fun z => a z % szI szs z := by
  have step : ∀ (cr : Bool) (q r : Str × List Int) (k : Nat) (a : Str → Int), St0 szs ps two nms cr q r → Wc ps two f q.1 a k → q.2 = nms.map (fun z => a z % szI szs z) → ∃ a', Wc ps two f r.1 a' (k + if cr = true then 1 else 0) ∧ r.2 = nms.map fun z => a' z % szI szs z := by
    intro cr q r k a hs hw hq
    have h4 := hs.adj
    have h5 := hs.one hq
    refine ⟨_, (hw.step h4.1).cast (fun _ => rfl) ?_, ?_⟩
    · by_cases e : isP two q.1 r.1
      · have : cr = true := by
          rw [← h4.2]
          exact decide_eq_true ((isP_pair (O.ord _ h2)).mp e)
        rw [if_pos e, if_pos this]
      · have : ¬ cr = true := fun z => e ((isP_pair (O.ord _ h2)).mpr (by
          rw [← h4.2] at z
          exact of_decide_eq_true z))
        rw [if_neg e, if_neg this]
    · rw [h5]
      refine List.map_congr_left fun z hz => ?_
      unfold tik
      show (if z = r.1 then (a z % szI szs z + 1) % szI szs z else a z % szI szs z) = (a z + ind r.1 z) % szI szs z
      unfold ind
      by_cases e : z = r.1
      · rw [if_pos e, if_pos e, Int.emod_add_emod]
      · rw [if_neg e, if_neg e, Int.add_zero]
  induction h with
  | nil => exact ⟨_, .nil, by
      show nms.map (fun _ => (0 : Int)) = _
      refine List.map_congr_left fun z _ => ?_
      simp⟩
  | free _ e ih =>
    obtain ⟨a, h3, h4⟩ := ih
    exact step false _ _ _ a e h3 h4
  | cross _ e ih =>
    obtain ⟨a, h3, h4⟩ := ih
    exact step true _ _ _ a e h3 h4
theorem walk_rk (O : BOk szs ps) (h2 : two ∈ ps) {y : Str} {a : Str → Int} (h : Wc ps two f y a k) : RkP szs ps two nms f (y, nms.map fun z => a z % szI szs z) k := by
  induction h with
  | nil =>
    have e : (f, nms.map fun z => (0 : Int) % szI szs z) = q0 f nms := by
      unfold q0
      have e2 : (nms.map fun z => (0 : Int) % szI szs z) = nms.map fun _ => 0 := List.map_congr_left fun z _ => Int.zero_emod _
      rw [e2]
    rw [e]
    exact .nil
  | @step y z a k _ ad ih =>
    have e : (z, nms.map fun w => (a w + ind z w) % szI szs w) = (z, nms.map (tik szs z fun w => a w % szI szs w)) := by
      congr 1
      refine List.map_congr_left fun w _ => ?_
      unfold tik ind
      by_cases e : w = z
      · rw [if_pos e, if_pos e, Int.emod_add_emod]
      · rw [if_neg e, if_neg e, Int.add_zero]
    rw [e]
    by_cases c : isP two y z
    · rw [if_pos c]
      exact .cross ih ⟨_, z, rfl, ad, decide_eq_true ((isP_pair (O.ord _ h2)).mp c), rfl⟩
    · rw [if_neg c, Nat.add_zero]
      exact .free ih ⟨_, z, rfl, ad, decide_eq_false fun e => c ((isP_pair (O.ord _ h2)).mpr e), rfl⟩
/-- all lists of dials -/
def dials : List Nat → List (List Int)
  | [] => [[]]
  | s :: ss => (List.range s).flatMap fun i : Nat => (dials ss).map fun r => (i : Int) :: r
theorem dials_len : ∀ {ss : List Nat}, (∀ s ∈ ss, s ≤ 3) → (dials ss).length ≤ 3 ^ ss.length
  | [], _ => Nat.le_refl _
  | s :: ss, h => by
    have ih := dials_len (ss := ss) fun x hx => h x (List.mem_cons_of_mem _ hx)
    have hs := h s List.mem_cons_self
    have e : (dials (s :: ss)).length = s * (dials ss).length := by
      show ((List.range s).flatMap fun i : Nat => (dials ss).map fun r => (i : Int) :: r).length = _
      rw [List.length_flatMap]
      have : (List.range s).map (fun i : Nat => ((dials ss).map fun r => (i : Int) :: r).length) = (List.range s).map fun _ => (dials ss).length := List.map_congr_left fun i _ => by rw [List.length_map]
      rw [this]
      have key : ∀ n m : Nat, ((List.range n).map fun _ => m).sum = n * m := by
        intro n m
        induction n with
        | zero => simp
        | succ n ih => rw [List.range_succ, List.map_append, List.sum_append, ih, Nat.succ_mul]; simp
      exact key _ _
    rw [e, List.length_cons, Nat.pow_succ, Nat.mul_comm _ 3]
    exact Nat.mul_le_mul hs ih
theorem dials_mem : ∀ {l : List Str} {g : Str → Nat} {φ : Str → Int}, (∀ z ∈ l, 0 ≤ φ z ∧ φ z < g z) → l.map φ ∈ dials (l.map g)
  | [], _, _, _ => by simp [dials]
  | x :: l, g, φ, h => by
    obtain ⟨h1, h2⟩ := h x List.mem_cons_self
    show φ x :: l.map φ ∈ (List.range (g x)).flatMap fun i : Nat => (dials (l.map g)).map fun r => (i : Int) :: r
    refine List.mem_flatMap.mpr ⟨(φ x).toNat, List.mem_range.mpr (by omega), List.mem_map.mpr ⟨_, dials_mem fun z hz => h z (List.mem_cons_of_mem _ hz), ?_⟩⟩
    rw [show (((φ x).toNat : Nat) : Int) = φ x from by omega]
/-- all positions -/
def allPo (szs : List (Str × Nat)) (nms : List Str) : List (Str × List Int) := nms.flatMap fun x => (dials (nms.map (szn szs))).map fun r => (x, r)
theorem allPo_len (h4 : nms.length ≤ 4) (h3 : ∀ z ∈ nms, szn szs z ≤ 3) : (allPo szs nms).length ≤ 324 := by
  have h5 : (dials (nms.map (szn szs))).length ≤ 81 := by
    have h6 := dials_len (ss := nms.map (szn szs)) fun s hs => by
      obtain ⟨z, hz, rfl⟩ := List.mem_map.mp hs
      exact h3 z hz
    rw [List.length_map] at h6
    have h7 : 3 ^ nms.length ≤ 3 ^ 4 := Nat.pow_le_pow_right (by omega) h4
    omega
  unfold allPo
  rw [List.length_flatMap]
  have key : ∀ l : List Str, (l.map fun x => ((dials (nms.map (szn szs))).map fun r => (x, r)).length).sum ≤ 81 * l.length := by
    intro l
    induction l with
    | nil => simp
    | cons x l ih =>
      rw [List.map_cons, List.sum_cons, List.length_map, List.length_cons]
      omega
  have := key nms
  omega
/-- what is reached is a position -/
theorem rk_po (O : BOk szs ps) (hf : f ∈ szs.map (·.1)) (hnm : ∀ z, z ∈ nms ↔ z ∈ szs.map (·.1)) (h2 : two ∈ ps) (h : RkP szs ps two nms f q k) : q.1 ∈ szs.map (·.1) ∧ q ∈ allPo szs nms := by
  obtain ⟨a, hw, hq⟩ := rk_walk O h2 (fun z hz => (hnm z).mp hz) h
  have hr : q.1 ∈ szs.map (·.1) := by
    have hc := hw.wk.conn
    clear hw hq h
    generalize q.1 = y at hc
    induction hc with
    | refl => exact hf
    | step _ ad ih => exact ad.elim (fun h => (O.ends _ h).2) fun h => (O.ends _ h).1
  refine ⟨hr, List.mem_flatMap.mpr ⟨q.1, (hnm _).mpr hr, List.mem_map.mpr ⟨q.2, ?_, rfl⟩⟩⟩
  rw [hq]
  refine dials_mem fun z hz => ?_
  have hz1 := (szn_pos O ((hnm z).mp hz)).1
  exact ⟨Int.emod_nonneg _ (by unfold szI; omega), Int.emod_lt_of_pos _ (by unfold szI; omega)⟩
/-- the goal of a trace is reached as its walks tell -/
theorem rk_goal (O : BOk szs ps) (h2 : two ∈ ps) (hnm : ∀ z, z ∈ nms ↔ z ∈ szs.map (·.1)) {l : Str} {ch : Str → Int} (hch : ∀ x ∈ szs.map (·.1), 0 ≤ ch x ∧ ch x < szn szs x) :
    RkP szs ps two nms f (l, nms.map ch) k ↔ ∃ a, Wc ps two f l a k ∧ ∀ z ∈ szs.map (·.1), szI szs z ∣ a z - ch z := by
  constructor
  · intro h
    obtain ⟨a, hw, hq⟩ := rk_walk O h2 (fun z hz => (hnm z).mp hz) h
    refine ⟨a, hw, fun z hz => ?_⟩
    have e := map_eq_on hq z ((hnm z).mpr hz)
    rw [e]
    have := Int.emod_def (a z) (szI szs z)
    exact ⟨a z / szI szs z, by omega⟩
  · rintro ⟨a, hw, ha⟩
    have h := walk_rk (nms := nms) O h2 hw
    have e : nms.map (fun z => a z % szI szs z) = nms.map ch := List.map_congr_left fun z hz => by
      have hz' := (hnm z).mp hz
      obtain ⟨h3, h4⟩ := hch z hz'
      have h5 := Int.emod_emod_of_dvd (a z - ch z) (Int.dvd_refl (szI szs z))
      have h6 := Int.emod_eq_emod_iff_emod_sub_eq_zero.mpr (Int.emod_eq_zero_of_dvd (ha z hz'))
      rw [h6]
      exact Int.emod_eq_of_lt h3 h4
    rw [e] at h
    exact h
end
theorem rising_pw : ∀ {l : List Str} {p : Str}, PyProof.Rows.risingS p l = true → (p :: l).Pairwise (fun a b => a.cps.toList ≤ b.cps.toList)
  | [], p, _ => List.pairwise_singleton _ _
  | x :: r, p, h => by
    have h' : (!PySem.Spec.ltCps x.cps.toList p.cps.toList && PyProof.Rows.risingS x r) = true := h
    rw [Bool.and_eq_true] at h'
    obtain ⟨h1, h2⟩ := h'
    rw [PyProof.Rows.ltCps_eq] at h1
    have h3 : p.cps.toList ≤ x.cps.toList := by simpa using h1
    have h4 := rising_pw h2
    refine List.pairwise_cons.mpr ⟨fun y hy => ?_, h4⟩
    rcases List.mem_cons.mp hy with rfl | hy
    · exact h3
    · exact List.le_trans h3 ((List.pairwise_cons.mp h4).1 y hy)
theorem sorted_one {l m : List Str} (h1 : PyProof.Rows.sortedS l = true) (h2 : PyProof.Rows.sortedS m = true) (h : l.Perm m) : l = m := by
  have pw : ∀ {l : List Str}, PyProof.Rows.sortedS l = true → l.Pairwise (fun a b => a.cps.toList ≤ b.cps.toList) := fun {l} h => by
    cases l with
    | nil => exact List.Pairwise.nil
    | cons x r => exact rising_pw h
  refine List.Perm.eq_of_pairwise (le := fun a b : Str => a.cps.toList ≤ b.cps.toList) (fun a b _ _ h3 h4 => ?_) (pw h1) (pw h2) h
  have e := List.le_antisymm h3 h4
  cases a
  cases b
  simp at e
  rw [e]
end Rd
/-! _law_least. -/
namespace Rd
open PySem PySem.Spec PyProof.Rows L2 Gr
/-- t[lo:hi], wherever it stands -/
def rSlE (K : PySem.W.Frag) : V → Option Int → Option Int → Hp → VK → Prop := fun x lo hi H Q => ∃ a xs, x = .ref a ∧ SqT K H a xs ∧ ∀ p H', Same H H' → SqT K H' p (cutV xs lo hi) → Q (.ref p) H'
theorem sl_tupE {X : Cx} : SlR X (rSlE X.K) := by
  intro pins s σ H x v vl vu lo hi sl Q I rx hs pl pu h
  obtain ⟨a, xs, ex, h1, h2⟩ := h
  refine sl_tupA pins s σ H x v vl vu lo hi sl Q I rx hs pl pu ⟨a, xs, ex, h1, fun hf => h2 a H (Same.refl _) ?_, fun _ p hp => h2 p _ (sm_new hp) (SqT.of upd_same)⟩
  have e : cutV xs lo hi = xs := by
    unfold cutV
    rw [hf.1, hf.2, List.drop_zero, Nat.sub_zero, List.take_length]
  rw [e]
  exact h1
/-- t + u, wherever it stands -/
def rCatE (K : PySem.W.Frag) : R2 := fun x y H Q => ∃ a b xs ys, x = .ref a ∧ y = .ref b ∧ SqT K H a xs ∧ SqT K H b ys ∧ xs.length + ys.length ≤ sizeLine ∧ ∀ p H', Same H H' → SqT K H' p (xs ++ ys) → Q (.ref p) H'
theorem op_catE {X : Cx} : OpR X (binaryOp .Add) (rCatE X.K) := by
  intro pins s σ H x y v u Q I rx ry h
  obtain ⟨a, b, xs, ys, ex, ey, h1, h2, h3, h4⟩ := h
  refine op_catA pins s σ H x y v u Q I rx ry ⟨a, b, xs, ys, ex, ey, h1, h2, h3, fun e => h4 b H (Same.refl _) ?_, fun _ e => h4 a H (Same.refl _) ?_, fun _ _ p hp => h4 p _ (sm_new hp) (SqT.of upd_same)⟩
  · rw [e]
    exact h2
  · rw [e, List.append_nil]
    exact h1
theorem while_m {c : TT} {tb : TS} {D : Ends} {σ : L2.St} {H : Hp} (Pv : Nat → L2.St → Hp → Prop) (m0 : Nat) (h0 : Pv m0 σ H)
    (hs : ∀ m σ H, Pv m σ H → c σ H fun b H1 => if b = true then tb { D with nx := fun σ' H' => ∃ m', m' < m ∧ Pv m' σ' H', ct := fun σ' H' => ∃ m', m' < m ∧ Pv m' σ' H', bk := D.nx } σ H1 else D.nx σ H1)
    (mono : ∀ σ H Q Q', (∀ b H1, Q b H1 → Q' b H1) → c σ H Q → c σ H Q') : tWhile c tb D σ H := by
  refine ⟨Pv, ⟨_, h0⟩, ?_⟩
  intro m σ H p
  refine mono σ H _ _ (fun b H1 q => ?_) (hs m σ H p)
  cases b with
  | true => exact ⟨_, fun σ' H' h => h, q⟩
  | false => exact q
/-- what the search finds -/
def LeastOk (szs : List (Str × Nat)) (ps : List (Str × Str)) (two : Str × Str) (nms : List Str) (f : Str) (fd : List (Po × Nat)) : Prop := ∀ q : Po,
  (∀ k, fdGet fd q = some k → RkP szs ps two nms f q k ∧ ∀ j, RkP szs ps two nms f q j → k ≤ j) ∧ (fdGet fd q = none → ∀ j, ¬ RkP szs ps two nms f q j)
def spLeast (P : Program) (w : World) (K : PySem.W.Frag) : Sp := fun vs H Q _ => ∃ (p d l t2 : Addr) (f : Str) (szs : List (Str × Nat)) (ps : List (Str × Str)) (two : Str × Str), vs = [.ref p, .str f, .ref t2] ∧ PlAt H p d l szs ps ∧ BOk szs ps ∧ szs.length ≤ 4 ∧ (∀ q ∈ szs, q.2 ≤ 3) ∧ SqT K H t2 ([two.1, two.2].map V.str) ∧ two ∈ ps ∧ f ∈ szs.map (·.1) ∧
  ∀ H' a fd nms, Same H H' → FdAt P w K H' a fd → nms.Perm (szs.map (·.1)) → sortedS nms = true → LeastOk szs ps two nms f fd → Q (.ref a) H'
/-- positions in a list -/
def PoL (K : PySem.W.Frag) (H : Hp) : List V → List Po → Prop := Paired fun v q => ∃ b, v = .ref b ∧ PosAt K H b q
theorem PoL.same {K : PySem.W.Frag} {H H' : Hp} (s : Same H H') {vs : List V} {l : List Po} (h : PoL K H vs l) : PoL K H' vs l := Paired.mapP h fun _ _ ⟨b, e, k⟩ => ⟨b, e, k.same s⟩
theorem PoL.upd {K : PySem.W.Frag} {H : Hp} {a : Addr} {o : HO} (n : NoTp (H a)) {vs : List V} {l : List Po} (h : PoL K H vs l) : PoL K (upd H a o) vs l := Paired.mapP h fun _ _ ⟨b, e, k⟩ => ⟨b, e, k.upd n⟩
theorem PoL.len {K : PySem.W.Frag} {H : Hp} {vs : List V} {l : List Po} (h : PoL K H vs l) : vs.length = l.length := Paired.length h
theorem PoL.snoc {K : PySem.W.Frag} {H : Hp} {vs : List V} {l : List Po} (h : PoL K H vs l) {b : Addr} {q : Po} (hb : PosAt K H b q) : PoL K H (vs ++ [.ref b]) (l ++ [q]) := Paired.snoc h ⟨b, rfl, hb⟩
theorem PoL.last {K : PySem.W.Frag} {H : Hp} {q : Po} : ∀ (l : List Po) (vs : List V), PoL K H vs (l ++ [q]) → ∃ vs' b, vs = vs' ++ [.ref b] ∧ PoL K H vs' l ∧ PosAt K H b q := by
  intro l
  induction l with
  | nil =>
    intro vs h
    have h' : PoL K H vs [q] := h
    cases h' with
    | cons h1 h2 =>
      cases h2
      obtain ⟨b, e, h⟩ := h1
      exact ⟨[], b, by rw [e]; rfl, .nil, h⟩
  | cons r l ih =>
    intro vs h
    have h' : PoL K H vs (r :: (l ++ [q])) := h
    cases h' with
    | cons h1 h2 =>
      obtain ⟨vs', b, e, h3, h4⟩ := ih _ h2
      exact ⟨_ :: vs', b, by rw [e]; rfl, .cons h1 h3, h4⟩
def poD (q : Po) : PyData := .tuple [.str q.1, .tuple (q.2.map PyData.int)]
theorem dpI (K : PySem.W.Frag) (H : Hp) : ∀ xs : List Int, DpAll K H (xs.map V.int) (xs.map PyData.int)
  | [] => .nil
  | x :: xs => .cons (.int x) (dpI K H xs)
theorem PoL.dp {K : PySem.W.Frag} {H : Hp} : ∀ {vs : List V} {l : List Po}, PoL K H vs l → DpAll K H vs (l.map poD)
  | _, _, .nil => .nil
  | _, _, .cons ⟨b, e, t, h1, h2⟩ r => .cons (by rw [e]; exact .tup h1 (.cons (.str _) (.cons (.tup h2 (dpI K H _)) .nil))) (PoL.dp r)
theorem ints_lay : ∀ xs : List Int, PyData.canLayAll0 (xs.map PyData.int) = true ∧ PyData.depthAll (xs.map PyData.int) = 0
  | [] => by simp [PyData.canLayAll0, PyData.depthAll]
  | x :: xs => by
    obtain ⟨h1, h2⟩ := ints_lay xs
    exact ⟨by simp [PyData.canLayAll0, PyData.canLay0, h1], by simp [PyData.depthAll, PyData.depth, h2]⟩
theorem po_lay {l : List Po} (h : ∀ q ∈ l, Nm q.1) : ∀ d ∈ l.map poD, d.canLay0 = true ∧ d.depth ≤ 60 := fun d hd => by
  obtain ⟨q, hq, rfl⟩ := List.mem_map.mp hd
  obtain ⟨h1, h2⟩ := ints_lay q.2
  exact ⟨by simp [poD, PyData.canLay0, PyData.canLayAll0, (h q hq).ok, h1], by simp [poD, PyData.depth, PyData.depthAll, h2]⟩
theorem sIx_nat {n d j : Nat} (h : j ≤ n) : HT.sIx n d (some ((j : Nat) : Int)) = j := by
  unfold HT.sIx
  have h1 : ¬ ((j : Nat) : Int) < 0 := by omega
  simp [h1]
  omega
theorem cut_take (xs : List V) {j : Nat} (h : j ≤ xs.length) : cutV xs none (some ((j : Nat) : Int)) = xs.take j := by
  unfold cutV
  rw [sIx_nat h]
  rfl
theorem cut_drop (xs : List V) {j : Nat} (h : j ≤ xs.length) : cutV xs (some ((j : Nat) : Int)) none = xs.drop j := by
  unfold cutV
  rw [sIx_nat h]
  show (xs.drop j).take (xs.length - j) = _
  rw [← List.length_drop, List.take_length]
theorem tik_split {szs : List (Str × Nat)} {nms : List Str} (nd : nms.Nodup) {j : Nat} {y : Str} (h : nms[j]? = some y) (φ : Str → Int) : (nms.map φ).take j ++ [(φ y + 1) % szI szs y] ++ (nms.map φ).drop (j + 1) = nms.map (tik szs y φ) := by
  obtain ⟨hj, hy⟩ := List.getElem?_eq_some_iff.mp h
  have e : nms = nms.take j ++ y :: nms.drop (j + 1) := by
    conv => lhs; rw [← List.take_append_drop j nms, List.drop_eq_getElem_cons hj, hy]
  have nd' := nd
  rw [e] at nd'
  obtain ⟨_, n2, n3⟩ := List.nodup_append.mp nd'
  obtain ⟨n4, _⟩ := List.nodup_cons.mp n2
  have t1 : (nms.take j).map (tik szs y φ) = (nms.take j).map φ := List.map_congr_left fun z hz => if_neg (n3 z hz y List.mem_cons_self)
  have t2 : (nms.drop (j + 1)).map (tik szs y φ) = (nms.drop (j + 1)).map φ := List.map_congr_left fun z hz => if_neg fun (q : z = y) => n4 (q ▸ hz)
  have t3 : tik szs y φ y = (φ y + 1) % szI szs y := if_pos rfl
  conv => rhs; rw [e, List.map_append, List.map_cons, t1, t2, t3]
  rw [List.map_take, List.map_drop, List.append_assoc]
  rfl
theorem fdGet_none {fd : List (Po × Nat)} {q : Po} (h : fdGet fd q = none) : ∀ k, (q, k) ∉ fd := fun k hk => by
  have e := fdGet_some (fd := fd) (q := q)
  rw [h, decide_eq_true (List.mem_map.mpr ⟨_, hk, rfl⟩)] at e
  cases e
-- slots of _law_least: 0 _law_plan 1 _law_first 2 _law_two 3 _law_names_here 4 _law_found 5 _law_now 6 _law_cost 7 _law_name 8 _law_later 9 _law_here 10 _law_other 11 _law_at 12 _law_shown 13 _law_fresh
theorem sc_z_least : FnScope ["_law_plan", "_law_first", "_law_two", "_law_names_here", "_law_found", "_law_now", "_law_cost", "_law_name", "_law_later", "_law_here", "_law_other", "_law_at", "_law_shown", "_law_fresh"] ["_law_plan", "_law_first", "_law_two"] (defScope s_z_least) := ⟨rfl, rfl, rfl, by decide +kernel, rfl, by decide +kernel, by decide +kernel⟩
section
variable {P : Program} {w : World} {K : PySem.W.Frag} {mg : Str → Option Value} {base : Heap}
theorem ca_z_least (T : Wd K mg base) : Ca P w K mg base 2 "_law_least" (spLeast P w K) [] := by
  obtain ⟨fd, F⟩ := T.L.F_z_least
  refine ca_of F T.g__law_least (F.binds (ps := ["_law_plan", "_law_first", "_law_two"]) fun _ _ _ _ _ _ us hl => match us, hl with | [_, _, _], _ => rfl) sc_z_least (fun vs H Q E ⟨_, _, _, _, _, _, _, _, e, _⟩ => by rw [e]; rfl) ?_
  rintro cdv A outer s0 H vs Q E hr ⟨p, d, l, t2, f, szs, ps, two, rfl, hp, O, h4, h3, ht2, htwo, hf, k⟩
  refine ⟨_, (pss_cons (ps_set (i := 3) sc_z_least.nd rfl (Or.inl rfl) (pe_callB (call_sortedD rfl) (by rfl) T.f_sorted (by decide +kernel) (pa_cons (pe_ix ix_tup (pv 0) pe_int (fun _ _ => rfl)) pa_nil))) (pss_cons (ps_par3 (i := 4) (j := 5) (l := 6) (by rfl) sc_z_least.nd rfl rfl rfl (by decide) (by decide) (by decide) rfl rfl rfl (pa_cons (pe_dnewN) (pa_cons (pe_lst (pa_cons (pe_tup (pa_cons (pv 1) (pa_cons (pe_callTy (call_tuple_of) (by rfl) T.f_tuple (by decide +kernel) (pa_cons (pe_lc (own := [("_law_name", 7)]) (g := gName 7) rfl sc_z_least.nd (pi_list (pv 3)) (blkOk_by (own := [("_law_name", 7)]) (N := ["_law_plan", "_law_first", "_law_two", "_law_names_here", "_law_found", "_law_now", "_law_cost", "_law_name", "_law_later", "_law_here", "_law_other", "_law_at", "_law_shown", "_law_fresh"]) (sc := defScope s_z_least) (by decide +kernel)) (fun _ _ _ _ _ => (pg_name (i := 7) sc_z_least.nd rfl (Or.inl rfl))) (fun _ _ _ _ _ => pts_nil) (fun _ _ _ _ _ => pe_int)) pa_nil)) pa_nil))) pa_nil)) (pa_cons pe_int pa_nil))) (by rfl)) (pss_cons (ps_while PassesOwn.never (pt_cmpR (op_neD hr.units) (pv 5) (pe_lst pa_nil) (by rfl)) (pss_cons (ps_set (i := 8) sc_z_least.nd rfl (Or.inl rfl) (pe_lst pa_nil)) (pss_cons (ps_while PassesOwn.never (pt_cmpR (op_neD hr.units) (pv 5) (pe_lst pa_nil) (by rfl)) (pss_cons (ps_set (i := 9) sc_z_least.nd rfl (Or.inl rfl) (pe_bm0 PySem.F.plainAttrs_list PySem.F.slot_list_pop PySem.F.type_list_pop mt_pop (pv 5))) (pss_cons (ps_if (pt_cmpR (op_inN (hu65 hr)) (pv 9) (pv 4) (by rfl)) (pss_one ps_continue) pss_nil) (pss_cons (ps_asg (pv 6) (pg_sub (pv 4) (pv 9) (set_N (hu65 hr)))) (pss_one (ps_for PassesOwn.never rfl (pi_list (pe_ca (ca_z_near T) hr (by decide) rfl (pa_cons (pv 0) (pa_cons (pe_ix ix_tup (pv 9) pe_int (fun _ _ => rfl)) pa_nil)))) (pg_name (i := 10) sc_z_least.nd rfl (Or.inl rfl)) (pss_cons (ps_par (i := 11) (j := 12) (by rfl) sc_z_least.nd rfl rfl (by decide) rfl rfl (pa_cons (pe_bm PySem.F.plainAttrs_list PySem.F.slot_list_index PySem.F.type_list_index mt_index (pv 3) (pa_cons (pv 10) pa_nil)) (pa_cons (pe_ix ix_tup (pv 9) pe_int (fun _ _ => rfl)) pa_nil)) (by rfl)) (pss_cons (ps_set (i := 13) sc_z_least.nd rfl (Or.inl rfl) (pe_tup (pa_cons (pv 10) (pa_cons (pe_op op_catE (pe_op op_catE (pe_slice sl_tupE (pv 12) po_none (po_some (pv 11))) (pe_tup (pa_cons (pe_op op_modN (pe_callTy (call_int1) (by rfl) T.f_int (by decide +kernel) (pa_cons (pe_op op_add (pe_ix ix_tup (pv 12) (pv 11) (fun _ _ => rfl)) pe_int) pa_nil)) (pe_dget (hu_of hr) (pe_ix ix_tup (pv 0) pe_int (fun _ _ => rfl)) (pv 10) (fun _ _ => rfl))) pa_nil))) (pe_slice sl_tupE (pv 12) (po_some (pe_op op_add (pv 11) pe_int)) po_none)) pa_nil)))) (pss_one (ps_if (pt_cmpR (op_eqD hr.units) (pe_ca (ca_z_pair T) hr (by decide) rfl (pa_cons (pe_ix ix_tup (pv 9) pe_int (fun _ _ => rfl)) (pa_cons (pv 10) pa_nil))) (pv 2) (by rfl)) (pss_one (ps_expr (pe_bm PySem.F.plainAttrs_list PySem.F.slot_list_append PySem.F.type_list_append mt_append (pv 8) (pa_cons (pv 13) pa_nil)))) (pss_one (ps_expr (pe_bm PySem.F.plainAttrs_list PySem.F.slot_list_append PySem.F.type_list_append mt_append (pv 5) (pa_cons (pv 13) pa_nil)))))))))))))) (pss_one (ps_par (i := 5) (j := 6) (by rfl) sc_z_least.nd rfl rfl (by decide) rfl rfl (pa_cons (pv 8) (pa_cons (pe_op op_add (pv 6) pe_int) pa_nil)) (by rfl)))))) (pss_one (ps_ret (pv 4)))))), ?_⟩
  have few := O.few
  refine ⟨_, rfl, p, _, (0 : Int), .ref d, rfl, rfl, SqT.of hp.t, atI_nat (j := 0) rfl, d, SzD szs, szs.map (·.1), rfl, .of hp.d, szD_keys szs, by rw [List.length_map]; omega, fun nms r hperm hsort hr1 => ?_⟩
  have hnm : ∀ z, z ∈ nms ↔ z ∈ szs.map (·.1) := fun z => hperm.mem_iff
  have nnd : nms.Nodup := hperm.nodup_iff.mpr O.nd
  have nlen : nms.length = szs.length := by rw [hperm.length_eq, List.length_map]
  have hr2 : (upd H r (.lst (nms.map V.str))) r = some (.lst (nms.map V.str)) := upd_same
  have s1 : Same H (upd H r (.lst (nms.map V.str))) := sm_new hr1
  revert hr2 s1
  generalize upd H r (.lst (nms.map V.str)) = H1
  intro hr2 s1 a ha hsys
  have sa : Same H1 (upd H1 a (fdO P w a [])) := sm_new ha
  have fa : FdAt P w K (upd H1 a (fdO P w a [])) a [] := ⟨hsys, [], upd_same, .nil⟩
  refine ⟨_, rfl, _, rfl, r, rfl, ⟨_, SqL.of (sa _ _ hr2)⟩, fun D hD => lc_list (K := K) (a := r) (xs := nms.map V.str) (fun i H' => H' D = some (.lst (((nms.take i).map fun _ => (0 : Int)).map V.int)) ∧ Same (upd H1 a (fdO P w a [])) H') ⟨upd_same, sm_new hD⟩ (fun i H' _ h => SqL.of (h.2 _ _ (sa _ _ hr2))) ?_ ?_⟩
  · rintro i v H' hi ⟨g1, g2⟩
    obtain ⟨x, hx, rfl⟩ := map_get hi
    refine ⟨rfl, _, g1, ?_, ?_, g2.put hD⟩
    · rw [List.length_map, List.length_map, List.length_take, sizeLine_eq]
      omega
    · rw [upd_same, take_snoc hx, List.map_append, List.map_append]
      rfl
  rintro H3 ⟨g1, g2⟩
  rw [List.length_map, List.take_length] at g1
  refine ⟨D, _, rfl, .inl ⟨SqL.of g1, fun tz htz => ⟨Nat.le_of_ble_eq_true rfl, fun b hb => ⟨Nat.le_of_ble_eq_true rfl, fun nw0 hnw0 => ?_⟩⟩⟩⟩
  have sH3 := (s1.trans sa).trans g2
  have pb : PosAt K (upd (upd H3 tz (.tup ((nms.map fun _ => (0 : Int)).map V.int))) b (.tup [.str f, .ref tz])) b (q0 f nms) := ⟨tz, SqT.of upd_same, (sm_new hb).tup (SqT.of upd_same)⟩
  have s4 : Same H3 (upd (upd H3 tz (.tup ((nms.map fun _ => (0 : Int)).map V.int))) b (.tup [.str f, .ref tz])) := (sm_new htz).new hb
  revert hnw0 pb s4
  generalize upd (upd H3 tz (.tup ((nms.map fun _ => (0 : Int)).map V.int))) b (.tup [.str f, .ref tz]) = H4
  intro hnw0 pb s4
  have hr4 : H4 r = some (.lst (nms.map V.str)) := s4 _ _ (g2 _ _ (sa _ _ hr2))
  have sH4 := sH3.trans s4
  have fa4 : FdAt P w K H4 a [] := (fa.same g2).same s4
  have ha0 : H a = none := by
    cases e : H a with
    | none => rfl
    | some u => rw [s1 _ _ e] at ha; cases ha
  have none_of : ∀ {x : Addr} {H' : Hp}, Same H H' → H' x = none → H x = none := fun {x H'} s e => by
    cases e2 : H x with
    | none => rfl
    | some u => rw [s _ _ e2] at e; cases e
  have hnw00 := none_of sH4 hnw0
  refine ⟨_, _, _, rfl, ?_⟩
  -- the rounds
  have hM : ∀ {fd : List (Po × Nat)} {nwL laL : List Po} {c : Nat} {ex : Po → Po → Prop}, BF (St0 szs ps two nms false) (St0 szs ps two nms true) (q0 f nms) fd nwL laL c ex → fd.length ≤ (allPo szs nms).length := fun {fd nwL laL c ex} B => by
    have := nodup_le B.nd fun x hx => by
      obtain ⟨⟨y, kk⟩, h1, rfl⟩ := List.mem_map.mp hx
      exact (rk_po O hf hnm htwo (B.real _ _ h1).1).2
    rw [List.length_map] at this
    exact this
  have M324 : (allPo szs nms).length ≤ 324 := allPo_len (by omega) fun z hz => by
    obtain ⟨q, hq, e⟩ := List.mem_map.mp ((hnm z).mp hz)
    have : szn szs z = q.2 := by
      rw [← e]
      unfold szn
      rw [lookup_of O.nd (show (q.1, q.2) ∈ szs from hq)]
      rfl
    rw [this]
    exact h3 q hq
  have nmq : ∀ {q : Po} {j : Nat}, RkP szs ps two nms f q j → Nm q.1 := fun h => O.nmR (rk_po O hf hnm htwo h).1
  refine while_m (fun m σ H' => ∃ (fd : List (Po × Nat)) (nwL : List Po) (vs : List V) (nw : Addr) (c : Nat) (z8 z9 z10 z11 z12 z13 : Option V), σ = [some (.ref p), some (.str f), some (.ref t2), some (.ref r), some (.ref a), some (.ref nw), some (.int (c : Nat)), none, z8, z9, z10, z11, z12, z13] ∧
      BF (St0 szs ps two nms false) (St0 szs ps two nms true) (q0 f nms) fd nwL [] c exN ∧ FdAt P w K H' a fd ∧ H' nw = some (.lst vs) ∧ PoL K H' vs nwL ∧ H nw = none ∧ nw ≠ r ∧ nwL.length ≤ 31 * fd.length + 1 ∧ m = 2 * ((allPo szs nms).length - fd.length) + min nwL.length 1 ∧ H' r = some (.lst (nms.map V.str)) ∧ Same H H')
    (2 * ((allPo szs nms).length - 0) + 1) ?_ ?_ (mono_test mono_var (fun σ H Q Q' h t => ⟨t.1, fun p hp => h _ _ (t.2 p hp)⟩) (fun x y H Q Q' h ⟨d, e, a1, a2, a3, a4, q⟩ => ⟨d, e, a1, a2, a3, a4, h _ _ q⟩))
  · have sn : Same H4 (upd H4 nw0 (.lst [.ref b])) := sm_new hnw0
    exact ⟨[], [q0 f nms], [.ref b], nw0, 0, none, none, none, none, none, none, rfl, .begin, fa4.same sn, upd_same, .cons ⟨b, rfl, pb.same sn⟩ .nil, hnw00, (fun z => by rw [z, hr4] at hnw0; cases hnw0), Nat.le_refl _, rfl, sn _ _ hr4, sH4.trans sn⟩
  rintro m σ H5 ⟨fd, nwL, vs, nw, c, z8, z9, z10, z11, z12, z13, rfl, B, fa5, hnw, hpo, hnwn, nwr, hlen, rfl, hr5, ss⟩
  refine ⟨_, rfl, Nat.le_of_ble_eq_true rfl, fun e he => ?_⟩
  have sE : Same H5 (upd H5 e (.lst [])) := sm_new he
  refine ne_nil (SqL.of (sE _ _ hnw)) (hpo.same sE).dp (po_lay fun q hq => nmq (B.now q hq)) (SqL.of upd_same) ⟨_, rfl, ?_⟩
  cases nwL with
  | nil =>
    refine iteF ⟨_, rfl, k _ a fd nms (ss.trans sE) (fa5.same sE) hperm hsort fun q => ⟨fun kk hk => ?_, fun hno j hj => ?_⟩⟩
    · have h1 := fdGet_mem hk
      exact ⟨(B.real _ _ h1).1, fun j hj => B.least _ _ _ h1 hj⟩
    · obtain ⟨j', _, h1⟩ := B.allF hj
      exact fdGet_none hno _ h1
  | cons q1 nwL1 =>
  have e1 : (!((q1 :: nwL1).map poD).isEmpty) = true := rfl
  rw [e1]
  refine iteT ⟨Nat.le_of_ble_eq_true rfl, fun la hla => ?_⟩
  have s6 : Same H5 (upd (upd H5 e (.lst [])) la (.lst [])) := sE.new hla
  have hla0 : H la = none := none_of (ss.trans sE) hla
  have nwla : nw ≠ la := ne_of_none (sE _ _ hnw) hla
  have ala : a ≠ la := fun z => by
    obtain ⟨o, ho⟩ := (fa5.same sE).ex
    rw [z, hla] at ho
    cases ho
  have lar : la ≠ r := fun z => by
    have := sE _ _ hr5
    rw [← z, hla] at this
    cases this
  have hM5 := hM B
  -- a round
  refine while_m (fun m σ H' => ∃ (fd2 : List (Po × Nat)) (nwL laL : List Po) (vs us : List V) (z9 z10 z11 z12 z13 : Option V), σ = [some (.ref p), some (.str f), some (.ref t2), some (.ref r), some (.ref a), some (.ref nw), some (.int (c : Nat)), none, some (.ref la), z9, z10, z11, z12, z13] ∧
      BF (St0 szs ps two nms false) (St0 szs ps two nms true) (q0 f nms) fd2 nwL laL c exN ∧ FdAt P w K H' a fd2 ∧ H' nw = some (.lst vs) ∧ PoL K H' vs nwL ∧ H' la = some (.lst us) ∧ PoL K H' us laL ∧ nwL.length + laL.length ≤ 31 * fd2.length + 1 ∧ m = 33 * ((allPo szs nms).length - fd2.length) + nwL.length ∧
      fd.length ≤ fd2.length ∧ (laL.length = 0 ∨ fd.length < fd2.length) ∧ H' r = some (.lst (nms.map V.str)) ∧ Same H H')
    (33 * ((allPo szs nms).length - fd.length) + (q1 :: nwL1).length) ?_ ?_ (mono_test mono_var (fun σ H Q Q' h t => ⟨t.1, fun p hp => h _ _ (t.2 p hp)⟩) (fun x y H Q Q' h ⟨d, e, a1, a2, a3, a4, q⟩ => ⟨d, e, a1, a2, a3, a4, h _ _ q⟩))
  · exact ⟨fd, q1 :: nwL1, [], vs, [], z9, z10, z11, z12, z13, rfl, B, fa5.same s6, s6 _ _ hnw, hpo.same s6, upd_same, .nil, hlen, rfl, Nat.le_refl _, .inl rfl, s6 _ _ hr5, ss.trans s6⟩
  rintro m σ H6 ⟨fd2, nwL2, laL2, vs2, us2, y9, y10, y11, y12, y13, rfl, B2, fa6, hnw6, hpo6, hla6, hpl6, hlen6, rfl, hfd6, hpr6, hr6, ss6⟩
  refine ⟨_, rfl, Nat.le_of_ble_eq_true rfl, fun e2 he2 => ?_⟩
  have sE2 : Same H6 (upd H6 e2 (.lst [])) := sm_new he2
  refine ne_nil (SqL.of (sE2 _ _ hnw6)) (hpo6.same sE2).dp (po_lay fun q hq => nmq (B2.now q hq)) (SqL.of upd_same) ⟨_, rfl, ?_⟩
  have hM6 := hM B2
  rcases List.eq_nil_or_concat nwL2 with hwt | ⟨nwL3, q, hwt⟩
  · -- the round is done
    subst hwt
    refine iteF ?_
    have sF := ss6.trans sE2
    refine ⟨_, rfl, _, rfl, _, _, rfl, rfl, _, _, rfl, _, ?_, fd2, laL2, us2, la, c + 1, _, _, _, _, _, _, rfl, B2.next, fa6.same sE2, sE2 _ _ hla6, hpl6.same sE2, hla0, lar, ?_, rfl, sE2 _ _ hr6, sF⟩
    · show 2 * ((allPo szs nms).length - fd2.length) + min laL2.length 1 < 2 * ((allPo szs nms).length - fd.length) + min (q1 :: nwL1).length 1
      rw [List.length_cons]
      omega
    · simpa using hlen6
  rw [List.concat_eq_append] at hwt
  subst hwt
  obtain ⟨vs3, b6, evs, hpo7, hb6⟩ := PoL.last _ _ (hpo6.same sE2)
  subst evs
  have e3 : (!((nwL3 ++ [q]).map poD).isEmpty) = true := by cases nwL3 <;> rfl
  rw [e3]
  have hnw7 := sE2 _ _ hnw6
  rw [List.length_append, List.length_singleton] at hlen6
  refine iteT ⟨_, rfl, .inl ⟨rfl, _, SqL.of hnw7⟩, nw, _, .ref b6, rfl, rfl, hnw7, ?_, ?_⟩
  · rw [List.length_append, List.length_singleton, Nat.add_sub_cancel, List.getElem?_append_right (Nat.le_refl _), Nat.sub_self]
    rfl
  rw [List.dropLast_concat]
  have ntw : NoTp ((upd H6 e2 (.lst [])) nw) := noTp_lst hnw7
  have s7 : Same H (upd (upd H6 e2 (.lst [])) nw (.lst vs3)) := (ss6.trans sE2).put hnwn
  have hb7 := hb6.upd (o := .lst vs3) ntw
  have anw : a ≠ nw := (fa6.same sE2).nl hnw7
  have fa7 := (fa6.same sE2).upd (o := .lst vs3) ntw anw
  have hpo8 := hpo7.upd (o := .lst vs3) ntw
  have hla7 : (upd (upd H6 e2 (.lst [])) nw (.lst vs3)) la = some (.lst us2) := by rw [upd_ne nwla.symm]; exact sE2 _ _ hla6
  have hpl7 := (hpl6.same sE2).upd (o := .lst vs3) ntw
  have hr7 : (upd (upd H6 e2 (.lst [])) nw (.lst vs3)) r = some (.lst (nms.map V.str)) := by rw [upd_ne nwr.symm]; exact sE2 _ _ hr6
  have hnw8 : (upd (upd H6 e2 (.lst [])) nw (.lst vs3)) nw = some (.lst vs3) := upd_same
  revert s7 hb7 fa7 hpo8 hla7 hpl7 hr7 hnw8
  generalize upd (upd H6 e2 (.lst [])) nw (.lst vs3) = H7
  intro s7 hb7 fa7 hpo8 hla7 hpl7 hr7 hnw8
  have mem1 : ∀ x ∈ nwL3 ++ [q], x ∈ nwL3 ∨ x = q := fun x hx => (List.mem_append.mp hx).imp_right List.mem_singleton.mp
  have mem2 : ∀ x ∈ nwL3, x ∈ nwL3 ++ [q] := fun x hx => List.mem_append_left _ hx
  have hrq := B2.now q (List.mem_append_right _ List.mem_cons_self)
  refine ⟨_, rfl, _, rfl, a, b6, q, fd2, rfl, rfl, hb7, fa7, _, rfl, ?_⟩
  by_cases hin : q ∈ fd2.map (·.1)
  · rw [decide_eq_true hin]
    refine iteT ⟨_, ?_, fd2, nwL3, laL2, vs3, us2, _, y10, y11, y12, y13, rfl, B2.old hin mem1 mem2, fa7, hnw8, hpo8, hla7, hpl7, by omega, rfl, hfd6, hpr6, hr7, s7⟩
    rw [List.length_append, List.length_singleton]
    omega
  rw [decide_eq_false hin]
  refine iteF ⟨_, rfl, _, rfl, _, rfl, a, b6, q, fd2, c, rfl, rfl, rfl, hb7, fa7, hin, by omega, fun ob nob fa8 => ?_⟩
  have nta := fa7.noTp
  have hb8 := hb7.upd (o := ob) nta
  have hpo9 := hpo8.upd (o := ob) nta
  have hpl8 := hpl7.upd (o := ob) nta
  have hla8 : (upd H7 a ob) la = some (.lst us2) := by rw [upd_ne ala.symm]; exact hla7
  have hnw9 : (upd H7 a ob) nw = some (.lst vs3) := by rw [upd_ne anw.symm]; exact hnw8
  have nar : r ≠ a := (fa7.nl hr7).symm
  have hr8 : (upd H7 a ob) r = some (.lst (nms.map V.str)) := by rw [upd_ne nar]; exact hr7
  have s8 : Same H (upd H7 a ob) := s7.put ha0
  revert hb8 hpo9 hpl8 hla8 hnw9 hr8 s8 fa8
  generalize upd H7 a ob = H8
  intro fa8 hb8 hpo9 hpl8 hla8 hnw9 hr8 s8
  have B3 := B2.new hin (List.mem_append_right _ List.mem_cons_self) mem1 mem2
  have hM8 := hM B3
  rw [List.length_append, List.length_singleton] at hM8
  obtain ⟨tq, hb81, hb82⟩ := id hb8
  obtain ⟨aw, haw, hqs⟩ := rk_walk O htwo (fun z hz => (hnm z).mp hz) hrq
  have hqr := (rk_po O hf hnm htwo hrq).1
  refine ⟨_, rfl, _, rfl, b6, _, (0 : Int), .str q.1, rfl, rfl, hb81, atI_nat (j := 0) rfl, p, d, l, q.1, szs, ps, rfl, hp.same s8, O.fewP, fun H9 u ns s9 hu hu0 hns hnl => ?_⟩
  have nuw : u ≠ nw := (ne_of_none hnw9 hu0).symm
  have nul : u ≠ la := (ne_of_none hla8 hu0).symm
  have h31 := O.fewP
  refine ⟨u, rfl, ⟨_, SqL.of hu⟩, for_list (K := K) (a := u) (xs := ns.map V.str) (fun m σ H' => ∃ (nwL4 laL4 : List Po) (vs4 us4 : List V) (z10 z11 z12 z13 : Option V), σ = [some (.ref p), some (.str f), some (.ref t2), some (.ref r), some (.ref a), some (.ref nw), some (.int (c : Nat)), none, some (.ref la), some (.ref b6), z10, z11, z12, z13] ∧
      BF (St0 szs ps two nms false) (St0 szs ps two nms true) (q0 f nms) (fd2 ++ [(q, c)]) nwL4 laL4 c (fun x y => x = q ∧ (St0 szs ps two nms false x y ∨ St0 szs ps two nms true x y) ∧ y.1 ∉ ns.take m) ∧ FdAt P w K H' a (fd2 ++ [(q, c)]) ∧ H' nw = some (.lst vs4) ∧ PoL K H' vs4 nwL4 ∧ H' la = some (.lst us4) ∧ PoL K H' us4 laL4 ∧
      (nwL4.length + laL4.length ≤ nwL3.length + laL2.length + m ∧ laL2.length ≤ laL4.length) ∧ H' u = some (.lst (ns.map V.str)) ∧ PosAt K H' b6 q ∧ H' r = some (.lst (nms.map V.str)) ∧ Same H H') ?_ (fun m σ H' _ ⟨_, _, _, _, _, _, _, _, _, _, _, _, _, _, _, _, h, _⟩ => SqL.of h) ?_ ?_⟩
  · exact ⟨nwL3, laL2, vs3, us2, y10, y11, y12, y13, rfl, B3.less (fun x y h1 h2 => ⟨h2, .inl h1, by simp⟩) (fun x y h1 h2 => ⟨h2, .inr h1, by simp⟩), fa8.same s9, s9 _ _ hnw9, hpo9.same s9, s9 _ _ hla8, hpl8.same s9, ⟨Nat.le_refl _, Nat.le_refl _⟩, hu, hb8.same s9, s9 _ _ hr8, s8.trans s9⟩
  · rintro m v σ Ha hm ⟨nwL4, laL4, vs4, us4, y10, y11, y12, y13, rfl, B4, faA, hnwA, hpoA, hlaA, hplA, hlenA, huA, hbA, hrA, sA⟩
    obtain ⟨y, hy, rfl⟩ := map_get hm
    have hmlt := (List.getElem?_eq_some_iff.mp hy).1
    have hadj : Adj ps q.1 y := (hns y).mp (List.mem_of_getElem? hy)
    have hyr : y ∈ szs.map (·.1) := hadj.elim (fun h => (O.ends _ h).2) fun h => (O.ends _ h).1
    obtain ⟨j, hj⟩ := List.mem_iff_getElem?.mp ((hnm y).mpr hyr)
    have hjl := (List.getElem?_eq_some_iff.mp hj).1
    obtain ⟨tA, hbA1, hbA2⟩ := id hbA
    have hjs : (nms.map V.str)[j]? = some (.str y) := by rw [List.getElem?_map, hj]; rfl
    refine ⟨_, rfl, .inl ⟨rfl, _, SqL.of hrA⟩, _, rfl, r, _, .str y, j, .str y, rfl, rfl, SqL.of hrA, rfl, all_flat _, hjs, by simp [eqV], fun m' z' hm' hz' => ?_, _, rfl, b6, _, (1 : Int), .ref tA, rfl, rfl, hbA1, atI_nat (j := 1) rfl, _, _, rfl, ?_⟩
    · obtain ⟨z'', hz2, rfl⟩ := map_get hz'
      have hne : z'' ≠ y := fun e => by
        rw [e] at hz2
        have := (List.getElem?_inj (List.getElem?_eq_some_iff.mp hz2).1 nnd).mp (hz2.trans hj.symm)
        omega
      simp [eqV, hne]
    have sA' := s1
    have hqj : (q.2.map V.int)[j]? = some (.int (aw y % szI szs y)) := by rw [hqs, List.map_map, List.getElem?_map, hj]; rfl
    have hql : j ≤ (q.2.map V.int).length := by rw [hqs, List.length_map, List.length_map]; omega
    have hql1 : j + 1 ≤ (q.2.map V.int).length := by rw [hqs, List.length_map, List.length_map]; omega
    have hqlen : (q.2.map V.int).length ≤ 24 := by rw [hqs, List.length_map, List.length_map]; omega
    refine ⟨_, rfl, _, rfl, _, rfl, _, rfl, tA, _, rfl, hbA2, fun p1 Hb sB h1 => ?_⟩
    rw [cut_take _ hql] at h1
    have evy : valV (SzD szs) (Sum.inr y) = some (.int (szn szs y : Nat)) := by
      rw [szD_val]
      unfold szn
      obtain ⟨m, hm⟩ : ∃ m, szs.lookup y = some m := by
        have h1 := lookup_some (szs := szs) (x := y)
        rw [decide_eq_true hyr] at h1
        exact Option.isSome_iff_exists.mp h1
      rw [hm]
      rfl
    have hy1 := (szn_pos O hyr).1
    have sAB := sA.trans sB
    refine ⟨_, rfl, _, rfl, tA, _, ((j : Nat) : Int), _, rfl, rfl, sB.tup hbA2, atI_nat hqj, _, _, rfl, rfl, .inl ⟨_, rfl, _, rfl, p, _, (0 : Int), .ref d, rfl, rfl, SqT.of (sAB _ _ hp.t), atI_nat (j := 0) rfl, _, rfl, d, _, rfl, .inl ⟨_, Sum.inr y, .inl (sAB _ _ hp.d), rfl, evy.symm⟩, _, _, rfl, rfl, (by show ((szn szs y : Nat) : Int) ≠ 0; omega), Nat.le_of_ble_eq_true rfl, fun p2 hp2 => ?_⟩⟩
    have sB2 : Same Hb (upd Hb p2 (.tup [V.int (Int.fmod (aw y % szI szs y + 1) ((szn szs y : Nat) : Int))])) := sm_new hp2
    refine ⟨p1, p2, _, _, rfl, rfl, sB2.tup h1, SqT.of upd_same, by rw [List.length_take, List.length_singleton, sizeLine_eq]; omega, fun p3 Hc sC h3' => ?_⟩
    refine ⟨_, rfl, _, rfl, _, _, rfl, rfl, _, rfl, tA, _, rfl, (sB.trans (sB2.trans sC)).tup hbA2, fun p4 Hd sD h4' => ?_⟩
    have ej1 : ((j : Nat) : Int) + 1 = ((j + 1 : Nat) : Int) := by omega
    rw [ej1, cut_drop _ hql1] at h4'
    refine ⟨p3, p4, _, _, rfl, rfl, sD.tup h3', h4', by rw [List.length_append, List.length_take, List.length_drop, List.length_singleton, sizeLine_eq]; omega, fun p5 He sE5 h5 => ?_⟩
    have etik : (q.2.map V.int).take j ++ [V.int (Int.fmod (aw y % szI szs y + 1) ((szn szs y : Nat) : Int))] ++ (q.2.map V.int).drop (j + 1) = (nms.map (tik szs y fun z => aw z % szI szs z)).map V.int := by
      rw [← tik_split nnd hj (fun z => aw z % szI szs z), List.map_append, List.map_append, List.map_take, List.map_drop, hqs, Int.fmod_eq_emod_of_nonneg _ (by omega)]
      rfl
    rw [etik] at h5
    refine ⟨Nat.le_of_ble_eq_true rfl, fun p6 hp6 => ?_⟩
    have s6' : Same He (upd He p6 (.tup [.str y, .ref p5])) := sm_new hp6
    have sAF : Same Ha (upd He p6 (.tup [.str y, .ref p5])) := sB.trans (sB2.trans (sC.trans (sD.trans (sE5.trans s6'))))
    have pf : PosAt K (upd He p6 (.tup [.str y, .ref p5])) p6 (y, nms.map (tik szs y fun z => aw z % szI szs z)) := ⟨p5, SqT.of upd_same, s6'.tup h5⟩
    have pin : pairS q.1 y ∈ ps := (adj_iff O.ord).mp hadj
    refine ⟨_, rfl, b6, _, (0 : Int), .str q.1, rfl, rfl, sAF.tup hbA1, atI_nat (j := 0) rfl, _, rfl, q.1, y, rfl, fun Hf pp sF hpp => ⟨_, rfl, pD (pairS q.1 y), pD two, pD_mk hpp.sq, pD_mk (((sA.trans sAF).trans sF).tup ht2), pD_shaped (O.nms _ pin), pD_shaped (O.nms _ htwo), _, rfl, ?_⟩⟩
    rw [pD_eqv]
    have sAf := sAF.trans sF
    have hnwF := sAf _ _ hnwA
    have hlaF := sAf _ _ hlaA
    have huF := sAf _ _ huA
    have hrF := sAf _ _ hrA
    have pff := pf.same sF
    have sF' := sA.trans sAf
    have hlA : nwL4.length + laL4.length ≤ 20000 := by omega
    have shr : ∀ x z, (x = q ∧ (St0 szs ps two nms false x z ∨ St0 szs ps two nms true x z) ∧ z.1 ∉ ns.take m) → (x = q ∧ (St0 szs ps two nms false x z ∨ St0 szs ps two nms true x z) ∧ z.1 ∉ ns.take (m + 1)) ∨ (x = q ∧ z = (y, nms.map (tik szs y fun z => aw z % szI szs z))) := fun x z h => by
      obtain ⟨rfl, h6, h7⟩ := h
      by_cases ez : z.1 = y
      · refine .inr ⟨rfl, ?_⟩
        rcases h6 with h6 | h6
        · rw [h6.one hqs, ez]
        · rw [h6.one hqs, ez]
      · refine .inl ⟨rfl, h6, fun w => ?_⟩
        rw [take_snoc hy] at w
        rcases List.mem_append.mp w with w | w
        · exact h7 w
        · exact ez (List.mem_singleton.mp w)
    by_cases hpt : pairS q.1 y = two
    · -- a crossing
      rw [decide_eq_true hpt]
      have e1 : St0 szs ps two nms true q (y, nms.map (tik szs y fun z => aw z % szI szs z)) := ⟨_, y, hqs, hadj, decide_eq_true hpt, rfl⟩
      have n0 : ¬ St0 szs ps two nms false q (y, nms.map (tik szs y fun z => aw z % szI szs z)) := fun h => by
        have := h.adj.2
        rw [decide_eq_true hpt] at this
        cases this
      have ntl : NoTp (Hf la) := noTp_lst hlaF
      refine iteT ⟨_, rfl, .inl ⟨rfl, _, SqL.of hlaF⟩, _, rfl, la, _, _, rfl, rfl, hlaF, by rw [(hplA.same sAf).len, sizeLine_eq]; omega, nwL4, laL4 ++ [(y, nms.map (tik szs y fun z => aw z % szI szs z))], vs4, us4 ++ [.ref p6], _, _, _, _, rfl, B4.pushC (List.mem_append_right _ List.mem_cons_self) e1 n0 shr, (faA.same sAf).upd ntl ala, by rw [upd_ne nwla]; exact hnwF, (hpoA.same sAf).upd ntl, upd_same, ((hplA.same sAf).upd ntl).snoc (pff.upd ntl), ⟨by rw [List.length_append, List.length_singleton]; omega, by rw [List.length_append]; omega⟩, by rw [upd_ne nul]; exact huF, (hbA.same sAf).upd ntl, by rw [upd_ne lar.symm]; exact hrF, sF'.put hla0⟩
    · rw [decide_eq_false hpt]
      have e0 : St0 szs ps two nms false q (y, nms.map (tik szs y fun z => aw z % szI szs z)) := ⟨_, y, hqs, hadj, decide_eq_false hpt, rfl⟩
      have n1 : ¬ St0 szs ps two nms true q (y, nms.map (tik szs y fun z => aw z % szI szs z)) := fun h => by
        have := h.adj.2
        rw [decide_eq_false hpt] at this
        cases this
      have ntn : NoTp (Hf nw) := noTp_lst hnwF
      refine iteF ⟨_, rfl, .inl ⟨rfl, _, SqL.of hnwF⟩, _, rfl, nw, _, _, rfl, rfl, hnwF, by rw [(hpoA.same sAf).len, sizeLine_eq]; omega, nwL4 ++ [(y, nms.map (tik szs y fun z => aw z % szI szs z))], laL4, vs4 ++ [.ref p6], us4, _, _, _, _, rfl, B4.pushF (List.mem_append_right _ List.mem_cons_self) e0 n1 shr, (faA.same sAf).upd ntn anw, upd_same, ((hpoA.same sAf).upd ntn).snoc (pff.upd ntn), by rw [upd_ne nwla.symm]; exact hlaF, (hplA.same sAf).upd ntn, ⟨by rw [List.length_append, List.length_singleton]; omega, hlenA.2⟩, by rw [upd_ne nuw]; exact huF, (hbA.same sAf).upd ntn, by rw [upd_ne nwr.symm]; exact hrF, sF'.put hnwn⟩
  · rintro σ Ha ⟨nwL4, laL4, vs4, us4, y10, y11, y12, y13, rfl, B4, faA, hnwA, hpoA, hlaA, hplA, hlenA, huA, hbA, hrA, sA⟩
    rw [List.length_map, List.take_length] at B4
    rw [List.length_map] at hlenA
    refine ⟨_, ?_, fd2 ++ [(q, c)], nwL4, laL4, vs4, us4, _, _, _, _, _, rfl, B4.less (fun x z h1 h2 => ?_) (fun x z h1 h2 => ?_), faA, hnwA, hpoA, hlaA, hplA, ?_, rfl, ?_, .inr ?_, hrA, sA⟩
    · rw [List.length_append, List.length_append, List.length_singleton, List.length_singleton]
      omega
    · obtain ⟨rfl, _, h3⟩ := h2
      exact h3 ((hns _).mpr h1.adj.1)
    · obtain ⟨rfl, _, h3⟩ := h2
      exact h3 ((hns _).mpr h1.adj.1)
    · rw [List.length_append, List.length_singleton]
      omega
    · rw [List.length_append, List.length_singleton]
      omega
    · rw [List.length_append, List.length_singleton]
      omega
end
end Rd
/-! _law_left, _law_wandered, _law_built. -/
namespace Rd
open PySem PySem.Spec PyProof.Rows L2 Gr
/-- xs.count(x) of texts: some number -/
def rCntS (K : PySem.W.Frag) : V → List V → Hp → VK → Prop := fun x xs H Q => ∃ (p : Addr) (ns : List Str) (k : Str), x = .ref p ∧ xs = [.str k] ∧ SqL K H p (ns.map V.str) ∧ ∀ n : Nat, Q (.int (n : Nat)) H
def eqks (k : Str) : Value → Bool
  | .str z _ => z == k
  | _ => false
theorem mt_lcountS {X : Cx} : MtR X "list.count" (rCntS X.K) := by
  intro pins s σ H x xs v us Q I rx rxs h
  obtain ⟨p, ns, k, rfl, rfl, hs, q⟩ := h
  cases rx
  obtain ⟨u, rfl, ru⟩ := rxs.one
  obtain ⟨t, rfl⟩ := ru
  obtain ⟨its, rv, ⟨⟨cls, dd, data, sl⟩, n, ho, hc, hdn, hd⟩, hlen⟩ := I.list hs
  simp only at hc hd
  subst hc hd
  have ev : ∀ {l : List Str} {us : List Value}, Vals (l.map V.str) us → ∀ y ∈ us, ∃ z tk, y = Value.str z tk := by
    intro l
    induction l with
    | nil =>
      intro us r y hy
      cases r
      cases hy
    | cons z l ih =>
      intro us r y hy
      cases r with
      | cons r1 r2 =>
        rcases List.mem_cons.mp hy with e | hy
        · obtain ⟨tk, e2⟩ := (show ∃ t, _ = Value.str z t from r1)
          exact ⟨z, tk, e.trans e2⟩
        · exact ih r2 y hy
  refine call_meets PySem.F.slot_list_count ⟨_, ho, rfl⟩ PySem.F.entry_list_count (PySem.F.args_list_count_2 _ _)
    (SeqAt.list_countAt p its.toArray n dd sl (.str k t) (eqks k)) ⟨ho, fun y hy => ?_, ?_⟩
  · obtain ⟨z, tk, rfl⟩ := ev rv y (by simpa using hy)
    exact eqAt_V (y := V.str z) (x := V.str k) ⟨tk, rfl⟩ ⟨t, rfl⟩ rfl rfl
  · exact ⟨.int _, H, I.tok _, ⟨s.toks, rfl⟩, q _⟩
theorem pe_bmK {X : Cx} {K : PySem.W.Frag} {o e : Expr} {es : List Expr} {to : TE} {t : TA} {name : Str} {apos cpos : Pos} {T id : String} {r : V → List V → Hp → VK → Prop} (hK : X.K = K) (pa : PlainAttrs T) (slot : Slot T name id) (hty : typeOf (.builtin id) = pure (.type "method_descriptor")) (hm : MtR X id r) (ho : PE X o to) (ha : PA X (e :: es) t)
    (hbase : attributeBase o name X.env (eval o X.env) = eval o X.env := by rfl)
    (hfew : ((backTo cpos (starEach (e :: es) X.env)).all (fun x => !x.1) && (backToKw cpos (keywordEach [] X.env)).all (fun x => x.1.isSome)
      && decide ((e :: es).length + ([] : List Keyword).length + (if ([] : List Keyword).isEmpty then 0 else 1) < 30)) = true := by rfl)
    (hline : (apos.endLine == cpos.line) = true := by rfl) (hs : starEach (e :: es) X.env = (false, eval e X.env) :: starEach es X.env := by rfl) (hplain : (backTo cpos (starEach es X.env)).any (·.1) = false := by rfl) :
    PE X (.Call (.Attribute o name apos) (e :: es) [] cpos) (tBM K T r to t) := by
  subst hK
  exact pe_bm pa slot hty hm ho ha hbase hfew hline hs hplain
theorem mt_lcountK {X : Cx} {K : PySem.W.Frag} (hK : X.K = K) : MtR X "list.count" (rCntS K) := by
  subst hK
  exact mt_lcountS
theorem sl_listK {X : Cx} {K : PySem.W.Frag} (hK : X.K = K) : SlR X (rSlL K) := by
  subst hK
  exact sl_list
theorem mergeK_nd : ∀ (more acc : List (Key × V)), ((acc ++ more).map (·.1)).Nodup → mergeK acc more = acc ++ more
  | [], acc, _ => by simp [mergeK]
  | kv :: more, acc, h => by
    have h1 : valV acc kv.1 = none := by
      cases e : valV acc kv.1 with
      | none => rfl
      | some v =>
        have h2 := valV_mem e
        rw [List.map_append, List.nodup_append] at h
        exact absurd rfl (h.2.2 kv.1 (List.mem_map.mpr ⟨_, h2, rfl⟩) kv.1 List.mem_cons_self)
    show mergeK (putK acc kv.1 kv.2) more = _
    rw [putK_new _ h1, mergeK_nd more (acc ++ [(kv.1, kv.2)]) (by rw [List.append_assoc]; exact h), List.append_assoc]
    rfl
theorem izD_merge {cs : List (Str × Int)} (h : (cs.map (·.1)).Nodup) : mergeK [] (IzD cs) = IzD cs := by
  have := mergeK_nd (IzD cs) [] (by rw [List.nil_append, izD_keys]; exact inr_nodup h)
  rw [this]
  rfl
/-- changes of all rooms, in a dict -/
def ChAt (H : Hp) (q : Addr) (szs : List (Str × Nat)) (cs : List (Str × Int)) : Prop := H q = some (.dK (IzD cs)) ∧ (cs.map (·.1)).Perm (szs.map (·.1)) ∧ ∀ e ∈ cs, 0 ≤ e.2 ∧ e.2 < szn szs e.1
/-- pairs of a text and an int, in tuples -/
def PiL (H : Hp) : List Addr → List (Str × Int) → Prop := Paired fun u e => H u = some (.tup [.str e.1, .int e.2])
theorem PiL.same {H H' : Hp} (s : Same H H') {us : List Addr} {cs : List (Str × Int)} (h : PiL H us cs) : PiL H' us cs := Paired.mapP h fun _ _ e => s _ _ e
theorem PiL.put {H : Hp} {D : Addr} {o : HO} {ys : List V} (hD : H D = some (.lst ys)) {us : List Addr} {cs : List (Str × Int)} (h : PiL H us cs) : PiL (upd H D o) us cs := Paired.mapP h fun u e k => by
  rw [upd_ne]
  · exact k
  · intro z
    rw [z, hD] at k
    cases k
theorem PiL.kv {K : PySem.W.Frag} {H : Hp} : ∀ {us : List Addr} {cs : List (Str × Int)}, PiL H us cs → Paired (fun p (kv : Key × V) => SqT K H p [kV kv.1, kv.2]) us (IzD cs)
  | _, _, .nil => .nil
  | _, _, .cons h r => .cons (SqT.of h) (PiL.kv r)
theorem szn_val {szs : List (Str × Nat)} {y : Str} (hy : y ∈ szs.map (·.1)) : valV (SzD szs) (Sum.inr y) = some (.int (szn szs y : Nat)) := by
  rw [szD_val]
  unfold szn
  obtain ⟨m, hm⟩ : ∃ m, szs.lookup y = some m := by
    have h1 := lookup_some (szs := szs) (x := y)
    rw [decide_eq_true hy] at h1
    exact Option.isSome_iff_exists.mp h1
  rw [hm]
  rfl
def spLeft : Sp := fun vs H Q _ => ∃ (p d l rl : Addr) (szs : List (Str × Nat)) (ps : List (Str × Str)) (ws : List Str), vs = [.ref p, .ref rl] ∧ PlAt H p d l szs ps ∧ BOk szs ps ∧ H rl = some (.lst (ws.map V.str)) ∧ ws.length ≤ 1000 ∧ ∀ H' q cs, Same H H' → ChAt H' q szs cs → Q (.ref q) H'
-- slots of _law_left: 0 _law_plan* 1 _law_rooms* 2 _law_room
theorem sc_z_left : FnScope ["_law_plan", "_law_rooms", "_law_room"] ["_law_plan", "_law_rooms"] (defScope s_z_left) := ⟨rfl, rfl, rfl, by decide +kernel, rfl, by decide +kernel, by decide +kernel⟩
section
variable {P : Program} {w : World} {K : PySem.W.Frag} {mg : Str → Option Value} {base : Heap}
theorem ca_z_left (T : Wd K mg base) : Ca P w K mg base 1 "_law_left" spLeft [] := by
  obtain ⟨fd, F⟩ := T.L.F_z_left
  refine ca_of F T.g__law_left (F.binds (ps := ["_law_plan", "_law_rooms"]) fun _ _ _ _ _ _ us hl => match us, hl with | [_, _], _ => rfl) sc_z_left (fun vs H Q E ⟨_, _, _, _, _, _, _, e, _⟩ => by rw [e]; rfl) ?_
  rintro cdv A outer s0 H vs Q E hr ⟨p, d, l, rl, szs, ps, ws, rfl, hp, O, hrl, hws, k⟩
  refine ⟨_, (pss_one (ps_ret (pe_callTy (call_dictP rfl) (by rfl) T.f_dict (by decide +kernel) (pa_cons (pe_lock (pe_lc (own := [("_law_room", 2)]) (g := gName 2) rfl sc_z_left.nd (pi_keys (pe_ix ix_tup (pv 0) pe_int (fun _ _ => rfl))) (blkOk_by (own := [("_law_room", 2)]) (N := ["_law_plan", "_law_rooms", "_law_room"]) (sc := defScope s_z_left) (by decide +kernel)) (fun _ _ _ _ _ => (pg_name (i := 2) sc_z_left.nd rfl (Or.inl rfl))) (fun _ _ _ _ _ => pts_nil) (fun _ _ _ _ _ => (pe_tup (pa_cons (pv 2) (pa_cons (pe_op op_modN (pe_callTy (call_int1) (by rfl) T.f_int (by decide +kernel) (pa_cons (pe_bmK (K := K) rfl PySem.F.plainAttrs_list PySem.F.slot_list_count PySem.F.type_list_count (mt_lcountK rfl) (pe_slice (sl_listK (K := K) rfl) (pv 1) (po_some pe_int) po_none) (pa_cons (pv 2) pa_nil)) pa_nil)) (pe_dget (hu_of hr) (pe_ix (r := rIxT K) ix_tup (pv 0) pe_int (fun _ _ => rfl)) (pv 2) (fun _ _ => rfl))) pa_nil)))))) pa_nil)))), ?_⟩
  refine ⟨d, _, hp.d, trivial, fun od => ?_⟩
  have npd : p ≠ d := fun z => by
    have h1 := hp.t
    rw [z, hp.d] at h1
    cases h1
  have nrd : rl ≠ d := fun z => by
    rw [z, hp.d] at hrl
    cases hrl
  have few := O.few
  refine ⟨_, rfl, p, _, (0 : Int), .ref d, rfl, rfl, SqT.of (by rw [upd_ne npd]; exact hp.t), atI_nat (j := 0) rfl, d, od, rfl, .inl ⟨_, upd_same, fun D hD => ?_⟩⟩
  have nDd : D ≠ d := fun z => by rw [z, upd_same] at hD; cases hD
  refine lc_it walk_keys (fun i H' => ∃ (us : List Addr) (cs : List (Str × Int)), H' D = some (.lst (us.map V.ref)) ∧ PiL H' us cs ∧ cs.map (·.1) = (szs.map (·.1)).take i ∧ us.length ≤ i ∧ (∀ e ∈ cs, 0 ≤ e.2 ∧ e.2 < szn szs e.1) ∧ Same (upd H d (.frz od (.dK (SzD szs)))) H') ⟨[], [], upd_same, .nil, rfl, Nat.le_refl _, (fun e h => nomatch h), sm_new hD⟩ (fun i H' _ ⟨_, _, _, _, _, _, _, h⟩ => h _ _ upd_same) ?_ ?_
  · rintro i x Hq H' hi ⟨us, cs, g1, g2, g3, g4, g5, ss⟩ ⟨rfl, kk, vv, hk, rfl⟩
    obtain ⟨q, hq, eq⟩ := map_get hk
    cases eq
    have hqx : (szs.map (·.1))[i]? = some q.1 := by rw [List.getElem?_map, hq]; rfl
    have hqm := List.mem_of_getElem? hqx
    have hi2 : i < szs.length := (List.getElem?_eq_some_iff.mp hq).1
    refine ⟨rfl, _, rfl, _, rfl, 1, rfl, rl, _, rfl, SqL.of (ss _ _ (by rw [upd_ne nrd]; exact hrl)), fun c hc => ?_⟩
    have s1 : Same H' (upd H' c (.lst (cutV (ws.map V.str) (some 1) none))) := sm_new hc
    have ecut : cutV (ws.map V.str) (some 1) none = (ws.drop 1).map V.str := by
      cases ws with
      | nil => rfl
      | cons w0 wr =>
        rw [List.map_cons, cut_tail]
        rfl
    have hcs : (upd H' c (.lst (cutV (ws.map V.str) (some 1) none))) c = some (.lst ((ws.drop 1).map V.str)) := by rw [upd_same, ecut]
    refine ⟨.inl ⟨rfl, _, SqL.of hcs⟩, _, rfl, c, ws.drop 1, q.1, rfl, rfl, SqL.of hcs, fun n => .inl ⟨_, rfl, ?_⟩⟩
    have hs1 := (szn_pos O hqm).1
    have sA := ss.trans s1
    refine ⟨_, rfl, p, _, (0 : Int), .ref d, rfl, rfl, SqT.of (sA _ _ (by rw [upd_ne npd]; exact hp.t)), atI_nat (j := 0) rfl, _, rfl, d, _, rfl, .inl ⟨_, Sum.inr q.1, .inr ⟨od, sA _ _ upd_same⟩, rfl, (szn_val hqm).symm⟩, _, _, rfl, rfl, (by show ((szn szs q.1 : Nat) : Int) ≠ 0; omega), Nat.le_of_ble_eq_true rfl, fun u hu => ?_⟩
    have s2 : Same H' (upd (upd H' c (.lst (cutV (ws.map V.str) (some 1) none))) u (.tup [.str q.1, .int (Int.fmod ((n : Nat) : Int) ((szn szs q.1 : Nat) : Int))])) := s1.new hu
    have hD2 := s2 _ _ g1
    refine ⟨_, hD2, by rw [List.length_map, sizeLine_eq]; omega, us ++ [u], cs ++ [(q.1, Int.fmod ((n : Nat) : Int) ((szn szs q.1 : Nat) : Int))], ?_, ?_, ?_, ?_, ?_, (ss.trans s2).put hD⟩
    · rw [upd_same, List.map_append]
      rfl
    · refine Paired.snoc ((g2.same s2).put hD2) ?_
      rw [upd_ne (ne_of upd_same hD2 (fun z => by cases z)), upd_same]
      rfl
    · rw [take_snoc hqx, List.map_append, g3]
      rfl
    · rw [List.length_append]
      show us.length + 1 ≤ i + 1
      omega
    · intro e he
      rcases List.mem_append.mp he with he | he
      · exact g5 e he
      · rw [List.mem_singleton.mp he]
        show 0 ≤ Int.fmod ((n : Nat) : Int) ((szn szs q.1 : Nat) : Int) ∧ Int.fmod ((n : Nat) : Int) ((szn szs q.1 : Nat) : Int) < szn szs q.1
        rw [Int.fmod_eq_emod_of_nonneg _ (by omega)]
        exact ⟨Int.emod_nonneg _ (by omega), Int.emod_lt_of_pos _ (by omega)⟩
  rintro H' ⟨us, cs, g1, g2, g3, g4, g5, ss⟩
  have hn : (SzD szs).length = (szs.map (·.1)).length := by unfold SzD; rw [List.length_map, List.length_map]
  rw [hn, List.take_length] at g3
  have nd : (cs.map (·.1)).Nodup := by rw [g3]; exact O.nd
  have hdd := ss _ _ upd_same
  refine ⟨hdd, D, us, IzD cs, rfl, SqL.of (by rw [upd_ne nDd]; exact g1), ?_, fun q hq => ?_⟩
  · refine PiL.kv (Paired.mapP g2 fun u e h => ?_)
    rw [upd_ne (ne_of h hdd (fun z => by cases z))]
    exact h
  · rw [izD_merge nd]
    refine k _ q cs ((lock_same hp.d ss).new hq) ⟨upd_same, by rw [g3], g5⟩
end
end Rd
/-! _law_wandered, _law_built. -/
namespace Rd
open PySem PySem.Spec PyProof.Rows L2 Gr
theorem TpAt.ni {H : Hp} {t d c : Addr} {n : Nat} {cs : List (Str × Int)} (h : TpAt H t c n) (e : H d = some (.dK (IzD cs))) : d ≠ t := fun z => by
  obtain ⟨_, _, _, h1, _⟩ := h
  rw [z, h1] at e
  cases cs with
  | nil => cases e
  | cons a r =>
    have e2 := Option.some.inj e
    injection e2 with e2
    injection e2 with e3 _
    injection e3 with _ e4
    cases e4
theorem TpAt.nd {H : Hp} {t d c : Addr} {n : Nat} {szs : List (Str × Nat)} (h : TpAt H t c n) (e : H d = some (.dK (SzD szs))) : d ≠ t := h.ni (cs := toI szs) (by rw [← izD_nat]; exact e)
theorem TpAt.nx {H : Hp} {t d c : Addr} {n : Nat} {o : HO} (h : TpAt H t c n) (e : H d = some o) (k : ∀ kvs, o ≠ .dK kvs) : d ≠ t := fun z => by
  obtain ⟨_, _, _, h1, _⟩ := h
  rw [z, h1] at e
  exact k _ (Option.some.inj e).symm
theorem PrL.sameX {H H' : Hp} {t c : Addr} {n : Nat} (tp : TpAt H t c n) (s : SameX t H H') {xs : List V} {ps : List (Str × Str)} (h : PrL H xs ps) : PrL H' xs ps := Paired.mapP h fun _ _ ⟨u, e, o, k, hd⟩ => ⟨u, e, o, s _ _ (tp.nx k fun _ z => by cases z) k, hd⟩
theorem PlAt.sameX {H H' : Hp} {t c p d l : Addr} {n : Nat} {szs : List (Str × Nat)} {ps : List (Str × Str)} (tp : TpAt H t c n) (s : SameX t H H') (h : PlAt H p d l szs ps) : PlAt H' p d l szs ps :=
  ⟨s _ _ (tp.nx h.t fun _ z => by cases z) h.t, s _ _ (tp.nd h.d) h.d, let ⟨xs, h1, h2⟩ := h.l; ⟨xs, s _ _ (tp.nx h1 fun _ z => by cases z) h1, h2.sameX tp s⟩⟩
/-- each room of a plan with two rooms has a neighbour -/
theorem near_ne {szs : List (Str × Nat)} {ps : List (Str × Str)} (O : BOk szs ps) (h2 : 2 ≤ szs.length) {x : Str} (hx : x ∈ szs.map (·.1)) : ∃ y, Adj ps x y := by
  obtain ⟨y, hy, hne⟩ : ∃ y ∈ szs.map (·.1), y ≠ x := by
    refine Classical.byContradiction fun no => ?_
    have h3 := nodup_le (m := [x]) O.nd fun y hy => by
      refine Classical.byContradiction fun n => no ⟨y, hy, fun e => n (by simp [e])⟩
    rw [List.length_map, List.length_singleton] at h3
    omega
  have hc := O.cn x hx y hy
  have key : ∀ z, Conn ps x z → z = x ∨ ∃ y, Adj ps x y := by
    intro z h
    induction h with
    | refl => exact .inl rfl
    | step _ ad ih =>
      rcases ih with e | e
      · rw [e] at ad
        exact .inr ⟨_, ad⟩
      · exact .inr e
  exact (key y hc).resolve_left hne
def spWand (K : PySem.W.Frag) : Sp := fun vs H Q _ => ∃ (t c p d l : Addr) (n : Nat) (f : Str) (m : Nat) (szs : List (Str × Nat)) (ps : List (Str × Str)), vs = [.ref t, .ref p, .str f, .int (m : Nat)] ∧ TpAt H t c n ∧ n + m ≤ 100000 ∧ m ≤ 20 ∧ PlAt H p d l szs ps ∧ BOk szs ps ∧ 2 ≤ szs.length ∧ f ∈ szs.map (·.1) ∧
  ∀ H' r (ws : List Str) (x : Str) (n' : Nat), SameX t H H' → TpAt H' t c n' → n' ≤ n + m → H' r = some (.lst ((ws ++ [x]).map V.str)) → ws.length ≤ 20 → x ∈ szs.map (·.1) → Q (.ref r) H'
-- slots of _law_wandered: 0 _law_tape 1 _law_plan 2 _law_first 3 _law_steps 4 _law_found 5 _law_turn
theorem sc_z_wandered : FnScope ["_law_tape", "_law_plan", "_law_first", "_law_steps", "_law_found", "_law_turn"] ["_law_tape", "_law_plan", "_law_first", "_law_steps"] (defScope s_z_wandered) := ⟨rfl, rfl, rfl, by decide +kernel, rfl, by decide +kernel, by decide +kernel⟩
section
variable {P : Program} {w : World} {K : PySem.W.Frag} {mg : Str → Option Value} {base : Heap}
theorem ca_z_wandered (T : Wd K mg base) : Ca P w K mg base 3 "_law_wandered" (spWand K) [] := by
  obtain ⟨fd, F⟩ := T.L.F_z_wandered
  refine ca_of F T.g__law_wandered (F.binds (ps := ["_law_tape", "_law_plan", "_law_first", "_law_steps"]) fun _ _ _ _ _ _ us hl => match us, hl with | [_, _, _, _], _ => rfl) sc_z_wandered (fun vs H Q E ⟨_, _, _, _, _, _, _, _, _, _, e, _⟩ => by rw [e]; rfl) ?_
  rintro cdv A outer s0 H vs Q E hr ⟨t, c, p, d, l, n, f, m, szs, ps, rfl, ht, hn, hm, hp, O, h2, hf, k⟩
  refine ⟨_, (pss_cons (ps_set (i := 4) sc_z_wandered.nd rfl (Or.inl rfl) (pe_lst (pa_cons (pv 2) pa_nil))) (pss_cons (ps_for PassesOwn.never rfl (pi_range1 (by rfl) T.f_range (pa_cons (pe_op op_mul (pv 3) (pe_callTy (call_int1) (by rfl) T.f_int (by decide +kernel) (pa_cons (pe_cmpR (op_neD hr.units) (pe_ix ix_tup (pv 1) pe_int (fun _ _ => rfl)) (pe_lst pa_nil) (by rfl)) pa_nil))) pa_nil)) (pg_name (i := 5) sc_z_wandered.nd rfl (Or.inl rfl)) (pss_one (ps_expr (pe_bm PySem.F.plainAttrs_list PySem.F.slot_list_append PySem.F.type_list_append mt_append (pv 4) (pa_cons (pe_ca (ca_z_pick T) hr (by decide) rfl (pa_cons (pv 0) (pa_cons (pe_ca (ca_z_near T) hr (by decide) rfl (pa_cons (pv 1) (pa_cons (pe_ix ix_list (pv 4) (pe_un un_neg pe_int) (fun _ _ => rfl)) pa_nil))) pa_nil))) pa_nil))))) (pss_one (ps_ret (pv 4))))), ?_⟩
  obtain ⟨xs, hl, hxs⟩ := id hp.l
  refine ⟨_, rfl, Nat.le_of_ble_eq_true rfl, fun r hr0 => ?_⟩
  have s1 : Same H (upd H r (.lst [.str f])) := sm_new hr0
  have nrt : r ≠ t := by
    obtain ⟨_, _, _, h1, _⟩ := ht
    exact (ne_of_none h1 hr0).symm
  have nrc : r ≠ c := by
    obtain ⟨ys, hy⟩ := ht.cl
    exact (ne_of_none hy hr0).symm
  refine ⟨_, rfl, _, rfl, p, _, (1 : Int), .ref l, rfl, rfl, SqT.of (s1 _ _ hp.t), atI_nat (j := 1) rfl, Nat.le_of_ble_eq_true rfl, fun e he => ?_⟩
  have s2 : Same H (upd (upd H r (.lst [.str f])) e (.lst [])) := s1.new he
  refine ne_nil (SqL.of (s2 _ _ hl)) (hxs.same s2).dp (pairs_lay O.nms) (SqL.of upd_same) ?_
  have hps : ps ≠ [] := fun z => by
    obtain ⟨y, hy⟩ := near_ne O h2 hf
    rw [z] at hy
    rcases hy with hy | hy <;> cases hy
  have e1 : (!(ps.map pD).isEmpty) = true := by
    cases ps with
    | nil => exact absurd rfl hps
    | cons a b => rfl
  rw [e1]
  refine .inr ⟨true, rfl, _, _, rfl, rfl, .inl ⟨by omega, by omega⟩, ?_⟩
  have sr : (upd (upd H r (.lst [.str f])) e (.lst [])) r = some (.lst (([] ++ [f] : List Str).map V.str)) := by
    rw [upd_ne (ne_of_none upd_same he), upd_same]
    rfl
  have emul : ((m : Nat) : Int) * (if true = true then 1 else 0) = ((m : Nat) : Int) := by rw [if_pos rfl, Int.mul_one]
  refine ⟨_, rfl, by rw [emul]; omega, by rw [emul]; omega, for_range (n := (((m : Nat) : Int) * (if true = true then 1 else 0)).toNat) (fun i σ H' => ∃ (ws : List Str) (x : Str) (n' : Nat) (z5 : Option V), σ = [some (.ref t), some (.ref p), some (.str f), some (.int (m : Nat)), some (.ref r), z5] ∧ H' r = some (.lst ((ws ++ [x]).map V.str)) ∧ ws.length = i ∧ x ∈ szs.map (·.1) ∧ SameX t H H' ∧ TpAt H' t c n' ∧ n' ≤ n + i)
    ⟨[], f, n, none, rfl, sr, rfl, hf, s2.x, ht.same s2, Nat.le_refl _⟩ ?_ ?_⟩
  · rintro i σ H' hi ⟨ws, x, n', z5, rfl, hr1, hwl, hx, ss, tp, hn'⟩
    have him : i < m := by
      rw [if_pos rfl] at hi
      omega
    have hp1 := hp.sameX ht ss
    refine ⟨_, rfl, .inl ⟨rfl, _, SqL.of hr1⟩, _, rfl, _, rfl, _, rfl, _, rfl, r, _, _, _, rfl, rfl, SqL.of hr1, by rw [List.map_append]; exact atI_last _ _, p, d, l, x, szs, ps, rfl, hp1, O.fewP, fun H2 u ns s3 hu hu0 hns hnl => ?_⟩
    have h31 := O.fewP
    obtain ⟨y0, hy0⟩ := near_ne O h2 hx
    have hy0' := (hns y0).mpr hy0
    refine ⟨t, c, n', .ref u, rfl, tp.same s3, by omega, .inl ⟨u, _, rfl, hu, fun z => ?_, by rw [List.length_map]; omega⟩, fun H3 v n3 ss3 tp3 hn3 hv => ?_⟩
    · rw [List.map_eq_nil_iff.mp z] at hy0'
      cases hy0'
    obtain ⟨y, hy, rfl⟩ : ∃ y, y ∈ ns ∧ v = .str y := by
      rcases hv with ⟨a2, xs2, e2, e3, e4⟩ | ⟨_, _, e2, _⟩
      · cases e2
        rw [hu] at e3
        cases e3
        obtain ⟨y, hy, rfl⟩ := List.mem_map.mp e4
        exact ⟨y, hy, rfl⟩
      · cases e2
    have hyr : y ∈ szs.map (·.1) := ((hns y).mp hy).elim (fun h => (O.ends _ h).2) fun h => (O.ends _ h).1
    have hr3 := ss3 _ _ nrt (s3 _ _ hr1)
    refine ⟨r, _, _, rfl, rfl, hr3, by rw [List.length_map, List.length_append, List.length_singleton, sizeLine_eq]; omega, ws ++ [x], y, n3, _, rfl, ?_, ?_, hyr, (ss.trans (s3.x.trans ss3)).put0 hr0, tp3.put nrt nrc, by omega⟩
    · rw [upd_same]
      simp
    · rw [List.length_append, hwl]
      rfl
  · rintro σ H' ⟨ws, x, n', z5, rfl, hr1, hwl, hx, ss, tp, hn'⟩
    have em : (((m : Nat) : Int) * (if true = true then 1 else 0)).toNat = m := by rw [if_pos rfl]; omega
    rw [em] at hwl hn'
    exact ⟨_, rfl, k H' r ws x n' ss tp hn' hr1 (by omega) hx⟩
end
def spBuilt (K : PySem.W.Frag) : Sp := fun vs H Q _ => ∃ (p d l : Addr) (szs : List (Str × Nat)) (ps : List (Str × Str)), vs = [.ref p] ∧ PlAt H p d l szs ps ∧ BOk szs ps ∧ ∀ H' b szs' ps', Same H H' → szs'.Perm szs → ps'.Perm ps → BAt K H' b szs' ps' → Q (.ref b) H'
-- slots of _law_built: 0 _law_plan
theorem sc_z_built : FnScope ["_law_plan"] ["_law_plan"] (defScope s_z_built) := ⟨rfl, rfl, rfl, by decide +kernel, rfl, by decide +kernel, by decide +kernel⟩
section
variable {P : Program} {w : World} {K : PySem.W.Frag} {mg : Str → Option Value} {base : Heap}
theorem ca_z_built (T : Wd K mg base) : Ca P w K mg base 7 "_law_built" (spBuilt K) [] := by
  obtain ⟨fd, F⟩ := T.L.F_z_built
  refine ca_of F T.g__law_built (F.binds (ps := ["_law_plan"]) fun _ _ _ _ _ _ us hl => match us, hl with | [_], _ => rfl) sc_z_built (fun vs H Q E ⟨_, _, _, _, _, e, _⟩ => by rw [e]; rfl) ?_
  rintro cdv A outer s0 H vs Q E hr ⟨p, d, l, szs, ps, rfl, hp, O, k⟩
  refine ⟨_, (pss_one (ps_ret (pe_ma (ma_Building T) hr (by decide) rfl (pa_cons (pe_ix ix_tup (pv 0) pe_int (fun _ _ => rfl)) (pa_cons (pe_ix ix_tup (pv 0) pe_int (fun _ _ => rfl)) pa_nil))))), ?_⟩
  obtain ⟨xs, hl, hxs⟩ := id hp.l
  refine ⟨_, rfl, p, _, (0 : Int), .ref d, rfl, rfl, SqT.of hp.t, atI_nat (j := 0) rfl, _, rfl, p, _, (1 : Int), .ref l, rfl, rfl, SqT.of hp.t, atI_nat (j := 1) rfl, fun b dx hb hdx ne => ?_⟩
  have s0' := made_same0 (C := bC K) hb hdx
  exact ⟨b, d, l, dx, szs, ps, rfl, upd_same, s0' _ _ hp.d, ⟨xs, .inl (SqL.of (s0' _ _ hl)), (hxs.same s0').dp⟩, O, fun H' szs' ps' q1 q2 sx B => ⟨rfl, k H' b szs' ps' (made_same hb hdx sx) q1 q2 B⟩⟩
end
end Rd
/-! _law_rows. -/
namespace Rd
open PySem PySem.Spec PyProof.Rows L2 Gr
/-- a row: first room, last room, changes -/
abbrev Rw := Str × Str × List (Str × Int)
def RwAt (H : Hp) (szs : List (Str × Nat)) (u : Addr) (e : Rw) : Prop := ∃ q, H u = some (.tup [.str e.1, .str e.2.1, .ref q]) ∧ ChAt H q szs e.2.2
def RwL (H : Hp) (szs : List (Str × Nat)) : List Addr → List Rw → Prop := Paired (RwAt H szs)
theorem ChAt.same {H H' : Hp} (s : Same H H') {q : Addr} {szs : List (Str × Nat)} {cs : List (Str × Int)} (h : ChAt H q szs cs) : ChAt H' q szs cs := ⟨s _ _ h.1, h.2⟩
theorem ChAt.sameX {H H' : Hp} {t c : Addr} {n : Nat} (tp : TpAt H t c n) (s : SameX t H H') {q : Addr} {szs : List (Str × Nat)} {cs : List (Str × Int)} (h : ChAt H q szs cs) : ChAt H' q szs cs := ⟨s _ _ (tp.ni h.1) h.1, h.2⟩
theorem RwL.same {H H' : Hp} {szs : List (Str × Nat)} (s : Same H H') {us : List Addr} {rs : List Rw} (h : RwL H szs us rs) : RwL H' szs us rs := Paired.mapP h fun _ _ ⟨q, e, k⟩ => ⟨q, s _ _ e, k.same s⟩
theorem RwL.sameX {H H' : Hp} {szs : List (Str × Nat)} {t c : Addr} {n : Nat} (tp : TpAt H t c n) (s : SameX t H H') {us : List Addr} {rs : List Rw} (h : RwL H szs us rs) : RwL H' szs us rs := Paired.mapP h fun _ _ ⟨q, e, k⟩ => ⟨q, s _ _ (tp.nx e fun _ z => by cases z) e, k.sameX tp s⟩
theorem ChAt.put {H : Hp} {D : Addr} {o : HO} {ys : List V} (hD : H D = some (.lst ys)) {q : Addr} {szs : List (Str × Nat)} {cs : List (Str × Int)} (h : ChAt H q szs cs) : ChAt (upd H D o) q szs cs := ⟨by
  rw [upd_ne (ne_of h.1 hD (fun z => by cases z))]
  exact h.1, h.2⟩
theorem RwL.put {H : Hp} {D : Addr} {o : HO} {ys : List V} (hD : H D = some (.lst ys)) {szs : List (Str × Nat)} {us : List Addr} {rs : List Rw} (h : RwL H szs us rs) : RwL (upd H D o) szs us rs := Paired.mapP h fun _ _ ⟨q, e, k⟩ => ⟨q, by
  rw [upd_ne (ne_of e hD (fun z => by cases z))]
  exact e, k.put hD⟩
/-- rows that follow each other -/
def RwOk (szs : List (Str × Nat)) (rs : List Rw) : Prop := (∀ r ∈ rs, r.1 ∈ szs.map (·.1) ∧ r.2.1 ∈ szs.map (·.1)) ∧ ∀ (i : Nat) (r r' : Rw), rs[i]? = some r → rs[i + 1]? = some r' → r'.1 = r.2.1
theorem RwOk.snoc {szs : List (Str × Nat)} {rs : List Rw} (h : RwOk szs rs) {e : Rw} (he : e.1 ∈ szs.map (·.1) ∧ e.2.1 ∈ szs.map (·.1)) (hl : ∀ r, rs[rs.length - 1]? = some r → e.1 = r.2.1) : RwOk szs (rs ++ [e]) := by
  refine ⟨fun r hr => ?_, fun i r r' h1 h2 => ?_⟩
  · rcases List.mem_append.mp hr with hr | hr
    · exact h.1 r hr
    · rw [List.mem_singleton.mp hr]
      exact he
  · rcases get_app h2 with h3 | ⟨h3, h4⟩
    · rcases get_app h1 with h5 | ⟨h5, _⟩
      · exact h.2 i r r' h5 h3
      · have := (List.getElem?_eq_some_iff.mp h3).1
        omega
    · rcases get_app h1 with h5 | ⟨h5, _⟩
      · rw [h4]
        refine hl r ?_
        rw [← h3, Nat.add_sub_cancel]
        exact h5
      · omega
theorem szn_le3 {szs : List (Str × Nat)} {ps : List (Str × Str)} (O : BOk szs ps) (h3 : ∀ q ∈ szs, q.2 ≤ 3) {z : Str} (hz : z ∈ szs.map (·.1)) : szn szs z ≤ 3 := by
  obtain ⟨q, hq, e⟩ := List.mem_map.mp hz
  have : szn szs z = q.2 := by
    rw [← e]
    unfold szn
    rw [lookup_of O.nd (show (q.1, q.2) ∈ szs from hq)]
    rfl
  rw [this]
  exact h3 q hq
def spRows (K : PySem.W.Frag) : Sp := fun vs H Q _ => ∃ (t c p d l : Addr) (n : Nat) (szs : List (Str × Nat)) (ps : List (Str × Str)), vs = [.ref t, .ref p] ∧ TpAt H t c n ∧ n + 100 ≤ 100000 ∧ PlAt H p d l szs ps ∧ BOk szs ps ∧ 2 ≤ szs.length ∧ szs.length ≤ 4 ∧ (∀ q ∈ szs, q.2 ≤ 3) ∧
  ∀ H' r us (rs : List Rw) (n' : Nat), SameX t H H' → TpAt H' t c n' → n' ≤ n + 60 → H' r = some (.lst (us.map V.ref)) → RwL H' szs us rs → RwOk szs rs → 1 ≤ rs.length → rs.length ≤ 3 → Q (.ref r) H'
-- slots of _law_rows: 0 _law_tape* 1 _law_plan* 2 _law_names_here 3 _law_found 4 _law_here 5 _law_turn 6 _law_way 7 _law_there 8 _law_changes 9 _law_name
theorem sc_z_rows : FnScope ["_law_tape", "_law_plan", "_law_names_here", "_law_found", "_law_here", "_law_turn", "_law_way", "_law_there", "_law_changes", "_law_name"] ["_law_tape", "_law_plan"] (defScope s_z_rows) := ⟨rfl, rfl, rfl, by decide +kernel, rfl, by decide +kernel, by decide +kernel⟩
section
variable {P : Program} {w : World} {K : PySem.W.Frag} {mg : Str → Option Value} {base : Heap}
theorem ca_z_rows (T : Wd K mg base) : Ca P w K mg base 4 "_law_rows" (spRows K) [] := by
  obtain ⟨fd, F⟩ := T.L.F_z_rows
  refine ca_of F T.g__law_rows (F.binds (ps := ["_law_tape", "_law_plan"]) fun _ _ _ _ _ _ us hl => match us, hl with | [_, _], _ => rfl) sc_z_rows (fun vs H Q E ⟨_, _, _, _, _, _, _, _, e, _⟩ => by rw [e]; rfl) ?_
  rintro cdv A outer s0 H vs Q E hr ⟨t, c, p, d, l, n, szs, ps, rfl, ht, hn, hp, O, h2, h4, h3, k⟩
  refine ⟨_, (pss_cons (ps_par (i := 2) (j := 3) (by rfl) sc_z_rows.nd rfl rfl (by decide) rfl rfl (pa_cons (pe_callB (call_sortedD rfl) (by rfl) T.f_sorted (by decide +kernel) (pa_cons (pe_ix ix_tup (pv 1) pe_int (fun _ _ => rfl)) pa_nil)) (pa_cons (pe_lst pa_nil) pa_nil)) (by rfl)) (pss_cons (ps_set (i := 4) sc_z_rows.nd rfl (Or.inl rfl) (pe_ca (ca_z_pick T) hr (by decide) rfl (pa_cons (pv 0) (pa_cons (pv 2) pa_nil)))) (pss_cons (ps_for PassesOwn.never rfl (pi_range1 (by rfl) T.f_range (pa_cons (pe_op op_add pe_int (pe_ca (ca_z_draw T) hr (by decide) rfl (pa_cons (pv 0) (pa_cons pe_int pa_nil)))) pa_nil)) (pg_name (i := 5) sc_z_rows.nd rfl (Or.inl rfl)) (pss_cons (ps_set (i := 6) sc_z_rows.nd rfl (Or.inl rfl) (pe_ca (ca_z_wandered T) hr (by decide) rfl (pa_cons (pv 0) (pa_cons (pv 1) (pa_cons (pv 4) (pa_cons (pe_ca (ca_z_draw T) hr (by decide) rfl (pa_cons (pv 0) (pa_cons pe_int pa_nil))) pa_nil)))))) (pss_cons (ps_par (i := 7) (j := 8) (by rfl) sc_z_rows.nd rfl rfl (by decide) rfl rfl (pa_cons (pe_ix ix_list (pv 6) (pe_un un_neg pe_int) (fun _ _ => rfl)) (pa_cons (pe_ca (ca_z_left T) hr (by decide) rfl (pa_cons (pv 1) (pa_cons (pv 6) pa_nil))) pa_nil)) (by rfl)) (pss_cons (ps_if (pt_cmpR op_eq (pe_ca (ca_z_draw T) hr (by decide) rfl (pa_cons (pv 0) (pa_cons pe_int pa_nil))) pe_int (by rfl)) (pss_one (ps_par (i := 7) (j := 8) (by rfl) sc_z_rows.nd rfl rfl (by decide) rfl rfl (pa_cons (pe_ca (ca_z_pick T) hr (by decide) rfl (pa_cons (pv 0) (pa_cons (pv 2) pa_nil))) (pa_cons (pe_callTy (call_dictP rfl) (by rfl) T.f_dict (by decide +kernel) (pa_cons (pe_lc (own := [("_law_name", 9)]) (g := gName 9) rfl sc_z_rows.nd (pi_list (pv 2)) (blkOk_by (own := [("_law_name", 9)]) (N := ["_law_tape", "_law_plan", "_law_names_here", "_law_found", "_law_here", "_law_turn", "_law_way", "_law_there", "_law_changes", "_law_name"]) (sc := defScope s_z_rows) (by decide +kernel)) (fun _ _ _ _ _ => (pg_name (i := 9) sc_z_rows.nd rfl (Or.inl rfl))) (fun _ _ _ _ _ => pts_nil) (fun _ _ _ _ _ => (pe_tup (pa_cons (pv 9) (pa_cons (pe_ca (ca_z_draw T) hr (by decide) rfl (pa_cons (pv 0) (pa_cons (pe_dget (hu_of hr) (pe_ix (r := rIxT K) ix_tup (pv 1) pe_int (fun _ _ => rfl)) (pv 9) (fun _ _ => rfl)) pa_nil))) pa_nil))))) pa_nil)) pa_nil)) (by rfl))) pss_nil) (pss_cons (ps_expr (pe_bm PySem.F.plainAttrs_list PySem.F.slot_list_append PySem.F.type_list_append mt_append (pv 3) (pa_cons (pe_tup (pa_cons (pv 4) (pa_cons (pv 7) (pa_cons (pv 8) pa_nil)))) pa_nil))) (pss_one (ps_set (i := 4) sc_z_rows.nd rfl (Or.inl rfl) (pv 7)))))))) (pss_one (ps_ret (pv 3)))))), ?_⟩
  have new_t : ∀ {x : Addr} {H' : Hp} {m : Nat}, TpAt H' t c m → H' x = none → x ≠ t ∧ x ≠ c := fun {x H' m} tp hx => by
    obtain ⟨_, _, _, h1, _⟩ := id tp
    obtain ⟨ys, hy⟩ := tp.cl
    exact ⟨(ne_of_none h1 hx).symm, (ne_of_none hy hx).symm⟩
  have none_of : ∀ {x : Addr} {H' : Hp}, x ≠ t → SameX t H H' → H' x = none → H x = none := fun {x H'} hx s e => by
    cases e2 : H x with
    | none => rfl
    | some u => rw [s _ _ hx e2] at e; cases e
  refine ⟨_, rfl, p, _, (0 : Int), .ref d, rfl, rfl, SqT.of hp.t, atI_nat (j := 0) rfl, d, SzD szs, szs.map (·.1), rfl, .of hp.d, szD_keys szs, by rw [List.length_map]; omega, fun nms r hperm hsort hr1 => ?_⟩
  have hnm : ∀ z, z ∈ nms ↔ z ∈ szs.map (·.1) := fun z => hperm.mem_iff
  have nlen : nms.length = szs.length := by rw [hperm.length_eq, List.length_map]
  refine ⟨Nat.le_of_ble_eq_true rfl, fun f hf => ?_⟩
  have s1 : Same H (upd (upd H r (.lst (nms.map V.str))) f (.lst [])) := (sm_new hr1).new hf
  have nrf : r ≠ f := ne_of_none upd_same hf
  obtain ⟨nft, nfc⟩ := new_t (ht.same (sm_new hr1)) hf
  obtain ⟨nrt, nrc⟩ := new_t ht hr1
  have hf0 : H f = none := none_of nft (sm_new hr1).x hf
  have hrr : (upd (upd H r (.lst (nms.map V.str))) f (.lst [])) r = some (.lst (nms.map V.str)) := by rw [upd_ne nrf, upd_same]
  have hnne : nms ≠ [] := fun z => by
    rw [z] at nlen
    simp at nlen
    omega
  refine ⟨_, _, rfl, _, rfl, _, rfl, t, c, n, .ref r, rfl, ht.same s1, by omega, .inl ⟨r, _, rfl, hrr, fun z => hnne (List.map_eq_nil_iff.mp z), by rw [List.length_map]; omega⟩, fun H2 v n2 ss2 tp2 hn2 hv => ?_⟩
  have pick : ∀ {H' : Hp} {v : V}, H' r = some (.lst (nms.map V.str)) → Picked H' (.ref r) v → ∃ x, x ∈ szs.map (·.1) ∧ v = .str x := fun {H' v} hr' hv => by
    rcases hv with ⟨a2, xs2, e2, e3, e4⟩ | ⟨_, _, e2, _⟩
    · cases e2
      rw [hr'] at e3
      cases e3
      obtain ⟨y, hy, rfl⟩ := List.mem_map.mp e4
      exact ⟨y, (hnm y).mp hy, rfl⟩
    · cases e2
  obtain ⟨x0, hx0, rfl⟩ := pick hrr hv
  have s2 : SameX t H H2 := s1.x.trans ss2
  have hr2 := ss2 _ _ nrt hrr
  have hf2 := ss2 _ _ nft (upd_same : (upd (upd H r (.lst (nms.map V.str))) f (.lst [])) f = some (.lst []))
  refine ⟨_, rfl, t, c, n2, 3, rfl, tp2, by omega, by omega, by omega, fun H3 j3 n3 ss3 tp3 hn3 hj3 => ⟨_, _, rfl, rfl, _, rfl, by omega, by omega, ?_⟩⟩
  have s3 := s2.trans ss3
  refine for_range (n := ((1 : Int) + ((j3 : Nat) : Int)).toNat) (fun i σ H' => ∃ (us : List Addr) (rs : List Rw) (x : Str) (n' : Nat) (z5 z6 z7 z8 : Option V), σ = [some (.ref t), some (.ref p), some (.ref r), some (.ref f), some (.str x), z5, z6, z7, z8, none] ∧ H' f = some (.lst (us.map V.ref)) ∧ RwL H' szs us rs ∧ RwOk szs rs ∧ rs.length = i ∧ x ∈ szs.map (·.1) ∧
      (∀ e, rs[rs.length - 1]? = some e → x = e.2.1) ∧ H' r = some (.lst (nms.map V.str)) ∧ SameX t H H' ∧ TpAt H' t c n' ∧ n' ≤ n + 3 + 17 * i)
    ⟨[], [], x0, n3, none, none, none, none, rfl, ss3 _ _ nft hf2, .nil, ⟨(fun r h => nomatch h), (fun i r r' h => by simp at h)⟩, rfl, hx0, (fun e h => by simp at h), ss3 _ _ nrt hr2, s3, tp3, by omega⟩ ?_ ?_
  · rintro i σ H4 hi ⟨us, rs, x, n4, z5, z6, z7, z8, rfl, hf4, hrw, hok, hlen, hx, hlast, hr4, s4, tp4, hn4⟩
    have hi3 : i < 3 := by omega
    have hp4 := hp.sameX ht s4
    refine ⟨_, rfl, _, rfl, _, rfl, _, rfl, t, c, n4, 9, rfl, tp4, by omega, by omega, by omega, fun H5 m n5 ss5 tp5 hn5 hm => ⟨t, c, p, d, l, n5, x, m, szs, ps, rfl, tp5, by omega, by omega, hp4.sameX tp4 ss5, O, h2, hx, fun H6 wy ws x6 n6 ss6 tp6 hn6 hwy hwl hx6 => ?_⟩⟩
    have ss46 := ss5.trans ss6
    have s6 := s4.trans ss46
    have hp6 := hp.sameX ht s6
    refine ⟨_, rfl, _, rfl, wy, _, _, _, rfl, rfl, SqL.of hwy, by rw [List.map_append]; exact atI_last _ _, _, rfl, _, rfl, p, d, l, wy, szs, ps, ws ++ [x6], rfl, hp6, O, hwy, by rw [List.length_append, List.length_singleton]; omega, fun H7 q cs s7 hcs => ?_⟩
    refine ⟨_, _, rfl, _, rfl, t, c, n6, 4, rfl, tp6.same s7, by omega, by omega, by omega, fun H8 j4 n8 ss8 tp8 hn8 hj4 => ⟨rfl, _, rfl, ?_⟩⟩
    have ss48 : SameX t H4 H8 := ss46.trans (s7.x.trans ss8)
    have s8 := s4.trans ss48
    -- behind the test
    refine if_via2 (fun σ' H' => ∃ (x9 : Str) (q9 : Addr) (cs9 : List (Str × Int)) (n9 : Nat), σ' = [some (.ref t), some (.ref p), some (.ref r), some (.ref f), some (.str x), some (.int ((0 : Int) + (i : Nat))), some (.ref wy), some (.str x9), some (.ref q9), none] ∧ x9 ∈ szs.map (·.1) ∧ ChAt H' q9 szs cs9 ∧ SameX t H4 H' ∧ TpAt H' t c n9 ∧ n9 ≤ n4 + 17) ?_ (fun _ kz => ?_)
      (fun _ => ⟨x6, q, cs, n8, rfl, hx6, hcs.sameX (tp6.same s7) ss8, ss48, tp8, by omega⟩)
    · rintro σ' H9 ⟨x9, q9, cs9, n9, rfl, hx9, hc9, ss9, tp9, hn9⟩
      have hf9 := ss9 _ _ nft hf4
      have hr9 := ss9 _ _ nrt hr4
      refine ⟨_, rfl, .inl ⟨rfl, _, SqL.of hf9⟩, _, rfl, _, rfl, _, rfl, Nat.le_of_ble_eq_true rfl, fun u hu => ?_⟩
      have sU : Same H9 (upd H9 u (.tup [.str x, .str x9, .ref q9])) := sm_new hu
      have hfU := sU _ _ hf9
      refine ⟨f, _, _, rfl, rfl, hfU, by rw [List.length_map, Paired.length hrw, hlen, sizeLine_eq]; omega, _, rfl, us ++ [u], rs ++ [(x, x9, cs9)], x9, n9, _, _, _, _, rfl, ?_, ?_, hok.snoc ⟨hx, hx9⟩ hlast, by rw [List.length_append, hlen]; rfl, hx9, fun e he => ?_, ?_, ((s4.trans ss9).trans sU.x).put0 hf0, (tp9.same sU).put nft nfc, by omega⟩
      · rw [upd_same, List.map_append]
        rfl
      · refine Paired.snoc ((((hrw.sameX tp4 ss9).same sU)).put hfU) ⟨q9, ?_, (hc9.same sU).put hfU⟩
        rw [upd_ne (ne_of upd_same hfU (fun z => by cases z)), upd_same]
      · rw [List.length_append, List.length_singleton, Nat.add_sub_cancel, List.getElem?_append_right (Nat.le_refl _), Nat.sub_self] at he
        cases he
        rfl
      · rw [upd_ne nrf]
        exact sU _ _ hr9
    -- drawn ones
    have hr8 := ss48 _ _ nrt hr4
    refine ⟨_, rfl, _, rfl, t, c, n8, .ref r, rfl, tp8, by omega, .inl ⟨r, _, rfl, hr8, fun z => hnne (List.map_eq_nil_iff.mp z), by rw [List.length_map]; omega⟩, fun H9 v9 n9 ss9 tp9 hn9 hv9 => ?_⟩
    obtain ⟨x9, hx9, rfl⟩ := pick hr8 hv9
    have ss49 := ss48.trans ss9
    have hr9 := ss9 _ _ nrt hr8
    refine ⟨_, rfl, r, rfl, ⟨_, SqL.of hr9⟩, fun D hD => ?_⟩
    obtain ⟨nDt, nDc⟩ := new_t tp9 hD
    have hD4 : H4 D = none := by
      cases e2 : H4 D with
      | none => rfl
      | some u => rw [ss49 _ _ nDt e2] at hD; cases hD
    refine lc_list (K := K) (a := r) (xs := nms.map V.str) (fun i H' => ∃ (us : List Addr) (cs : List (Str × Int)) (n' : Nat), H' D = some (.lst (us.map V.ref)) ∧ PiL H' us cs ∧ cs.map (·.1) = nms.take i ∧ us.length ≤ i ∧ (∀ e ∈ cs, 0 ≤ e.2 ∧ e.2 < szn szs e.1) ∧ SameX t H4 H' ∧ TpAt H' t c n' ∧ n' ≤ n9 + i)
      ⟨[], [], n9, upd_same, .nil, rfl, Nat.le_refl _, (fun e h => nomatch h), ss49.put0 hD4, tp9.put nDt nDc, Nat.le_refl _⟩ (fun i H' _ ⟨_, _, _, _, _, _, _, _, h, _⟩ => SqL.of (h _ _ nrt hr4)) ?_ ?_
    · rintro i' v' Ha hi' ⟨us', cs', n', g1, g2, g3, g4, g5, sA, tpA, hnA⟩
      obtain ⟨y, hy, rfl⟩ := map_get hi'
      have hyr := (hnm y).mp (List.mem_of_getElem? hy)
      have hil : i' < nms.length := (List.getElem?_eq_some_iff.mp hy).1
      have hpA := hp4.sameX tp4 sA
      have hy1 := szn_pos O hyr
      refine ⟨rfl, _, rfl, _, rfl, _, rfl, p, _, (0 : Int), .ref d, rfl, rfl, SqT.of hpA.t, atI_nat (j := 0) rfl, _, rfl, d, _, rfl, .inl ⟨_, Sum.inr y, .inl hpA.d, rfl, (szn_val hyr).symm⟩, t, c, n', szn szs y, rfl, tpA, by omega, hy1.1, ?_, fun Hb jb nb ssb tpb hnb hjb => ⟨Nat.le_of_ble_eq_true rfl, fun u hu => ?_⟩⟩
      · have := szn_le3 O h3 hyr
        omega
      have sU : Same Hb (upd Hb u (.tup [.str y, .int (jb : Nat)])) := sm_new hu
      have hD2 := sU _ _ (ssb _ _ nDt g1)
      refine ⟨_, hD2, by rw [List.length_map, sizeLine_eq]; omega, us' ++ [u], cs' ++ [(y, ((jb : Nat) : Int))], nb, ?_, ?_, ?_, ?_, ?_, (sA.trans (ssb.trans sU.x)).put0 hD4, (tpb.same sU).put nDt nDc, by omega⟩
      · rw [upd_same, List.map_append]
        rfl
      · refine Paired.snoc (PiL.put hD2 (Paired.mapP g2 fun u e h => sU _ _ (ssb _ _ (tpA.nx h fun _ z => by cases z) h))) ?_
        rw [upd_ne (ne_of upd_same hD2 (fun z => by cases z)), upd_same]
      · rw [take_snoc hy, List.map_append, g3]
        rfl
      · rw [List.length_append]
        show us'.length + 1 ≤ i' + 1
        omega
      · intro e he
        rcases List.mem_append.mp he with he | he
        · exact g5 e he
        · rw [List.mem_singleton.mp he]
          show 0 ≤ ((jb : Nat) : Int) ∧ ((jb : Nat) : Int) < (szn szs y : Nat)
          omega
    rintro Ha ⟨us', cs', n', g1, g2, g3, g4, g5, sA, tpA, hnA⟩
    rw [List.length_map, List.take_length] at g3
    rw [List.length_map] at hnA
    have nd : (cs'.map (·.1)).Nodup := by rw [g3]; exact hperm.nodup_iff.mpr O.nd
    refine ⟨D, us', IzD cs', rfl, SqL.of g1, PiL.kv g2, fun qd hqd => ?_⟩
    rw [izD_merge nd]
    have sQ : Same Ha (upd Ha qd (.dK (IzD cs'))) := sm_new hqd
    exact ⟨_, _, rfl, kz _ _ ⟨x9, qd, cs', n', rfl, hx9, ⟨upd_same, by rw [g3]; exact hperm, g5⟩, sA.trans sQ.x, tpA.same sQ, by omega⟩⟩
  · rintro σ H4 ⟨us, rs, x, n4, z5, z6, z7, z8, rfl, hf4, hrw, hok, hlen, hx, hlast, hr4, s4, tp4, hn4⟩
    exact ⟨_, rfl, k H4 f us rs n4 s4 tp4 (by omega) hf4 hrw hok (by omega) (by omega)⟩
end
end Rd
/-! _law_drawn. -/
namespace Rd
open PySem PySem.Spec PyProof.Rows L2 Gr
theorem prL_zip {H : Hp} : ∀ {xs : List V} {ps : List (Str × Str)}, PrL H xs ps → (∀ b ∈ xs.zip (ps.map pD), ∃ p t, b.2 = pD p ∧ b.1 = V.ref t ∧ PrF H t p) ∧ (xs.zip (ps.map pD)).map Prod.fst = xs ∧ (xs.zip (ps.map pD)).map Prod.snd = ps.map pD
  | _, _, .nil => ⟨(fun b h => by cases h), rfl, rfl⟩
  | x :: xs, p :: ps, .cons ⟨t, e, h⟩ d => by
    obtain ⟨h1, h2, h3⟩ := prL_zip d
    refine ⟨fun b hb => ?_, ?_, ?_⟩
    · rw [List.map_cons, List.zip_cons_cons] at hb
      rcases List.mem_cons.mp hb with e2 | hb
      · rw [e2]
        exact ⟨p, t, rfl, e, h⟩
      · exact h1 b hb
    · rw [List.map_cons, List.zip_cons_cons, List.map_cons, h2]
    · rw [List.map_cons, List.zip_cons_cons, List.map_cons, h3]
theorem prL_of {H : Hp} : ∀ {cs : List (V × PyData)}, (∀ b ∈ cs, ∃ p t, b.2 = pD p ∧ b.1 = V.ref t ∧ PrF H t p) → PrL H (cs.map Prod.fst) (cs.map fun b => unD b.2)
  | [], _ => .nil
  | b :: cs, h => by
    obtain ⟨p, t, h1, h2, h3⟩ := h b List.mem_cons_self
    rw [List.map_cons, List.map_cons]
    refine .cons ?_ (prL_of fun c hc => h c (List.mem_cons_of_mem _ hc))
    rw [h1, unD_pD]
    exact ⟨t, h2, h3⟩
theorem sortF_parts {K : PySem.W.Frag} {H : Hp} {a : Addr} {xs : List V} {ps : List (Str × Str)} (h : SqL K H a xs) (d : PrL H xs ps) :
    ∃ bs : List (V × PyData), SqL K H a (bs.map Prod.fst) ∧ (∀ b ∈ bs, Dp K H b.1 b.2 ∧ b.2.depth ≤ 64) ∧ PySem.W.AllAlike (bs.map Prod.snd) ∧ PySem.W.Sortable (bs.map Prod.snd) ∧
      ∃ qs : List (Str × Str), qs.Perm ps ∧ PrL H ((bs.mergeSort (PySem.W.dataLe false Prod.snd)).map Prod.fst) qs := by
  obtain ⟨h1, h2, h3⟩ := prL_zip d
  refine ⟨xs.zip (ps.map pD), by rw [h2]; exact h, fun b hb => ⟨?_, ?_⟩, ?_, ?_, ?_⟩
  · obtain ⟨p, t, e1, e2, e3⟩ := h1 b hb
    rw [e1, e2]
    exact pD_mk e3.sq
  · obtain ⟨p, t, e, _⟩ := h1 b hb
    rw [e]
    simp [pD, PyData.depth, PyData.depthAll]
  · rw [h3]
    intro x hx y hy
    obtain ⟨p, _, rfl⟩ := List.mem_map.mp hx
    obtain ⟨q, _, rfl⟩ := List.mem_map.mp hy
    exact pD_alike p q
  · rw [h3]
    refine .inl fun x hx => ?_
    obtain ⟨p, _, rfl⟩ := List.mem_map.mp hx
    exact ⟨_, _, rfl⟩
  · have hperm := List.mergeSort_perm (xs.zip (ps.map pD)) (PySem.W.dataLe false Prod.snd)
    refine ⟨((xs.zip (ps.map pD)).mergeSort (PySem.W.dataLe false Prod.snd)).map fun b => unD b.2, ?_, prL_of fun b hb => h1 b (hperm.mem_iff.mp hb)⟩
    have := hperm.map (fun b => unD b.2)
    refine this.trans ?_
    have e : (xs.zip (ps.map pD)).map (fun b => unD b.2) = ((xs.zip (ps.map pD)).map Prod.snd).map unD := by rw [List.map_map]; rfl
    rw [e, h3, List.map_map]
    have e2 : (unD ∘ pD) = id := by funext p; exact unD_pD p
    rw [e2, List.map_id]
theorem ltS_or {x y : Str} (h : x ≠ y) : ltS x y = true ∨ ltS y x = true := by
  by_cases e1 : x.cps.toList < y.cps.toList
  · exact .inl (decide_eq_true e1)
  · by_cases e2 : y.cps.toList < x.cps.toList
    · exact .inr (decide_eq_true e2)
    · have e3 := List.le_antisymm (List.not_lt.mp e2) (List.not_lt.mp e1)
      exact absurd (by cases x; cases y; simp at e3; rw [e3]) h
theorem pairS_ord {x y : Str} (h : x ≠ y) : ltS (pairS x y).1 (pairS x y).2 = true := by
  unfold pairS
  cases e : ltS x y with
  | true => exact e
  | false => exact (ltS_or h).resolve_left (by rw [e]; exact Bool.false_ne_true)
/-- corridors that join the rooms of a list -/
structure Gk (xs : List Str) (ps : List (Str × Str)) : Prop where
  ends : ∀ q ∈ ps, q.1 ∈ xs ∧ q.2 ∈ xs
  ord : ∀ q ∈ ps, ltS q.1 q.2 = true
  nd : ps.Nodup
  cn : ∀ x ∈ xs, ∀ y ∈ xs, Conn ps x y
theorem pairS_in {xs : List Str} {x y : Str} (hx : x ∈ xs) (hy : y ∈ xs) : (pairS x y).1 ∈ xs ∧ (pairS x y).2 ∈ xs := by
  unfold pairS
  split
  · exact ⟨hx, hy⟩
  · exact ⟨hy, hx⟩
theorem pairS_adj {qs : List (Str × Str)} {x y : Str} (h : pairS x y ∈ qs) : Adj qs x y := by
  unfold pairS at h
  split at h
  · exact .inl h
  · exact .inr h
theorem Gk.more {xs : List Str} {ps : List (Str × Str)} (G : Gk xs ps) {x y : Str} (hx : x ∈ xs) (hy : y ∈ xs) (ne : x ≠ y) (hn : pairS x y ∉ ps) : Gk xs (ps ++ [pairS x y]) where
  ends := fun q hq => by
    rcases List.mem_append.mp hq with hq | hq
    · exact G.ends q hq
    · rw [List.mem_singleton.mp hq]
      exact pairS_in hx hy
  ord := fun q hq => by
    rcases List.mem_append.mp hq with hq | hq
    · exact G.ord q hq
    · rw [List.mem_singleton.mp hq]
      exact pairS_ord ne
  nd := by
    rw [List.nodup_append]
    refine ⟨G.nd, by simp, fun a ha b hb e => ?_⟩
    simp at hb
    rw [e, hb] at ha
    exact hn ha
  cn := fun a ha b hb => (G.cn a ha b hb).mono fun p hp => List.mem_append_left _ hp
theorem Gk.grow {xs : List Str} {ps : List (Str × Str)} (G : Gk xs ps) {x y : Str} (hx : x ∉ xs) (hy : y ∈ xs) : Gk (xs ++ [x]) (ps ++ [pairS x y]) where
  ends := fun q hq => by
    rcases List.mem_append.mp hq with hq | hq
    · exact ⟨List.mem_append_left _ (G.ends q hq).1, List.mem_append_left _ (G.ends q hq).2⟩
    · rw [List.mem_singleton.mp hq]
      exact pairS_in (List.mem_append_right _ List.mem_cons_self) (List.mem_append_left _ hy)
  ord := fun q hq => by
    rcases List.mem_append.mp hq with hq | hq
    · exact G.ord q hq
    · rw [List.mem_singleton.mp hq]
      exact pairS_ord fun e => hx (e ▸ hy)
  nd := by
    rw [List.nodup_append]
    refine ⟨G.nd, by simp, fun a ha b hb e => ?_⟩
    simp at hb
    rw [e, hb] at ha
    have := G.ends _ ha
    unfold pairS at this
    split at this
    · exact hx this.1
    · exact hx this.2
  cn := by
    have key : ∀ a ∈ xs ++ [x], Conn (ps ++ [pairS x y]) y a := fun a ha => by
      rcases List.mem_append.mp ha with ha | ha
      · exact (G.cn y hy a ha).mono fun p hp => List.mem_append_left _ hp
      · rw [List.mem_singleton.mp ha]
        exact Conn.refl.step (pairS_adj (List.mem_append_right _ List.mem_cons_self)).symm
    exact fun a ha b hb => (key a ha).symm.trans (key b hb)
theorem Gk.perm {xs : List Str} {ps qs : List (Str × Str)} (G : Gk xs ps) (h : qs.Perm ps) : Gk xs qs :=
  ⟨fun q hq => G.ends q (h.mem_iff.mp hq), fun q hq => G.ord q (h.mem_iff.mp hq), h.nodup_iff.mpr G.nd, fun a ha b hb => (G.cn a ha b hb).mono fun p hp => h.mem_iff.mpr hp⟩
theorem Gk.one (x : Str) : Gk [x] [] := ⟨(fun q h => nomatch h), (fun q h => nomatch h), List.nodup_nil, fun a ha b hb => by
  rw [List.mem_singleton.mp ha, List.mem_singleton.mp hb]
  exact .refl⟩
def spDrawn (K : PySem.W.Frag) : Sp := fun vs H Q _ => ∃ (t c z : Addr) (n : Nat) (zs : List Nat), vs = [.ref t, .int 2, .int 4, .int 1, .ref z] ∧ TpAt H t c n ∧ n + 100 ≤ 100000 ∧ H z = some (.lst (zs.map fun s => V.int (s : Nat))) ∧ z ≠ c ∧ zs ≠ [] ∧ zs.length ≤ 100 ∧ (∀ s ∈ zs, 1 ≤ s ∧ s ≤ 3) ∧
  ∀ H' p d l (szs : List (Str × Nat)) (ps : List (Str × Str)) (n' : Nat), SameX t H H' → TpAt H' t c n' → n' ≤ n + 60 → PlAt H' p d l szs ps → BOk szs ps → 2 ≤ szs.length → szs.length ≤ 4 → (∀ q ∈ szs, q.2 ≤ 3) → Q (.ref p) H'
-- slots of _law_drawn: 0 _law_tape* 1 _law_least_here 2 _law_most 3 _law_more 4 _law_sizes* 5 _law_names_here* 6 _law_plan 7 _law_name 8 _law_found 9 _law_k 10 _law_turn 11 _law_one 12 _law_other
theorem sc_z_drawn : FnScope ["_law_tape", "_law_least_here", "_law_most", "_law_more", "_law_sizes", "_law_names_here", "_law_plan", "_law_name", "_law_found", "_law_k", "_law_turn", "_law_one", "_law_other"] ["_law_tape", "_law_least_here", "_law_most", "_law_more", "_law_sizes"] (defScope s_z_drawn) := ⟨rfl, rfl, rfl, by decide +kernel, rfl, by decide +kernel, by decide +kernel⟩
section
variable {P : Program} {w : World} {K : PySem.W.Frag} {mg : Str → Option Value} {base : Heap}
theorem ca_z_drawn (T : Wd K mg base) : Ca P w K mg base 4 "_law_drawn" (spDrawn K) [] := by
  obtain ⟨fd, F⟩ := T.L.F_z_drawn
  refine ca_of F T.g__law_drawn (F.binds (ps := ["_law_tape", "_law_least_here", "_law_most", "_law_more", "_law_sizes"]) fun _ _ _ _ _ _ us hl => match us, hl with | [_, _, _, _, _], _ => rfl) sc_z_drawn (fun vs H Q E ⟨_, _, _, _, _, e, _⟩ => by rw [e]; rfl) ?_
  rintro cdv A outer s0 H vs Q E hr ⟨t, c, z, n, zs, rfl, ht, hn, hz, nzc, hzne, hzl, hz3, k⟩
  refine ⟨_, (pss_cons (ps_set (i := 5) sc_z_drawn.nd rfl (Or.inr rfl) (pe_ca (ca_z_names T) hr (by decide) rfl (pa_cons (pv 0) (pa_cons (pe_op op_add (pv 1) (pe_ca (ca_z_draw T) hr (by decide) rfl (pa_cons (pv 0) (pa_cons (pe_op op_add (pe_op op_sub (pv 2) (pv 1)) pe_int) pa_nil)))) pa_nil)))) (pss_cons (ps_set (i := 6) sc_z_drawn.nd rfl (Or.inl rfl) (pe_callTy (call_dictP rfl) (by rfl) T.f_dict (by decide +kernel) (pa_cons (pe_lc (own := [("_law_name", 7)]) (g := gName 7) rfl sc_z_drawn.nd (pi_list (pv 5)) (blkOk_by (own := [("_law_name", 7)]) (N := ["_law_tape", "_law_least_here", "_law_most", "_law_more", "_law_sizes", "_law_names_here", "_law_plan", "_law_name", "_law_found", "_law_k", "_law_turn", "_law_one", "_law_other"]) (sc := defScope s_z_drawn) (by decide +kernel)) (fun _ _ _ _ _ => (pg_name (i := 7) sc_z_drawn.nd rfl (Or.inl rfl))) (fun _ _ _ _ _ => pts_nil) (fun _ _ _ _ _ => (pe_tup (pa_cons (pv 7) (pa_cons (pe_ca (ca_z_pick T) hr (by decide) rfl (pa_cons (pv 0) (pa_cons (pv 4) pa_nil))) pa_nil))))) pa_nil))) (pss_cons (ps_setLc (i := 8) (own := [("_law_k", 9)]) (g := gName 9) rfl sc_z_drawn.nd rfl rfl (sw_true rfl rfl rfl (by decide +kernel)) (pi_range2 (by rfl) T.f_range (pa_cons pe_int (pa_cons (pe_callB (call_len_seq) (by rfl) T.f_len (by decide +kernel) (pa_cons (pv 5) pa_nil)) pa_nil))) (blkOk_by (own := [("_law_k", 9)]) (N := ["_law_tape", "_law_least_here", "_law_most", "_law_more", "_law_sizes", "_law_names_here", "_law_plan", "_law_name", "_law_found", "_law_k", "_law_turn", "_law_one", "_law_other"]) (sc := defScope s_z_drawn) (by decide +kernel)) (fun _ _ _ _ _ => (pg_name (i := 9) sc_z_drawn.nd rfl (Or.inl rfl))) (fun _ _ _ _ _ => pts_nil) (fun _ _ _ _ _ => (pe_ca (ca_z_pair T) hr (by decide) rfl (pa_cons (pe_ix (r := rIxL K) ix_list (pv 5) (pv 9) (fun _ _ => rfl)) (pa_cons (pe_ix (r := rIxL K) ix_list (pv 5) (pe_ca (ca_z_draw T) hr (by decide) rfl (pa_cons (pv 0) (pa_cons (pv 9) pa_nil))) (fun _ _ => rfl)) pa_nil))))) (pss_cons (ps_for PassesOwn.never rfl (pi_range1 (by rfl) T.f_range (pa_cons (pe_op op_mul (pe_ca (ca_z_draw T) hr (by decide) rfl (pa_cons (pv 0) (pa_cons (pe_op op_add (pv 3) pe_int) pa_nil))) (pe_callTy (call_int1) (by rfl) T.f_int (by decide +kernel) (pa_cons (pe_cmpR op_gt (pe_callB (call_len_seq) (by rfl) T.f_len (by decide +kernel) (pa_cons (pv 5) pa_nil)) pe_int (by rfl)) pa_nil))) pa_nil)) (pg_name (i := 10) sc_z_drawn.nd rfl (Or.inl rfl)) (pss_cons (ps_asg (pe_slice sl_list (pe_ca (ca_z_shuffled T) hr (by decide) rfl (pa_cons (pv 0) (pa_cons (pv 5) pa_nil))) po_none (po_some pe_int)) (pg_lst rfl (pgs_cons (pg_name (i := 11) sc_z_drawn.nd rfl (Or.inl rfl)) (pgs_cons (pg_name (i := 12) sc_z_drawn.nd rfl (Or.inl rfl)) pgs_nil)))) (pss_one (ps_if (PW.pt (pw_and (pt_cmpR (op_ninA (hu65 hr)) (pe_ca (ca_z_pair T) hr (by decide) rfl (pa_cons (pv 11) (pa_cons (pv 12) pa_nil))) (pv 8) (by rfl)) (pw_and1 (pt_cmpR op_lt (pe_callB (call_len_seq) (by rfl) T.f_len (by decide +kernel) (pa_cons (pv 8) pa_nil)) pe_int (by rfl))))) (pss_one (ps_expr (pe_bm PySem.F.plainAttrs_list PySem.F.slot_list_append PySem.F.type_list_append mt_append (pv 8) (pa_cons (pe_ca (ca_z_pair T) hr (by decide) rfl (pa_cons (pv 11) (pa_cons (pv 12) pa_nil))) pa_nil)))) pss_nil)))) (pss_one (ps_ret (pe_tup (pa_cons (pv 6) (pa_cons (pe_callB (cr_sortD hr) (by rfl) T.f_sorted (by decide +kernel) (pa_cons (pv 8) pa_nil)) pa_nil))))))))), ?_⟩
  have new_t : ∀ {x : Addr} {H' : Hp} {m : Nat}, TpAt H' t c m → H' x = none → x ≠ t ∧ x ≠ c := fun {x H' m} tp hx => by
    obtain ⟨_, _, _, h1, _⟩ := id tp
    obtain ⟨ys, hy⟩ := tp.cl
    exact ⟨(ne_of_none h1 hx).symm, (ne_of_none hy hx).symm⟩
  have none_of : ∀ {x : Addr} {G G' : Hp}, x ≠ t → SameX t G G' → G' x = none → G x = none := fun {x G G'} hx s e => by
    cases e2 : G x with
    | none => rfl
    | some u => rw [s _ _ hx e2] at e; cases e
  have nzt := ht.nl hz
  -- the names
  refine ⟨_, rfl, _, rfl, _, rfl, _, rfl, _, rfl, _, _, rfl, rfl, _, _, rfl, rfl, t, c, n, 3, rfl, ht, by omega, by omega, by omega, fun H1 j n1 ss1 tp1 hn1 hj => ⟨_, _, rfl, rfl, t, c, n1, 2 + j, rfl, tp1, by omega, by omega, fun H2 nm xs n2 ss2 tp2 hn2 hnm nnc hxl hxn hxN => ?_⟩⟩
  have ss02 := ss1.trans ss2
  have hz2 := ss02 _ _ nzt hz
  have nnt := tp2.nl hnm
  have xl4 : xs.length ≤ 4 := by omega
  -- the sizes
  refine ⟨_, rfl, nm, rfl, ⟨_, SqL.of hnm⟩, fun D hD => ?_⟩
  obtain ⟨nDt, nDc⟩ := new_t tp2 hD
  refine lc_list (K := K) (a := nm) (xs := xs.map V.str) (fun i H' => ∃ (us : List Addr) (szs : List (Str × Nat)) (n' : Nat), H' D = some (.lst (us.map V.ref)) ∧ PiL H' us (toI szs) ∧ szs.map (·.1) = xs.take i ∧ us.length ≤ i ∧ (∀ e ∈ szs, 1 ≤ e.2 ∧ e.2 ≤ 3) ∧ SameX t H2 H' ∧ TpAt H' t c n' ∧ n' ≤ n2 + i)
    ⟨[], [], n2, upd_same, .nil, rfl, Nat.le_refl _, (fun e h => nomatch h), (SameX.refl _).put0 hD, tp2.put nDt nDc, Nat.le_refl _⟩ (fun i H' _ ⟨_, _, _, _, _, _, _, _, h, _⟩ => SqL.of (h _ _ nnt hnm)) ?_ ?_
  · rintro i v Ha hi ⟨us, szs, n', g1, g2, g3, g4, g5, sA, tpA, hnA⟩
    obtain ⟨y, hy, rfl⟩ := map_get hi
    have hil : i < xs.length := (List.getElem?_eq_some_iff.mp hy).1
    have hzA := sA _ _ nzt hz2
    refine ⟨rfl, _, rfl, _, rfl, _, rfl, t, c, n', .ref z, rfl, tpA, by omega, .inl ⟨z, _, rfl, hzA, fun e => hzne (List.map_eq_nil_iff.mp e), by rw [List.length_map]; omega⟩, fun Hb v nb ssb tpb hnb hv => ?_⟩
    obtain ⟨s, hs, rfl⟩ : ∃ s, s ∈ zs ∧ v = .int (s : Nat) := by
      rcases hv with ⟨a2, xs2, e2, e3, e4⟩ | ⟨_, _, e2, _⟩
      · cases e2
        rw [hzA] at e3
        cases e3
        obtain ⟨s, hs, rfl⟩ := List.mem_map.mp e4
        exact ⟨s, hs, rfl⟩
      · cases e2
    refine ⟨Nat.le_of_ble_eq_true rfl, fun u hu => ?_⟩
    have sU : Same Hb (upd Hb u (.tup [.str y, .int (s : Nat)])) := sm_new hu
    have hD2 := sU _ _ (ssb _ _ nDt g1)
    refine ⟨_, hD2, by rw [List.length_map, sizeLine_eq]; omega, us ++ [u], szs ++ [(y, s)], nb, ?_, ?_, ?_, ?_, ?_, (sA.trans (ssb.trans sU.x)).put0 hD, (tpb.same sU).put nDt nDc, by omega⟩
    · rw [upd_same, List.map_append]
      rfl
    · have e : toI (szs ++ [(y, s)]) = toI szs ++ [(y, ((s : Nat) : Int))] := by
        unfold toI
        rw [List.map_append]
        rfl
      rw [e]
      refine Paired.snoc (PiL.put hD2 (Paired.mapP g2 fun u e h => sU _ _ (ssb _ _ (tpA.nx h fun _ z => by cases z) h))) ?_
      rw [upd_ne (ne_of upd_same hD2 (fun z => by cases z)), upd_same]
    · rw [take_snoc hy, List.map_append, g3]
      rfl
    · rw [List.length_append]
      show us.length + 1 ≤ i + 1
      omega
    · intro e he
      rcases List.mem_append.mp he with he | he
      · exact g5 e he
      · rw [List.mem_singleton.mp he]
        exact hz3 s hs
  rintro H3 ⟨us, szs, n3, g1, g2, g3, g4, g5, s3, tp3, hn3⟩
  rw [List.length_map, List.take_length] at g3
  rw [List.length_map] at hn3
  have hnd : (szs.map (·.1)).Nodup := by rw [g3]; exact hxn
  have hndI : ((toI szs).map (·.1)).Nodup := by
    unfold toI
    rw [List.map_map]
    exact hnd
  refine ⟨D, us, IzD (toI szs), rfl, SqL.of g1, PiL.kv g2, fun d hd => ?_⟩
  rw [izD_merge hndI, ← izD_nat]
  have sd : Same H3 (upd H3 d (.dK (SzD szs))) := sm_new hd
  have hd4 : (upd H3 d (.dK (SzD szs))) d = some (.dK (SzD szs)) := upd_same
  have tp4 := tp3.same sd
  have ss04 : SameX t H (upd H3 d (.dK (SzD szs))) := ss02.trans (s3.trans sd.x)
  have hnm4 := sd _ _ (s3 _ _ nnt hnm)
  have ndt := tp4.nd hd4
  revert hd4 tp4 ss04 hnm4
  generalize upd H3 d (.dK (SzD szs)) = H4
  intro hd4 tp4 ss04 hnm4
  -- a tree
  refine ⟨_, rfl, nm, _, rfl, .inl (SqL.of hnm4), _, _, rfl, ⟨by decide, by decide, by omega, by rw [List.length_map]; omega⟩, fun E hE => ?_⟩
  obtain ⟨nEt, nEc⟩ := new_t tp4 hE
  obtain ⟨x0, xr, hxs⟩ : ∃ x0 xr, xs = x0 :: xr := by
    cases xs with
    | nil => simp at hxl; omega
    | cons a b => exact ⟨a, b, rfl⟩
  refine lc_range (lo := 1) (n := (((xs.map V.str).length : Nat) - (1 : Int)).toNat) (fun i H' => ∃ (vs : List V) (ps : List (Str × Str)) (n' : Nat), H' E = some (.lst vs) ∧ PrL H' vs ps ∧ Gk (xs.take (i + 1)) ps ∧ ps.length = i ∧ SameX t H4 H' ∧ TpAt H' t c n' ∧ n' ≤ n3 + i)
    ⟨[], [], n3, upd_same, .nil, by rw [hxs]; exact Gk.one x0, rfl, (SameX.refl _).put0 hE, tp4.put nEt nEc, Nat.le_refl _⟩ ?_ ?_
  · rintro i Ha hi ⟨vs, ps, n', g1, g2, G, g4, sA, tpA, hnA⟩
    rw [List.length_map] at hi
    have hil : i + 1 < xs.length := by omega
    obtain ⟨x, hx⟩ : ∃ x, xs[i + 1]? = some x := ⟨_, List.getElem?_eq_getElem hil⟩
    have hnmA := sA _ _ nnt hnm4
    have ei : (1 : Int) + (i : Nat) = ((i + 1 : Nat) : Int) := by omega
    refine ⟨rfl, _, rfl, _, rfl, nm, _, _, .str x, rfl, rfl, SqL.of hnmA, by rw [ei]; exact atI_nat (by rw [List.getElem?_map, hx]; rfl), _, rfl, _, rfl, _, rfl, t, c, n', i + 1, by rw [ei]; rfl, tpA, by omega, by omega, by omega, fun Hb j nb ssb tpb hnb hj => ?_⟩
    obtain ⟨y, hy⟩ : ∃ y, xs[j]? = some y := ⟨_, List.getElem?_eq_getElem (by omega)⟩
    refine ⟨nm, _, _, .str y, rfl, rfl, SqL.of (ssb _ _ nnt hnmA), atI_nat (by rw [List.getElem?_map, hy]; rfl), x, y, rfl, fun Hc pp sC hpp => ?_⟩
    have g1' := sC _ _ (ssb _ _ nEt g1)
    have g2' := (g2.sameX tpA ssb).same sC
    have hyi : y ∈ xs.take (i + 1) := List.mem_of_getElem? (i := j) (by rw [List.getElem?_take, if_pos hj]; exact hy)
    have hxi : x ∉ xs.take (i + 1) := fun h => by
      obtain ⟨q, hq, e⟩ := List.mem_take_iff_getElem.mp h
      have h1 : xs[q]? = some x := by rw [List.getElem?_eq_getElem (by omega), e]
      have := (List.getElem?_inj (by omega) hxn).mp (h1.trans hx.symm)
      omega
    refine ⟨_, g1', by rw [g2'.len, g4, sizeLine_eq]; omega, vs ++ [.ref pp], ps ++ [pairS x y], nb, upd_same, (g2'.put (.inl g1')).app (PrL.put (.inl g1') (.cons ⟨pp, rfl, hpp⟩ .nil)), by rw [take_snoc hx]; exact G.grow hxi hyi, by rw [List.length_append, g4]; rfl, (sA.trans (ssb.trans sC.x)).put0 hE, (tpb.same sC).put nEt nEc, by omega⟩
  rintro H5 ⟨vs5, ps5, n5, g1, g2, G, g4, s5, tp5, hn5⟩
  rw [List.length_map] at hn5 G g4
  have exl : ((xs.length : Int) - 1).toNat + 1 = xs.length := by omega
  rw [exl, List.take_length] at G
  have hnm5 := s5 _ _ nnt hnm4
  -- one more
  refine ⟨_, rfl, _, rfl, _, _, rfl, rfl, t, c, n5, 2, rfl, tp5, by omega, by omega, by omega, fun H6 jj n6 ss6 tp6 hn6 hjj => ?_⟩
  have hnm6 := ss6 _ _ nnt hnm5
  refine ⟨_, rfl, nm, _, rfl, .inl (SqL.of hnm6), _, _, rfl, rfl, .inr ⟨_, rfl, _, _, rfl, rfl, .inl ⟨by omega, by omega⟩, ?_⟩⟩
  have hlen2 : ∀ i, i < (((jj : Nat) : Int) * (if decide ((2 : Int) < ((xs.map V.str).length : Nat)) = true then 1 else 0)).toNat → 3 ≤ xs.length ∧ i < 1 := fun i hi => by
    rw [List.length_map] at hi
    by_cases h : (2 : Int) < (xs.length : Nat)
    · rw [decide_eq_true h, if_pos rfl] at hi
      omega
    · rw [decide_eq_false h, if_neg Bool.false_ne_true] at hi
      omega
  have hmul : -(2 ^ 62) ≤ ((jj : Nat) : Int) * (if decide ((2 : Int) < ((xs.map V.str).length : Nat)) = true then 1 else 0) ∧ ((jj : Nat) : Int) * (if decide ((2 : Int) < ((xs.map V.str).length : Nat)) = true then 1 else 0) < 2 ^ 62 := by
    split <;> omega
  refine ⟨_, rfl, hmul.1, hmul.2, for_range (n := (((jj : Nat) : Int) * (if decide ((2 : Int) < ((xs.map V.str).length : Nat)) = true then 1 else 0)).toNat) (fun i σ H' => ∃ (vs : List V) (ps : List (Str × Str)) (n' : Nat) (z10 z11 z12 : Option V), σ = [some (.ref t), some (.int 2), some (.int 4), some (.int 1), some (.ref z), some (.ref nm), some (.ref d), none, some (.ref E), none, z10, z11, z12] ∧
      H' E = some (.lst vs) ∧ PrL H' vs ps ∧ Gk xs ps ∧ ps.length ≤ 3 + i ∧ SameX t H4 H' ∧ TpAt H' t c n' ∧ n' ≤ n6 + 4 * i)
    ⟨vs5, ps5, n6, none, none, none, rfl, ss6 _ _ nEt g1, g2.sameX tp5 ss6, G, by omega, s5.trans ss6, tp6, Nat.le_refl _⟩ ?_ ?_⟩
  · rintro i σ Ha hi ⟨vs, ps, n', z10, z11, z12, rfl, e1, e2, G1, e4, sA, tpA, hnA⟩
    obtain ⟨h3l, hi1⟩ := hlen2 i hi
    have hnmA := sA _ _ nnt hnm4
    refine ⟨_, rfl, _, rfl, t, c, nm, n', xs, rfl, tpA, by omega, hnmA, by omega, hxN, fun Hb pz ys nb ssb tpb hnb hpz hperm => ?_⟩
    obtain ⟨a, b, r, rfl⟩ : ∃ a b r, ys = a :: b :: r := by
      have hl := hperm.length_eq
      cases ys with
      | nil => simp at hl; omega
      | cons a ys =>
        cases ys with
        | nil => simp at hl; omega
        | cons b r => exact ⟨a, b, r, rfl⟩
    have ecut : cutV ((a :: b :: r).map V.str) none (some 2) = [V.str a, V.str b] := cut_take ((a :: b :: r).map V.str) (j := 2) (by simp)
    have hax : a ∈ xs := hperm.mem_iff.mp List.mem_cons_self
    have hbx : b ∈ xs := hperm.mem_iff.mp (List.mem_cons_of_mem _ List.mem_cons_self)
    have hab : a ≠ b := by
      have h1 := (List.nodup_cons.mp (hperm.nodup_iff.mpr hxn)).1
      exact fun e => h1 (by rw [e]; exact List.mem_cons_self)
    refine ⟨2, rfl, pz, _, rfl, SqL.of hpz, fun q hq => ?_⟩
    rw [ecut]
    have sQ : Same Hb (upd Hb q (.lst [V.str a, V.str b])) := sm_new hq
    refine ⟨q, _, rfl, SqL.of upd_same, rfl, _, _, rfl, _, _, rfl, rfl, ?_⟩
    have e1b := sQ _ _ (ssb _ _ nEt e1)
    have e2b := (e2.sameX tpA ssb).same sQ
    have ssq := sA.trans (ssb.trans sQ.x)
    have nms : Nms ps := fun q hq => ⟨hxN _ (G1.ends q hq).1, hxN _ (G1.ends q hq).2⟩
    have nmp : Nm (pairS a b).1 ∧ Nm (pairS a b).2 := ⟨hxN _ (pairS_in hax hbx).1, hxN _ (pairS_in hax hbx).2⟩
    refine ⟨_, rfl, _, rfl, a, b, rfl, fun Hc pp sC hpp => ⟨_, rfl, rInA_pair (p := pairS a b) (ps := ps) (pD_mk hpp.sq) ⟨vs, .inl (SqL.of (sC _ _ e1b)), (e2b.same sC).dp⟩ nmp nms ⟨_, rfl, ?_⟩⟩⟩
    have e1c := sC _ _ e1b
    have e2c := e2b.same sC
    by_cases hin : pairS a b ∈ ps
    · rw [decide_eq_true hin]
      exact iteF (iteF ⟨vs, ps, nb, _, _, _, rfl, e1c, e2c, G1, by omega, ssq.trans sC.x, (tpb.same sQ).same sC, by omega⟩)
    rw [decide_eq_false hin]
    refine iteT ⟨_, rfl, E, _, rfl, .inl (SqL.of e1c), _, _, rfl, rfl, _, rfl, ?_⟩
    have hl40 : ((vs.length : Nat) : Int) < 40 := by rw [e2c.len]; omega
    rw [decide_eq_true hl40]
    refine iteT ⟨_, rfl, .inl ⟨rfl, _, SqL.of e1c⟩, _, rfl, _, rfl, a, b, rfl, fun Hd pp2 sD hpp2 => ?_⟩
    have e1d := sD _ _ e1c
    have e2d := e2c.same sD
    refine ⟨E, _, _, rfl, rfl, e1d, by rw [e2d.len, sizeLine_eq]; omega, vs ++ [.ref pp2], ps ++ [pairS a b], nb, _, _, _, rfl, upd_same, (e2d.put (.inl e1d)).app (PrL.put (.inl e1d) (.cons ⟨pp2, rfl, hpp2⟩ .nil)), G1.more hax hbx hab hin, by rw [List.length_append, List.length_singleton]; omega, ((ssq.trans sC.x).trans sD.x).put0 hE, (((tpb.same sQ).same sC).same sD).put nEt nEc, by omega⟩
  · rintro σ Ha ⟨vs, ps, n', z10, z11, z12, rfl, e1, e2, G1, e4, sA, tpA, hnA⟩
    have hle : (((jj : Nat) : Int) * (if decide ((2 : Int) < ((xs.map V.str).length : Nat)) = true then 1 else 0)).toNat ≤ 1 := by
      split <;> omega
    obtain ⟨bs, b1, b2, b3, b4, qs, hperm, hprl⟩ := sortF_parts (K := K) (SqL.of e1) e2
    refine ⟨_, rfl, _, rfl, E, bs, rfl, b1, b2, b3, b4, fun lq hlq => ⟨Nat.le_of_ble_eq_true rfl, fun p hp => ?_⟩⟩
    revert hprl hp
    generalize (bs.mergeSort (PySem.W.dataLe false Prod.snd)).map Prod.fst = ys
    intro hprl hp
    have sL : Same Ha (upd Ha lq (.lst ys)) := sm_new hlq
    have sP : Same (upd Ha lq (.lst ys)) (upd (upd Ha lq (.lst ys)) p (.tup [.ref d, .ref lq])) := sm_new hp
    have sLP := sL.trans sP
    have G2 := G1.perm hperm
    have szl : szs.length = xs.length := by rw [← g3, List.length_map]
    refine k _ p d lq szs qs n' ((ss04.trans sA).trans sLP.x) (tpA.same sLP) (by omega) ⟨upd_same, sLP _ _ (sA _ _ ndt hd4), ys, sP _ _ upd_same, (hprl.same sL).same sP⟩ ⟨fun e => ?_, hnd, by omega, fun q hq => ?_, fun q hq => ?_, fun q hq => ?_, by rw [hperm.length_eq]; omega, G2.ord, G2.nd, fun x hx y hy => ?_⟩ (by omega) (by omega) fun q hq => (g5 q hq).2
    · rw [e] at szl
      simp at szl
      omega
    · exact hxN _ (by rw [← g3]; exact List.mem_map.mpr ⟨q, hq, rfl⟩)
    · have := g5 q hq
      omega
    · rw [g3]
      exact G2.ends q hq
    · rw [g3] at hx hy
      exact G2.cn x hx y hy
end
end Rd
/-! The plain law: the law's plan and the program's building tell the same. -/
namespace Rd
open PySem L2 Gr
theorem wc_mono {ps qs : List (Str × Str)} (h : ∀ q ∈ ps, q ∈ qs) {p : Str × Str} {x y : Str} {a : Str → Int} {k : Nat} (w : Wc ps p x y a k) : Wc qs p x y a k := by
  induction w with
  | nil => exact .nil
  | step _ ad ih => exact ih.step (ad.elim (fun e => .inl (h _ e)) fun e => .inr (h _ e))
/-- what is told of a row -/
def LeastV (szs : List (Str × Nat)) (ps : List (Str × Str)) (two : Str × Str) (f l : Str) (g : Str → Int) (v : V) : Prop :=
  (v = .non ∧ ∀ (j : Nat) (a : Str → Int), Wc ps two f l a j → ¬ ∀ z ∈ szs.map (·.1), szI szs z ∣ a z - g z) ∨
  ∃ k : Nat, v = .int (k : Nat) ∧ (∃ a, Wc ps two f l a k ∧ ∀ z ∈ szs.map (·.1), szI szs z ∣ a z - g z) ∧ ∀ (j : Nat) (a : Str → Int), Wc ps two f l a j → (∀ z ∈ szs.map (·.1), szI szs z ∣ a z - g z) → k ≤ j
theorem leastV_of {szs : List (Str × Nat)} {ps : List (Str × Str)} {two : Str × Str} {nms : List Str} {f l : Str} {g : Str → Int} {fd : List (Po × Nat)} (O : BOk szs ps) (h2 : two ∈ ps) (hnm : ∀ z, z ∈ nms ↔ z ∈ szs.map (·.1)) (hg : ∀ x ∈ szs.map (·.1), 0 ≤ g x ∧ g x < szn szs x)
    (L : LeastOk szs ps two nms f fd) : LeastV szs ps two f l g (fdV fd (l, nms.map g)) := by
  obtain ⟨h3, h4⟩ := L (l, nms.map g)
  unfold fdV
  cases e : fdGet fd (l, nms.map g) with
  | none => exact .inl ⟨rfl, fun j a hw ha => h4 e j ((rk_goal O h2 hnm hg).mpr ⟨a, hw, ha⟩)⟩
  | some k =>
    obtain ⟨h5, h6⟩ := h3 k e
    exact .inr ⟨k, rfl, (rk_goal O h2 hnm hg).mp h5, fun j a hw ha => h6 j ((rk_goal O h2 hnm hg).mpr ⟨a, hw, ha⟩)⟩
section
variable {szs szs' : List (Str × Nat)} {ps ps' : List (Str × Str)} {two : Str × Str} {f l : Str} {g ch : Str → Int} {v : V}
/-- the same by another order of rooms and corridors -/
theorem leastV_perm (O : BOk szs ps) (h1 : szs'.Perm szs) (h2 : ps'.Perm ps) (hc : ∀ z ∈ szs.map (·.1), ch z = g z) (L : LeastV szs ps two f l g v) : LeastV szs' ps' two f l ch v := by
  have m1 : ∀ z, z ∈ szs'.map (·.1) ↔ z ∈ szs.map (·.1) := fun z => (h1.map _).mem_iff
  have key : ∀ a : Str → Int, (∀ z ∈ szs'.map (·.1), szI szs' z ∣ a z - ch z) ↔ ∀ z ∈ szs.map (·.1), szI szs z ∣ a z - g z := fun a => by
    have e : ∀ z ∈ szs.map (·.1), szI szs' z = szI szs z := fun z hz => by
      unfold szI
      rw [szn_perm h1 O.nd hz]
    constructor
    · intro h z hz
      have := h z ((m1 z).mpr hz)
      rw [e z hz, hc z hz] at this
      exact this
    · intro h z hz
      have hz' := (m1 z).mp hz
      rw [e z hz', hc z hz']
      exact h z hz'
  have w1 : ∀ q ∈ ps, q ∈ ps' := fun q hq => h2.mem_iff.mpr hq
  have w2 : ∀ q ∈ ps', q ∈ ps := fun q hq => h2.mem_iff.mp hq
  rcases L with ⟨e, h⟩ | ⟨k, e, ⟨a, hw, ha⟩, h⟩
  · exact .inl ⟨e, fun j a hw ha => h j a (wc_mono w2 hw) ((key a).mp ha)⟩
  · exact .inr ⟨k, e, ⟨a, wc_mono w1 hw, (key a).mpr ha⟩, fun j a hw ha => h j a (wc_mono w2 hw) ((key a).mp ha)⟩
theorem law_pos (O : BOk szs ps) (OT : TOk szs ps f l ch) (h2 : two ∈ ps) (hpos : TPos szs ps f l ch) {i m : Int} (N : NumOk szs ps f l ch two.2 two.1 i m) (L : LeastV szs ps two f l ch v) : v = .int i := by
  have e := pairS_rev O h2
  obtain ⟨k, rfl, ⟨a, hw, ha⟩, hle⟩ := num_least O OT hpos (by rw [e]; exact h2) N
  rw [e] at hw hle
  rcases L with ⟨_, h⟩ | ⟨k', rfl, ⟨a', hw', ha'⟩, h⟩
  · exact absurd ha (h k a hw)
  · have h3 := h k a hw ha
    have h4 := hle k' a' hw' ha'
    have h5 : k' = k := Nat.le_antisymm h3 h4
    rw [h5]
theorem law_neg (O : BOk szs ps) (hno : TNot szs ps f l ch) (L : LeastV szs ps two f l ch v) : v = .non := by
  rcases L with ⟨e, _⟩ | ⟨k, _, ⟨a, hw, ha⟩, _⟩
  · exact e
  · exact absurd ⟨a, hw.wk, ha⟩ (not_walk O hno)
theorem gcdN_perm {l m : List Nat} (h : l.Perm m) : gcdN l = gcdN m := by
  unfold gcdN
  have key : ∀ (l m : List Nat), l.Perm m → ∀ a, l.foldl Nat.gcd a = m.foldl Nat.gcd a := by
    intro l m h
    induction h with
    | nil => exact fun _ => rfl
    | cons x _ ih => exact fun a => ih _
    | swap x y l =>
      intro a
      show l.foldl Nat.gcd (Nat.gcd (Nat.gcd a y) x) = l.foldl Nat.gcd (Nat.gcd (Nat.gcd a x) y)
      rw [Nat.gcd_assoc, Nat.gcd_comm y x, ← Nat.gcd_assoc]
    | trans _ _ h1 h2 => exact fun a => (h1 a).trans (h2 a)
  exact key l m h 0
theorem col_perm (h : ps'.Perm ps) {c : Str → Bool} (hc : Col ps c) : Col ps' c := fun q hq => hc q (h.mem_iff.mp hq)
theorem bg_perm (O : BOk szs ps) (h1 : szs'.Perm szs) (h2 : ps'.Perm ps) {rs : List Str} (hr : ∀ z ∈ rs, z ∈ szs.map (·.1)) {n : Nat} (B : BG szs ps rs n) : BG szs' ps' rs n := by
  have hi : (inn ps' rs).Perm (inn ps rs) := h2.filter _
  rcases B with ⟨e, h⟩ | ⟨⟨c, hc⟩, e⟩
  · exact .inl ⟨e, fun c hc => h c (col_perm hi.symm hc)⟩
  · refine .inr ⟨⟨c, col_perm hi hc⟩, ?_⟩
    rw [e]
    congr 1
    refine List.map_congr_left fun z hz => ?_
    rw [szn_perm h1 O.nd (hr z hz)]
theorem mok_perm (O : BOk szs ps) (h1 : szs'.Perm szs) (h2 : ps'.Perm ps) {x y : Str} (hx : x ∈ szs.map (·.1)) (hy : y ∈ szs.map (·.1)) {m : Nat} (M : MOk szs ps x y m) : MOk szs' ps' x y m := by
  have hk : (keptP ps' (pairS x y)).Perm (keptP ps (pairS x y)) := h2.filter _
  have c1 : ∀ {a b : Str}, Conn (keptP ps (pairS x y)) a b ↔ Conn (keptP ps' (pairS x y)) a b := fun {a b} => ⟨fun h => h.mono fun q hq => hk.mem_iff.mpr hq, fun h => h.mono fun q hq => hk.mem_iff.mp hq⟩
  rcases M with ⟨hn, r1, r2, g1, g2, n1, n2, m1, m2, B1, B2, e⟩ | ⟨hc, h⟩
  · refine .inl ⟨fun h => hn (c1.mpr h), r1, r2, g1, g2, n1, n2, fun z => (m1 z).trans c1, fun z => (m2 z).trans c1, bg_perm O h1 h2 (fun z hz => conn_rooms O hx ((m1 z).mp hz)) B1, bg_perm O h1 h2 (fun z hz => conn_rooms O hy ((m2 z).mp hz)) B2, e⟩
  · refine .inr ⟨c1.mp hc, ?_⟩
    rcases h with ⟨h, e⟩ | ⟨h, ⟨c, hcc⟩, e⟩
    · refine .inl ⟨?_, e⟩
      rcases h with ⟨c, hc⟩ | h
      · exact .inl ⟨c, col_perm h2 hc⟩
      · exact .inr fun c hc => h c (col_perm hk.symm hc)
    · exact .inr ⟨fun c hc => h c (col_perm h2.symm hc), ⟨c, col_perm hk hcc⟩, by rw [e, gcdN_perm (h1.map _)]⟩
end
end Rd
/-! The plain law: what is told of a log and what is due. -/
namespace Rd
open PySem L2 Gr
theorem pr_getL {α β : Type} {F : α → β → Prop} : ∀ {l : List α} {m : List β} {i : Nat} {a : α}, Paired F l m → l[i]? = some a → ∃ b, m[i]? = some b ∧ F a b
  | _, _, i, a, .nil, e => by simp at e
  | _, _, 0, a, .cons h _, e => by
    simp at e
    subst e
    exact ⟨_, rfl, h⟩
  | _, _, i + 1, a, .cons _ t, e => by
    obtain ⟨b, h1, h2⟩ := pr_getL (i := i) (a := a) t (by simpa using e)
    exact ⟨b, by simpa using h1, h2⟩
theorem pr_getR {α β : Type} {F : α → β → Prop} : ∀ {l : List α} {m : List β} {i : Nat} {b : β}, Paired F l m → m[i]? = some b → ∃ a, l[i]? = some a ∧ F a b
  | _, _, i, a, .nil, e => by simp at e
  | _, _, 0, a, .cons h _, e => by
    simp at e
    subst e
    exact ⟨_, rfl, h⟩
  | _, _, i + 1, b, .cons _ t, e => by
    obtain ⟨a, h1, h2⟩ := pr_getR (i := i) (b := b) t (by simpa using e)
    exact ⟨a, by simpa using h1, h2⟩
def gOf (cs : List (Str × Int)) (z : Str) : Int := (cs.lookup z).getD 0
/-- a trace of a row -/
def RT (szs : List (Str × Nat)) (r : TR) (e : Rw) : Prop := r.f = e.1 ∧ r.l = e.2.1 ∧ r.ch = kept szs e.2.2
def CsOk (szs : List (Str × Nat)) (cs : List (Str × Int)) : Prop := (cs.map (·.1)).Perm (szs.map (·.1)) ∧ ∀ e ∈ cs, 0 ≤ e.2 ∧ e.2 < szn szs e.1
theorem cs_get {cs : List (Str × Int)} (nd : (cs.map (·.1)).Nodup) {z : Str} (hz : z ∈ cs.map (·.1)) : (z, gOf cs z) ∈ cs ∧ cs.lookup z = some (gOf cs z) := by
  induction cs with
  | nil => cases hz
  | cons p cs ih =>
    rw [List.map_cons, List.nodup_cons] at nd
    unfold gOf
    rw [List.lookup_cons]
    by_cases e : z = p.1
    · have e1 : (z == p.1) = true := by simpa using e
      rw [e1]
      refine ⟨?_, rfl⟩
      rw [e]
      exact List.mem_cons_self
    · have e1 : (z == p.1) = false := by simpa using e
      rw [e1]
      have hz' : z ∈ cs.map (·.1) := by
        rcases List.mem_cons.mp hz with h | h
        · exact absurd h e
        · exact h
      obtain ⟨h1, h2⟩ := ih nd.2 hz'
      exact ⟨List.mem_cons_of_mem _ h1, h2⟩
section
variable {szs szs' : List (Str × Nat)} {ps ps' : List (Str × Str)} {two : Str × Str}
theorem CsOk.get (O : BOk szs ps) {cs : List (Str × Int)} (h : CsOk szs cs) {z : Str} (hz : z ∈ szs.map (·.1)) : cs.lookup z = some (gOf cs z) ∧ 0 ≤ gOf cs z ∧ gOf cs z < szn szs z := by
  obtain ⟨h1, h2⟩ := cs_get (h.1.nodup_iff.mpr O.nd) (h.1.mem_iff.mpr hz)
  exact ⟨h2, h.2 _ h1⟩
theorem kept_g (O : BOk szs ps) (h1 : szs'.Perm szs) {cs : List (Str × Int)} (h : CsOk szs cs) : ∀ z ∈ szs.map (·.1), kept szs' cs z = gOf cs z := fun z hz => by
  obtain ⟨_, h3, h4⟩ := h.get O hz
  unfold kept
  rw [szn_perm h1 O.nd hz]
  exact Int.emod_eq_of_lt h3 h4
theorem told_plain {K : PySem.W.Frag} {H : Hp} {rs : List Rw} {vals : List V} {r0 : TR} {tr : List TR} {v : V} (O : BOk szs ps) (h1 : szs'.Perm szs) (h2 : ps'.Perm ps) (htwo : two ∈ ps) (hts : Paired (RT szs') (r0 :: tr) rs) (hcs : ∀ e ∈ rs, CsOk szs e.2.2)
    (hv : Paired (fun v (e : Rw) => LeastV szs ps two e.1 e.2.1 (gOf e.2.2) v) vals rs) (hot : ∀ r ∈ r0 :: tr, TOk szs' ps' r.f r.l r.ch) (h : ToldV K H szs' ps' two.2 two.1 r0 tr v) :
    (v = .non ∧ V.non ∈ vals) ∨ ∃ (n : Addr) (is : List Int) (m : Nat), v = .ref n ∧ NAt K H n is.sum m ∧ vals = is.map V.int ∧ MOk szs' ps' two.2 two.1 m := by
  have O' := O.perm h1 h2
  have htwo' := h2.mem_iff.mpr htwo
  have lv : ∀ (j : Nat) (r : TR), (r0 :: tr)[j]? = some r → ∃ w, vals[j]? = some w ∧ LeastV szs' ps' two r.f r.l r.ch w := fun j r hj => by
    obtain ⟨e, he, e1, e2, e3⟩ := pr_getL hts hj
    obtain ⟨w, hw, L⟩ := pr_getR hv he
    refine ⟨w, hw, ?_⟩
    rw [e1, e2, e3]
    exact leastV_perm O h1 h2 (kept_g O h1 (hcs e (List.mem_of_getElem? he))) L
  rcases h with ⟨rfl, r, hr, hno⟩ | ⟨n, is, m, i0, rfl, N, hpos, nok, nok0⟩
  · obtain ⟨j, hj⟩ := List.mem_iff_getElem?.mp hr
    obtain ⟨w, hw, L⟩ := lv j r hj
    have := law_neg O' hno L
    rw [this] at hw
    exact .inl ⟨rfl, List.mem_of_getElem? hw⟩
  · obtain ⟨m', rfl, _, hm, _⟩ := nok0
    refine .inr ⟨n, is, m', rfl, N, ?_, hm⟩
    have el1 : vals.length = rs.length := Paired.length hv
    have el2 : (r0 :: tr).length = rs.length := Paired.length hts
    have el3 := nok.1
    refine List.ext_getElem? fun j => ?_
    by_cases hj : j < (r0 :: tr).length
    · obtain ⟨r, hr⟩ : ∃ r, (r0 :: tr)[j]? = some r := ⟨_, List.getElem?_eq_getElem hj⟩
      obtain ⟨w, hw, L⟩ := lv j r hr
      obtain ⟨i, m2, hi, N2⟩ := nok.2 j r hr
      have hrm := List.mem_of_getElem? hr
      have := law_pos O' (hot r hrm) htwo' (hpos r hrm) N2 L
      rw [hw, List.getElem?_map, hi, this]
      rfl
    · rw [List.getElem?_eq_none (by omega), List.getElem?_eq_none (by rw [List.length_map]; omega)]
/-- values are numbers, where none is None -/
theorem vals_ints {rs : List Rw} : ∀ {vals : List V}, Paired (fun v (e : Rw) => LeastV szs ps two e.1 e.2.1 (gOf e.2.2) v) vals rs → V.non ∉ vals → ∃ ks : List Int, vals = ks.map V.int := by
  induction rs with
  | nil =>
    intro vals h _
    cases h
    exact ⟨[], rfl⟩
  | cons e rs ih =>
    intro vals h hn
    cases h with
    | cons h1 h2 =>
      obtain ⟨ks, hk⟩ := ih h2 fun z => hn (List.mem_cons_of_mem _ z)
      rcases h1 with ⟨e1, _⟩ | ⟨k, e1, _⟩
      · exact absurd (by rw [e1]; exact List.mem_cons_self) hn
      · exact ⟨(k : Int) :: ks, by rw [e1, hk]; rfl⟩
theorem vals_flat {rs : List Rw} {vals : List V} (h : Paired (fun v (e : Rw) => LeastV szs ps two e.1 e.2.1 (gOf e.2.2) v) vals rs) : vals.all flatV = true ∧ inV V.non vals = decide (V.non ∈ vals) := by
  induction h with
  | nil => exact ⟨rfl, rfl⟩
  | @cons v e vs es h1 _ ih =>
    obtain ⟨i1, i2⟩ := ih
    rcases h1 with ⟨e1, _⟩ | ⟨k, e1, _⟩
    · subst e1
      refine ⟨by rw [List.all_cons, i1]; rfl, ?_⟩
      rw [decide_eq_true List.mem_cons_self]
      rfl
    · subst e1
      refine ⟨by rw [List.all_cons, i1]; rfl, ?_⟩
      show (false || inV V.non vs) = _
      rw [i2]
      simp
end
/-- a trace is kept, where a list changes -/
theorem TAt.putL {K : PySem.W.Frag} {H : Hp} {t b D : Addr} {o : HO} {ys : List V} {szs : List (Str × Nat)} {ps : List (Str × Str)} {f l : Str} {ch : Str → Int} (A : TAt K H t b szs ps f l ch) (hD : H D = some (.lst ys)) (B : BAt K (upd H D o) b szs ps) : TAt K (upd H D o) t b szs ps f l ch := by
  obtain ⟨dx, d, ky, bv, sd, h1, h2, h3, h4, h5⟩ := A.ex
  have ne : ∀ {a : Addr} {u : HO}, H a = some u → (∀ zs, u ≠ .lst zs) → upd H D o a = some u := fun {a u} e k => by
    rw [upd_ne]
    · exact e
    · intro z
      rw [z, hD] at e
      exact k _ (Option.some.inj e).symm
  refine ⟨dx, d, ky, bv, sd, ne h1 (fun _ z => by cases z), ne h2 (fun _ z => by cases z), B, ?_, ?_⟩
  · obtain ⟨C, dx2, fs, e1, e2⟩ := h4
    exact ⟨C, dx2, fs, ne e1 (fun _ z => by cases z), e2⟩
  · rcases h5 with h5 | ⟨t2, a2, b2, s0, c, e1, e2, e3, e4⟩
    · exact .inl h5
    · exact .inr ⟨t2, a2, b2, s0, c, e1, ne e2 (fun _ z => by cases z), ne e3 (fun _ z => by cases z), e4⟩
end Rd
/-! law. -/
namespace Rd
open PySem PySem.Spec PyProof.Rows L2 Gr
def spLaw (K : PySem.W.Frag) : Sp := fun vs H Q _ => ∃ (a : Addr) (ns : List Int), vs = [.ref a] ∧ SqL K H a (ns.map V.int) ∧ ∀ H', Q (.bl true) H'
theorem RwL.len {H : Hp} {szs : List (Str × Nat)} {us : List Addr} {rs : List Rw} (h : RwL H szs us rs) : us.length = rs.length := Paired.length h
theorem BAt.sameX {K : PySem.W.Frag} {H H' : Hp} {t c b : Addr} {n : Nat} {szs : List (Str × Nat)} {ps : List (Str × Str)} (tp : TpAt H t c n) (s : SameX t H H') (B : BAt K H b szs ps) : BAt K H' b szs ps := by
  obtain ⟨dx, d, c2, nr, sd, rg, br, h1, h2, ⟨xs, h3, h4⟩, h5⟩ := B.ex
  have nk : ∀ {a : Addr} {u : HO}, H a = some u → (∀ kvs, u ≠ .dK kvs) → H' a = some u := fun {a u} e k => s _ _ (tp.nx e k) e
  refine ⟨dx, d, c2, nr, sd, rg, br, nk h1 (fun _ z => by cases z), s _ _ (tp.nd h2) h2, ⟨xs, ?_, h4.mono fun t u v e => nk e fun _ z => by cases z⟩, ?_⟩
  · rcases h3 with (h3 | ⟨o, h3⟩) | h3
    · exact .inl (.inl (nk h3 fun _ z => by cases z))
    · exact .inl (.inr ⟨o, nk h3 fun _ z => by cases z⟩)
    · exact .inr h3
  · rcases h5 with h5 | ⟨t2, a2, b2, s0, s1, e1, e2, e3, e4, e5⟩
    · exact .inl h5
    · exact .inr ⟨t2, a2, b2, s0, s1, e1, nk e2 (fun _ z => by cases z), nk e3 (fun _ z => by cases z), nk e4 (fun _ z => by cases z), e5⟩
-- slots of law: 0 _law_script 1 _law_tape 2 _law_turn 3 _law_plan 4 _law_building* 5 _law_names_here 6 _law_rows_here 7 _law_traces 8 _law_row 9 _law_two 10 _law_least_here 11 _law_first 12 _law_last 13 _law_changes* 14 _law_goal 15 _law_name 16 _law_modulus 17 _law_due
theorem sc_law : FnScope ["_law_script", "_law_tape", "_law_turn", "_law_plan", "_law_building", "_law_names_here", "_law_rows_here", "_law_traces", "_law_row", "_law_two", "_law_least_here", "_law_first", "_law_last", "_law_changes", "_law_goal", "_law_name", "_law_modulus", "_law_due"] ["_law_script"] (defScope s_law) := ⟨rfl, rfl, rfl, by decide +kernel, rfl, by decide +kernel, by decide +kernel⟩
section
variable {P : Program} {w : World} {K : PySem.W.Frag} {mg : Str → Option Value} {base : Heap}
theorem body_law (T : Wd K mg base) : BodyOk P w K mg base 19 (He.ga K "law") "law" s_law ["_law_script", "_law_tape", "_law_turn", "_law_plan", "_law_building", "_law_names_here", "_law_rows_here", "_law_traces", "_law_row", "_law_two", "_law_least_here", "_law_first", "_law_last", "_law_changes", "_law_goal", "_law_name", "_law_modulus", "_law_due"] (spLaw K) := by
  rintro cdv A outer s0 H vs Q E hr ⟨a, ns, rfl, ha, k⟩
  refine ⟨_, (pss_cons (ps_set (i := 1) sc_law.nd rfl (Or.inl rfl) (pe_ca (ca_z_begin T) hr (by decide) rfl (pa_cons (pv 0) pa_nil))) (pss_cons (ps_for PassesOwn.never rfl (pi_range1 (by rfl) T.f_range (pa_cons pe_int pa_nil)) (pg_name (i := 2) sc_law.nd rfl (Or.inl rfl)) (pss_cons (ps_set (i := 3) sc_law.nd rfl (Or.inl rfl) (pe_ca (ca_z_drawn T) hr (by decide) rfl (pa_cons (pv 1) (pa_cons pe_int (pa_cons pe_int (pa_cons pe_int (pa_cons (pe_ca (ca_z_pick T) hr (by decide) rfl (pa_cons (pv 1) (pa_cons (pe_lst (pa_cons (pe_lst (pa_cons pe_int (pa_cons pe_int pa_nil))) (pa_cons (pe_lst (pa_cons pe_int pa_nil)) (pa_cons (pe_lst (pa_cons pe_int pa_nil)) (pa_cons (pe_lst (pa_cons pe_int (pa_cons pe_int pa_nil))) pa_nil))))) pa_nil))) pa_nil))))))) (pss_cons (ps_asg (pe_tup (pa_cons (pe_ca (ca_z_built T) hr (by decide) rfl (pa_cons (pv 3) pa_nil)) (pa_cons (pe_callB (call_sortedD rfl) (by rfl) T.f_sorted (by decide +kernel) (pa_cons (pe_ix ix_tup (pv 3) pe_int (fun _ _ => rfl)) pa_nil)) pa_nil))) (pg_tup rfl (pgs_cons (pg_name (i := 4) sc_law.nd rfl (Or.inr rfl)) (pgs_cons (pg_name (i := 5) sc_law.nd rfl (Or.inl rfl)) pgs_nil)))) (pss_cons (ps_set (i := 6) sc_law.nd rfl (Or.inl rfl) (pe_ca (ca_z_rows T) hr (by decide) rfl (pa_cons (pv 1) (pa_cons (pv 3) pa_nil)))) (pss_cons (ps_setLc (i := 7) (own := [("_law_row", 8)]) (g := gName 8) rfl sc_law.nd rfl rfl (sw_true rfl rfl rfl (by decide +kernel)) (pi_list (pv 6)) (blkOk_by (own := [("_law_row", 8)]) (N := ["_law_script", "_law_tape", "_law_turn", "_law_plan", "_law_building", "_law_names_here", "_law_rows_here", "_law_traces", "_law_row", "_law_two", "_law_least_here", "_law_first", "_law_last", "_law_changes", "_law_goal", "_law_name", "_law_modulus", "_law_due"]) (sc := defScope s_law) (by decide +kernel)) (fun _ _ _ _ _ => (pg_name (i := 8) sc_law.nd rfl (Or.inl rfl))) (fun _ _ _ _ _ => pts_nil) (fun _ _ _ _ _ => (pe_ma (ma_Trace T) hr (by decide) rfl (pa_cons (pv 4) (pa_cons (pe_ix (r := rIxT K) ix_tup (pv 8) pe_int (fun _ _ => rfl)) (pa_cons (pe_ix (r := rIxT K) ix_tup (pv 8) pe_int (fun _ _ => rfl)) (pa_cons (pe_ix (r := rIxT K) ix_tup (pv 8) pe_int (fun _ _ => rfl)) pa_nil))))))) (pss_one (ps_for PassesOwn.never rfl (pi_list (pe_ix ix_tup (pv 3) pe_int (fun _ _ => rfl))) (pg_name (i := 9) sc_law.nd rfl (Or.inl rfl)) (pss_cons (ps_set (i := 10) sc_law.nd rfl (Or.inl rfl) (pe_lst pa_nil)) (pss_cons (ps_for PassesOwn.never rfl (pi_list (pv 6)) (pg_tup rfl (pgs_cons (pg_name (i := 11) sc_law.nd rfl (Or.inl rfl)) (pgs_cons (pg_name (i := 12) sc_law.nd rfl (Or.inl rfl)) (pgs_cons (pg_name (i := 13) sc_law.nd rfl (Or.inr rfl)) pgs_nil)))) (pss_cons (ps_set (i := 14) sc_law.nd rfl (Or.inl rfl) (pe_tup (pa_cons (pv 12) (pa_cons (pe_callTy (call_tuple_of) (by rfl) T.f_tuple (by decide +kernel) (pa_cons (pe_lc (own := [("_law_name", 15)]) (g := gName 15) rfl sc_law.nd (pi_list (pv 5)) (blkOk_by (own := [("_law_name", 15)]) (N := ["_law_script", "_law_tape", "_law_turn", "_law_plan", "_law_building", "_law_names_here", "_law_rows_here", "_law_traces", "_law_row", "_law_two", "_law_least_here", "_law_first", "_law_last", "_law_changes", "_law_goal", "_law_name", "_law_modulus", "_law_due"]) (sc := defScope s_law) (by decide +kernel)) (fun _ _ _ _ _ => (pg_name (i := 15) sc_law.nd rfl (Or.inl rfl))) (fun _ _ _ _ _ => pts_nil) (fun _ _ _ _ _ => (pe_dget (hu_of hr) (pv 13) (pv 15) (fun _ _ => rfl)))) pa_nil)) pa_nil)))) (pss_one (ps_expr (pe_bm PySem.F.plainAttrs_list PySem.F.slot_list_append PySem.F.type_list_append mt_append (pv 10) (pa_cons (pe_getN (hu65 hr) (pe_ca (ca_z_least T) hr (by decide) rfl (pa_cons (pv 3) (pa_cons (pv 11) (pa_cons (pv 9) pa_nil)))) (pv 14) (by constructor <;> rfl)) pa_nil)))))) (pss_cons (ps_set (i := 16) sc_law.nd rfl (Or.inl rfl) (pe_ca (ca_z_corridor_due T) hr (by decide) rfl (pa_cons (pv 3) (pa_cons (pv 9) pa_nil)))) (pss_cons (ps_set (i := 17) sc_law.nd rfl (Or.inl rfl) (pe_ifExp (pt_cmpR op_in_seq pe_non (pv 10) (by rfl)) pe_non (pe_ma (ma_Numbers T) hr (by decide) rfl (pa_cons (pe_callB (cr_sum rfl) (by rfl) T.f_sum (by decide +kernel) (pa_cons (pv 10) pa_nil)) (pa_cons (pv 16) pa_nil))))) (pss_one (ps_if (pt_cmpR (op_ne_or op_ne (op_ne_own (mt_Numbers_deq T) (ex_13 T.L.more) (meth_one T.L.m_Numbers_deqd) hr (by decide))) (pe_ca (ca_z_told T) hr (by decide) rfl (pa_cons (pv 7) (pa_cons (pv 9) pa_nil))) (pv 17) (by rfl)) (pss_one (ps_ret pe_bl)) pss_nil))))))))))))) (pss_one (ps_ret pe_bl)))), ?_⟩
  refine ⟨_, rfl, a, ns, rfl, ha, fun H1 t c s1 tp1 => ?_⟩
  have new_t : ∀ {x : Addr} {H' : Hp} {m : Nat}, TpAt H' t c m → H' x = none → x ≠ t ∧ x ≠ c := fun {x H' m} tp hx => by
    obtain ⟨_, _, _, h1, _⟩ := id tp
    obtain ⟨ys, hy⟩ := tp.cl
    exact ⟨(ne_of_none h1 hx).symm, (ne_of_none hy hx).symm⟩
  refine ⟨2, rfl, by decide, by decide, for_range (n := 2) (fun i σ H' => ∃ (z2 z3 z4 z5 z6 z7 z9 z10 z11 z12 z13 z14 z16 z17 : Option V) (n : Nat), σ = [some (.ref a), some (.ref t), z2, z3, z4, z5, z6, z7, none, z9, z10, z11, z12, z13, z14, none, z16, z17] ∧ TpAt H' t c n ∧ n ≤ 400 * i)
    ⟨none, none, none, none, none, none, none, none, none, none, none, none, none, none, 0, rfl, tp1, Nat.le_refl _⟩ ?_ ?_⟩
  case refine_2 =>
    rintro σ H' ⟨z2, z3, z4, z5, z6, z7, z9, z10, z11, z12, z13, z14, z16, z17, n, rfl, tp, hn⟩
    exact k _
  rintro i σ H2 hi ⟨z2, z3, z4, z5, z6, z7, z9, z10, z11, z12, z13, z14, z16, z17, n, rfl, tp2, hn2⟩
  -- the sizes to pick from
  refine ⟨_, rfl, _, rfl, Nat.le_of_ble_eq_true rfl, fun l1 hl1 => ⟨Nat.le_of_ble_eq_true rfl, fun l2 hl2 => ⟨Nat.le_of_ble_eq_true rfl, fun l3 hl3 => ⟨Nat.le_of_ble_eq_true rfl, fun l4 hl4 => ⟨Nat.le_of_ble_eq_true rfl, fun lo hlo => ?_⟩⟩⟩⟩⟩
  have sl1 : Same H2 (upd H2 l1 (.lst [V.int 1, V.int 2])) := sm_new hl1
  have sl2 : Same (upd H2 l1 (.lst [V.int 1, V.int 2])) (upd (upd H2 l1 (.lst [V.int 1, V.int 2])) l2 (.lst [V.int 2])) := sm_new hl2
  have sl3 : Same (upd (upd H2 l1 (.lst [V.int 1, V.int 2])) l2 (.lst [V.int 2])) (upd (upd (upd H2 l1 (.lst [V.int 1, V.int 2])) l2 (.lst [V.int 2])) l3 (.lst [V.int 3])) := sm_new hl3
  have sl4 : Same (upd (upd (upd H2 l1 (.lst [V.int 1, V.int 2])) l2 (.lst [V.int 2])) l3 (.lst [V.int 3])) (upd (upd (upd (upd H2 l1 (.lst [V.int 1, V.int 2])) l2 (.lst [V.int 2])) l3 (.lst [V.int 3])) l4 (.lst [V.int 2, V.int 3])) := sm_new hl4
  have slo : Same (upd (upd (upd (upd H2 l1 (.lst [V.int 1, V.int 2])) l2 (.lst [V.int 2])) l3 (.lst [V.int 3])) l4 (.lst [V.int 2, V.int 3])) (upd (upd (upd (upd (upd H2 l1 (.lst [V.int 1, V.int 2])) l2 (.lst [V.int 2])) l3 (.lst [V.int 3])) l4 (.lst [V.int 2, V.int 3])) lo (.lst [V.ref l1, V.ref l2, V.ref l3, V.ref l4])) := sm_new hlo
  have tpa := tp2.same sl1
  have tpb := tpa.same sl2
  have tpc := tpb.same sl3
  have tpd := tpc.same sl4
  have tpe := tpd.same slo
  have menu : ∀ v ∈ [V.ref l1, V.ref l2, V.ref l3, V.ref l4], ∃ (z : Addr) (zs : List Nat), v = .ref z ∧ (upd (upd (upd (upd (upd H2 l1 (.lst [V.int 1, V.int 2])) l2 (.lst [V.int 2])) l3 (.lst [V.int 3])) l4 (.lst [V.int 2, V.int 3])) lo (.lst [V.ref l1, V.ref l2, V.ref l3, V.ref l4])) z = some (.lst (zs.map fun s => V.int (s : Nat))) ∧ z ≠ c ∧ zs ≠ [] ∧ zs.length ≤ 100 ∧ ∀ s ∈ zs, 1 ≤ s ∧ s ≤ 3 := fun v hv => by
    rcases List.mem_cons.mp hv with rfl | hv
    · exact ⟨l1, [1, 2], rfl, slo _ _ (sl4 _ _ (sl3 _ _ (sl2 _ _ upd_same))), (new_t tp2 hl1).2, by simp, by simp, by simp⟩
    rcases List.mem_cons.mp hv with rfl | hv
    · exact ⟨l2, [2], rfl, slo _ _ (sl4 _ _ (sl3 _ _ upd_same)), (new_t tpa hl2).2, by simp, by simp, by simp⟩
    rcases List.mem_cons.mp hv with rfl | hv
    · exact ⟨l3, [3], rfl, slo _ _ (sl4 _ _ upd_same), (new_t tpb hl3).2, by simp, by simp, by simp⟩
    rcases List.mem_cons.mp hv with rfl | hv
    · exact ⟨l4, [2, 3], rfl, slo _ _ upd_same, (new_t tpc hl4).2, by simp, by simp, by simp⟩
    · cases hv
  have hlo' : (upd (upd (upd (upd (upd H2 l1 (.lst [V.int 1, V.int 2])) l2 (.lst [V.int 2])) l3 (.lst [V.int 3])) l4 (.lst [V.int 2, V.int 3])) lo (.lst [V.ref l1, V.ref l2, V.ref l3, V.ref l4])) lo = some (.lst [V.ref l1, V.ref l2, V.ref l3, V.ref l4]) := upd_same
  refine ⟨t, c, n, .ref lo, rfl, tpe, by omega, .inl ⟨lo, _, rfl, hlo', by simp, by simp⟩, fun H3 v n3 ss3 tp3 hn3 hv => ?_⟩
  obtain ⟨z, zs, rfl, hz, nzc, zne, zl, z3'⟩ : ∃ (z : Addr) (zs : List Nat), v = .ref z ∧ H3 z = some (.lst (zs.map fun s => V.int (s : Nat))) ∧ z ≠ c ∧ zs ≠ [] ∧ zs.length ≤ 100 ∧ ∀ s ∈ zs, 1 ≤ s ∧ s ≤ 3 := by
    rcases hv with ⟨a2, xs2, e2, e3, e4⟩ | ⟨_, _, e2, _⟩
    · cases e2
      rw [hlo'] at e3
      cases e3
      obtain ⟨z, zs, e5, e6, e7⟩ := menu v e4
      exact ⟨z, zs, e5, ss3 _ _ (tpe.nl e6) e6, e7⟩
    · cases e2
  clear hlo' menu slo tpe
  refine ⟨t, c, z, n3, zs, rfl, tp3, by omega, hz, nzc, zne, zl, z3', fun H4 p d l szs ps n4 ss4 tp4 hn4 hp O h2 h4 h3 => ?_⟩
  obtain ⟨xs, hl, hxs⟩ := id hp.l
  -- the building
  refine ⟨_, rfl, p, d, l, szs, ps, rfl, hp, O, fun H5 b szs' ps' s5 q1 q2 B => ?_⟩
  have hp5 := hp.same s5
  refine ⟨_, rfl, p, _, (0 : Int), .ref d, rfl, rfl, SqT.of hp5.t, atI_nat (j := 0) rfl, d, SzD szs, szs.map (·.1), rfl, .of hp5.d, szD_keys szs, by rw [List.length_map]; omega, fun nms r hperm hsort hr1 => ⟨Nat.le_of_ble_eq_true rfl, fun tu htu => ?_⟩⟩
  have hnm : ∀ z, z ∈ nms ↔ z ∈ szs.map (·.1) := fun z => hperm.mem_iff
  have nlen : nms.length = szs.length := by rw [hperm.length_eq, List.length_map]
  refine ⟨tu, _, rfl, SqT.of upd_same, rfl, _, _, rfl, _, _, rfl, rfl, ?_⟩
  have s6 : Same H4 (upd (upd H5 r (.lst (nms.map V.str))) tu (.tup [.ref b, .ref r])) := s5.trans ((sm_new hr1).new htu)
  have hr6 : (upd (upd H5 r (.lst (nms.map V.str))) tu (.tup [.ref b, .ref r])) r = some (.lst (nms.map V.str)) := (sm_new htu) _ _ upd_same
  have B6 : BAt K (upd (upd H5 r (.lst (nms.map V.str))) tu (.tup [.ref b, .ref r])) b szs' ps' := B.same ((sm_new hr1).new htu)
  revert s6 hr6 B6
  generalize upd (upd H5 r (.lst (nms.map V.str))) tu (.tup [.ref b, .ref r]) = H6
  intro s6 hr6 B6
  have tp6 := tp4.same s6
  have hp6 := hp.same s6
  -- the rows
  refine ⟨_, rfl, _, rfl, t, c, p, d, l, n4, szs, ps, rfl, tp6, by omega, hp6, O, h2, h4, h3, fun H7 rl us rs n7 ss7 tp7 hn7 hrl hrw hok hrs1 hrs3 => ?_⟩
  have hp7 := hp6.sameX tp6 ss7
  have hr7 : H7 r = some (.lst (nms.map V.str)) := ss7 _ _ (tp6.nl hr6) hr6
  have O' := O.perm q1 q2
  have B7 := B6.sameX tp6 ss7
  have mq : ∀ z, z ∈ szs'.map (·.1) ↔ z ∈ szs.map (·.1) := fun z => (q1.map _).mem_iff
  have usl : us.length = rs.length := hrw.len
  -- the traces
  refine ⟨_, rfl, rl, rfl, ⟨_, SqL.of hrl⟩, fun D hD => lc_list (K := K) (a := rl) (xs := us.map V.ref) (fun i H' => ∃ ts : List TR, H' D = some (.lst (ts.map fun r => V.ref r.a)) ∧ Paired (RT szs') ts (rs.take i) ∧ (∀ r ∈ ts, TAt K H' r.a b szs' ps' r.f r.l r.ch ∧ TOk szs' ps' r.f r.l r.ch) ∧ ts.length = i ∧ Same H7 H')
    ⟨[], upd_same, .nil, (fun r h => nomatch h), rfl, sm_new hD⟩ (fun i H' _ ⟨_, _, _, _, _, h⟩ => SqL.of (h _ _ hrl)) ?_ ?_⟩
  · rintro i v Ha hi ⟨ts, g1, g2, g3, g4, sA⟩
    obtain ⟨u, hu, rfl⟩ := map_getF hi
    obtain ⟨e, he, q, hq1, hq2⟩ := pr_getL (hrw.same sA) hu
    have hil : i < rs.length := (List.getElem?_eq_some_iff.mp he).1
    have hem := List.mem_of_getElem? he
    have her := hok.1 e hem
    have BA := B7.same sA
    refine ⟨rfl, _, rfl, _, rfl, u, _, (0 : Int), .str e.1, rfl, rfl, SqT.of hq1, atI_nat (j := 0) rfl, _, rfl, u, _, (1 : Int), .str e.2.1, rfl, rfl, SqT.of hq1, atI_nat (j := 1) rfl, _, rfl, u, _, (2 : Int), .ref q, rfl, rfl, SqT.of hq1, atI_nat (j := 2) rfl, fun x dx hx hdx ne => ?_⟩
    have s0' := made_same0 (C := tC K) hx hdx
    obtain ⟨bdx, bd, bc, nr, sd, rg, br, hb, _⟩ := id BA.ex
    have nxb : x ≠ b := (ne_of_none hb hx).symm
    have c24 : e.2.2.length ≤ 24 := by
      have h5 := hq2.2.1.length_eq
      rw [List.length_map, List.length_map] at h5
      omega
    refine ⟨x, b, q, dx, szs', ps', e.1, e.2.1, e.2.2, rfl, upd_same, nxb, BA.same s0', O', (mq _).mpr her.1, (mq _).mpr her.2, s0' _ _ hq2.1, c24, fun y hy => ?_, fun Hb sx TA => ⟨rfl, ?_⟩⟩
    · have hyr : y.1 ∈ szs.map (·.1) := hq2.2.1.mem_iff.mp (List.mem_map.mpr ⟨y, hy, rfl⟩)
      have h6 := hq2.2.2 y hy
      have h7 := szn_le3 O h3 hyr
      exact ⟨(mq _).mpr hyr, by omega, by omega⟩
    · have sAb : Same Ha Hb := made_same hx hdx sx
      have hDb := sAb _ _ g1
      have s7b := sA.trans sAb
      have csok : CsOk szs e.2.2 := hq2.2
      have BD : ∀ o, BAt K (upd Hb D o) b szs' ps' := fun o => B7.same (s7b.put hD)
      refine ⟨_, hDb, by rw [List.length_map, g4, sizeLine_eq]; omega, ts ++ [⟨x, e.1, e.2.1, kept szs' e.2.2⟩], ?_, ?_, fun r hr => ?_, by rw [List.length_append, g4]; rfl, s7b.put hD⟩
      · rw [upd_same, List.map_append]
        rfl
      · rw [take_snoc he]
        exact Paired.snoc g2 ⟨rfl, rfl, rfl⟩
      · rcases List.mem_append.mp hr with hr | hr
        · obtain ⟨k1, k2⟩ := g3 r hr
          exact ⟨(k1.same sAb).putL hDb (BD _), k2⟩
        · rw [List.mem_singleton.mp hr]
          refine ⟨TA.putL hDb (BD _), (mq _).mpr her.1, (mq _).mpr her.2, fun z hz => ?_⟩
          have hz' := (mq z).mp hz
          obtain ⟨_, k3, k4⟩ := csok.get O hz'
          show 0 ≤ kept szs' e.2.2 z ∧ kept szs' e.2.2 z < (szn szs' z : Nat)
          rw [kept_g O q1 csok z hz', szn_perm q1 O.nd hz']
          exact ⟨k3, k4⟩
  rintro H8 ⟨ts, g1, g2, g3, g4, s8⟩
  rw [List.length_map] at g4 g2
  rw [usl, List.take_length] at g2
  obtain ⟨r0, tr, rfl⟩ : ∃ r0 tr, ts = r0 :: tr := by
    cases ts with
    | nil => simp at g4; omega
    | cons r0 tr => exact ⟨r0, tr, rfl⟩
  have G8 : LogAt K H8 D b szs' ps' (r0 :: tr) := ⟨g1, fun r hr => (g3 r hr).1, fun r hr => (g3 r hr).2, fun j r r' h5 h6 => by
    obtain ⟨e, he, e1, e2, e3⟩ := pr_getL g2 h5
    obtain ⟨e', he', e4, e5, e6⟩ := pr_getL g2 h6
    rw [e4, e2]
    exact hok.2 j e e' he he', by omega⟩
  have tp8 := tp7.same s8
  have hp8 := hp7.same s8
  obtain ⟨xs8, hl8, hxs8⟩ := id hp8.l
  have hr8 := s8 _ _ hr7
  have hrl8 := s8 _ _ hrl
  have hrw8 := hrw.same s8
  have hcs : ∀ e ∈ rs, CsOk szs e.2.2 := fun e he => by
    obtain ⟨j, hj⟩ := List.mem_iff_getElem?.mp he
    obtain ⟨u, _, q, _, hq⟩ := pr_getR hrw8 hj
    exact hq.2
  -- each corridor
  refine ⟨_, rfl, p, _, (1 : Int), .ref l, rfl, rfl, SqT.of hp8.t, atI_nat (j := 1) rfl, l, rfl, ⟨_, SqL.of hl8⟩, for_list (K := K) (a := l) (xs := xs8) (fun j σ H' => ∃ (z9 z10 z11 z12 z13 z14 z16 z17 : Option V), σ = [some (.ref a), some (.ref t), some (.int ((0 : Int) + (i : Nat))), some (.ref p), some (.ref b), some (.ref r), some (.ref rl), some (.ref D), none, z9, z10, z11, z12, z13, z14, none, z16, z17] ∧ Same H8 H')
    ⟨_, _, _, _, _, _, _, _, rfl, Same.refl _⟩ (fun j σ H' _ ⟨_, _, _, _, _, _, _, _, _, h⟩ => SqL.of (h _ _ hl8)) ?_ ?_⟩
  case refine_2 =>
    rintro σ H' ⟨y9, y10, y11, y12, y13, y14, y16, y17, rfl, s9⟩
    exact ⟨_, _, _, _, _, _, _, _, _, _, _, _, _, _, n7, rfl, tp8.same s9, by omega⟩
  rintro j v σ H9 hj ⟨y9, y10, y11, y12, y13, y14, y16, y17, rfl, s9⟩
  obtain ⟨two, u, htwo, rfl, hu8⟩ := hxs8.get hj
  have htm := List.mem_of_getElem? htwo
  have hu9 := hu8.same s9
  refine ⟨Nat.le_of_ble_eq_true rfl, fun lh hlh => ?_⟩
  have s10 : Same H9 (upd H9 lh (.lst [])) := sm_new hlh
  have hlh8 : H8 lh = none := by
    cases e : H8 lh with
    | none => rfl
    | some o => rw [s9 _ _ e] at hlh; cases hlh
  refine ⟨_, rfl, rl, rfl, ⟨_, SqL.of (s10 _ _ (s9 _ _ hrl8))⟩, for_list (K := K) (a := rl) (xs := us.map V.ref) (fun j σ H' => ∃ (vals : List V) (z11 z12 z13 z14 : Option V), σ = [some (.ref a), some (.ref t), some (.int ((0 : Int) + (i : Nat))), some (.ref p), some (.ref b), some (.ref r), some (.ref rl), some (.ref D), none, some (.ref u), some (.ref lh), z11, z12, z13, z14, none, y16, y17] ∧
      H' lh = some (.lst vals) ∧ Paired (fun v (e : Rw) => LeastV szs ps two e.1 e.2.1 (gOf e.2.2) v) vals (rs.take j) ∧ vals.length = j ∧ Same H8 H')
    ⟨[], _, _, _, _, rfl, upd_same, .nil, rfl, s9.trans s10⟩ (fun j σ H' _ ⟨_, _, _, _, _, _, _, _, _, h⟩ => SqL.of (h _ _ hrl8)) ?_ ?_⟩
  · rintro j' v' σ Ha hj' ⟨vals, x11, x12, x13, x14, rfl, e1, e2, e3, sA⟩
    obtain ⟨ur, hur, rfl⟩ := map_getF hj'
    obtain ⟨e, he, q, hq1, hq2⟩ := pr_getL (hrw8.same sA) hur
    have hjl : j' < rs.length := (List.getElem?_eq_some_iff.mp he).1
    have hem := List.mem_of_getElem? he
    have her := hok.1 e hem
    have csok := hcs e hem
    refine ⟨ur, _, rfl, SqT.of hq1, rfl, _, _, rfl, _, _, rfl, _, _, rfl, rfl, ?_⟩
    -- the goal
    have hrA := sA _ _ hr8
    refine ⟨_, rfl, _, rfl, r, rfl, ⟨_, SqL.of hrA⟩, fun G hG => lc_list (K := K) (a := r) (xs := nms.map V.str) (fun i H' => H' G = some (.lst (((nms.take i).map (gOf e.2.2)).map V.int)) ∧ Same Ha H') ⟨upd_same, sm_new hG⟩ (fun i H' _ h => SqL.of (h.2 _ _ hrA)) ?_ ?_⟩
    · rintro i' v2 Hb hi' ⟨f1, f2⟩
      obtain ⟨x, hx, rfl⟩ := map_get hi'
      have hil : i' < nms.length := (List.getElem?_eq_some_iff.mp hx).1
      have hxr := (hnm x).mp (List.mem_of_getElem? hx)
      have ev : valV (IzD e.2.2) (Sum.inr x) = some (.int (gOf e.2.2 x)) := by
        rw [izD_val, (csok.get O hxr).1]
        rfl
      refine ⟨rfl, _, rfl, _, rfl, q, _, rfl, .inl ⟨_, Sum.inr x, .inl (f2 _ _ hq2.1), rfl, ev.symm⟩, _, f1, by rw [List.length_map, List.length_map, List.length_take, sizeLine_eq]; omega, ?_, f2.put hG⟩
      rw [upd_same, take_snoc hx, List.map_append, List.map_append]
      rfl
    rintro Hb ⟨f1, f2⟩
    rw [List.length_map, List.take_length] at f1
    refine ⟨G, _, rfl, .inl ⟨SqL.of f1, fun tg htg => ⟨Nat.le_of_ble_eq_true rfl, fun go hgo => ?_⟩⟩⟩
    have sgo : Same Ha (upd (upd Hb tg (.tup ((nms.map (gOf e.2.2)).map V.int))) go (.tup [.str e.2.1, .ref tg])) := f2.trans ((sm_new htg).new hgo)
    have pgo : PosAt K (upd (upd Hb tg (.tup ((nms.map (gOf e.2.2)).map V.int))) go (.tup [.str e.2.1, .ref tg])) go (e.2.1, nms.map (gOf e.2.2)) := ⟨tg, SqT.of upd_same, (sm_new hgo).tup (SqT.of upd_same)⟩
    revert sgo pgo
    generalize upd (upd Hb tg (.tup ((nms.map (gOf e.2.2)).map V.int))) go (.tup [.str e.2.1, .ref tg]) = Hc
    intro sgo pgo
    have sC := sA.trans sgo
    have e1c := sgo _ _ e1
    refine ⟨_, rfl, .inl ⟨rfl, _, SqL.of e1c⟩, _, rfl, _, rfl, _, rfl, p, d, l, u, e.1, szs, ps, two, rfl, hp8.same sC, O, h4, h3, (hu8.same sC).sq, htm, her.1, fun Hd fa fd nms2 sD fAt perm2 sort2 LO => ?_⟩
    obtain rfl : nms2 = nms := sorted_one sort2 hsort (perm2.trans hperm.symm)
    have L := leastV_of (l := e.2.1) O htm hnm (fun z hz => (csok.get O hz).2) LO
    have e1d := sD _ _ e1c
    refine ⟨fa, fd, rfl, fAt, _, rfl, go, (e.2.1, nms2.map (gOf e.2.2)), rfl, pgo.same sD, fAt, lh, _, _, rfl, rfl, e1d, by rw [e3, sizeLine_eq]; omega, vals ++ [fdV fd (e.2.1, nms2.map (gOf e.2.2))], _, _, _, _, rfl, upd_same, ?_, by rw [List.length_append, e3]; rfl, (sC.trans sD).put hlh8⟩
    rw [take_snoc he]
    exact Paired.snoc e2 L
  rintro σ Ha ⟨vals, x11, x12, x13, x14, rfl, e1, e2, e3, sA⟩
  rw [List.length_map, usl, List.take_length] at e2
  -- the modulus
  refine ⟨_, rfl, _, rfl, p, d, l, u, szs, ps, two, rfl, hp8.same sA, O, (hu8.same sA).sq, htm, fun Hb m sB M => ?_⟩
  have sAB := sA.trans sB
  have e1b := sB _ _ e1
  obtain ⟨vf1, vf2⟩ := vals_flat e2
  obtain ⟨hx2, hy2⟩ := O.ends two htm
  have M' := mok_perm O q1 q2 hy2 hx2 M
  have htm' := q2.mem_iff.mpr htm
  have epr := pairS_rev O htm
  refine ⟨_, rfl, lh, vals, rfl, .inl (SqL.of e1b), rfl, vf1, _, rfl, ?_⟩
  show if inV V.non vals = true then _ else _
  rw [vf2]
  by_cases hnon : V.non ∈ vals
  · -- not due
    rw [decide_eq_true hnon]
    refine iteT ?_
    refine ⟨_, rfl, _, rfl, D, b, u, two.2, two.1, szs', ps', r0, tr, rfl, G8.same sAB, O', (hu8.same sAB).sq, by rw [epr]; exact htm', fun Hc v sC hv => ⟨_, rfl, ?_⟩⟩
    rcases told_plain O q1 q2 htm g2 hcs e2 (fun r hr => (g3 r hr).2) hv with ⟨rfl, _⟩ | ⟨n', is, m', _, _, ev, _⟩
    · exact .inl ⟨rfl, _, rfl, iteF ⟨_, _, _, _, _, _, _, _, rfl, sAB.trans sC⟩⟩
    · rw [ev] at hnon
      obtain ⟨_, _, z⟩ := List.mem_map.mp hnon
      cases z
  · rw [decide_eq_false hnon]
    obtain ⟨ks, hks⟩ := vals_ints e2 hnon
    refine iteF ⟨_, rfl, lh, ks, rfl, SqL.of (by rw [← hks]; exact e1b), _, rfl, fun n' dx hx hdx ne => ?_⟩
    refine ⟨n', dx, ks.sum, (m : Nat), rfl, upd_same, fun Hc sx N => ⟨rfl, ?_⟩⟩
    have sBc : Same Hb Hc := made_same hx hdx sx
    have sAc := sAB.trans sBc
    refine ⟨_, rfl, _, rfl, D, b, u, two.2, two.1, szs', ps', r0, tr, rfl, G8.same sAc, O', (hu8.same sAc).sq, by rw [epr]; exact htm', fun Hd v sD hv => ⟨_, rfl, ?_⟩⟩
    rcases told_plain O q1 q2 htm g2 hcs e2 (fun r hr => (g3 r hr).2) hv with ⟨_, h⟩ | ⟨n2, is, m', rfl, N2, ev, Mm⟩
    · exact absurd h hnon
    · have eis : is = ks := by
        rw [hks] at ev
        have inj : ∀ {l m : List Int}, l.map V.int = m.map V.int → l = m := by
          intro l
          induction l with
          | nil =>
            intro m h
            cases m with
            | nil => rfl
            | cons a b => cases h
          | cons a l ih =>
            intro m h
            cases m with
            | nil => cases h
            | cons a' m =>
              rw [List.map_cons, List.map_cons] at h
              injection h with h1 h2
              injection h1 with h1
              rw [h1, ih h2]
        exact (inj ev).symm
      have em : m' = m := mok_one Mm M'
      subst eis em
      obtain ⟨dx1, hn1⟩ := id N2
      obtain ⟨dx2, hn2⟩ := id N
      have N' := N.same sD
      refine .inr ⟨n2, dx1, _, n', dx2, _, rfl, hn1, rfl, sD _ _ hn2, n2, n', _, _, rfl, N2, N', fun He sE => ⟨true, rfl, _, rfl, iteF ⟨_, _, _, _, _, _, _, _, rfl, (sAc.trans sD).trans sE⟩⟩⟩
end
end Rd
set_option maxHeartbeats 0
/-! The end: the head's run, the law's walk. -/
namespace Rd
open PySem PySem.Spec PyProof.Rows L2 Gr
theorem facts {P : Program} {w : World} {K : PySem.W.Frag} {h : Heap} {mg : Str → Option Value} {f : Addr} (X : K.In h) (G : h.Ns mainGlobals mg) (hfa : mg ("law" : Str) = some (.ref f)) (L : Left K) :
    ∃ fd : FuncData, (∀ (s : Shared) (v : Value), BindsTo s fd ⟨[v], []⟩ [("_law_script", v)]) ∧ ∀ base : Heap, K.In base → base.Ns mainGlobals mg → FnOk P w K mg base CX0 20 f fd ["_law_script"] (spLaw K) := by
  obtain ⟨fd, F⟩ := L.fd_law
  have e := hfa.symm.trans (L.g_law X G)
  cases e
  have b := FunD.bindsA (ps := ["_law_script"]) F fun _ _ _ _ _ _ us hl => match us, hl with | [_], _ => rfl
  have F' : Fun K "law" "law" s_law (He.ga K "law") fd := He5.fun_of (kws := Rd.d_law.kws K) F
  exact ⟨fd, fun s v => b s [v] rfl, fun base hb hg => F'.ok sc_law (fun vs H Q E ⟨_, _, e, _⟩ => by rw [e]; rfl) fun cdv A outer s H vs Q E hr h => by
    obtain ⟨t, p, q⟩ := body_law (P := P) (w := w) (⟨L, hb, hg⟩ : Wd K mg base) cdv A outer s H vs Q E hr h
    exact ⟨t, p, q⟩⟩
end Rd
open PySem PySem.W PySem.Calls PyProof.Rows
theorem PySem.Challenge.cw_roomdials_k64_whole_least_totals_holds : PySem.Challenge.rw_roomdials_k64_whole_least_totals.Holds := by
  w_on; o_law
  refine HandSHeadRun.head_any (r := OpenLaw.row PySem.Challenge.rw_roomdials_k64_whole_least_totals) (q := view (OpenLaw.row PySem.Challenge.rw_roomdials_k64_whole_least_totals).prog [90]) (H := Rd.hook 5) (ob := Rd.seeT) (M := 30000) (loose := Rd.nms) (d := HandSHeadRun.topDef (OpenLaw.row PySem.Challenge.rw_roomdials_k64_whole_least_totals).prog 90) (kwd := []) Rd.seeT_eq
    (by kernel_rfl) (fun s => by kernel_rfl) Rd.topRuns (by kernel_rfl) (by kernel_rfl) (by kernel_rfl) (by rfl) (by first | assumption | decide +kernel) (by decide +kernel) ⟨rfl, rfl, rfl, rfl, rfl, by decide +kernel⟩ ?hw ?hc
  case hw => w_witness2
  case hc =>
    refine L2.walk_ofE (l := PySem.Challenge.rw_roomdials_k64_whole_least_totals) (n := 63) (k := 20) (x := "_law_script") (CX := L2.CX0) rfl (by decide) (by kernel_rfl) ⟨rfl, by decide, by decide⟩ ?F (fun _ _ _ _ z => z)
    intro w mg fa h Y G hmg0
    obtain ⟨K, KX, c⟩ := Y
    have hmg : mg ("law" : PySem.Str) = some (.ref fa) := by
      have e : (HandSHeadRun.topDef (OpenLaw.row PySem.Challenge.rw_roomdials_k64_whole_least_totals).prog 90).name = ("law" : PySem.Str) := by kernel_rfl
      rw [← e]
      exact hmg0
    obtain ⟨fd, hb, hF⟩ := Rd.facts (P := (PySem.Challenge.rw_roomdials_k64_whole_least_totals).prog) (w := w) KX G hmg c
    exact ⟨K, fd, Rd.spLaw K, KX, hb, fun H a ns hl _ hS => ⟨a, ns, rfl, hS, fun _ => rfl⟩, hF⟩
