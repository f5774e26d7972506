import PyProof.Rows.All
import Wide.All
import OpenK.AllK
import Wide.FinOn
import KE.KStateDown
import Lean
import HandS.Base
import HandS.Call
import HandS.Ends
import HandS.More
import HandS.Words
import HandS.WordsExc
import HandS.Defaults
import HandS.Head0
import HandS.Head1
import HandS.Head2
import HandS.HeadEnd
import HandS.HeadHook1
import HandS.HeadHook2
import HandS.ExcField
import HandS.ClsMeth
import HandS.ExcInit
import KE.KSuper
import HandS.ForMost
import HandS.Evl
import HandS.Walk
import HandS.Deep
import HandS.IsInst
import HandS.SetFor
import HandS.RevRange
import HandS.Star
import HandS.TupAny
import HandS.Conv
import KE.GoesMore
import HandS.SetBool
import HandS.Strs
import HandS.SetKeys
import HandS.Dict
import KE.KExcSuper
import HandS.ExcCtx
import HandS.ExcInitHot
import HandS.HotCalls
import HandS.FStr
import HandS.SuiteRaise
import HandS.Comp
import PyProof.FactsAll.list_3
import PyProof.FactsAll.list_4
import HandS.Style
import PySem.Challenge.RW_redolots_k77_whole_spoilers_of_least_log
set_option Elab.async false
set_option linter.all false
set_option maxRecDepth 100000
set_option maxHeartbeats 0
namespace H77
open PySem PySem.Spec PyProof.Rows L2
def top (i : Nat) : Stmt := PySem.Challenge.pw_redolots_k77_whole_spoilers_of_least_log.main.body.getD i (.Pass ⟨0, 0, 0, 0⟩)
abbrev s_wall : Stmt := top 0
abbrev s_check_image : Stmt := top 18
abbrev s_entry_sign : Stmt := top 19
abbrev s_look : Stmt := top 20
abbrev s_home : Stmt := top 21
abbrev s_has_guard_signs : Stmt := top 25
abbrev s_is_index : Stmt := top 26
abbrev s_is_guard : Stmt := top 27
abbrev s_check_line : Stmt := top 28
abbrev s_check_script : Stmt := top 29
abbrev s_sign_matches : Stmt := top 30
abbrev s_matches : Stmt := top 31
abbrev s_fires : Stmt := top 32
abbrev s_own_sources : Stmt := top 33
abbrev s_sources : Stmt := top 34
abbrev s_look_after : Stmt := top 35
abbrev s_copies : Stmt := top 37
abbrev s_pairs : Stmt := top 38
abbrev s_check_log : Stmt := top 39
abbrev s_origin_rows : Stmt := top 40
abbrev s_last_writes : Stmt := top 41
abbrev s_mattering : Stmt := top 42
abbrev s_idle_indexes : Stmt := top 43
abbrev s_check_goal : Stmt := top 45
abbrev s_changed_blocks : Stmt := top 46
abbrev s_homeless : Stmt := top 47
abbrev s_safe_log : Stmt := top 48
abbrev s_missing : Stmt := top 50
abbrev s_check_possible : Stmt := top 51
abbrev s_ring_from : Stmt := top 52
abbrev s_closed_rings : Stmt := top 53
abbrev s_fewest_copies : Stmt := top 54
abbrev s_ring_pairs : Stmt := top 55
abbrev s_free_blocks : Stmt := top 56
abbrev s_least_log : Stmt := top 57
abbrev s_is_number : Stmt := top 59
abbrev s_is_ascending : Stmt := top 60
abbrev s_is_simple : Stmt := top 61
abbrev s_line_steps : Stmt := top 62
abbrev s_first_place : Stmt := top 69
abbrev s_place_after : Stmt := top 70
abbrev s_step_sources : Stmt := top 71
abbrev s_graph : Stmt := top 72
abbrev s_first_steps : Stmt := top 73
abbrev s_takers_of : Stmt := top 75
abbrev s_carried : Stmt := top 76
abbrev s_value_tree : Stmt := top 77
abbrev s_undisturbed : Stmt := top 80
abbrev s_top_of : Stmt := top 82
abbrev s_mark_of : Stmt := top 83
abbrev s_late_of : Stmt := top 84
abbrev s_top_spoiler : Stmt := top 85
abbrev s_mark_spoiler : Stmt := top 86
abbrev s_late_spoiler : Stmt := top 87
abbrev s_top_run : Stmt := top 88
abbrev s_mark_run : Stmt := top 89
abbrev s_late_run : Stmt := top 90
abbrev s_spoiling_run : Stmt := top 91
abbrev s_is_safe : Stmt := top 92
abbrev s_strength : Stmt := top 93
abbrev s_law_box : Stmt := top 95
abbrev s_law_take : Stmt := top 96
abbrev s_law_whole : Stmt := top 97
abbrev s_law_row : Stmt := top 98
abbrev s_law_rings_goal : Stmt := top 99
abbrev s_law_goal : Stmt := top 100
abbrev s_law_closed : Stmt := top 101
abbrev s_law_pairs : Stmt := top 102
abbrev s_law_images : Stmt := top 103
abbrev s_law_top : Stmt := top 104
abbrev s_law_mark : Stmt := top 105
abbrev s_law_late : Stmt := top 106
abbrev s_law_further : Stmt := top 107
abbrev s_law_played : Stmt := top 108
abbrev s_law_spoilt : Stmt := top 109
abbrev s_law_unspoilt : Stmt := top 110
abbrev s_law_none : Stmt := top 111
abbrev s_law : Stmt := top 112
def dD (x : Str) (i : Nat) : He.DefD := ⟨(x, none), x, x, defArgs (top i), defBody (top i), defScope (top i), [], []⟩
end H77
set_option Elab.async false
set_option linter.all false
set_option maxRecDepth 100000
set_option maxHeartbeats 0
namespace H77
open PySem PySem.Spec PyProof.Rows L2
def fn0 : List He.DefD := [dD "check_image" 18, dD "home" 21, dD "is_index" 26, dD "is_guard" 27, dD "check_line" 28, dD "check_script" 29, dD "copies" 37, dD "pairs" 38, dD "check_log" 39, dD "origin_rows" 40, dD "last_writes" 41, dD "mattering" 42, dD "idle_indexes" 43, dD "check_goal" 45, dD "changed_blocks" 46, dD "homeless" 47, dD "safe_log" 48, dD "_missing" 50, dD "check_possible" 51, dD "_ring_from" 52, dD "closed_rings" 53, dD "fewest_copies" 54, dD "_ring_pairs" 55, dD "_free_blocks" 56, dD "least_log" 57, dD "undisturbed" 80, dD "_top_of" 82, dD "_mark_of" 83, dD "_late_of" 84, dD "top_spoiler" 85]
def fn1 : List He.DefD := [dD "mark_spoiler" 86, dD "late_spoiler" 87, dD "_top_run" 88, dD "_mark_run" 89, dD "_late_run" 90, dD "spoiling_run" 91, dD "strength" 93, dD "_law_box" 95, dD "_law_take" 96, dD "_law_whole" 97, dD "_law_row" 98, dD "_law_rings_goal" 99, dD "_law_goal" 100, dD "_law_closed" 101, dD "_law_pairs" 102, dD "_law_images" 103, dD "_law_top" 104, dD "_law_mark" 105, dD "_law_late" 106, dD "_law_further" 107, dD "_law_played" 108, dD "_law_spoilt" 109, dD "_law_unspoilt" 110, dD "_law_none" 111, dD "law" 112]
def fn : List He.DefD := fn0 ++ (fn1)
def fa0 : List He.Fa := [.glo "check_image", .glo "home", .glo "is_index", .glo "is_guard", .glo "check_line", .glo "check_script", .glo "copies", .glo "pairs", .glo "check_log", .glo "origin_rows", .glo "last_writes", .glo "mattering", .glo "idle_indexes", .glo "check_goal", .glo "changed_blocks", .glo "homeless", .glo "safe_log", .glo "_missing", .glo "check_possible", .glo "_ring_from", .glo "closed_rings", .glo "fewest_copies", .glo "_ring_pairs", .glo "_free_blocks", .glo "least_log", .glo "undisturbed", .glo "_top_of", .glo "_mark_of", .glo "_late_of", .glo "top_spoiler"]
def fa1 : List He.Fa := [.glo "mark_spoiler", .glo "late_spoiler", .glo "_top_run", .glo "_mark_run", .glo "_late_run", .glo "spoiling_run", .glo "strength", .glo "_law_box", .glo "_law_take", .glo "_law_whole", .glo "_law_row", .glo "_law_rings_goal", .glo "_law_goal", .glo "_law_closed", .glo "_law_pairs", .glo "_law_images", .glo "_law_top", .glo "_law_mark", .glo "_law_late", .glo "_law_further", .glo "_law_played", .glo "_law_spoilt", .glo "_law_unspoilt", .glo "_law_none", .glo "law"]
def fa2 : List He.Fa := [.free "len", .free "range", .free "enumerate", .free "tuple", .free "list", .free "isinstance", .free "sorted", .free "set", .free "min", .free "abs", .free "sum", .free "int", .free "bool", .free "str", .free "super", .int "EMPTY" (-1), .int "MOST_BLOCKS" 12, .int "MOST_VALUE" 999, .int "MOST_LINES" 60, .glo "NoLog", .exc "NoLog", .exm "NoLog" "NoLog" true, .glo "NoSafeLog", .exm "NoSafeLog" "NoSafeLog" true, .noat "NoSafeLog" "value", .glo "Rule"]
def fa : List He.Fa := fa0 ++ (fa1 ++ (fa2))
def nms0 : List Str := ["_wall", "RedoError", "InvalidRule", "UnknownPlace", "NoLog", "InvalidLine", "InvalidGoal", "NotPlain", "IdleLine", "InvalidImage", "TooMany", "NoSafeLog", "EMPTY", "MOST_BLOCKS", "MOST_VALUE", "VALUES_PER_KIND", "check_image", "entry_sign", "look", "home", "MOST_LINES", "GUARD_SIGNS", "has_guard_signs", "is_index", "is_guard", "check_line", "check_script", "sign_matches", "matches", "fires"]
def nms1 : List Str := ["own_sources", "sources", "look_after", "copies", "pairs", "check_log", "origin_rows", "last_writes", "mattering", "idle_indexes", "check_goal", "changed_blocks", "homeless", "safe_log", "_missing", "check_possible", "_ring_from", "closed_rings", "fewest_copies", "_ring_pairs", "_free_blocks", "least_log", "is_number", "is_ascending", "is_simple", "_line_steps", "Rule", "FromMark", "Late", "Either"]
def nms2 : List Str := ["PLACE_LIMIT", "first_place", "place_after", "step_sources", "graph", "first_steps", "takers_of", "carried", "value_tree", "Lots", "undisturbed", "_top_of", "_mark_of", "_late_of", "top_spoiler", "mark_spoiler", "late_spoiler", "_top_run", "_mark_run", "_late_run", "spoiling_run", "_is_safe", "strength", "_law_box", "_law_take", "_law_whole", "_law_row", "_law_rings_goal", "_law_goal", "_law_closed"]
def nms3 : List Str := ["_law_pairs", "_law_images", "_law_top", "_law_mark", "_law_late", "_law_further", "_law_played", "_law_spoilt", "_law_unspoilt", "_law_none"]
def nms : List Str := nms0 ++ (nms1 ++ (nms2 ++ (nms3)))
def ads0 : List Nat := [mainGlobals, 224, 223, 243, 242, 257, 256, 264, 263, 271, 270, 278, 277, 321, 320, 328, 327, 335, 334, 342, 341, 349, 348, 356, 355, 363, 362, 370, 369, 375]
def ads1 : List Nat := [374, 380, 379, 385, 384, 390, 389, 397, 396, 404, 403, 411, 410, 418, 417, 425, 424, 430, 429, 435, 434, 782, 781, 789, 788, 796, 795, 803, 802, 810]
def ads2 : List Nat := [809, 817, 816, 824, 823, 831, 830, 838, 837, 845, 844, 852, 851, 866, 865, 873, 872, 880, 879, 887, 886, 894, 893, 899, 898, 904, 903, 909, 908, 916]
def ads3 : List Nat := [915, 923, 922, 930, 929, 935, 934, 942, 941, 947, 946, 954, 953, 959, 958, 966, 965, 973, 972, 978, 977]
def ads4 : List Nat := [68, 67, 215, 214, 212, 211, 200, 31, 30, 518, 517, cStatics]
def ads : List Nat := ads0 ++ (ads1 ++ (ads2 ++ (ads3 ++ (ads4))))
def clsBody (s : Stmt) : List Stmt := match s with
  | .ClassDef _ _ _ b .. => b
  | _ => []
/-- NoSafeLog's __init__ -/
def s_init : Stmt := (clsBody (top 12)).getD 0 (.Pass ⟨0, 0, 0, 0⟩)
def nC (K : PySem.W.Frag) : Addr := He.ga K "NoSafeLog"
def nF (K : PySem.W.Frag) : Addr := He.ma K (nC K) "__init__"
def oexB (K : PySem.W.Frag) (C : Addr) : Bool := (match K.lookup C with
  | some ⟨.type t, _, .cls cd, sl⟩ => (match cd.mro, sl.toList with
    | .ref C' :: bm, [_, _, _, _, some (.builtin n), _] => decide (t = "type") && (decide (C' = C) && (decide (n = "ValueError.__new__") && (!cd.hasDel && (cd.hasDict && PySem.HandSPX.refsVE bm))))
    | _, _ => false)
  | _ => false) && (He.eqO (PySem.W.findIn K (.ref C) "__setattr__") (some (some (.builtin "object.__setattr__"))) && (decide (PySem.W.subIn K (.ref C) (.type "BaseException") = some true) && (decide (PySem.W.typeIn K (.ref C) = some (.type "type")) && PySem.W.keepIn K (.ref C))))
def ini1 (K : PySem.W.Frag) (f : Addr) : Bool := match K.lookup f with
  | some ⟨_, _, .func fd, _⟩ => (match fd.defaults with
    | .none => true
    | _ => false) && (match fd.code with
    | .ref a => decide (a = 211)
    | _ => false)
  | _ => false
def ini2 (K : PySem.W.Frag) (C : Addr) : Bool := match K.lookup 200 with
  | some ⟨_, _, .cell (some (.ref a)), _⟩ => decide (a = C)
  | _ => false
def ini3 (K : PySem.W.Frag) : Bool := match K.lookup 211 with
  | some ⟨_, _, .fields vs, _⟩ => (match (vs[2]? : Option Value) with
    | some (.str file _) => (PySem.Challenge.pw_redolots_k77_whole_spoilers_of_least_log.main.file : Str) == file
    | _ => false)
  | _ => false
def supB (K : PySem.W.Frag) : Bool := He.eqO (PySem.W.findIn K (.ref (nC K)) "__init__") (some (some (.ref (nF K)))) && (decide (PySem.W.typeIn K (.ref (nF K)) = some (.type "function")) && (ini1 K (nF K) && (PySem.W.codeIn K (.ref 211) "NoSafeLog.__init__" && (ini2 K (nC K) && (ini3 K && (decide (PySem.W.mroIn K (nC K) (.ref (nC K)) = some true) && (He.eqO (PySem.W.ks_superIn K (nC K) (nC K) "__init__") (some (some (.builtin "ValueError.__init__"))) && (decide (PySem.W.subIn K (.ref (nC K)) (.type "ValueError") = some true) && He.eqO (PySem.W.nsIn K cStatics "thirdparty.any") (some none)))))))))
def ruleB (K : PySem.W.Frag) : Bool := PySem.W.readsIn K (He.ga K "Rule") (.type "type") && (He.eqO (PySem.W.specialIn K (.ref (He.ga K "Rule")) "__getattribute__") (some (some (.builtin "type.__getattribute__"))) && (match PySem.W.findCls K (.ref (He.ga K "Rule")) (.type "type") "RESTART" with
  | some (.val (.int j _)) => decide (j = -1)
  | _ => false))
def xB (K : PySem.W.Frag) : Bool := oexB K (nC K) && (supB K && (ruleB K && xfB K (nC K)))
abbrev AlX : Type := He.AlD × Bool × He.FnW
def obsA (K : PySem.W.Frag) : AlX := (He.obsD fa fn K, xB K, He.fnW K ("NoSafeLog", some "__init__"))
def nslV : He.FnW := some (("__init__" : Str), ("NoSafeLog.__init__" : Str), defArgs s_init, FuncBody.stmts (defBody s_init), defScope s_init, mainGlobals, [(("__class__" : Str), (200 : Addr))], builtinsNs)
def valA : AlX := (He.valD fn, true, nslV)
def hk : PySem.W.Hook where
  α := AlX
  obs := fun s => obsA (He.frG s.heap.get? ads)
  val := fun _ => valA
  says := fun _ h => ∃ K : PySem.W.Frag, K.In h ∧ obsA K = valA
  of := fun _ _ e => ⟨_, He.frG_in, e⟩
  keeps := fun _ _ _ ⟨K, hK, c⟩ k => ⟨K, PySem.W.Frag.In.keeps hK k, c⟩
abbrev R : PySem.W.OpenRow := PySem.W.OpenLaw.row PySem.Challenge.rw_redolots_k77_whole_spoilers_of_least_log
def ob (s : PySem.W.SharedT) : AlX := obsA (He.frG (HandSHeadRun.getT s) ads)
theorem ob_eq (s : PySem.W.SharedT) : ob s = hk.obs s.abs := by
  have e : HandSHeadRun.getT s = s.abs.heap.get? := funext (HandSHeadRun.getT_eq s)
  unfold ob
  rw [e] <;> rfl
end H77
set_option Elab.async false
set_option maxRecDepth 100000
set_option maxHeartbeats 0
namespace H77
open PySem PySem.Spec PyProof.Rows L2 HandSHeadRun PySem.W
theorem run (w : World) : HandSHeadRun.RunEq R (PySem.W.view R.prog [112]) hk ob 20000 nms w := by
  intro os
  kernel_rfl
end H77
/-! Logs over numbered blocks in plain Lean: runs, flows, spoilers. -/
set_option linter.all false
namespace R77
abbrev Pr := Nat × Nat

/-- the line "t from s" -/
def stp (h : List Nat) (p : Pr) : List Nat := h.set p.1 (h.getD p.2 0)
def runL (log : List Pr) (h : List Nat) : List Nat := log.foldl stp h
abbrev home (n : Nat) : List Nat := List.range n
def img (log : List Pr) (n k : Nat) : List Nat := runL (log.take k) (home n)
def fin (log : List Pr) (n : Nat) : List Nat := runL log (home n)
def Okp (n : Nat) (p : Pr) : Prop := p.1 < n ∧ p.2 < n ∧ p.1 ≠ p.2
def OkL (n : Nat) (log : List Pr) : Prop := ∀ p ∈ log, Okp n p

theorem stp_len (h : List Nat) (p : Pr) : (stp h p).length = h.length := by simp [stp]
theorem runL_len : ∀ (log : List Pr) (h : List Nat), (runL log h).length = h.length
  | [], _ => rfl
  | p :: r, h => by rw [runL, List.foldl_cons, ← runL, runL_len r, stp_len]
theorem runL_nil (h : List Nat) : runL [] h = h := rfl
theorem runL_cons (p : Pr) (r : List Pr) (h : List Nat) : runL (p :: r) h = runL r (stp h p) := rfl
theorem runL_append (a b : List Pr) (h : List Nat) : runL (a ++ b) h = runL b (runL a h) := by simp [runL]
theorem img_len (log : List Pr) (n k : Nat) : (img log n k).length = n := by simp [img, runL_len]
theorem fin_len (log : List Pr) (n : Nat) : (fin log n).length = n := by simp [fin, runL_len]
theorem img_zero (log : List Pr) (n : Nat) : img log n 0 = home n := rfl
theorem img_end (log : List Pr) (n : Nat) : img log n log.length = fin log n := by simp [img, fin]
theorem img_succ {log : List Pr} {n k : Nat} (h : k < log.length) : img log n (k + 1) = stp (img log n k) (log[k]) := by
  unfold img
  rw [List.take_add_one, List.getElem?_eq_getElem h, runL_append]
  rfl

theorem getD_set (h : List Nat) (i v j : Nat) (hj : j < h.length) : (h.set i v).getD j 0 = if i = j then v else h.getD j 0 := by
  simp only [List.getD_eq_getElem?_getD, List.getElem?_set]
  by_cases e : i = j
  · subst e; simp [hj]
  · simp [e]
theorem stp_at (h : List Nat) (p : Pr) (j : Nat) (hj : j < h.length) : (stp h p).getD j 0 = if p.1 = j then h.getD p.2 0 else h.getD j 0 := getD_set h p.1 _ j hj
theorem home_at {n b : Nat} (h : b < n) : (home n).getD b 0 = b := by simp [List.getD_eq_getElem?_getD, h]

theorem ext_getD {a b : List Nat} (hl : a.length = b.length) (h : ∀ j, j < a.length → a.getD j 0 = b.getD j 0) : a = b := by
  apply List.ext_getElem hl
  intro i h1 h2
  have := h i h1
  simpa [List.getD_eq_getElem?_getD, h1, h2] using this
theorem mem_getD {l : List Nat} {v : Nat} : v ∈ l ↔ ∃ j, j < l.length ∧ l.getD j 0 = v := by
  rw [List.mem_iff_getElem]
  constructor
  · rintro ⟨i, h, e⟩
    exact ⟨i, h, by simp [List.getD_eq_getElem?_getD, h, e]⟩
  · rintro ⟨i, h, e⟩
    exact ⟨i, h, by simpa [List.getD_eq_getElem?_getD, h] using e⟩
theorem getD_mem {l : List Nat} {j : Nat} (h : j < l.length) : l.getD j 0 ∈ l := mem_getD.mpr ⟨j, h, rfl⟩

/-- entries are block numbers -/
def Lt (n : Nat) (h : List Nat) : Prop := ∀ v ∈ h, v < n
theorem Lt.at {n : Nat} {h : List Nat} (l : Lt n h) {j : Nat} (hj : j < h.length) : h.getD j 0 < n := l _ (getD_mem hj)
theorem lt_home (n : Nat) : Lt n (home n) := fun v hv => List.mem_range.mp hv
theorem lt_stp {n : Nat} {h : List Nat} (l : Lt n h) {p : Pr} (hp : p.2 < h.length) : Lt n (stp h p) := fun v hv => by
  rcases List.mem_or_eq_of_mem_set hv with hv | rfl
  · exact l v hv
  · exact l.at hp
theorem lt_run {n : Nat} : ∀ (log : List Pr) (h : List Nat), Lt n h → (∀ p ∈ log, p.2 < h.length) → Lt n (runL log h)
  | [], _, l, _ => l
  | p :: r, h, l, hp => by
    rw [runL_cons]
    exact lt_run r _ (lt_stp l (hp p List.mem_cons_self)) fun q hq => by rw [stp_len]; exact hp q (List.mem_cons_of_mem _ hq)
theorem OkL.take {n : Nat} {log : List Pr} (o : OkL n log) (k : Nat) : OkL n (log.take k) := fun p hp => o p (List.mem_of_mem_take hp)
theorem OkL.drop {n : Nat} {log : List Pr} (o : OkL n log) (k : Nat) : OkL n (log.drop k) := fun p hp => o p (List.mem_of_mem_drop hp)
theorem OkL.at {n : Nat} {log : List Pr} (o : OkL n log) {k : Nat} (h : k < log.length) : Okp n log[k] := o _ (List.getElem_mem h)
theorem lt_img {n : Nat} {log : List Pr} (o : OkL n log) (k : Nat) : Lt n (img log n k) := lt_run _ _ (lt_home n) fun p hp => by
  rw [List.length_range]; exact (o.take k p hp).2.1
theorem lt_fin {n : Nat} {log : List Pr} (o : OkL n log) : Lt n (fin log n) := lt_run _ _ (lt_home n) fun p hp => by
  rw [List.length_range]; exact (o p hp).2.1

/-- a run from any image follows its flow -/
theorem runL_map (f : Nat → Nat) : ∀ (log : List Pr) (j : List Nat), (∀ p ∈ log, p.2 < j.length) → runL log (j.map f) = (runL log j).map f
  | [], _, _ => rfl
  | p :: r, j, hp => by
    rw [runL_cons, runL_cons]
    have e : stp (j.map f) p = (stp j p).map f := by
      have h2 : p.2 < j.length := hp p List.mem_cons_self
      unfold stp
      rw [List.map_set]
      congr 1
      simp [List.getD_eq_getElem?_getD, h2]
    rw [e]
    exact runL_map f r _ fun q hq => by rw [stp_len]; exact hp q (List.mem_cons_of_mem _ hq)
theorem map_home {h : List Nat} : (home h.length).map (fun b => h.getD b 0) = h := by
  apply List.ext_getElem
  · simp
  · intro i h1 h2
    simp [List.getD_eq_getElem?_getD] at *
    simp [h2]
theorem run_flow {n : Nat} {log : List Pr} (o : OkL n log) {h : List Nat} (hl : h.length = n) : runL log h = (runL log (home n)).map fun b => h.getD b 0 := by
  subst hl
  conv => lhs; rw [← map_home (h := h)]
  exact runL_map _ _ _ fun p hp => by rw [List.length_range]; exact (o p hp).2.1
theorem run_at {n : Nat} {log : List Pr} (o : OkL n log) {h : List Nat} (hl : h.length = n) {x : Nat} (hx : x < n) : (runL log h).getD x 0 = h.getD ((runL log (home n)).getD x 0) 0 := by
  have e := run_flow o hl
  rw [e]
  have hx' : x < (runL log (home n)).length := by rw [runL_len, List.length_range]; exact hx
  simp [List.getD_eq_getElem?_getD, hx']
theorem split_run {log : List Pr} (k : Nat) (h : List Nat) : runL (log.drop k) (runL (log.take k) h) = runL log h := by
  rw [← runL_append, List.take_append_drop]
/-- the flow from a position -/
def flw (log : List Pr) (n k : Nat) : List Nat := runL (log.drop k) (home n)
theorem flw_len (log : List Pr) (n k : Nat) : (flw log n k).length = n := by simp [flw, runL_len]
theorem fin_of {n : Nat} {log : List Pr} (o : OkL n log) (k : Nat) {x : Nat} (hx : x < n) : (fin log n).getD x 0 = (img log n k).getD ((flw log n k).getD x 0) 0 := by
  unfold fin
  rw [← split_run k]
  exact run_at (o.drop k) (img_len log n k) hx
/-- what no line writes on stays -/
theorem run_keep : ∀ (log : List Pr) (h : List Nat) (b : Nat), b < h.length → (∀ p ∈ log, p.1 ≠ b) → (runL log h).getD b 0 = h.getD b 0
  | [], _, _, _, _ => rfl
  | p :: r, h, b, hb, hp => by
    rw [runL_cons, run_keep r _ b (by rw [stp_len]; exact hb) fun q hq => hp q (List.mem_cons_of_mem _ hq), stp_at h p b hb, if_neg (hp p List.mem_cons_self)]
theorem img_keep {log : List Pr} {n b i j : Nat} (hb : b < n) (hij : i ≤ j) (h : ∀ k, i ≤ k → k < j → (hk : k < log.length) → log[k].1 ≠ b) : (img log n j).getD b 0 = (img log n i).getD b 0 := by
  have e : log.take j = log.take i ++ (log.take j).drop i := by
    conv => lhs; rw [← List.take_append_drop i (log.take j)]
    rw [List.take_take, Nat.min_eq_left hij]
  unfold img
  rw [e, runL_append]
  refine run_keep _ _ b (by rw [runL_len, List.length_range]; exact hb) fun p hp => ?_
  obtain ⟨m, hm, rfl⟩ := List.mem_iff_getElem.mp hp
  rw [List.length_drop, List.length_take] at hm
  rw [List.getElem_drop, List.getElem_take]
  exact h (i + m) (by omega) (by omega) (by omega)

/-! ### the three spoilers -/
def topTest (log : List Pr) (n p b : Nat) : Bool := (img log n p).getD b 0 != b && (fin log n).contains b
def topOf (log : List Pr) (n : Nat) : Option (Nat × Nat) :=
  (List.range (log.length + 1)).findSome? fun p => ((List.range n).find? fun b => topTest log n p b).map fun b => (p, b)
def mattr (log : List Pr) (n p : Nat) : List Nat := (List.range n).filter fun b => (flw log n p).contains b
def tgt (log : List Pr) (k : Nat) : Nat := (log.getD k (0, 0)).1
def src (log : List Pr) (k : Nat) : Nat := (log.getD k (0, 0)).2
def markOf (log : List Pr) (n : Nat) : Option (Nat × Nat) :=
  (List.range log.length).findSome? fun k => ((List.range (k + 1)).find? fun p => (mattr log n p).contains (tgt log k)).map fun p => (p, k)
def lastW (log : List Pr) (n : Nat) : List Int := log.zipIdx.foldl (fun w q => w.set q.1.1 (q.2 : Int)) (List.replicate n (-1))
def lateTest (log : List Pr) (n k : Nat) : Bool :=
  decide ((lastW log n).getD (src log k) 0 ≥ (lastW log n).getD (tgt log k) 0) || (fin log n).getD (src log k) 0 != (fin log n).getD (tgt log k) 0
def lateOf (log : List Pr) (n : Nat) : Option Nat := (List.range log.length).find? fun k => lateTest log n k
def idle (log : List Pr) (n : Nat) : List Nat := (List.range log.length).filter fun k => (img log n k).getD (tgt log k) 0 == (img log n k).getD (src log k) 0

theorem tgt_eq {log : List Pr} {k : Nat} (h : k < log.length) : tgt log k = log[k].1 := by simp [tgt, List.getD_eq_getElem?_getD, h]
theorem src_eq {log : List Pr} {k : Nat} (h : k < log.length) : src log k = log[k].2 := by simp [src, List.getD_eq_getElem?_getD, h]
theorem mem_mattr {log : List Pr} {n p b : Nat} : b ∈ mattr log n p ↔ b < n ∧ b ∈ flw log n p := by simp [mattr]
theorem img_step {log : List Pr} {n k b : Nat} (h : k < log.length) (hb : b < n) : (img log n (k + 1)).getD b 0 = if tgt log k = b then (img log n k).getD (src log k) 0 else (img log n k).getD b 0 := by
  rw [img_succ h, stp_at _ _ _ (by rw [img_len]; exact hb), tgt_eq h, src_eq h]

/-! ### last writes -/
theorem lastW_snoc (log : List Pr) (n : Nat) (p : Pr) : lastW (log ++ [p]) n = (lastW log n).set p.1 (log.length : Int) := by
  unfold lastW
  rw [List.zipIdx_append, List.foldl_append]
  simp
theorem lastW_nil (n : Nat) : lastW [] n = List.replicate n (-1) := rfl
theorem lastW_len (log : List Pr) (n : Nat) : (lastW log n).length = n := by
  unfold lastW
  have : ∀ (l : List (Pr × Nat)) (w : List Int), (l.foldl (fun w q => w.set q.1.1 (q.2 : Int)) w).length = w.length := by
    intro l
    induction l with
    | nil => intro w; rfl
    | cons a r ih => intro w; rw [List.foldl_cons, ih, List.length_set]
  rw [this, List.length_replicate]
theorem getD_setI (h : List Int) (i : Nat) (v : Int) (j : Nat) (hj : j < h.length) : (h.set i v).getD j 0 = if i = j then v else h.getD j 0 := by
  simp only [List.getD_eq_getElem?_getD, List.getElem?_set]
  by_cases e : i = j
  · subst e; simp [hj]
  · simp [e]
/-- the last write of a block: no later line writes on it, and it is a line that does, or -1 -/
def IsLast (log : List Pr) (b : Nat) (z : Int) : Prop :=
  (∀ k, (hk : k < log.length) → log[k].1 = b → (k : Int) ≤ z) ∧ (z = -1 ∨ ∃ k, ∃ hk : k < log.length, log[k].1 = b ∧ z = (k : Int))
theorem lastW_is (n b : Nat) (hb : b < n) : ∀ (m : Nat) (log : List Pr), log.length = m → IsLast log b ((lastW log n).getD b 0)
  | 0, log, h => by
    have : log = [] := List.length_eq_zero_iff.mp h
    subst this
    refine ⟨fun k hk => by simp at hk, .inl ?_⟩
    simp [lastW_nil, List.getD_eq_getElem?_getD, hb]
  | m + 1, log, h => by
    have hne : log ≠ [] := by rintro rfl; simp at h
    have e : log = log.dropLast ++ [log.getLast hne] := (List.dropLast_concat_getLast hne).symm
    have hl : log.dropLast.length = m := by rw [List.length_dropLast]; omega
    have ih := lastW_is n b hb m log.dropLast hl
    generalize log.dropLast = d at *
    generalize log.getLast hne = p at *
    subst e
    rw [lastW_snoc, getD_setI _ _ _ _ (by rw [lastW_len]; exact hb)]
    by_cases hp : p.1 = b
    · rw [if_pos hp]
      refine ⟨fun k hk _ => by simp at hk; omega, .inr ⟨d.length, by simp, by simp [hp], rfl⟩⟩
    · rw [if_neg hp]
      obtain ⟨h1, h2⟩ := ih
      refine ⟨fun k hk e => ?_, ?_⟩
      · by_cases hk' : k < d.length
        · rw [List.getElem_append_left hk'] at e
          exact h1 k hk' e
        · have : k = d.length := by simp at hk; omega
          subst this
          simp at e
          exact absurd e hp
      · rcases h2 with h2 | ⟨k, hk, e1, e2⟩
        · exact .inl h2
        · refine .inr ⟨k, by simp; omega, ?_, e2⟩
          rw [List.getElem_append_left hk]
          exact e1
theorem last_is {n b : Nat} (hb : b < n) (log : List Pr) : IsLast log b ((lastW log n).getD b 0) := lastW_is n b hb _ log rfl
end R77
set_option linter.all false
namespace R77
/-! ### steps of runs -/
abbrev Stp := Int × Nat
def doStep (log : List Pr) (h : List Nat) (st : Stp) : List Nat := if 0 ≤ st.1 then stp h (log.getD st.1.toNat (0, 0)) else h
def endImg (log : List Pr) (h : List Nat) (run : List Stp) : List Nat := run.foldl (doStep log) h
def endPos (pos : Nat) (run : List Stp) : Nat := run.foldl (fun _ s => s.2) pos
def whole (L : Nat) : List Stp := (List.range L).map fun (i : Nat) => ((i : Int), i + 1)
inductive Word where
  | top | mark | late
def further (w : Word) (pos : Nat) : List Stp := match w with
  | .late => (List.range pos).map fun (r : Nat) => ((r : Int), pos)
  | .mark => (List.range pos).map fun (j : Nat) => ((-1 : Int), j)
  | .top => if 0 < pos then [((-1 : Int), 0)] else []
def okStep (w : Word) (L pos : Nat) (s : Stp) : Prop := (pos < L ∧ s = ((pos : Int), pos + 1)) ∨ s ∈ further w pos
def Follows (w : Word) (L : Nat) : Nat → List Stp → Prop
  | _, [] => True
  | pos, s :: r => okStep w L pos s ∧ Follows w L s.2 r

theorem endImg_append (log : List Pr) (h : List Nat) (a b : List Stp) : endImg log h (a ++ b) = endImg log (endImg log h a) b := by simp [endImg]
theorem endPos_append (p : Nat) (a b : List Stp) : endPos p (a ++ b) = endPos (endPos p a) b := by simp [endPos]
theorem follows_append {w : Word} {L : Nat} : ∀ {p : Nat} {a b : List Stp}, Follows w L p a → Follows w L (endPos p a) b → Follows w L p (a ++ b)
  | _, [], _, _, h => h
  | p, s :: r, b, h, h2 => ⟨h.1, follows_append h.2 h2⟩
theorem whole_len (L : Nat) : (whole L).length = L := by simp [whole]
theorem whole_at {L i : Nat} (h : i < L) : (whole L)[i]? = some ((i : Int), i + 1) := by simp [whole, h]
theorem doStep_line (log : List Pr) (h : List Nat) {k : Nat} (hk : k < log.length) (q : Nat) : doStep log h ((k : Int), q) = stp h log[k] := by
  simp [doStep, List.getD_eq_getElem?_getD, hk]
/-- the lines from p on -/
theorem whole_drop {log : List Pr} : ∀ (m p : Nat) (h : List Nat), p + m = log.length → endImg log h ((whole log.length).drop p) = runL (log.drop p) h ∧ endPos p ((whole log.length).drop p) = log.length ∧ ∀ w, Follows w log.length p ((whole log.length).drop p)
  | 0, p, h, e => by
    have e' : p = log.length := by omega
    subst e'
    rw [List.drop_of_length_le (by simp [whole]), List.drop_of_length_le (Nat.le_refl _)]
    exact ⟨rfl, rfl, fun _ => trivial⟩
  | m + 1, p, h, e => by
    have hp : p < log.length := by omega
    have ew : (whole log.length).drop p = ((p : Int), p + 1) :: (whole log.length).drop (p + 1) := by
      rw [List.drop_eq_getElem_cons (by rw [whole_len]; exact hp)]
      congr 1
      have := whole_at hp
      rw [List.getElem?_eq_getElem (by rw [whole_len]; exact hp)] at this
      exact Option.some.inj this
    obtain ⟨i1, i2, i3⟩ := whole_drop (log := log) m (p + 1) (stp h log[p]) (by omega)
    rw [ew, List.drop_eq_getElem_cons hp]
    refine ⟨?_, i2, fun w => ⟨.inl ⟨hp, rfl⟩, i3 w⟩⟩
    show endImg log (doStep log h ((p : Int), p + 1)) _ = _
    rw [doStep_line log h hp, i1]
    rfl
theorem whole_take {log : List Pr} {n : Nat} : ∀ (k : Nat), k ≤ log.length → endImg log (home n) ((whole log.length).take k) = img log n k ∧ endPos 0 ((whole log.length).take k) = k ∧ ∀ w, Follows w log.length 0 ((whole log.length).take k)
  | 0, _ => ⟨by simp [endImg, img, runL], rfl, fun _ => by rw [List.take_zero]; trivial⟩
  | k + 1, h => by
    have hk : k < log.length := h
    obtain ⟨i1, i2, i3⟩ := whole_take (log := log) (n := n) k (by omega)
    rw [List.take_add_one, whole_at hk]
    refine ⟨?_, ?_, fun w => follows_append (i3 w) ?_⟩
    · rw [endImg_append, i1, img_succ hk]
      show doStep log (img log n k) ((k : Int), k + 1) = _
      rw [doStep_line log _ hk]
    · rw [endPos_append]
      rfl
    · rw [i2]
      exact ⟨.inl ⟨hk, rfl⟩, trivial⟩
theorem whole_all {log : List Pr} (h : List Nat) : endImg log h (whole log.length) = runL log h ∧ endPos 0 (whole log.length) = log.length ∧ ∀ w, Follows w log.length 0 (whole log.length) := by
  have := whole_drop (log := log) log.length 0 h (by omega)
  simpa using this

/-- a complete run that ends elsewhere -/
structure Spoils (w : Word) (log : List Pr) (n : Nat) (run : List Stp) : Prop where
  follows : Follows w log.length 0 run
  ends : endPos 0 run = log.length
  wrong : endImg log (home n) run ≠ fin log n

def topRun (log : List Pr) (n : Nat) : Option (List Stp) := (topOf log n).map fun q => (whole log.length).take q.1 ++ [((-1 : Int), 0)] ++ whole log.length
def markRun (log : List Pr) (n : Nat) : Option (List Stp) := (markOf log n).map fun q => (whole log.length).take (q.2 + 1) ++ [((-1 : Int), q.1)] ++ (whole log.length).drop q.1
def latePos (log : List Pr) (n k : Nat) : Nat := if (fin log n).getD (src log k) 0 = (fin log n).getD (tgt log k) 0 then ((lastW log n).getD (src log k) 0).toNat else log.length
def lateRun (log : List Pr) (n : Nat) : Option (List Stp) := (lateOf log n).map fun k => (whole log.length).take (latePos log n k) ++ [((k : Int), latePos log n k)] ++ (whole log.length).drop (latePos log n k)

def Busy (log : List Pr) (n : Nat) : Prop := ∀ k, k < log.length → (img log n k).getD (tgt log k) 0 ≠ (img log n k).getD (src log k) 0

/-! ### what the searches find -/
theorem topOf_some {log : List Pr} {n p b : Nat} (h : topOf log n = some (p, b)) : p ≤ log.length ∧ b < n ∧ topTest log n p b = true := by
  unfold topOf at h
  obtain ⟨q, hq, e⟩ := List.exists_of_findSome?_eq_some h
  cases e2 : (List.range n).find? fun b => topTest log n q b with
  | none => rw [e2] at e; cases e
  | some c =>
    rw [e2] at e
    have : q = p ∧ c = b := by simpa using e
    obtain ⟨rfl, rfl⟩ := this
    exact ⟨by have := List.mem_range.mp hq; omega, List.mem_range.mp (List.mem_of_find?_eq_some e2), by simpa using List.find?_some e2⟩
theorem topOf_none {log : List Pr} {n : Nat} : topOf log n = none ↔ ∀ p b, p ≤ log.length → b < n → topTest log n p b = false := by
  unfold topOf
  rw [List.findSome?_eq_none_iff]
  constructor
  · intro h p b hp hb
    have := h p (List.mem_range.mpr (by omega))
    rw [Option.map_eq_none_iff, List.find?_eq_none] at this
    simpa using this b (List.mem_range.mpr hb)
  · intro h p hp
    rw [Option.map_eq_none_iff, List.find?_eq_none]
    intro b hb
    simp [h p b (by have := List.mem_range.mp hp; omega) (List.mem_range.mp hb)]
theorem markOf_none {log : List Pr} {n : Nat} : markOf log n = none ↔ ∀ k p, k < log.length → p ≤ k → (mattr log n p).contains (tgt log k) = false := by
  unfold markOf
  rw [List.findSome?_eq_none_iff]
  constructor
  · intro h k p hk hp
    have := h k (List.mem_range.mpr hk)
    rw [Option.map_eq_none_iff, List.find?_eq_none] at this
    simpa using this p (List.mem_range.mpr (by omega))
  · intro h k hk
    rw [Option.map_eq_none_iff, List.find?_eq_none]
    intro p hp
    rw [h k p (List.mem_range.mp hk) (by have := List.mem_range.mp hp; omega)]
    exact Bool.false_ne_true
theorem findSome_range {α : Type} {f : Nat → Option α} {L : Nat} {a : α} (h : (List.range L).findSome? f = some a) : ∃ k, k < L ∧ f k = some a ∧ ∀ j, j < k → f j = none := by
  induction L with
  | zero => simp at h
  | succ L ih =>
    rw [List.range_succ, List.findSome?_append] at h
    cases e : (List.range L).findSome? f with
    | some b =>
      rw [e] at h
      have : b = a := by simpa using h
      subst this
      obtain ⟨k, h1, h2, h3⟩ := ih e
      exact ⟨k, by omega, h2, h3⟩
    | none =>
      rw [e] at h
      have h2 : f L = some a := by
        cases q : f L with
        | none => simp [List.findSome?, q] at h
        | some b => simpa [List.findSome?, q] using h
      refine ⟨L, by omega, h2, fun j hj => ?_⟩
      exact List.findSome?_eq_none_iff.mp e j (List.mem_range.mpr hj)
theorem find_range {f : Nat → Bool} {L k : Nat} (h : (List.range L).find? f = some k) : k < L ∧ f k = true ∧ ∀ j, j < k → f j = false := by
  induction L with
  | zero => simp at h
  | succ L ih =>
    rw [List.range_succ, List.find?_append] at h
    cases e : (List.range L).find? f with
    | some b =>
      rw [e] at h
      have : b = k := by simpa using h
      subst this
      obtain ⟨h1, h2, h3⟩ := ih e
      exact ⟨by omega, h2, h3⟩
    | none =>
      rw [e] at h
      have h2 : f L = true ∧ L = k := by
        by_cases q : f L = true
        · simp [List.find?, q] at h; exact ⟨q, h⟩
        · simp [List.find?, q] at h
      obtain ⟨h2, rfl⟩ := h2
      refine ⟨by omega, h2, fun j hj => ?_⟩
      have := List.find?_eq_none.mp e j (List.mem_range.mpr hj)
      simpa using this
theorem markOf_some {log : List Pr} {n p k : Nat} (h : markOf log n = some (p, k)) : k < log.length ∧ p ≤ k ∧ tgt log k ∈ mattr log n p ∧ (∀ q, q < p → tgt log k ∉ mattr log n q) ∧ ∀ j q, j < k → q ≤ j → tgt log j ∉ mattr log n q := by
  unfold markOf at h
  obtain ⟨j, hj, e, hno⟩ := findSome_range h
  cases e2 : (List.range (j + 1)).find? fun p => (mattr log n p).contains (tgt log j) with
  | none => rw [e2] at e; cases e
  | some q =>
    rw [e2] at e
    have : q = p ∧ j = k := by simpa using e
    obtain ⟨rfl, rfl⟩ := this
    obtain ⟨h1, h2, h3⟩ := find_range e2
    refine ⟨hj, by omega, by simpa using h2, fun r hr => by simpa using h3 r hr, fun i r hi hr => ?_⟩
    have := hno i hi
    rw [Option.map_eq_none_iff, List.find?_eq_none] at this
    simpa using this r (List.mem_range.mpr (by omega))

/-! ### the runs of spoilers end elsewhere -/
theorem top_spoils {log : List Pr} {n : Nat} (o : OkL n log) {run : List Stp} (h : topRun log n = some run) : Spoils .top log n run := by
  unfold topRun at h
  cases e : topOf log n with
  | none => rw [e] at h; cases h
  | some q =>
    obtain ⟨p, b⟩ := q
    rw [e] at h
    have er := Option.some.inj h
    obtain ⟨hp, hb, ht⟩ := topOf_some e
    unfold topTest at ht
    have ht2 : (img log n p).getD b 0 ≠ b ∧ b ∈ fin log n := by simpa using ht
    obtain ⟨h1, h2⟩ := ht2
    have hp0 : 0 < p := by
      rcases Nat.eq_zero_or_pos p with rfl | z
      · exact absurd (home_at hb) h1
      · exact z
    obtain ⟨a1, a2, a3⟩ := whole_take (n := n) p hp
    obtain ⟨b1, b2, b3⟩ := whole_all (log := log) (img log n p)
    subst er
    refine ⟨?_, ?_, ?_⟩
    · refine follows_append (follows_append (a3 _) ?_) ?_
      · rw [a2]
        refine ⟨.inr ?_, trivial⟩
        simp [further, hp0]
      · rw [endPos_append, a2]
        exact b3 _
    · rw [endPos_append, endPos_append]
      exact b2
    · rw [endImg_append, endImg_append, a1]
      show endImg log (img log n p) (whole log.length) ≠ _
      rw [b1]
      intro z
      obtain ⟨x, hx, ex⟩ := mem_getD.mp h2
      rw [fin_len] at hx
      have q := run_at o (img_len log n p) hx
      rw [z] at q
      rw [show runL log (home n) = fin log n from rfl, ex] at q
      exact h1 q.symm
theorem mark_spoils {log : List Pr} {n : Nat} (o : OkL n log) (bz : Busy log n) {run : List Stp} (h : markRun log n = some run) : Spoils .mark log n run := by
  unfold markRun at h
  cases e : markOf log n with
  | none => rw [e] at h; cases h
  | some q =>
    obtain ⟨p, k⟩ := q
    rw [e] at h
    have er := Option.some.inj h
    obtain ⟨hk, hp, hm, _, hno⟩ := markOf_some e
    obtain ⟨a1, a2, a3⟩ := whole_take (n := n) (k + 1) hk
    obtain ⟨b1, b2, b3⟩ := whole_drop (log := log) (log.length - p) p (img log n (k + 1)) (by omega)
    subst er
    refine ⟨?_, ?_, ?_⟩
    · refine follows_append (follows_append (a3 _) ?_) ?_
      · rw [a2]
        refine ⟨.inr ?_, trivial⟩
        simp [further]
        omega
      · rw [endPos_append, a2]
        exact b3 _
    · rw [endPos_append, endPos_append]
      exact b2
    · rw [endImg_append, endImg_append, a1]
      show endImg log (img log n (k + 1)) ((whole log.length).drop p) ≠ _
      rw [b1]
      intro z
      obtain ⟨ht, hx⟩ := mem_mattr.mp hm
      obtain ⟨x, hx, ex⟩ := mem_getD.mp hx
      rw [flw_len] at hx
      have q := run_at (o.drop p) (img_len log n (k + 1)) hx
      rw [z, fin_of o p hx] at q
      rw [show runL (log.drop p) (home n) = flw log n p from rfl, ex, img_step hk ht, if_pos rfl] at q
      have keep : (img log n k).getD (tgt log k) 0 = (img log n p).getD (tgt log k) 0 := img_keep ht hp fun j h1 h2 h3 z => by
        refine hno j p h2 h1 ?_
        rw [tgt_eq h3, z]
        exact hm
      exact bz k hk (keep.trans q)
theorem late_spoils {log : List Pr} {n : Nat} (o : OkL n log) (bz : Busy log n) {run : List Stp} (h : lateRun log n = some run) : Spoils .late log n run := by
  unfold lateRun at h
  cases e : lateOf log n with
  | none => rw [e] at h; cases h
  | some k =>
    rw [e] at h
    simp only [Option.map_some, Option.some.injEq] at h
    have er := h
    obtain ⟨hk, ht, _⟩ := find_range e
    obtain ⟨ot, os, ne⟩ := o.at hk
    rw [← tgt_eq hk] at ot ne
    rw [← src_eq hk] at os ne
    unfold lateTest at ht
    obtain ⟨t1, t2⟩ := last_is ot log
    obtain ⟨s1, s2⟩ := last_is os log
    have kt := t1 k hk (tgt_eq hk).symm
    -- the position
    have main : k < latePos log n k ∧ latePos log n k ≤ log.length ∧ (runL (log.drop (latePos log n k)) (stp (img log n (latePos log n k)) log[k])).getD (tgt log k) 0 ≠ (fin log n).getD (tgt log k) 0 := by
      unfold latePos
      by_cases c : (fin log n).getD (src log k) 0 = (fin log n).getD (tgt log k) 0
      · rw [if_pos c]
        have ge : (lastW log n).getD (src log k) 0 ≥ (lastW log n).getD (tgt log k) 0 := by
          rcases Bool.or_eq_true_iff.mp ht with z | z
          · exact of_decide_eq_true z
          · rw [c] at z; simp at z
        rcases s2 with s2 | ⟨j, hj, ej, ez⟩
        · omega
        · have ez' : ((lastW log n).getD (src log k) 0).toNat = j := by omega
          rw [ez']
          have nt : ∀ i, j ≤ i → (hi : i < log.length) → log[i].1 ≠ tgt log k := fun i h1 h2 h3 => by
            have q1 := t1 i h2 h3
            have : i = j := by omega
            subst this
            rw [ej] at h3
            exact ne h3.symm
          have lt : k < j := by
            rcases Nat.lt_trichotomy k j with z | z | z
            · exact z
            · subst z
              exact absurd (tgt_eq hk).symm (nt k (Nat.le_refl _) hk)
            · exact absurd (tgt_eq hk).symm (nt k (Nat.le_of_lt z) hk)
          refine ⟨lt, by omega, ?_⟩
          have e1 : (runL (log.drop j) (stp (img log n j) log[k])).getD (tgt log k) 0 = (img log n j).getD (src log k) 0 := by
            rw [run_keep _ _ _ (by rw [stp_len, img_len]; exact ot) fun p hp => ?_]
            · rw [stp_at _ _ _ (by rw [img_len]; exact ot), ← tgt_eq hk, ← src_eq hk, if_pos rfl]
            · obtain ⟨m, hm, rfl⟩ := List.mem_iff_getElem.mp hp
              rw [List.length_drop] at hm
              rw [List.getElem_drop]
              exact nt (j + m) (by omega) (by omega)
          have e2 : (fin log n).getD (src log k) 0 = (img log n (j + 1)).getD (src log k) 0 := by
            rw [← img_end]
            exact img_keep os (by omega) fun i h1 h2 h3 z => by
              have := s1 i h3 z
              omega
          rw [e1, ← c, e2, img_step hj os, tgt_eq hj, if_pos ej]
          have := bz j hj
          rw [tgt_eq hj, ej] at this
          exact this
      · rw [if_neg c]
        refine ⟨hk, Nat.le_refl _, ?_⟩
        rw [List.drop_of_length_le (Nat.le_refl _), runL_nil, stp_at _ _ _ (by rw [img_len]; exact ot), ← tgt_eq hk, ← src_eq hk, if_pos rfl, img_end]
        exact c
    subst er
    generalize latePos log n k = pos at *
    obtain ⟨m1, m2, m3⟩ := main
    obtain ⟨a1, a2, a3⟩ := whole_take (n := n) pos m2
    obtain ⟨b1, b2, b3⟩ := whole_drop (log := log) (log.length - pos) pos (stp (img log n pos) log[k]) (by omega)
    refine ⟨?_, ?_, ?_⟩
    · refine follows_append (follows_append (a3 _) ?_) ?_
      · rw [a2]
        refine ⟨.inr ?_, trivial⟩
        simp only [further, List.mem_map, List.mem_range]
        exact ⟨k, m1, rfl⟩
      · rw [endPos_append, a2]
        exact b3 _
    · rw [endPos_append, endPos_append]
      exact b2
    · rw [endImg_append, endImg_append, a1]
      show endImg log (doStep log (img log n pos) ((k : Int), pos)) ((whole log.length).drop pos) ≠ _
      rw [doStep_line log _ hk, b1]
      intro z
      exact m3 (by rw [z])

/-! ### unsafe goals have spoilers -/
def Away (g : List Nat) (v : Nat) : Prop := v ∈ g ∧ g.getD v 0 ≠ v
theorem top_of_away {log : List Pr} {n v : Nat} (o : OkL n log) (a : Away (fin log n) v) : topOf log n ≠ none := fun z => by
  have hv : v < n := lt_fin o v a.1
  have := topOf_none.mp z log.length v (Nat.le_refl _) hv
  unfold topTest at this
  rw [img_end] at this
  have h1 := a.2
  have h2 := a.1
  simp [h2] at this
  exact h1 this
theorem mark_of_away {log : List Pr} {n v : Nat} (o : OkL n log) (a : Away (fin log n) v) : markOf log n ≠ none := fun z => by
  have hv : v < n := lt_fin o v a.1
  have h := markOf_none.mp z
  refine a.2 ?_
  rw [← img_end, img_keep hv (Nat.zero_le _) fun k h1 h2 h3 e => ?_]
  · exact home_at hv
  · have := h k 0 h3 (Nat.zero_le _)
    rw [tgt_eq h3, e] at this
    have hm : v ∈ mattr log n 0 := mem_mattr.mpr ⟨hv, a.1⟩
    simp [hm] at this
theorem late_of_away {log : List Pr} {n v : Nat} (o : OkL n log) (a : Away (fin log n) v) : lateOf log n ≠ none := fun z => by
  have hv : v < n := lt_fin o v a.1
  unfold lateOf at z
  rw [List.find?_eq_none] at z
  have same : ∀ k, k < log.length → (fin log n).getD (src log k) 0 = (fin log n).getD (tgt log k) 0 := fun k hk => by
    have := z k (List.mem_range.mpr hk)
    unfold lateTest at this
    simp at this
    exact this.2
  have key : ∀ k, k ≤ log.length → ∀ b, b < n → (fin log n).getD ((img log n k).getD b 0) 0 = (fin log n).getD b 0 := by
    intro k
    induction k with
    | zero => intro _ b hb; rw [img_zero, home_at hb]
    | succ k ih =>
      intro hk b hb
      rw [img_step hk hb]
      by_cases c : tgt log k = b
      · rw [if_pos c, ih (by omega) _ (by rw [src_eq hk]; exact (o.at hk).2.1), same k hk, c]
      · rw [if_neg c]
        exact ih (by omega) b hb
  obtain ⟨x, hx, ex⟩ := mem_getD.mp a.1
  rw [fin_len] at hx
  have := key log.length (Nat.le_refl _) x hx
  rw [img_end, ex] at this
  exact a.2 this
end R77
set_option linter.all false
namespace R77
theorem nodup_le : ∀ (n : Nat) (l : List Nat), l.Nodup → (∀ x ∈ l, x < n) → l.length ≤ n
  | 0, l, _, h => by
    cases l with
    | nil => simp
    | cons a l => exact absurd (h a List.mem_cons_self) (Nat.not_lt_zero _)
  | n + 1, l, nd, h => by
    have ih := nodup_le n (l.erase n) (nd.erase n) (fun x hx => by
      have h1 := (List.Nodup.mem_erase_iff nd).mp hx
      have := h x h1.2
      have := h1.1
      omega)
    by_cases hm : n ∈ l
    · have := List.length_erase_of_mem hm
      omega
    · rw [List.erase_of_not_mem hm] at ih
      omega
theorem count_one {g : List Nat} {v i j : Nat} (h : g.count v = 1) (hi : g[i]? = some v) (hj : g[j]? = some v) : i = j := by
  have key : ∀ {i j : Nat}, i < j → g[i]? = some v → g[j]? = some v → False := fun {i j} hij hi hj => by
    have e : g.count v = (g.take (i + 1)).count v + (g.drop (i + 1)).count v := by
      rw [← List.count_append, List.take_append_drop]
    have h1 : 0 < (g.take (i + 1)).count v := List.count_pos_iff.mpr (List.mem_of_getElem? (i := i) (by rw [List.getElem?_take_of_lt (by omega)]; exact hi))
    have h2 : 0 < (g.drop (i + 1)).count v := List.count_pos_iff.mpr (List.mem_of_getElem? (i := j - (i + 1)) (by rw [List.getElem?_drop, show i + 1 + (j - (i + 1)) = j by omega]; exact hj))
    omega
  rcases Nat.lt_trichotomy i j with z | z | z
  · exact (key z hi hj).elim
  · exact z
  · exact (key z hj hi).elim
/-! the way from a block -/
def ringBl (g : List Nat) (start : Nat) : Nat → Nat
  | 0 => g.getD start 0
  | i + 1 => g.getD (ringBl g start i) 0
def ringOn (g : List Nat) (start i : Nat) : Bool := decide (start < ringBl g start i) && decide (g.count (ringBl g start i) = 1)
theorem getD_some {g : List Nat} {i : Nat} (h : i < g.length) : g[i]? = some (g.getD i 0) := by simp [List.getD_eq_getElem?_getD, h]
theorem bl_lt {g : List Nat} {start : Nat} (lt : ∀ v ∈ g, v < g.length) (hs : start < g.length) : ∀ i, ringBl g start i < g.length
  | 0 => lt _ (getD_mem hs)
  | i + 1 => lt _ (getD_mem (bl_lt lt hs i))
theorem bl_inj {g : List Nat} {start n : Nat} (lt : ∀ v ∈ g, v < g.length) (hs : start < g.length) (on : ∀ i, i ≤ n → ringOn g start i = true) : ∀ i j, i < j → j ≤ n → ringBl g start i ≠ ringBl g start j
  | 0, j, hij, hj, e => by
    obtain ⟨j, rfl⟩ : ∃ k, j = k + 1 := ⟨j - 1, by omega⟩
    have o := on 0 (by omega)
    unfold ringOn at o
    rw [Bool.and_eq_true, decide_eq_true_eq, decide_eq_true_eq] at o
    have o2 := on j (by omega)
    unfold ringOn at o2
    rw [Bool.and_eq_true, decide_eq_true_eq, decide_eq_true_eq] at o2
    have := count_one o.2 (i := start) (j := ringBl g start j) (getD_some hs) (by rw [e]; exact getD_some (bl_lt lt hs j))
    omega
  | i + 1, j, hij, hj, e => by
    obtain ⟨j, rfl⟩ : ∃ k, j = k + 1 := ⟨j - 1, by omega⟩
    have o := on (i + 1) (by omega)
    unfold ringOn at o
    rw [Bool.and_eq_true, decide_eq_true_eq, decide_eq_true_eq] at o
    have := count_one o.2 (i := ringBl g start i) (j := ringBl g start j) (getD_some (bl_lt lt hs i)) (by rw [e]; exact getD_some (bl_lt lt hs j))
    exact bl_inj lt hs on i j (by omega) (by omega) this
theorem ring_ends {g : List Nat} {start : Nat} (lt : ∀ v ∈ g, v < g.length) (hs : start < g.length) : ∃ N, N ≤ g.length ∧ ringOn g start N = false ∧ ∀ i, i < N → ringOn g start i = true := by
  have ex : ∃ i, i ≤ g.length ∧ ringOn g start i = false := by
    refine Classical.byContradiction fun hn => ?_
    have on : ∀ i, i ≤ g.length → ringOn g start i = true := fun i hi => by
      cases e : ringOn g start i with
      | true => rfl
      | false => exact absurd ⟨i, hi, e⟩ hn
    have nd : ((List.range (g.length + 1)).map (ringBl g start)).Nodup := by
      rw [List.nodup_iff_pairwise_ne, List.pairwise_map]
      refine List.pairwise_lt_range.imp_of_mem fun {a b} ha hb hab => bl_inj lt hs on a b hab ?_
      have := List.mem_range.mp hb
      omega
    have := nodup_le g.length _ nd (fun x hx => by
      obtain ⟨i, _, rfl⟩ := List.mem_map.mp hx
      exact bl_lt lt hs i)
    rw [List.length_map, List.length_range] at this
    omega
  obtain ⟨M, hM, h⟩ := ex
  have key : ∀ M, ringOn g start M = false → ∃ N, N ≤ M ∧ ringOn g start N = false ∧ ∀ i, i < N → ringOn g start i = true := by
    intro M
    induction M using Nat.strongRecOn with
    | _ M ih =>
      intro h
      by_cases all : ∀ i, i < M → ringOn g start i = true
      · exact ⟨M, Nat.le_refl _, h, all⟩
      · have : ∃ i, i < M ∧ ringOn g start i = false := by
          refine Classical.byContradiction fun hn => all fun i hi => ?_
          cases e : ringOn g start i with
          | true => rfl
          | false => exact absurd ⟨i, hi, e⟩ hn
        obtain ⟨i, hi, e⟩ := this
        obtain ⟨N, h1, h2, h3⟩ := ih i hi e
        exact ⟨N, by omega, h2, h3⟩
  obtain ⟨N, h1, h2, h3⟩ := key M h
  exact ⟨N, by omega, h2, h3⟩
def ringN (g : List Nat) (start : Nat) : Nat := ((List.range (g.length + 1)).find? fun i => !ringOn g start i).getD 0
theorem ringN_is {g : List Nat} {start : Nat} (lt : ∀ v ∈ g, v < g.length) (hs : start < g.length) : ringN g start ≤ g.length ∧ ringOn g start (ringN g start) = false ∧ ∀ i, i < ringN g start → ringOn g start i = true := by
  obtain ⟨N, h1, h2, h3⟩ := ring_ends lt hs
  have e : (List.range (g.length + 1)).find? (fun i => !ringOn g start i) = some N := by
    rw [List.find?_eq_some_iff_getElem]
    refine ⟨by rw [h2]; rfl, N, by rw [List.length_range]; omega, by simp, fun j hj => ?_⟩
    simp [h3 j hj]
  have e2 : ringN g start = N := by unfold ringN; rw [e]; rfl
  rw [e2]
  exact ⟨h1, h2, h3⟩
def ringRow (g : List Nat) (start m : Nat) : List Nat := start :: (List.range m).map (ringBl g start)
def ringFrom (g : List Nat) (start : Nat) : Option (List Nat) :=
  if ringBl g start (ringN g start) = start ∧ 0 < ringN g start ∧ g.count start = 1 then some (ringRow g start (ringN g start)) else none
def rings (g : List Nat) : List (List Nat) := (List.range g.length).filterMap (ringFrom g)
end R77
set_option linter.all false
namespace R77
theorem idx_facts {v : Nat} : ∀ {l : List Nat}, v ∈ l → l[l.idxOf v]? = some v ∧ ∀ m, m < l.idxOf v → l[m]? ≠ some v
  | [], h => by simp at h
  | a :: l, h => by
    rw [List.idxOf_cons]
    by_cases e : a = v
    · subst e
      simp
    · have e2 : (a == v) = false := by simpa using e
      rw [e2]
      have hm : v ∈ l := by
        rcases List.mem_cons.mp h with z | z
        · exact absurd z.symm e
        · exact z
      obtain ⟨h1, h2⟩ := idx_facts hm
      refine ⟨by simpa using h1, fun m hmm => ?_⟩
      cases m with
      | zero => simpa using e
      | succ m => simpa using h2 m (by simpa using hmm)
def ringPairs (r : List Nat) (s : Nat) : List Pr := (s, r.getD 0 0) :: (List.range (r.length - 1)).map (fun i => (r.getD i 0, r.getD (i + 1) 0)) ++ [(r.getD (r.length - 1) 0, s)]
def freeL (g held wt : List Nat) : List Nat := wt.filter fun b => !(wt.map fun c => g.getD c 0).contains b || decide (1 < held.count b)
def spare (g : List Nat) : Nat := (missL' g).getD 0 0
where missL' (g : List Nat) : List Nat := (List.range g.length).filter fun v => !g.contains v
def ringEnt (g : List Nat) : List Pr := (rings g).flatMap fun r => ringPairs r (spare g)
structure LS where
  ent : List Pr
  held : List Nat
  wt : List Nat
def pick (g : List Nat) (s : LS) : Nat := (freeL g s.held s.wt).getD 0 0
def stepL (g : List Nat) (s : LS) : LS := ⟨s.ent ++ [(pick g s, s.held.idxOf (g.getD (pick g s) 0))], s.held.set (pick g s) (g.getD (pick g s) 0), s.wt.eraseIdx (s.wt.idxOf (pick g s))⟩
def initL (g : List Nat) : LS := ⟨ringEnt g, fin (ringEnt g) g.length, (List.range g.length).filter fun b => !decide ((fin (ringEnt g) g.length).getD b 0 = g.getD b 0)⟩
def itL (g : List Nat) : Nat → LS
  | 0 => initL g
  | k + 1 => stepL g (itL g k)
def waitN (g : List Nat) : Nat := (initL g).wt.length
def leastLog (g : List Nat) : List Pr := (itL g (waitN g)).ent
structure Facts (g : List Nat) : Prop where
  okE : OkL g.length (ringEnt g)
  len : (ringEnt g).length + waitN g ≤ 60
  rne : ∀ r ∈ rings g, r ≠ [] ∧ r.length ≤ 12
  miss : rings g ≠ [] → spare.missL' g ≠ []
  free : ∀ k, k < waitN g → freeL g (itL g k).held (itL g k).wt ≠ []
  src : ∀ k, k < waitN g → g.getD (pick g (itL g k)) 0 ∈ (itL g k).held
theorem pick_mem {g : List Nat} {s : LS} (h : freeL g s.held s.wt ≠ []) : pick g s ∈ s.wt := by
  unfold pick
  have : 0 < (freeL g s.held s.wt).length := List.length_pos_iff.mpr h
  exact (List.mem_filter.mp (getD_mem this)).1
theorem it_wt {g : List Nat} (F : Facts g) : ∀ k, k ≤ waitN g → (itL g k).wt.length = waitN g - k ∧ (∀ b ∈ (itL g k).wt, b < g.length) ∧ (itL g k).held.length = g.length ∧ (itL g k).ent.length = (ringEnt g).length + k
  | 0, _ => ⟨rfl, fun b hb => List.mem_range.mp (List.mem_filter.mp hb).1, fin_len _ _, rfl⟩
  | k + 1, h => by
    obtain ⟨h1, h2, h3, h4⟩ := it_wt F k (by omega)
    have hm := pick_mem (F.free k (by omega))
    obtain ⟨h5, _⟩ := idx_facts hm
    have h6 := (List.getElem?_eq_some_iff.mp h5).1
    refine ⟨?_, fun b hb => h2 b (List.mem_of_mem_eraseIdx hb), ?_, ?_⟩
    · show ((itL g k).wt.eraseIdx _).length = _
      rw [List.length_eraseIdx_of_lt h6]
      omega
    · show ((itL g k).held.set _ _).length = _
      rw [List.length_set, h3]
    · show ((itL g k).ent ++ [_]).length = _
      rw [List.length_append, h4]
      rfl
end R77
set_option linter.all false
namespace R77
/-! what the goal functions give -/
def chg (g : List Nat) : List Nat := (g.zipIdx.filter fun a => !decide (a.1 = a.2)).map (·.2)
def awayL (g : List Nat) : List Nat := (List.range g.length).filter fun v => g.contains v && !decide (g.getD v 0 = v)
def missL (g : List Nat) : List Nat := (List.range g.length).filter fun v => !g.contains v
structure GoalOk (g : List Nat) : Prop where
  n1 : 1 ≤ g.length
  n12 : g.length ≤ 12
  lt : ∀ v ∈ g, v < g.length
theorem GoalOk.mem {g : List Nat} (o : GoalOk g) (v : Nat) : v ∈ awayL g ↔ v ∈ g ∧ g.getD v 0 ≠ v := by
  unfold awayL
  rw [List.mem_filter, List.mem_range, Bool.and_eq_true, List.contains_iff_mem]
  constructor
  · rintro ⟨_, h1, h2⟩
    exact ⟨h1, by simpa using h2⟩
  · rintro ⟨h1, h2⟩
    exact ⟨o.lt v h1, h1, by simpa using h2⟩
def Poss (g : List Nat) : Prop := chg g = [] ∨ missL g ≠ []
end R77
set_option linter.all false
namespace R77
/-! the law's way of finding closed rings -/
def lastN (r : List Nat) : Nat := r.getD (r.length - 1) 0
def lawR (g : List Nat) (st : Nat) : Nat → List Nat
  | 0 => [st]
  | m + 1 => if (lawR g st m).contains (g.getD (lastN (lawR g st m)) 0) then lawR g st m else lawR g st m ++ [g.getD (lastN (lawR g st m)) 0]
def lawA (g : List Nat) (st : Nat) (r : List Nat) : Prop := g.getD (lastN r) 0 = st ∧ 1 < r.length ∧ ∀ b ∈ r, st ≤ b
def lawB (g r : List Nat) : List Nat := r.filter fun b => !decide (g.count b = 1)
instance (g : List Nat) (st : Nat) (r : List Nat) : Decidable (lawA g st r) := by unfold lawA; infer_instance
def lawRing (g : List Nat) (st : Nat) : Option (List Nat) := if lawA g st (lawR g st g.length) ∧ lawB g (lawR g st g.length) = [] then some (lawR g st g.length) else none
def lawRings (g : List Nat) : List (List Nat) := (List.range g.length).filterMap (lawRing g)
theorem lawR_mem (g : List Nat) (st : Nat) : ∀ m, st ∈ lawR g st m
  | 0 => List.mem_cons_self
  | m + 1 => by
    unfold lawR
    split
    · exact lawR_mem g st m
    · exact List.mem_append_left _ (lawR_mem g st m)
theorem lastN_mem {r : List Nat} (h : r ≠ []) : lastN r ∈ r := getD_mem (by have := List.length_pos_iff.mpr h; omega)
theorem lawR_lt {g : List Nat} (lt : ∀ v ∈ g, v < g.length) {st : Nat} (hs : st < g.length) : ∀ m, ∀ b ∈ lawR g st m, b < g.length
  | 0, b, hb => by
    have : b = st := by simpa [lawR] using hb
    omega
  | m + 1, b, hb => by
    have ih := lawR_lt lt hs m
    unfold lawR at hb
    split at hb
    · exact ih b hb
    · rcases List.mem_append.mp hb with z | z
      · exact ih b z
      · have e : b = g.getD (lastN (lawR g st m)) 0 := by simpa using z
        rw [e]
        exact lt _ (getD_mem (ih _ (lastN_mem (List.ne_nil_of_mem (lawR_mem g st m)))))
theorem lawR_len (g : List Nat) (st : Nat) : ∀ m, (lawR g st m).length ≤ m + 1
  | 0 => Nat.le_refl _
  | m + 1 => by
    have := lawR_len g st m
    unfold lawR
    split
    · omega
    · rw [List.length_append]; simp; omega
theorem least_of : ∀ {r : List Nat}, r ≠ [] → ∃ m, m ∈ r ∧ ∀ y ∈ r, m ≤ y
  | [], h => absurd rfl h
  | [a], _ => ⟨a, List.mem_cons_self, fun y hy => by
      have e : y = a := by simpa using hy
      omega⟩
  | a :: b :: r, _ => by
    obtain ⟨m, h1, h2⟩ := least_of (r := b :: r) (by simp)
    by_cases e : a ≤ m
    · exact ⟨a, List.mem_cons_self, fun y hy => by
        rcases List.mem_cons.mp hy with z | z
        · omega
        · have := h2 y z; omega⟩
    · exact ⟨m, List.mem_cons_of_mem _ h1, fun y hy => by
        rcases List.mem_cons.mp hy with z | z
        · omega
        · exact h2 y z⟩
end R77
namespace R77
/-- the law's rows, from behind -/
def mrow (log : List Pr) (n : Nat) : Nat → List Bool
  | 0 => List.replicate n true
  | k + 1 =>
    let q := log.getD (log.length - 1 - k) (0, 0)
    let r := (List.range n).map fun b => (mrow log n k).getD b false && !decide (b = q.1)
    r.set q.2 (r.getD q.2 false || (mrow log n k).getD q.1 false)
theorem mrow_len (log : List Pr) (n : Nat) : ∀ k, (mrow log n k).length = n
  | 0 => by simp [mrow]
  | k + 1 => by simp [mrow]
def lmarkF (log : List Pr) (n k : Nat) : Option (Nat × Nat) := ((List.range (k + 1)).find? fun p => (mrow log n (log.length - p)).getD (tgt log k) false).map fun p => (p, k)
def lmarkOf (log : List Pr) (n : Nat) : Option (Nat × Nat) := (List.range log.length).findSome? (lmarkF log n)
end R77
namespace R77
def safeL (g : List Nat) : List Pr := (chg g).map fun b => (b, g.getD b 0)
end R77
set_option linter.all false
namespace R77
/-! ### closed rings as sets -/
/-- a closed ring -/
structure Ring (g r : List Nat) : Prop where
  two : 2 ≤ r.length
  nd : r.Nodup
  lt : ∀ x ∈ r, x < g.length
  nxt : ∀ i, i + 1 < r.length → g.getD (r.getD i 0) 0 = r.getD (i + 1) 0
  lst : g.getD (r.getD (r.length - 1) 0) 0 = r.getD 0 0
  cnt : ∀ x ∈ r, g.count x = 1
  low : ∀ x ∈ r, r.getD 0 0 ≤ x
theorem row_len (g : List Nat) (st m : Nat) : (ringRow g st m).length = m + 1 := by simp [ringRow]
theorem row_zero (g : List Nat) (st m : Nat) : (ringRow g st m).getD 0 0 = st := by simp [ringRow]
theorem row_at (g : List Nat) (st m : Nat) {i : Nat} (h : i < m) : (ringRow g st m).getD (i + 1) 0 = ringBl g st i := by
  simp [ringRow, List.getD_eq_getElem?_getD, h]
theorem mem_row {g : List Nat} {st m x : Nat} : x ∈ ringRow g st m ↔ x = st ∨ ∃ i, i < m ∧ x = ringBl g st i := by
  simp [ringRow, eq_comm]
theorem row_next (g : List Nat) (st m : Nat) {i : Nat} (h : i ≤ m) : g.getD ((ringRow g st m).getD i 0) 0 = ringBl g st i := by
  cases i with
  | zero => rw [row_zero]; rfl
  | succ i => rw [row_at g st m (by omega)]; rfl
theorem on_iff {g : List Nat} {st i : Nat} : ringOn g st i = true ↔ st < ringBl g st i ∧ g.count (ringBl g st i) = 1 := by simp [ringOn]
theorem row_ring {g : List Nat} (lt : ∀ v ∈ g, v < g.length) {st N : Nat} (hs : st < g.length) (hN : 0 < N) (on : ∀ i, i < N → ringOn g st i = true) (hb : ringBl g st N = st) (hc : g.count st = 1) : Ring g (ringRow g st N) where
  two := by rw [row_len]; omega
  nd := by
    unfold ringRow
    rw [List.nodup_cons]
    refine ⟨fun h => ?_, ?_⟩
    · obtain ⟨i, hi, e⟩ := List.mem_map.mp h
      have := (on_iff.mp (on i (List.mem_range.mp hi))).1
      omega
    · rw [List.nodup_iff_pairwise_ne, List.pairwise_map]
      refine List.pairwise_lt_range.imp_of_mem fun {a b} ha hb hab => ?_
      have hb := List.mem_range.mp hb
      exact bl_inj lt hs (n := N - 1) (fun i hi => on i (by omega)) a b hab (by omega)
  lt := fun x hx => by
    rcases mem_row.mp hx with rfl | ⟨i, _, rfl⟩
    · exact hs
    · exact bl_lt lt hs i
  nxt := fun i hi => by
    rw [row_len] at hi
    rw [row_next g st N (by omega), row_at g st N (by omega)]
  lst := by
    rw [row_len, Nat.add_sub_cancel, row_next g st N (Nat.le_refl _), row_zero, hb]
  cnt := fun x hx => by
    rcases mem_row.mp hx with rfl | ⟨i, hi, rfl⟩
    · exact hc
    · exact (on_iff.mp (on i hi)).2
  low := fun x hx => by
    rw [row_zero]
    rcases mem_row.mp hx with rfl | ⟨i, hi, rfl⟩
    · exact Nat.le_refl _
    · exact Nat.le_of_lt (on_iff.mp (on i hi)).1
theorem from_some {g : List Nat} (lt : ∀ v ∈ g, v < g.length) {st : Nat} (hs : st < g.length) {r : List Nat} (h : ringFrom g st = some r) : Ring g r ∧ r.getD 0 0 = st := by
  unfold ringFrom at h
  split at h
  · rename_i c
    obtain ⟨c1, c2, c3⟩ := c
    have e := Option.some.inj h
    subst e
    exact ⟨row_ring lt hs c2 (ringN_is lt hs).2.2 c1 c3, row_zero ..⟩
  · cases h
theorem mem_rings {g : List Nat} (lt : ∀ v ∈ g, v < g.length) {r : List Nat} (h : r ∈ rings g) : Ring g r ∧ ringFrom g (r.getD 0 0) = some r := by
  obtain ⟨st, h1, h2⟩ := List.mem_filterMap.mp h
  obtain ⟨h3, h4⟩ := from_some lt (List.mem_range.mp h1) h2
  rw [h4]
  exact ⟨h3, h2⟩
theorem Ring.clo {g r : List Nat} (R : Ring g r) {x : Nat} (h : x ∈ r) : g.getD x 0 ∈ r := by
  obtain ⟨i, hi, rfl⟩ := mem_getD.mp h
  by_cases e : i + 1 < r.length
  · rw [R.nxt i e]; exact getD_mem e
  · have : i = r.length - 1 := by omega
    rw [this, R.lst]
    exact getD_mem (by omega)
def it (g : List Nat) (x : Nat) : Nat → Nat
  | 0 => x
  | j + 1 => g.getD (it g x j) 0
theorem Ring.it {g r : List Nat} (R : Ring g r) {x : Nat} (h : x ∈ r) : ∀ j, it g x j ∈ r
  | 0 => h
  | j + 1 => R.clo (R.it h j)
theorem Ring.reach {g r : List Nat} (R : Ring g r) {i : Nat} (hi : i < r.length) : ∃ j, R77.it g (r.getD i 0) j = r.getD 0 0 := by
  refine ⟨r.length - i, ?_⟩
  have key : ∀ j, i + j < r.length → R77.it g (r.getD i 0) j = r.getD (i + j) 0 := by
    intro j
    induction j with
    | zero => intro _; rfl
    | succ j ih =>
      intro h
      show g.getD (R77.it g (r.getD i 0) j) 0 = _
      rw [ih (by omega), R.nxt (i + j) (by omega)]
      rfl
  obtain ⟨j, hj⟩ : ∃ j, r.length - i = j + 1 := ⟨r.length - i - 1, by omega⟩
  rw [hj]
  show g.getD (R77.it g (r.getD i 0) j) 0 = _
  rw [key j (by omega), show i + j = r.length - 1 by omega, R.lst]
theorem ring_meet {g r q : List Nat} (R : Ring g r) (Q : Ring g q) {x : Nat} (h1 : x ∈ r) (h2 : x ∈ q) : q.getD 0 0 ∈ r := by
  obtain ⟨i, hi, e⟩ := mem_getD.mp h2
  obtain ⟨j, hj⟩ := Q.reach hi
  rw [e] at hj
  rw [← hj]
  exact R.it h1 j
theorem rings_disj {g : List Nat} (lt : ∀ v ∈ g, v < g.length) {r q : List Nat} (h1 : r ∈ rings g) (h2 : q ∈ rings g) {x : Nat} (x1 : x ∈ r) (x2 : x ∈ q) : r = q := by
  obtain ⟨R, e1⟩ := mem_rings lt h1
  obtain ⟨Q, e2⟩ := mem_rings lt h2
  have a := R.low _ (ring_meet R Q x1 x2)
  have b := Q.low _ (ring_meet Q R x2 x1)
  have e : r.getD 0 0 = q.getD 0 0 := by omega
  rw [e, e2] at e1
  exact (Option.some.inj e1).symm
theorem rings_nodup {g : List Nat} (lt : ∀ v ∈ g, v < g.length) : (rings g).Nodup := by
  unfold rings
  rw [List.nodup_iff_pairwise_ne]
  refine List.Pairwise.filterMap _ (R := fun a b => a < b ∧ a < g.length ∧ b < g.length) ?_ ?_
  · rintro a a' ⟨h, h1, h2⟩ b hb b' hb' e
    subst e
    have := (from_some lt h1 hb).2
    have := (from_some lt h2 hb').2
    omega
  · exact List.pairwise_lt_range.imp_of_mem fun {a b} ha hb hab => ⟨hab, List.mem_range.mp ha, List.mem_range.mp hb⟩
theorem Ring.mem {g r : List Nat} (R : Ring g r) {x : Nat} (h : x ∈ r) : x ∈ g := by
  have := R.cnt x h
  exact List.count_pos_iff.mp (by omega)
theorem Ring.ne {g r : List Nat} (R : Ring g r) {x : Nat} (h : x ∈ r) : g.getD x 0 ≠ x := by
  obtain ⟨i, hi, rfl⟩ := mem_getD.mp h
  have nd := List.nodup_iff_pairwise_ne.mp R.nd
  have inj : ∀ a b, a < b → (hb : b < r.length) → r.getD a 0 ≠ r.getD b 0 := fun a b hab hb => by
    have := List.pairwise_iff_getElem.mp nd a b (by omega) hb hab
    simpa [List.getD_eq_getElem?_getD, hb, show a < r.length by omega] using this
  by_cases e : i + 1 < r.length
  · rw [R.nxt i e]
    exact fun z => inj i (i + 1) (by omega) e z.symm
  · have : i = r.length - 1 := by omega
    rw [this, R.lst]
    have := R.two
    exact inj 0 (r.length - 1) (by omega) (by omega)
end R77
set_option linter.all false
namespace R77
/-! ### what running the rings' lines does -/
def busyL : List Nat → List Pr → Prop
  | _, [] => True
  | h, p :: r => h.getD p.1 0 ≠ h.getD p.2 0 ∧ busyL (stp h p) r
theorem busy_append : ∀ {a b : List Pr} {h : List Nat}, busyL h (a ++ b) ↔ busyL h a ∧ busyL (runL a h) b
  | [], b, h => by simp [busyL, runL_nil]
  | p :: a, b, h => by
    rw [List.cons_append, busyL, busyL, busy_append (a := a), runL_cons, and_assoc]
theorem busy_of {log : List Pr} {n : Nat} (h : busyL (home n) log) : Busy log n := fun k hk => by
  have e : log = log.take k ++ log[k] :: log.drop (k + 1) := by
    rw [← List.drop_eq_getElem_cons hk, List.take_append_drop]
  rw [e, busy_append] at h
  have := h.2.1
  rw [tgt_eq hk, src_eq hk]
  exact this
theorem idle_of {log : List Pr} {n : Nat} (h : Busy log n) : idle log n = [] := by
  unfold idle
  rw [List.filter_eq_nil_iff]
  intro k hk
  have := h k (List.mem_range.mp hk)
  simpa using this
theorem nd_inj {r : List Nat} (nd : r.Nodup) {a b : Nat} (ha : a < r.length) (hb : b < r.length) (e : r.getD a 0 = r.getD b 0) : a = b := by
  have nd := List.nodup_iff_pairwise_ne.mp nd
  have inj : ∀ a b, a < b → (hb : b < r.length) → r.getD a 0 ≠ r.getD b 0 := fun a b hab hb => by
    have := List.pairwise_iff_getElem.mp nd a b (by omega) hb hab
    simpa [List.getD_eq_getElem?_getD, hb, show a < r.length by omega] using this
  rcases Nat.lt_trichotomy a b with z | z | z
  · exact absurd e (inj a b z hb)
  · exact z
  · exact absurd e.symm (inj b a z ha)
def rpA (r : List Nat) (s i : Nat) : List Pr := (s, r.getD 0 0) :: (List.range i).map fun i => (r.getD i 0, r.getD (i + 1) 0)
theorem rpA_succ (r : List Nat) (s i : Nat) : rpA r s (i + 1) = rpA r s i ++ [(r.getD i 0, r.getD (i + 1) 0)] := by
  unfold rpA
  rw [List.range_succ]
  simp
theorem ringPairs_eq (r : List Nat) (s : Nat) : ringPairs r s = rpA r s (r.length - 1) ++ [(r.getD (r.length - 1) 0, s)] := rfl
structure RH (r : List Nat) (s n : Nat) (h h' : List Nat) (i : Nat) : Prop where
  len : h'.length = n
  sp : h'.getD s 0 = r.getD 0 0
  old : ∀ j, j < i → h'.getD (r.getD j 0) 0 = r.getD (j + 1) 0
  new : ∀ j, i ≤ j → j < r.length → h'.getD (r.getD j 0) 0 = r.getD j 0
  rest : ∀ x, x < n → x ∉ r → x ≠ s → h'.getD x 0 = h.getD x 0
theorem rpA_run {g r h : List Nat} {s : Nat} (R : Ring g r) (hl : h.length = g.length) (hs : s < g.length) (sr : s ∉ r) (hh : ∀ x ∈ r, h.getD x 0 = x) (hb : h.getD s 0 ≠ r.getD 0 0) : ∀ i, i + 1 ≤ r.length → RH r s g.length h (runL (rpA r s i) h) i ∧ busyL h (rpA r s i) := by
  have h0 : r.getD 0 0 ∈ r := getD_mem (by have := R.two; omega)
  intro i
  induction i with
  | zero =>
    intro _
    refine ⟨⟨by rw [runL_len, hl], ?_, fun j hj => absurd hj (Nat.not_lt_zero _), fun j _ hj => ?_, fun x hx xr xs => ?_⟩, ?_, trivial⟩
    · show (stp h (s, r.getD 0 0)).getD s 0 = _
      rw [stp_at _ _ _ (by omega), if_pos rfl]
      exact hh _ h0
    · show (stp h (s, r.getD 0 0)).getD _ 0 = _
      have hm : r.getD j 0 ∈ r := getD_mem hj
      rw [stp_at _ _ _ (by rw [hl]; exact R.lt _ hm), if_neg (fun z => sr (by rw [show s = r.getD j 0 from z]; exact hm)), hh _ hm]
    · show (stp h (s, r.getD 0 0)).getD x 0 = _
      rw [stp_at _ _ _ (by omega), if_neg (fun z => xs z.symm)]
    · show h.getD s 0 ≠ h.getD (r.getD 0 0) 0
      rw [hh _ h0]
      exact hb
  | succ i ih =>
    intro hi
    obtain ⟨I, B⟩ := ih (by omega)
    have m1 : r.getD i 0 ∈ r := getD_mem (by omega)
    have m2 : r.getD (i + 1) 0 ∈ r := getD_mem (by omega)
    have v1 := I.new i (Nat.le_refl _) (by omega)
    have v2 := I.new (i + 1) (by omega) (by omega)
    rw [rpA_succ, runL_append, busy_append]
    have step : ∀ x, x < g.length → (runL [(r.getD i 0, r.getD (i + 1) 0)] (runL (rpA r s i) h)).getD x 0 = if r.getD i 0 = x then r.getD (i + 1) 0 else (runL (rpA r s i) h).getD x 0 := fun x hx => by
      show (stp _ _).getD x 0 = _
      rw [stp_at _ _ _ (by rw [I.len]; exact hx), v2]
    refine ⟨⟨by rw [runL_len, I.len], ?_, fun j hj => ?_, fun j hj hjl => ?_, fun x hx xr xs => ?_⟩, B, ?_, trivial⟩
    · rw [step _ hs, if_neg (fun z => sr (by rw [← z]; exact m1)), I.sp]
    · have mj : r.getD j 0 ∈ r := getD_mem (by omega)
      rw [step _ (R.lt _ mj)]
      by_cases e : j = i
      · subst e; rw [if_pos rfl]
      · rw [if_neg (fun z => e (nd_inj R.nd (by omega) (by omega) z.symm)), I.old j (by omega)]
    · have mj : r.getD j 0 ∈ r := getD_mem (by omega)
      rw [step _ (R.lt _ mj), if_neg (fun z => by have := nd_inj R.nd (by omega) hjl z; omega), I.new j (by omega) hjl]
    · rw [step _ hx, if_neg (fun z => xr (by rw [← z]; exact m1)), I.rest x hx xr xs]
    · show (runL (rpA r s i) h).getD (r.getD i 0) 0 ≠ (runL (rpA r s i) h).getD (r.getD (i + 1) 0) 0
      rw [v1, v2]
      intro z
      have := nd_inj R.nd (by omega) (by omega) z
      omega
structure RD (g r : List Nat) (s : Nat) (h h' : List Nat) : Prop where
  len : h'.length = g.length
  sp : h'.getD s 0 = r.getD 0 0
  ring : ∀ x ∈ r, h'.getD x 0 = g.getD x 0
  rest : ∀ x, x < g.length → x ∉ r → x ≠ s → h'.getD x 0 = h.getD x 0
theorem ring_run {g r h : List Nat} {s : Nat} (R : Ring g r) (hl : h.length = g.length) (hs : s < g.length) (sr : s ∉ r) (hh : ∀ x ∈ r, h.getD x 0 = x) (hb : h.getD s 0 ≠ r.getD 0 0) : RD g r s h (runL (ringPairs r s) h) ∧ busyL h (ringPairs r s) := by
  have two := R.two
  obtain ⟨I, B⟩ := rpA_run R hl hs sr hh hb (r.length - 1) (by omega)
  have m1 : r.getD (r.length - 1) 0 ∈ r := getD_mem (by omega)
  have v1 := I.new (r.length - 1) (Nat.le_refl _) (by omega)
  rw [ringPairs_eq, runL_append, busy_append]
  have step : ∀ x, x < g.length → (runL [(r.getD (r.length - 1) 0, s)] (runL (rpA r s (r.length - 1)) h)).getD x 0 = if r.getD (r.length - 1) 0 = x then r.getD 0 0 else (runL (rpA r s (r.length - 1)) h).getD x 0 := fun x hx => by
    show (stp _ _).getD x 0 = _
    rw [stp_at _ _ _ (by rw [I.len]; exact hx), I.sp]
  refine ⟨⟨by rw [runL_len, I.len], ?_, fun x hx => ?_, fun x hx xr xs => ?_⟩, B, ?_, trivial⟩
  · rw [step _ hs, if_neg (fun z => sr (by rw [← z]; exact m1)), I.sp]
  · rw [step _ (R.lt _ hx)]
    obtain ⟨j, hj, rfl⟩ := mem_getD.mp hx
    by_cases e : j = r.length - 1
    · subst e; rw [if_pos rfl, R.lst]
    · rw [if_neg (fun z => e (nd_inj R.nd (by omega) (by omega) z).symm), I.old j (by omega), R.nxt j (by omega)]
  · rw [step _ hx, if_neg (fun z => xr (by rw [← z]; exact m1)), I.rest x hx xr xs]
  · show (runL (rpA r s (r.length - 1)) h).getD (r.getD (r.length - 1) 0) 0 ≠ (runL (rpA r s (r.length - 1)) h).getD s 0
    rw [v1, I.sp]
    intro z
    have := nd_inj R.nd (a := r.length - 1) (b := 0) (by omega) (by omega) z
    omega
theorem ring_okL {g r : List Nat} {s : Nat} (R : Ring g r) (hs : s < g.length) (sr : s ∉ r) : OkL g.length (ringPairs r s) := fun p hp => by
  have two := R.two
  rw [ringPairs_eq, rpA] at hp
  rcases List.mem_append.mp hp with hp | hp
  · rcases List.mem_cons.mp hp with rfl | hp
    · have m : r.getD 0 0 ∈ r := getD_mem (by omega)
      exact ⟨hs, R.lt _ m, fun z => sr (by rw [show s = r.getD 0 0 from z]; exact m)⟩
    · obtain ⟨i, hi, rfl⟩ := List.mem_map.mp hp
      have hi := List.mem_range.mp hi
      have m1 : r.getD i 0 ∈ r := getD_mem (by omega)
      have m2 : r.getD (i + 1) 0 ∈ r := getD_mem (by omega)
      exact ⟨R.lt _ m1, R.lt _ m2, fun z => by have := nd_inj R.nd (by omega) (by omega) z; omega⟩
  · have e : p = (r.getD (r.length - 1) 0, s) := by simpa using hp
    subst e
    have m : r.getD (r.length - 1) 0 ∈ r := getD_mem (by omega)
    exact ⟨R.lt _ m, hs, fun z => sr (by rw [← show r.getD (r.length - 1) 0 = s from z]; exact m)⟩
/-! ### all rings -/
def entS (rs : List (List Nat)) (s : Nat) : List Pr := rs.flatMap fun r => ringPairs r s
theorem entS_snoc (rs : List (List Nat)) (r : List Nat) (s : Nat) : entS (rs ++ [r]) s = entS rs s ++ ringPairs r s := by simp [entS]
structure AH (g : List Nat) (rs : List (List Nat)) (s : Nat) (h : List Nat) : Prop where
  len : h.length = g.length
  ring : ∀ r ∈ rs, ∀ x ∈ r, h.getD x 0 = g.getD x 0
  rest : ∀ x, x < g.length → (∀ r ∈ rs, x ∉ r) → x ≠ s → h.getD x 0 = x
  sp : (rs = [] ∧ h.getD s 0 = s) ∨ ∃ r ∈ rs, h.getD s 0 = r.getD 0 0
theorem ents_run {g : List Nat} (lt : ∀ v ∈ g, v < g.length) {s : Nat} (hs : s < g.length) (sg : s ∉ g) : ∀ (m : Nat) (rs : List (List Nat)), rs.length = m → (∀ r ∈ rs, r ∈ rings g) → rs.Nodup → AH g rs s (runL (entS rs s) (home g.length)) ∧ busyL (home g.length) (entS rs s) ∧ OkL g.length (entS rs s)
  | 0, rs, e, _, _ => by
    have : rs = [] := List.length_eq_zero_iff.mp e
    subst this
    exact ⟨⟨by simp [runL_len], (fun r hr => nomatch hr), fun x hx _ _ => home_at hx, .inl ⟨rfl, home_at hs⟩⟩, trivial, fun p hp => nomatch hp⟩
  | m + 1, rs, e, sub, nd => by
    have hne : rs ≠ [] := by rintro rfl; simp at e
    have ers : rs = rs.dropLast ++ [rs.getLast hne] := (List.dropLast_concat_getLast hne).symm
    have hl : rs.dropLast.length = m := by rw [List.length_dropLast]; omega
    generalize rs.dropLast = d at *
    generalize rs.getLast hne = r at *
    subst ers
    have hd : ∀ q ∈ d, q ∈ rings g := fun q hq => sub q (List.mem_append_left _ hq)
    have hr : r ∈ rings g := sub r (by simp)
    have nd' := List.nodup_append.mp nd
    obtain ⟨A, B, O⟩ := ents_run lt hs sg m d hl hd nd'.1
    have R := (mem_rings lt hr).1
    have sr : s ∉ r := fun z => sg (R.mem z)
    have dj : ∀ q ∈ d, ∀ x, x ∈ q → x ∉ r := fun q hq x h1 h2 => by
      have := rings_disj lt (hd q hq) hr h1 h2
      exact nd'.2.2 q hq r (by simp) this
    obtain ⟨D, B2⟩ := ring_run (s := s) R A.len hs sr (fun x hx => A.rest x (R.lt x hx) (fun q hq z => dj q hq x z hx) fun z => sr (z ▸ hx)) (fun z => by
      have m0 : r.getD 0 0 ∈ r := getD_mem (by have := R.two; omega)
      rcases A.sp with ⟨_, z2⟩ | ⟨q, hq, z2⟩
      · rw [z2] at z
        exact sr (z ▸ m0)
      · have m1 : q.getD 0 0 ∈ q := getD_mem (by have := (mem_rings lt (hd q hq)).1.two; omega)
        rw [z2] at z
        exact dj q hq _ m1 (z ▸ m0))
    rw [entS_snoc, runL_append, busy_append]
    refine ⟨⟨D.len, fun q hq x hx => ?_, fun x hx hno xs => ?_, .inr ⟨r, by simp, D.sp⟩⟩, ⟨B, B2⟩, fun p hp => ?_⟩
    · rcases List.mem_append.mp hq with hq | hq
      · have Q := (mem_rings lt (hd q hq)).1
        rw [D.rest x (Q.lt x hx) (dj q hq x hx) (fun z => sg (z ▸ Q.mem hx))]
        exact A.ring q hq x hx
      · have : q = r := by simpa using hq
        subst this
        exact D.ring x hx
    · rw [D.rest x hx (hno r (by simp)) xs]
      exact A.rest x hx (fun q hq => hno q (List.mem_append_left _ hq)) xs
    · rcases List.mem_append.mp hp with hp | hp
      · exact O p hp
      · exact ring_okL R hs sr p hp
end R77
set_option linter.all false
namespace R77
/-! ### small counts -/
theorem perm_sub : ∀ {l m : List Nat}, l.Nodup → (∀ x ∈ l, x ∈ m) → m.length ≤ l.length → m.Perm l
  | [], m, _, _, h => by
    have : m = [] := List.length_eq_zero_iff.mp (by simpa using h)
    subst this
    exact List.Perm.refl _
  | a :: l, m, nd, sub, h => by
    have nd2 := List.nodup_cons.mp nd
    have ha := sub a List.mem_cons_self
    have e := List.perm_cons_erase ha
    have hl := e.length_eq
    simp at hl h
    have : (m.erase a).Perm l := perm_sub nd2.2 (fun x hx => (List.mem_erase_of_ne (fun z => nd2.1 (by rw [← z]; exact hx))).mpr (sub x (List.mem_cons_of_mem _ hx))) (by omega)
    exact e.trans (this.cons a)
theorem sub_len : ∀ {l m : List Nat}, l.Nodup → (∀ x ∈ l, x ∈ m) → l.length ≤ m.length
  | [], _, _, _ => Nat.zero_le _
  | a :: l, m, nd, sub => by
    have nd2 := List.nodup_cons.mp nd
    have ha := sub a List.mem_cons_self
    have := sub_len (m := m.erase a) nd2.2 (fun x hx => (List.mem_erase_of_ne (fun z => nd2.1 (by rw [← z]; exact hx))).mpr (sub x (List.mem_cons_of_mem _ hx)))
    have h2 := List.length_erase_of_mem ha
    have := List.length_pos_of_mem ha
    simp
    omega
theorem count_le1 {v : Nat} : ∀ {l : List Nat}, (∀ i j : Nat, l[i]? = some v → l[j]? = some v → i = j) → l.count v ≤ 1
  | [], _ => Nat.zero_le _
  | a :: l, h => by
    rw [List.count_cons]
    by_cases e : a = v
    · subst e
      have : l.count a = 0 := List.count_eq_zero.mpr fun hm => by
        obtain ⟨i, hi⟩ := List.mem_iff_getElem?.mp hm
        have := h 0 (i + 1) rfl (by simpa using hi)
        omega
      simp [this]
    · have := count_le1 (l := l) (v := v) fun i j hi hj => by
        have := h (i + 1) (j + 1) (by simpa using hi) (by simpa using hj)
        omega
      have e2 : (a == v) = false := by simpa using e
      rw [e2]
      simpa using this
theorem filter_sum {p q r : Nat → Bool} : ∀ {l : List Nat}, (∀ b ∈ l, p b = (q b || r b) ∧ (q b && r b) = false) → (l.filter p).length = (l.filter q).length + (l.filter r).length
  | [], _ => rfl
  | a :: l, h => by
    obtain ⟨h1, h2⟩ := h a List.mem_cons_self
    have ih := filter_sum (l := l) fun b hb => h b (List.mem_cons_of_mem _ hb)
    rw [List.filter_cons, List.filter_cons, List.filter_cons, h1]
    cases hq : q a <;> cases hr : r a <;> simp [hq, hr] at h2 ⊢ <;> omega
theorem chg_eq (g : List Nat) : chg g = (List.range g.length).filter fun b => !decide (g.getD b 0 = b) := by
  unfold chg
  rw [List.zipIdx_eq_zip_range', show List.zip g (List.range' 0 g.length) = (List.range g.length).map fun b => (g.getD b 0, b) from ?_, List.filter_map, List.map_map]
  · simp [Function.comp_def]
  · apply List.ext_getElem
    · simp
    · intro i h1 h2
      simp at h1 h2
      simp [List.getD_eq_getElem?_getD, h2]
/-! ### behind the rings' lines -/
def h0 (g : List Nat) : List Nat := fin (ringEnt g) g.length
structure Ini (g : List Nat) : Prop where
  okE : OkL g.length (ringEnt g)
  busy : busyL (home g.length) (ringEnt g)
  wait : ∀ b, b < g.length → (h0 g).getD b 0 ≠ g.getD b 0 → (h0 g).getD b 0 = b ∨ (b ∉ g ∧ (h0 g).getD ((h0 g).getD b 0) 0 = g.getD ((h0 g).getD b 0) 0)
  have_ : ∀ v ∈ g, ∃ c, c < g.length ∧ (h0 g).getD c 0 = v ∧ (c = v ∨ (h0 g).getD c 0 = g.getD c 0)
  ring : ∀ r ∈ rings g, ∀ x ∈ r, (h0 g).getD x 0 = g.getD x 0
  len : (ringEnt g).length + waitN g = (chg g).length + (rings g).length
theorem home_of {g : List Nat} (h : chg g = []) : g = home g.length := by
  rw [chg_eq, List.filter_eq_nil_iff] at h
  refine ext_getD (by simp) fun j hj => ?_
  have := h j (List.mem_range.mpr hj)
  rw [home_at hj]
  simpa using this
theorem rings_nil {g : List Nat} (lt : ∀ v ∈ g, v < g.length) (h : chg g = []) : rings g = [] := by
  rw [List.eq_nil_iff_forall_not_mem]
  intro r hr
  have R := (mem_rings lt hr).1
  have m0 : r.getD 0 0 ∈ r := getD_mem (by have := R.two; omega)
  have := R.ne m0
  rw [home_of h, home_at (R.lt _ m0)] at this
  exact this rfl
theorem ent_len {s : Nat} : ∀ {rs : List (List Nat)}, (∀ r ∈ rs, r ≠ []) → (entS rs s).length = rs.flatten.length + rs.length
  | [], _ => rfl
  | r :: rs, h => by
    have ih := ent_len (s := s) (rs := rs) fun q hq => h q (List.mem_cons_of_mem _ hq)
    have h1 := List.length_pos_iff.mpr (h r List.mem_cons_self)
    unfold entS at ih ⊢
    rw [List.flatMap_cons, List.length_append, ih, List.flatten_cons, List.length_append, List.length_cons, ringPairs_eq, rpA]
    simp
    omega
theorem waitN_eq (g : List Nat) : waitN g = ((List.range g.length).filter fun b => !decide ((h0 g).getD b 0 = g.getD b 0)).length := rfl
theorem ini_of {g : List Nat} (o : GoalOk g) (hp : Poss g) : Ini g := by
  have lt := o.lt
  by_cases hc : chg g = []
  · have er := rings_nil lt hc
    have ee : ringEnt g = [] := by unfold ringEnt; rw [er]; rfl
    have eg := home_of hc
    have eh : h0 g = g := by unfold h0; rw [ee]; exact eg.symm
    refine ⟨by rw [ee]; exact (fun p hp => nomatch hp), by rw [ee]; trivial, fun b _ h => absurd (by rw [eh]) h, fun v hv => ?_, fun r hr => by rw [er] at hr; exact absurd hr (by simp), ?_⟩
    · obtain ⟨c, h1, h2⟩ := mem_getD.mp hv
      exact ⟨c, h1, by rw [eh]; exact h2, .inr (by rw [eh])⟩
    · rw [waitN_eq, ee, er, hc, eh]
      simp
  · have hm : missL g ≠ [] := hp.resolve_left hc
    have hsp : spare g ∈ missL g := getD_mem (List.length_pos_iff.mpr hm)
    obtain ⟨s1, s2⟩ := List.mem_filter.mp hsp
    have hs : spare g < g.length := List.mem_range.mp s1
    have sg : spare g ∉ g := by simpa using s2
    obtain ⟨A, B, O⟩ := ents_run lt hs sg _ (rings g) rfl (fun _ h => h) (rings_nodup lt)
    have A : AH g (rings g) (spare g) (h0 g) := A
    have s0 : ∀ r ∈ rings g, r.getD 0 0 ∈ r := fun r hr => getD_mem (by have := (mem_rings lt hr).1.two; omega)
    refine ⟨O, B, fun b hb h => ?_, fun v hv => ?_, A.ring, ?_⟩
    · by_cases e : b = spare g
      · subst e
        rcases A.sp with ⟨_, z⟩ | ⟨r, hr, z⟩
        · exact .inl z
        · refine .inr ⟨sg, ?_⟩
          rw [z]
          exact A.ring r hr _ (s0 r hr)
      · refine .inl (A.rest b hb (fun r hr hx => h (A.ring r hr b hx)) e)
    · by_cases e : ∃ r ∈ rings g, v ∈ r
      · obtain ⟨r, hr, hx⟩ := e
        have R := (mem_rings lt hr).1
        obtain ⟨j, hj, ej⟩ := mem_getD.mp hx
        have : ∃ x ∈ r, g.getD x 0 = v := by
          cases j with
          | zero => exact ⟨_, getD_mem (j := r.length - 1) (by omega), by rw [R.lst, ej]⟩
          | succ j => exact ⟨_, getD_mem (j := j) (by omega), by rw [R.nxt j hj, ej]⟩
        obtain ⟨x, hx, ex⟩ := this
        exact ⟨x, R.lt x hx, by rw [A.ring r hr x hx, ex], .inr (A.ring r hr x hx)⟩
      · exact ⟨v, lt v hv, A.rest v (lt v hv) (fun r hr hx => e ⟨r, hr, hx⟩) (fun z => sg (z ▸ hv)), .inl rfl⟩
    · have hne : ∀ r ∈ rings g, r ≠ [] := fun r hr => List.ne_nil_of_mem (s0 r hr)
      have e1 : (ringEnt g).length = (rings g).flatten.length + (rings g).length := ent_len hne
      have ndf : (rings g).flatten.Nodup := by
        rw [List.nodup_iff_pairwise_ne, List.pairwise_flatten]
        refine ⟨fun r hr => List.nodup_iff_pairwise_ne.mp (mem_rings lt hr).1.nd, ?_⟩
        refine (List.nodup_iff_pairwise_ne.mp (rings_nodup lt)).imp_of_mem fun {a b} ha hb hab x hx y hy z => ?_
        subst z
        exact hab (rings_disj lt ha hb hx hy)
      have e2 : (rings g).flatten.length = ((List.range g.length).filter fun b => (rings g).flatten.contains b).length := by
        refine Nat.le_antisymm (sub_len ndf fun x hx => ?_) (sub_len (List.nodup_range.filter _) fun x hx => ?_)
        · obtain ⟨r, hr, hx2⟩ := List.mem_flatten.mp hx
          exact List.mem_filter.mpr ⟨List.mem_range.mpr ((mem_rings lt hr).1.lt x hx2), by simpa using hx⟩
        · simpa using (List.mem_filter.mp hx).2
      have e3 : (chg g).length = ((List.range g.length).filter fun b => (rings g).flatten.contains b).length + waitN g := by
        rw [chg_eq, waitN_eq]
        refine filter_sum fun b hb => ?_
        have hb := List.mem_range.mp hb
        show (!decide (g.getD b 0 = b)) = ((rings g).flatten.contains b || !decide ((h0 g).getD b 0 = g.getD b 0)) ∧ ((rings g).flatten.contains b && !decide ((h0 g).getD b 0 = g.getD b 0)) = false
        by_cases e : b ∈ (rings g).flatten
        · obtain ⟨r, hr, hx⟩ := List.mem_flatten.mp e
          have R := (mem_rings lt hr).1
          have n1 := R.ne hx
          have n2 := A.ring r hr b hx
          have e' : (rings g).flatten.contains b = true := by simpa using e
          rw [e', decide_eq_false n1, decide_eq_true n2]
          exact ⟨rfl, rfl⟩
        · have e' : (rings g).flatten.contains b = false := by simpa using e
          have no : ∀ r ∈ rings g, b ∉ r := fun r hr hx => e (List.mem_flatten.mpr ⟨r, hr, hx⟩)
          have key : (g.getD b 0 = b) ↔ ((h0 g).getD b 0 = g.getD b 0) := by
            by_cases eb : b = spare g
            · subst eb
              have n1 : g.getD (spare g) 0 ≠ spare g := fun z => sg (by rw [← z]; exact getD_mem hb)
              refine ⟨fun z => absurd z n1, fun z => ?_⟩
              exfalso
              rcases A.sp with ⟨_, z2⟩ | ⟨r, hr, z2⟩
              · rw [z2] at z; exact n1 z.symm
              · rw [z2] at z
                have R := (mem_rings lt hr).1
                have two := R.two
                have ml : r.getD (r.length - 1) 0 ∈ r := getD_mem (by omega)
                have := count_one (R.cnt _ (s0 r hr)) (i := spare g) (j := r.getD (r.length - 1) 0) (by rw [z]; exact getD_some hb) (by rw [← R.lst]; exact getD_some (R.lt _ ml))
                rw [this] at no
                exact no r hr ml
            · rw [A.rest b hb no eb]
              exact ⟨fun z => z.symm, fun z => z.symm⟩
          rw [e', decide_eq_decide.mpr key]
          exact ⟨rfl, rfl⟩
      omega
end R77
set_option linter.all false
namespace R77
structure LI (g : List Nat) (s : LS) : Prop where
  len : s.held.length = g.length
  lt : ∀ b ∈ s.wt, b < g.length
  nd : s.wt.Nodup
  sub : ∀ b ∈ s.wt, (h0 g).getD b 0 ≠ g.getD b 0
  a : ∀ c ∈ s.wt, s.held.getD c 0 = c ∨ (s.held.getD c 0 ∉ s.wt ∧ c ∉ g)
  b : ∀ v ∈ g, ∃ c, c < g.length ∧ s.held.getD c 0 = v ∧ (c = v ∨ c ∉ s.wt)
  c : ∀ x, x < g.length → x ∉ s.wt → s.held.getD x 0 = g.getD x 0
  e : ∀ c ∈ s.wt, s.held.getD c 0 ≠ g.getD c 0
  f : fin s.ent g.length = s.held
  o : OkL g.length s.ent
  z : busyL (home g.length) s.ent
theorem mem_wait {g : List Nat} {b : Nat} : b ∈ (initL g).wt ↔ b < g.length ∧ (h0 g).getD b 0 ≠ g.getD b 0 := by
  show b ∈ (List.range g.length).filter (fun b => !decide ((h0 g).getD b 0 = g.getD b 0)) ↔ _
  rw [List.mem_filter, List.mem_range, Bool.not_eq_true', decide_eq_false_iff_not]
theorem li_init {g : List Nat} (I : Ini g) : LI g (initL g) where
  len := fin_len _ _
  lt := fun b hb => (mem_wait.mp hb).1
  nd := List.nodup_range.filter _
  sub := fun b hb => (mem_wait.mp hb).2
  a := fun c hc => by
    obtain ⟨h1, h2⟩ := mem_wait.mp hc
    rcases I.wait c h1 h2 with z | ⟨z1, z2⟩
    · exact .inl z
    · exact .inr ⟨fun q => (mem_wait.mp q).2 z2, z1⟩
  b := fun v hv => by
    obtain ⟨c, h1, h2, h3⟩ := I.have_ v hv
    refine ⟨c, h1, h2, h3.imp id fun z q => (mem_wait.mp q).2 z⟩
  c := fun x hx hn => Classical.byContradiction fun z => hn (mem_wait.mpr ⟨hx, z⟩)
  e := fun c hc => (mem_wait.mp hc).2
  f := rfl
  o := I.okE
  z := I.busy
/-- another place -/
theorem other_place {l : List Nat} {v i : Nat} (h : 1 < l.count v) (hi : i < l.length) : ∃ j, j < l.length ∧ j ≠ i ∧ l.getD j 0 = v := by
  refine Classical.byContradiction fun hn => ?_
  have := count_le1 (l := l) (v := v) fun a b ha hb => by
    have ea : a = i := Classical.byContradiction fun z => hn ⟨a, (List.getElem?_eq_some_iff.mp ha).1, z, by simp [List.getD_eq_getElem?_getD, ha]⟩
    have eb : b = i := Classical.byContradiction fun z => hn ⟨b, (List.getElem?_eq_some_iff.mp hb).1, z, by simp [List.getD_eq_getElem?_getD, hb]⟩
    omega
  omega
theorem two_places {l : List Nat} {v i j : Nat} (hi : i < l.length) (hj : j < l.length) (ne : i ≠ j) (ei : l.getD i 0 = v) (ej : l.getD j 0 = v) : 1 < l.count v := by
  refine Classical.byContradiction fun hn => ne ?_
  have hp : 0 < l.count v := List.count_pos_iff.mpr (ei ▸ getD_mem hi)
  exact count_one (show l.count v = 1 by omega) (by rw [← ei]; exact getD_some hi) (by rw [← ej]; exact getD_some hj)
theorem li_free {g : List Nat} (lt : ∀ v ∈ g, v < g.length) (I : Ini g) {s : LS} (L : LI g s) (hne : s.wt ≠ []) : freeL g s.held s.wt ≠ [] := fun hf => by
  unfold freeL at hf
  rw [List.filter_eq_nil_iff] at hf
  have H : ∀ b ∈ s.wt, b ∈ s.wt.map (fun c => g.getD c 0) ∧ s.held.count b ≤ 1 := fun b hb => by
    have := hf b hb
    rw [Bool.or_eq_true, not_or] at this
    obtain ⟨h1, h2⟩ := this
    exact ⟨by simpa using h1, by simpa using h2⟩
  have pm : (s.wt.map fun c => g.getD c 0).Perm s.wt := perm_sub L.nd (fun x hx => (H x hx).1) (by rw [List.length_map]; exact Nat.le_refl _)
  have clo : ∀ c ∈ s.wt, g.getD c 0 ∈ s.wt := fun c hc => pm.mem_iff.mp (List.mem_map_of_mem hc)
  have ndm : (s.wt.map fun c => g.getD c 0).Nodup := pm.nodup_iff.mpr L.nd
  have inj : ∀ c ∈ s.wt, ∀ d ∈ s.wt, g.getD c 0 = g.getD d 0 → c = d := fun c hc d hd e => by
    obtain ⟨i, hi, rfl⟩ := mem_getD.mp hc
    obtain ⟨j, hj, rfl⟩ := mem_getD.mp hd
    have : i = j := nd_inj ndm (a := i) (b := j) (by simpa using hi) (by simpa using hj) (by
      simpa [List.getD_eq_getElem?_getD, hi, hj] using e)
    rw [this]
  have ing : ∀ b ∈ s.wt, b ∈ g := fun b hb => by
    obtain ⟨c, hc, e⟩ := List.mem_map.mp (H b hb).1
    rw [← e]
    exact getD_mem (L.lt c hc)
  have hold : ∀ b ∈ s.wt, s.held.getD b 0 = b := fun b hb => (L.a b hb).resolve_right fun z => z.2 (ing b hb)
  have inw : ∀ b ∈ s.wt, ∀ c, c < g.length → g.getD c 0 = b → c ∈ s.wt := fun b hb c hc e => Classical.byContradiction fun hn => by
    have h1 := L.c c hc hn
    have ne : c ≠ b := fun z => hn (z ▸ hb)
    have := two_places (l := s.held) (by rw [L.len]; exact hc) (by rw [L.len]; exact L.lt b hb) ne (h1.trans e) (hold b hb)
    have := (H b hb).2
    omega
  have cnt : ∀ b ∈ s.wt, g.count b = 1 := fun b hb => by
    have h1 := List.count_pos_iff.mpr (ing b hb)
    have h2 := count_le1 (l := g) (v := b) fun i j hi hj => by
      have li := (List.getElem?_eq_some_iff.mp hi).1
      have lj := (List.getElem?_eq_some_iff.mp hj).1
      have ei : g.getD i 0 = b := by simp [List.getD_eq_getElem?_getD, hi]
      have ej : g.getD j 0 = b := by simp [List.getD_eq_getElem?_getD, hj]
      exact inj i (inw b hb i li ei) j (inw b hb j lj ej) (ei.trans ej.symm)
    omega
  obtain ⟨m, m1, m2⟩ := least_of hne
  have hm := L.lt m m1
  have bl : ∀ i, ringBl g m i ∈ s.wt := fun i => by
    induction i with
    | zero => exact clo m m1
    | succ i ih => exact clo _ ih
  obtain ⟨r1, r2, r3⟩ := ringN_is lt hm
  have eN : ringBl g m (ringN g m) = m := by
    have h1 := m2 _ (bl (ringN g m))
    have h2 := cnt _ (bl (ringN g m))
    refine Classical.byContradiction fun hn => ?_
    rw [on_iff.mpr ⟨by omega, h2⟩] at r2
    cases r2
  have hN : 0 < ringN g m := by
    rcases Nat.eq_zero_or_pos (ringN g m) with z | z
    · rw [z] at eN
      exact absurd ((hold m m1).trans eN.symm) (L.e m m1)
    · exact z
  have hr : ringFrom g m = some (ringRow g m (ringN g m)) := by
    unfold ringFrom
    rw [if_pos ⟨eN, hN, cnt m m1⟩]
  have hrm : ringRow g m (ringN g m) ∈ rings g := List.mem_filterMap.mpr ⟨m, List.mem_range.mpr hm, hr⟩
  exact L.sub m m1 (I.ring _ hrm m (mem_row.mpr (.inl rfl)))
theorem li_src {g : List Nat} {s : LS} (L : LI g s) {b : Nat} (hb : b < g.length) : g.getD b 0 ∈ s.held := by
  obtain ⟨c, h1, h2, _⟩ := L.b _ (getD_mem hb)
  rw [← h2]
  exact getD_mem (by rw [L.len]; exact h1)
theorem erase_idx {l : List Nat} {x : Nat} (h : x ∈ l) : l.eraseIdx (l.idxOf x) = l.erase x := by
  induction l with
  | nil => nomatch h
  | cons a l ih =>
    rw [List.idxOf_cons, List.erase_cons]
    by_cases e : a = x
    · subst e; simp
    · have e2 : (a == x) = false := by simpa using e
      rw [e2]
      have hx : x ∈ l := by
        rcases List.mem_cons.mp h with z | z
        · exact absurd z.symm e
        · exact z
      simp [ih hx]
theorem li_step {g : List Nat} {s : LS} (L : LI g s) (hf : freeL g s.held s.wt ≠ []) : LI g (stepL g s) ∧ (∀ x, x ∈ (stepL g s).wt ↔ x ∈ s.wt ∧ x ≠ pick g s) := by
  have hp : pick g s ∈ freeL g s.held s.wt := getD_mem (List.length_pos_iff.mpr hf)
  have hfree : pick g s ∉ s.wt.map (fun c => g.getD c 0) ∨ 1 < s.held.count (pick g s) := by
    have := (List.mem_filter.mp hp).2
    rw [Bool.or_eq_true] at this
    exact this.imp (by simp) (by simp)
  have hm := pick_mem hf
  have hlt := L.lt _ hm
  have hsrc := li_src L hlt
  obtain ⟨i1, _⟩ := idx_facts hsrc
  have ilt : s.held.idxOf (g.getD (pick g s) 0) < g.length := by rw [← L.len]; exact (List.getElem?_eq_some_iff.mp i1).1
  have iv : s.held.getD (s.held.idxOf (g.getD (pick g s) 0)) 0 = g.getD (pick g s) 0 := by simp [List.getD_eq_getElem?_getD] at i1 ⊢; simp [i1]
  have hne := L.e _ hm
  have hA := L.a _ hm
  have ew : (stepL g s).wt = s.wt.erase (pick g s) := erase_idx hm
  have eh : (stepL g s).held = s.held.set (pick g s) (g.getD (pick g s) 0) := rfl
  have ee : (stepL g s).ent = s.ent ++ [(pick g s, s.held.idxOf (g.getD (pick g s) 0))] := rfl
  generalize pick g s = p at *
  generalize s.held.idxOf (g.getD p 0) = ix at *
  have mw : ∀ x, x ∈ (stepL g s).wt ↔ x ∈ s.wt ∧ x ≠ p := fun x => by
    rw [ew, List.Nodup.mem_erase_iff L.nd, And.comm]
  have hat : ∀ x, x < g.length → (stepL g s).held.getD x 0 = if p = x then g.getD p 0 else s.held.getD x 0 := fun x hx => by
    rw [eh, getD_set _ _ _ _ (by rw [L.len]; exact hx)]
  refine ⟨⟨?_, fun b hb => L.lt b ((mw b).mp hb).1, ?_, fun b hb => L.sub b ((mw b).mp hb).1, fun c hc => ?_, fun v hv => ?_, fun x hx hn => ?_, fun c hc => ?_, ?_, ?_, ?_⟩, mw⟩
  · rw [eh, List.length_set, L.len]
  · rw [ew]; exact L.nd.erase _
  · obtain ⟨c1, c2⟩ := (mw c).mp hc
    rw [hat c (L.lt c c1), if_neg fun z => c2 z.symm]
    exact (L.a c c1).imp id fun z => ⟨fun q => z.1 ((mw _).mp q).1, z.2⟩
  · obtain ⟨c, h1, h2, h3⟩ := L.b v hv
    by_cases e : c = p
    · subst e
      have ev : c = v := h3.resolve_right fun z => z hm
      subst ev
      have other : ∃ d, d < g.length ∧ d ≠ c ∧ s.held.getD d 0 = c ∧ d ∉ s.wt := by
        rcases hfree with q | q
        · obtain ⟨d, d1, d2⟩ := mem_getD.mp hv
          have dn : d ∉ s.wt := fun z => q (List.mem_map.mpr ⟨d, z, d2⟩)
          exact ⟨d, d1, fun z => dn (z ▸ hm), (L.c d d1 dn).trans d2, dn⟩
        · obtain ⟨d, d1, d2, d3⟩ := other_place q (i := c) (by rw [L.len]; exact h1)
          rw [L.len] at d1
          refine ⟨d, d1, d2, d3, fun z => ?_⟩
          rcases L.a d z with y | y
          · rw [d3] at y; exact d2 y.symm
          · rw [d3] at y; exact y.1 hm
      obtain ⟨d, d1, d2, d3, d4⟩ := other
      exact ⟨d, d1, by rw [hat d d1, if_neg fun z => d2 z.symm, d3], .inr fun z => d4 ((mw d).mp z).1⟩
    · exact ⟨c, h1, by rw [hat c h1, if_neg fun z => e z.symm, h2], h3.imp id fun z q => z ((mw c).mp q).1⟩
  · rw [hat x hx]
    by_cases e : p = x
    · subst e; rw [if_pos rfl]
    · rw [if_neg e]
      exact L.c x hx fun z => hn ((mw x).mpr ⟨z, fun y => e y.symm⟩)
  · obtain ⟨c1, c2⟩ := (mw c).mp hc
    rw [hat c (L.lt c c1), if_neg fun z => c2 z.symm]
    exact L.e c c1
  · rw [ee, eh]
    unfold fin
    rw [runL_append]
    show stp (fin s.ent g.length) (p, ix) = _
    rw [L.f, stp, iv]
  · rw [ee]
    intro q hq
    rcases List.mem_append.mp hq with hq | hq
    · exact L.o q hq
    · have e : q = (p, ix) := by simpa using hq
      subst e
      exact ⟨hlt, ilt, fun z => hne (by rw [← iv]; rw [show ix = p from z.symm])⟩
  · rw [ee, busy_append]
    refine ⟨L.z, ?_, trivial⟩
    show (fin s.ent g.length).getD p 0 ≠ (fin s.ent g.length).getD ix 0
    rw [L.f, iv]
    exact hne
theorem li_all {g : List Nat} (o : GoalOk g) (I : Ini g) : ∀ k, k ≤ waitN g → LI g (itL g k) ∧ (itL g k).wt.length = waitN g - k
  | 0, _ => ⟨li_init I, rfl⟩
  | k + 1, h => by
    obtain ⟨L, hl⟩ := li_all o I k (by omega)
    have hne : (itL g k).wt ≠ [] := fun z => by rw [z] at hl; simp at hl; omega
    have hf := li_free o.lt I L hne
    refine ⟨(li_step L hf).1, ?_⟩
    obtain ⟨h5, _⟩ := idx_facts (pick_mem hf)
    have h6 := (List.getElem?_eq_some_iff.mp h5).1
    show ((itL g k).wt.eraseIdx _).length = _
    rw [List.length_eraseIdx_of_lt h6]
    omega
theorem free_at {g : List Nat} (o : GoalOk g) (I : Ini g) {k : Nat} (h : k < waitN g) : freeL g (itL g k).held (itL g k).wt ≠ [] := by
  obtain ⟨L, hl⟩ := li_all o I k (by omega)
  exact li_free o.lt I L fun z => by rw [z] at hl; simp at hl; omega
theorem rings_len (g : List Nat) : (rings g).length ≤ g.length := Nat.le_trans (List.length_filterMap_le _ _) (by simp)
theorem chg_le (g : List Nat) : (chg g).length ≤ g.length := by
  rw [chg_eq]
  exact Nat.le_trans (List.length_filter_le _ _) (by simp)
theorem facts_of {g : List Nat} (o : GoalOk g) (hp : Poss g) : Facts g := by
  have I := ini_of o hp
  have h12 := o.n12
  refine ⟨I.okE, ?_, fun r hr => ?_, fun h => ?_, fun k hk => free_at o I hk, fun k hk => ?_⟩
  · have := I.len
    have := rings_len g
    have := chg_le g
    omega
  · have R := (mem_rings o.lt hr).1
    have two := R.two
    refine ⟨fun z => by rw [z] at two; simp at two, ?_⟩
    have := nodup_le g.length r R.nd R.lt
    omega
  · rcases hp with z | z
    · exact absurd (rings_nil o.lt z) h
    · exact z
  · have L := (li_all o I k (by omega)).1
    exact li_src L (L.lt _ (pick_mem (free_at o I hk)))
structure Least (g : List Nat) : Prop where
  ok : OkL g.length (leastLog g)
  fin : fin (leastLog g) g.length = g
  busy : Busy (leastLog g) g.length
  len : (leastLog g).length = (chg g).length + (rings g).length
theorem least_of_goal {g : List Nat} (o : GoalOk g) (hp : Poss g) : Least g := by
  have I := ini_of o hp
  obtain ⟨L, hl⟩ := li_all o I (waitN g) (Nat.le_refl _)
  have hw : (itL g (waitN g)).wt = [] := List.length_eq_zero_iff.mp (by omega)
  refine ⟨L.o, ?_, busy_of L.z, ?_⟩
  · refine L.f.trans (ext_getD L.len fun j hj => ?_)
    rw [L.len] at hj
    exact L.c j hj (by rw [hw]; simp)
  · have := (it_wt (facts_of o hp) (waitN g) (Nat.le_refl _)).2.2.2
    have h2 := I.len
    show (itL g (waitN g)).ent.length = _
    omega
end R77
set_option linter.all false
namespace R77
/-! ### safe goals: each line copies from a block that is done to one that waits -/
structure Stair (g : List Nat) (log : List Pr) (W : Nat → Nat → Prop) : Prop where
  ok : OkL g.length log
  fin : fin log g.length = g
  t : ∀ k, k < log.length → W k (tgt log k)
  s : ∀ k, k < log.length → ¬ W k (src log k)
  nxt : ∀ k, k < log.length → ∀ x, W (k + 1) x ↔ W k x ∧ x ≠ tgt log k
  top : ∀ x, ¬ W log.length x
  same : ∀ k, k < log.length → g.getD (src log k) 0 = g.getD (tgt log k) 0
  out : ∀ x, W 0 x → x ∉ g
theorem Stair.down {g : List Nat} {log : List Pr} {W : Nat → Nat → Prop} (S : Stair g log W) {i : Nat} : ∀ (m : Nat), i + m ≤ log.length → ∀ x, W (i + m) x → W i x
  | 0, _, _, h => h
  | m + 1, hl, x, h => S.down m (by omega) x ((S.nxt (i + m) (by omega) x).mp h).1
theorem Stair.le {g : List Nat} {log : List Pr} {W : Nat → Nat → Prop} (S : Stair g log W) {i j : Nat} (h : i ≤ j) (hj : j ≤ log.length) {x : Nat} (w : W j x) : W i x := by
  obtain ⟨m, rfl⟩ : ∃ m, j = i + m := ⟨j - i, by omega⟩
  exact S.down m hj x w
theorem stair_top {g : List Nat} {log : List Pr} {W : Nat → Nat → Prop} (S : Stair g log W) : topOf log g.length = none := topOf_none.mpr fun p b hp hb => by
  unfold topTest
  rw [S.fin]
  by_cases e : b ∈ g
  · have : (img log g.length p).getD b 0 = b := by
      rw [img_keep (i := 0) hb (Nat.zero_le _) fun k _ h2 h3 z => ?_, img_zero, home_at hb]
      have := S.le (Nat.zero_le k) (by omega) (S.t k h3)
      rw [tgt_eq h3, z] at this
      exact S.out b this e
    rw [this]
    simp
  · simp [e]
theorem flow_keep {g : List Nat} {log : List Pr} {W : Nat → Nat → Prop} (S : Stair g log W) {p : Nat} : ∀ (m : Nat), p + m ≤ log.length → ∀ c, c < g.length → ¬ W (p + m) c → ¬ W p ((runL ((log.drop p).take m) (home g.length)).getD c 0)
  | 0, _, c, hc, h => by
    rw [List.take_zero, runL_nil, home_at hc]
    exact h
  | m + 1, hl, c, hc, h => by
    have hk : p + m < log.length := by omega
    have hd : (log.drop p)[m]? = some log[p + m] := by rw [List.getElem?_drop, List.getElem?_eq_getElem hk]
    rw [List.take_add_one, hd, runL_append]
    show ¬ W p ((stp _ log[p + m]).getD c 0)
    rw [stp_at _ _ _ (by rw [runL_len, List.length_range]; exact hc)]
    by_cases e : log[p + m].1 = c
    · rw [if_pos e]
      have := S.s (p + m) hk
      rw [src_eq hk] at this
      exact flow_keep S m (by omega) _ (S.ok.at hk).2.1 this
    · rw [if_neg e]
      refine flow_keep S m (by omega) c hc fun z => h ((S.nxt (p + m) hk c).mpr ⟨z, fun y => e ?_⟩)
      rw [tgt_eq hk] at y
      exact y.symm
theorem stair_mark {g : List Nat} {log : List Pr} {W : Nat → Nat → Prop} (S : Stair g log W) : markOf log g.length = none := markOf_none.mpr fun k p hk hp => by
  refine Bool.eq_false_iff.mpr fun h => ?_
  have h := (mem_mattr.mp (by simpa using h : tgt log k ∈ mattr log g.length p)).2
  obtain ⟨c, hc, e⟩ := mem_getD.mp h
  rw [flw_len] at hc
  have := flow_keep S (p := p) (log.length - p) (by omega) c hc (by rw [show p + (log.length - p) = log.length by omega]; exact S.top c)
  rw [List.take_of_length_le (by simp)] at this
  rw [show runL (log.drop p) (home g.length) = flw log g.length p from rfl, e] at this
  exact this (S.le hp (by omega) (S.t k hk))
theorem stair_late {g : List Nat} {log : List Pr} {W : Nat → Nat → Prop} (S : Stair g log W) : lateOf log g.length = none := by
  unfold lateOf
  rw [List.find?_eq_none]
  intro k hk
  have hk := List.mem_range.mp hk
  have ho := S.ok.at hk
  obtain ⟨t1, _⟩ := last_is (n := g.length) (b := tgt log k) (by rw [tgt_eq hk]; exact ho.1) log
  obtain ⟨_, s2⟩ := last_is (n := g.length) (b := src log k) (by rw [src_eq hk]; exact ho.2.1) log
  have a := t1 k hk (tgt_eq hk).symm
  have b : (lastW log g.length).getD (src log k) 0 < (k : Int) := by
    rcases s2 with z | ⟨j, hj, e1, e2⟩
    · omega
    · refine Classical.byContradiction fun hn => ?_
      have hjk : k ≤ j := by omega
      have w := S.le hjk (by omega) (S.t j hj)
      rw [tgt_eq hj, e1] at w
      exact S.s k hk w
  unfold lateTest
  rw [S.fin, S.same k hk, decide_eq_false (by omega)]
  simp
/-- the log of a safe goal -/
theorem away_nil {g : List Nat} (o : GoalOk g) (h : awayL g = []) : ∀ v ∈ g, g.getD v 0 = v := fun v hv => Classical.byContradiction fun hn => by
  have := (o.mem v).mpr ⟨hv, hn⟩
  rw [h] at this
  nomatch this
theorem safe_rings {g : List Nat} (o : GoalOk g) (h : awayL g = []) : rings g = [] := by
  rw [List.eq_nil_iff_forall_not_mem]
  intro r hr
  have R := (mem_rings o.lt hr).1
  have m0 : r.getD 0 0 ∈ r := getD_mem (by have := R.two; omega)
  exact R.ne m0 (away_nil o h _ (R.mem m0))
theorem itL_ent {g : List Nat} : ∀ k, ∃ t, (itL g k).ent = ringEnt g ++ t ∧ t.length = k
  | 0 => ⟨[], by simp [itL, initL], rfl⟩
  | k + 1 => by
    obtain ⟨t, h1, h2⟩ := itL_ent (g := g) k
    exact ⟨t ++ [_], by show (itL g k).ent ++ [_] = _; rw [h1, List.append_assoc], by simp [h2]⟩
theorem itL_pre {g : List Nat} {k : Nat} : ∀ m, ∃ t, (itL g (k + m)).ent = (itL g k).ent ++ t
  | 0 => ⟨[], by simp⟩
  | m + 1 => by
    obtain ⟨t, h⟩ := itL_pre (g := g) (k := k) m
    exact ⟨t ++ [_], by show (itL g (k + m)).ent ++ [_] = _; rw [h, List.append_assoc]⟩
theorem safe_stair {g : List Nat} (o : GoalOk g) (hp : Poss g) (h : awayL g = []) : Stair g (leastLog g) (fun k x => x ∈ (itL g k).wt) := by
  have I := ini_of o hp
  have Le := least_of_goal o hp
  have er := safe_rings o h
  have ee : ringEnt g = [] := by unfold ringEnt; rw [er]; rfl
  have hh0 : h0 g = home g.length := by unfold h0; rw [ee]; rfl
  have hN : (leastLog g).length = waitN g := by
    have := Le.len
    have h2 := I.len
    rw [ee] at h2
    simp at h2
    omega
  have out : ∀ x, x ∈ (itL g 0).wt → x ∉ g := fun x hx z => by
    obtain ⟨h1, h2⟩ := mem_wait.mp hx
    rw [hh0, home_at h1, away_nil o h x z] at h2
    exact h2 rfl
  have line : ∀ k, k < waitN g → (leastLog g)[k]? = some (pick g (itL g k), (itL g k).held.idxOf (g.getD (pick g (itL g k)) 0)) := fun k hk => by
    obtain ⟨t, et⟩ := itL_pre (g := g) (k := k + 1) (waitN g - (k + 1))
    rw [show k + 1 + (waitN g - (k + 1)) = waitN g by omega] at et
    obtain ⟨t2, et2, el2⟩ := itL_ent (g := g) k
    rw [ee] at et2
    have e1 : (itL g (k + 1)).ent = t2 ++ [(pick g (itL g k), (itL g k).held.idxOf (g.getD (pick g (itL g k)) 0))] := by
      show (itL g k).ent ++ [_] = _
      rw [et2]
      rfl
    unfold leastLog
    rw [et, e1, List.append_assoc, List.getElem?_append_right (by omega), el2]
    simp
  have tg : ∀ k, k < waitN g → tgt (leastLog g) k = pick g (itL g k) ∧ src (leastLog g) k = (itL g k).held.idxOf (g.getD (pick g (itL g k)) 0) := fun k hk => by
    have := line k hk
    unfold tgt src
    rw [List.getD_eq_getElem?_getD, this]
    exact ⟨rfl, rfl⟩
  have sub : ∀ k, k ≤ waitN g → ∀ x ∈ (itL g k).wt, x ∉ g := fun k => by
    induction k with
    | zero => intro _ x hx; exact out x hx
    | succ k ih =>
      intro hk x hx
      have := (li_step (li_all o I k (by omega)).1 (free_at o I (by omega))).2 x
      exact ih (by omega) x (this.mp hx).1
  have keep : ∀ k, k ≤ waitN g → ∀ c ∈ (itL g k).wt, (itL g k).held.getD c 0 = (h0 g).getD c 0 := fun k => by
    induction k with
    | zero => intro _ c _; rfl
    | succ k ih =>
      intro hk c hc
      have L := (li_all o I k (by omega)).1
      obtain ⟨c1, c2⟩ := ((li_step L (free_at o I (by omega))).2 c).mp hc
      rw [← ih (by omega) c c1]
      show ((itL g k).held.set (pick g (itL g k)) _).getD c 0 = _
      rw [getD_set _ _ _ _ (by rw [L.len]; exact L.lt c c1), if_neg fun z => c2 z.symm]
  have sr : ∀ k, k < waitN g → src (leastLog g) k ∉ (itL g k).wt ∧ g.getD (src (leastLog g) k) 0 = g.getD (tgt (leastLog g) k) 0 := fun k hk => by
    have L := (li_all o I k (by omega)).1
    have hm := pick_mem (free_at o I hk)
    have hlt := L.lt _ hm
    obtain ⟨i1, _⟩ := idx_facts (li_src L hlt)
    have ilt : (itL g k).held.idxOf (g.getD (pick g (itL g k)) 0) < g.length := by rw [← L.len]; exact (List.getElem?_eq_some_iff.mp i1).1
    have iv : (itL g k).held.getD ((itL g k).held.idxOf (g.getD (pick g (itL g k)) 0)) 0 = g.getD (pick g (itL g k)) 0 := by simp [List.getD_eq_getElem?_getD] at i1 ⊢; simp [i1]
    obtain ⟨e1, e2⟩ := tg k hk
    rw [e1, e2]
    have n : (itL g k).held.idxOf (g.getD (pick g (itL g k)) 0) ∉ (itL g k).wt := fun z => by
      have hx := (keep k (by omega) _ z).trans (by rw [hh0, home_at ilt])
      rw [iv] at hx
      exact sub k (by omega) _ z (by rw [← hx]; exact getD_mem hlt)
    exact ⟨n, (L.c _ ilt n).symm.trans iv⟩
  refine ⟨Le.ok, Le.fin, fun k hk => ?_, fun k hk => ?_, fun k hk x => ?_, fun x hx => ?_, fun k hk => ?_, out⟩
  · rw [hN] at hk
    rw [(tg k hk).1]
    exact pick_mem (free_at o I hk)
  · rw [hN] at hk
    exact (sr k hk).1
  · rw [hN] at hk
    rw [(tg k hk).1]
    exact (li_step (li_all o I k (by omega)).1 (free_at o I hk)).2 x
  · rw [hN] at hx
    obtain ⟨_, hl⟩ := li_all o I (waitN g) (Nat.le_refl _)
    have hw : (itL g (waitN g)).wt = [] := List.length_eq_zero_iff.mp (by omega)
    rw [hw] at hx
    nomatch hx
  · rw [hN] at hk
    exact (sr k hk).2
/-! ### safe_log -/
theorem mem_chg {g : List Nat} {b : Nat} : b ∈ chg g ↔ b < g.length ∧ g.getD b 0 ≠ b := by
  rw [chg_eq, List.mem_filter, List.mem_range, Bool.not_eq_true', decide_eq_false_iff_not]
theorem safeL_ok {g : List Nat} (o : GoalOk g) : OkL g.length (safeL g) := fun p hp => by
  obtain ⟨b, hb, rfl⟩ := List.mem_map.mp hp
  obtain ⟨h1, h2⟩ := mem_chg.mp hb
  exact ⟨h1, o.lt _ (getD_mem h1), fun z => h2 z.symm⟩
theorem safe_run {g : List Nat} (o : GoalOk g) (h : awayL g = []) : ∀ (m : Nat) (bs : List Nat), bs.length = m → (∀ b ∈ bs, b ∈ chg g) → ∀ x, x < g.length → (runL (bs.map fun b => (b, g.getD b 0)) (home g.length)).getD x 0 = if x ∈ bs then g.getD x 0 else x
  | 0, bs, e, _, x, hx => by
    have : bs = [] := List.length_eq_zero_iff.mp e
    subst this
    show (home g.length).getD x 0 = _
    rw [home_at hx]
    rfl
  | m + 1, bs, e, sub, x, hx => by
    have hne : bs ≠ [] := by rintro rfl; simp at e
    have eb : bs = bs.dropLast ++ [bs.getLast hne] := (List.dropLast_concat_getLast hne).symm
    have hl : bs.dropLast.length = m := by rw [List.length_dropLast]; omega
    generalize bs.dropLast = d at *
    generalize bs.getLast hne = b at *
    subst eb
    have ih := safe_run o h m d hl (fun y hy => sub y (List.mem_append_left _ hy))
    obtain ⟨b1, b2⟩ := mem_chg.mp (sub b (by simp))
    rw [List.map_append, runL_append]
    show (stp _ (b, g.getD b 0)).getD x 0 = _
    rw [stp_at _ _ _ (by rw [runL_len, List.length_range]; exact hx)]
    have hs := o.lt _ (getD_mem b1)
    have ns : g.getD b 0 ∉ d := fun z => (mem_chg.mp (sub _ (List.mem_append_left _ z))).2 (away_nil o h _ (getD_mem b1))
    by_cases eq : b = x
    · subst eq
      rw [if_pos rfl]
      show (runL _ _).getD (g.getD b 0) 0 = _
      rw [ih _ hs, if_neg ns, if_pos (by simp)]
    · rw [if_neg eq, ih x hx]
      have eq2 : ¬ x = b := fun z => eq z.symm
      by_cases xd : x ∈ d
      · rw [if_pos xd, if_pos (by simp [xd])]
      · rw [if_neg xd, if_neg (by simp [xd, eq2])]
theorem safe_fin {g : List Nat} (o : GoalOk g) (h : awayL g = []) : fin (safeL g) g.length = g := by
  refine ext_getD (fin_len _ _) fun x hx => ?_
  rw [fin_len] at hx
  unfold fin safeL
  rw [safe_run o h _ (chg g) rfl (fun _ h => h) x hx]
  by_cases e : x ∈ chg g
  · rw [if_pos e]
  · rw [if_neg e]
    exact Classical.byContradiction fun z => e (mem_chg.mpr ⟨hx, fun y => z y.symm⟩)
theorem safe_len {g : List Nat} (o : GoalOk g) (hp : Poss g) (h : awayL g = []) : (safeL g).length = (leastLog g).length := by
  rw [(least_of_goal o hp).len, safe_rings o h]
  simp [safeL]
/-! ### the law's rows of what matters -/
theorem mrow_is {log : List Pr} {n : Nat} (o : OkL n log) : ∀ k, k ≤ log.length → ∀ b, b < n → ((mrow log n k).getD b false = true ↔ b ∈ flw log n (log.length - k))
  | 0, _, b, hb => by
    have e : flw log n (log.length - 0) = home n := by unfold flw; rw [Nat.sub_zero, List.drop_of_length_le (Nat.le_refl _)]; rfl
    rw [e]
    have h1 : b ∈ home n := List.mem_range.mpr hb
    simp [mrow, List.getD_eq_getElem?_getD, hb]
  | k + 1, hk, b, hb => by
    have ih := mrow_is o k (by omega)
    have hp : log.length - 1 - k < log.length := by omega
    have hq : log.getD (log.length - 1 - k) (0, 0) = log[log.length - 1 - k] := by simp [List.getD_eq_getElem?_getD, hp]
    have hd : log.drop (log.length - (k + 1)) = log[log.length - 1 - k] :: log.drop (log.length - k) := by
      rw [show log.length - (k + 1) = log.length - 1 - k by omega, List.drop_eq_getElem_cons hp, show log.length - 1 - k + 1 = log.length - k by omega]
    have hok := o.at hp
    have hl : (mrow log n k).length = n := by
      cases k with
      | zero => simp [mrow]
      | succ k => simp [mrow]
    have hrow : mrow log n (k + 1) = ((List.range n).map fun b => (mrow log n k).getD b false && !decide (b = (log[log.length - 1 - k]).1)).set (log[log.length - 1 - k]).2 (((List.range n).map fun b => (mrow log n k).getD b false && !decide (b = (log[log.length - 1 - k]).1)).getD (log[log.length - 1 - k]).2 false || (mrow log n k).getD (log[log.length - 1 - k]).1 false) := by
      show List.set _ _ _ = _
      rw [hq]
    have hf : flw log n (log.length - (k + 1)) = runL (log.drop (log.length - k)) (stp (home n) log[log.length - 1 - k]) := by unfold flw; rw [hd, runL_cons]
    generalize log[log.length - 1 - k] = q at *
    obtain ⟨q1, q2, q3⟩ := hok
    have mp : ∀ b, b < n → ((List.range n).map fun b => (mrow log n k).getD b false && !decide (b = q.1)).getD b false = ((mrow log n k).getD b false && !decide (b = q.1)) := fun b hb => by simp [List.getD_eq_getElem?_getD, hb]
    have key : b ∈ flw log n (log.length - (k + 1)) ↔ ∃ c, c ∈ flw log n (log.length - k) ∧ (if q.1 = c then q.2 else c) = b := by
      rw [hf]
      have hl2 : (stp (home n) q).length = n := by rw [stp_len, List.length_range]
      have at_ : ∀ x, x < n → (runL (log.drop (log.length - k)) (stp (home n) q)).getD x 0 = if q.1 = (flw log n (log.length - k)).getD x 0 then q.2 else (flw log n (log.length - k)).getD x 0 := fun x hx => by
        have hc : (flw log n (log.length - k)).getD x 0 < n := (lt_run _ _ (lt_home n) fun p hp => by rw [List.length_range]; exact ((o.drop _) p hp).2.1).at (by rw [runL_len, List.length_range]; exact hx)
        rw [run_at (o.drop _) hl2 hx]
        show (stp (home n) q).getD ((flw log n (log.length - k)).getD x 0) 0 = _
        rw [stp_at _ _ _ (by rw [List.length_range]; exact hc), home_at q2, home_at hc]
      constructor
      · intro h
        obtain ⟨x, hx, e⟩ := mem_getD.mp h
        rw [runL_len, hl2] at hx
        rw [at_ x hx] at e
        exact ⟨_, getD_mem (by rw [flw_len]; exact hx), e⟩
      · rintro ⟨c, hc, e⟩
        obtain ⟨x, hx, ec⟩ := mem_getD.mp hc
        rw [flw_len] at hx
        refine mem_getD.mpr ⟨x, by rw [runL_len, hl2]; exact hx, ?_⟩
        rw [at_ x hx, ec]
        exact e
    rw [key, hrow]
    have set_at : ∀ (l : List Bool) (i : Nat) (v : Bool) (j : Nat), j < l.length → (l.set i v).getD j false = if i = j then v else l.getD j false := fun l i v j hj => by
      simp only [List.getD_eq_getElem?_getD, List.getElem?_set]
      by_cases e : i = j
      · subst e; simp [hj]
      · simp [e]
    rw [set_at _ _ _ _ (by simp; exact hb), mp _ q2, mp _ hb]
    have i1 := ih q.1 q1
    have i2 := ih b hb
    by_cases e : q.2 = b
    · rw [if_pos e]
      subst e
      rw [Bool.or_eq_true, Bool.and_eq_true, ih _ q2, i1]
      constructor
      · rintro (⟨h1, h2⟩ | h)
        · exact ⟨q.2, h1, by rw [if_neg q3]⟩
        · exact ⟨q.1, h, by rw [if_pos rfl]⟩
      · rintro ⟨c, hc, ec⟩
        by_cases e1 : q.1 = c
        · subst e1; exact .inr hc
        · rw [if_neg e1] at ec
          subst ec
          exact .inl ⟨hc, by simp; exact fun z => q3 z.symm⟩
    · rw [if_neg e, Bool.and_eq_true, i2]
      constructor
      · rintro ⟨h1, h2⟩
        have h2 : ¬ b = q.1 := by simpa using h2
        exact ⟨b, h1, by rw [if_neg fun z => h2 z.symm]⟩
      · rintro ⟨c, hc, ec⟩
        by_cases e1 : q.1 = c
        · rw [if_pos e1] at ec
          exact absurd ec e
        · rw [if_neg e1] at ec
          subst ec
          exact ⟨hc, by simp; exact fun z => e1 z.symm⟩
theorem lmark_is {log : List Pr} {n : Nat} (o : OkL n log) : lmarkOf log n = markOf log n := by
  unfold lmarkOf markOf
  have cong : ∀ (L : Nat) (f f' : Nat → Option (Nat × Nat)), (∀ k, k < L → f k = f' k) → (List.range L).findSome? f = (List.range L).findSome? f' := fun L f f' h => by
    induction L with
    | zero => rfl
    | succ L ih => rw [List.range_succ, List.findSome?_append, List.findSome?_append, ih fun k hk => h k (by omega)]; simp [List.findSome?, h L (by omega)]
  have cong2 : ∀ (L : Nat) (f f' : Nat → Bool), (∀ k, k < L → f k = f' k) → (List.range L).find? f = (List.range L).find? f' := fun L f f' h => by
    induction L with
    | zero => rfl
    | succ L ih => rw [List.range_succ, List.find?_append, List.find?_append, ih fun k hk => h k (by omega)]; simp [List.find?, h L (by omega)]
  refine cong _ _ _ fun k hk => ?_
  unfold lmarkF
  rw [cong2 (k + 1) _ (fun p => (mattr log n p).contains (tgt log k)) fun p hp => ?_]
  have ht : tgt log k < n := by rw [tgt_eq hk]; exact (o.at hk).1
  have := mrow_is o (log.length - p) (by omega) (tgt log k) ht
  rw [show log.length - (log.length - p) = p by omega] at this
  rw [Bool.eq_iff_iff, this, List.contains_iff_mem, mem_mattr]
  exact ⟨fun h => ⟨ht, h⟩, fun h => h.2⟩
end R77
set_option linter.all false
namespace R77
/-! ### the law's closed rings are those of the program -/
theorem row_last (g : List Nat) (st m : Nat) : g.getD (lastN (ringRow g st m)) 0 = ringBl g st m := by
  unfold lastN
  rw [row_len, Nat.add_sub_cancel, row_next g st m (Nat.le_refl _)]
theorem row_snoc (g : List Nat) (st m : Nat) : ringRow g st m ++ [ringBl g st m] = ringRow g st (m + 1) := by
  unfold ringRow
  rw [List.range_succ]
  simp
theorem lawR_path (g : List Nat) (st : Nat) : ∀ m, ∃ j, j ≤ m ∧ lawR g st m = ringRow g st j ∧ (ringRow g st j).Nodup ∧ (j < m → ringBl g st j ∈ ringRow g st j)
  | 0 => ⟨0, Nat.le_refl _, rfl, by simp [ringRow], fun h => absurd h (Nat.not_lt_zero _)⟩
  | m + 1 => by
    obtain ⟨j, h1, h2, h3, h4⟩ := lawR_path g st m
    unfold lawR
    rw [h2, row_last]
    by_cases e : ringBl g st j ∈ ringRow g st j
    · rw [if_pos (by simpa using e)]
      exact ⟨j, by omega, rfl, h3, fun _ => e⟩
    · rw [if_neg (by simpa using e), row_snoc]
      have hj : j = m := by
        refine Classical.byContradiction fun hn => e (h4 (by omega))
      refine ⟨j + 1, by omega, rfl, ?_, fun h => by omega⟩
      rw [← row_snoc]
      rw [List.nodup_append]
      refine ⟨h3, by simp, fun a ha b hb => ?_⟩
      have : b = ringBl g st j := by simpa using hb
      subst this
      exact fun z => e (z ▸ ha)
theorem ringN_uniq {g : List Nat} (lt : ∀ v ∈ g, v < g.length) {st N : Nat} (hs : st < g.length) (off : ringOn g st N = false) (on : ∀ i, i < N → ringOn g st i = true) : ringN g st = N := by
  obtain ⟨_, h2, h3⟩ := ringN_is lt hs
  rcases Nat.lt_trichotomy (ringN g st) N with z | z | z
  · rw [on _ z] at h2; cases h2
  · exact z
  · rw [h3 _ z] at off; cases off
theorem lawB_nil {g r : List Nat} : lawB g r = [] ↔ ∀ b ∈ r, g.count b = 1 := by
  unfold lawB
  rw [List.filter_eq_nil_iff]
  simp
theorem lawRing_is {g : List Nat} (lt : ∀ v ∈ g, v < g.length) {st : Nat} (hs : st < g.length) : lawRing g st = ringFrom g st := by
  obtain ⟨j, h1, h2, h3, h4⟩ := lawR_path g st g.length
  have hj : j < g.length := by
    have hlt : ∀ x ∈ ringRow g st j, x < g.length := fun x hx => by
      rcases mem_row.mp hx with rfl | ⟨i, _, rfl⟩
      · exact hs
      · exact bl_lt lt hs i
    have := nodup_le _ _ h3 hlt
    rw [row_len] at this
    omega
  have h4 := h4 hj
  unfold lawRing
  rw [h2]
  by_cases c : lawA g st (ringRow g st j) ∧ lawB g (ringRow g st j) = []
  · rw [if_pos c]
    obtain ⟨⟨c1, c2, c3⟩, c4⟩ := c
    rw [row_last] at c1
    rw [row_len] at c2
    have c4 := lawB_nil.mp c4
    have hst : st ∈ ringRow g st j := mem_row.mpr (.inl rfl)
    have on : ∀ i, i < j → ringOn g st i = true := fun i hi => by
      have m : ringBl g st i ∈ ringRow g st j := mem_row.mpr (.inr ⟨i, hi, rfl⟩)
      have ne : ringBl g st i ≠ st := fun z => by
        have := nd_inj h3 (a := i + 1) (b := 0) (by rw [row_len]; omega) (by rw [row_len]; omega) (by rw [row_at g st j hi, row_zero, z])
        omega
      have := c3 _ m
      exact on_iff.mpr ⟨by omega, c4 _ m⟩
    have off : ringOn g st j = false := Bool.eq_false_iff.mpr fun z => by
      have := (on_iff.mp z).1
      omega
    have eN := ringN_uniq lt hs off on
    unfold ringFrom
    rw [eN, if_pos ⟨c1, by omega, c4 st hst⟩]
  · rw [if_neg c]
    refine Eq.symm ?_
    unfold ringFrom
    refine if_neg fun ⟨d1, d2, d3⟩ => c ?_
    obtain ⟨_, n2, n3⟩ := ringN_is lt hs
    have R := row_ring lt hs d2 n3 d1 d3
    -- j is the ring's
    have ej : j = ringN g st := by
      rcases Nat.lt_trichotomy j (ringN g st) with z | z | z
      · exfalso
        rcases mem_row.mp h4 with e | ⟨i, hi, e⟩
        · have := (on_iff.mp (n3 j z)).1
          omega
        · exact bl_inj lt hs (n := ringN g st - 1) (fun i hi => n3 i (by omega)) i j hi (by omega) e.symm
      · exact z
      · exfalso
        have := nd_inj h3 (a := ringN g st + 1) (b := 0) (by rw [row_len]; omega) (by rw [row_len]; omega) (by rw [row_at g st j z, row_zero, d1])
        omega
    rw [ej]
    have h0 := row_zero g st (ringN g st)
    refine ⟨⟨by rw [row_last, d1], by rw [row_len]; omega, fun b hb => ?_⟩, lawB_nil.mpr R.cnt⟩
    have := R.low b hb
    rw [h0] at this
    exact this
theorem lawRings_is {g : List Nat} (lt : ∀ v ∈ g, v < g.length) : lawRings g = rings g := by
  unfold lawRings rings
  have key : ∀ L, L ≤ g.length → (List.range L).filterMap (lawRing g) = (List.range L).filterMap (ringFrom g) := fun L => by
    induction L with
    | zero => intro _; rfl
    | succ L ih =>
      intro h
      rw [List.range_succ, List.filterMap_append, List.filterMap_append, ih (by omega)]
      simp [List.filterMap, lawRing_is lt (show L < g.length by omega)]
  exact key _ (Nat.le_refl _)
end R77
set_option Elab.async false
set_option linter.all false
set_option maxRecDepth 100000
set_option maxHeartbeats 1000000
/-! A walk over data: slots bear PyData, lists of ours are tracked apart. Over HandS. -/
namespace L2
open PySem PySem.Spec PyProof.Rows
/-! ### data in the heap -/
section
variable {K : PySem.W.Frag} {H H' : Hp}
theorem dex_l {a : Addr} {xs : List V} (e : Evl.Ex H H') (h : SqL K H a xs) : SqL K H' a xs := Evl.ex_l e h
theorem dex_t {a : Addr} {xs : List V} (e : Evl.Ex H H') (h : SqT K H a xs) : SqT K H' a xs := Evl.ex_t e h
/-- all that data lean on is kept -/
structure Kp (K : PySem.W.Frag) (H H' : Hp) : Prop where
  l : ∀ a xs, SqL K H a xs → SqL K H' a xs
  t : ∀ a xs, SqT K H a xs → SqT K H' a xs
theorem Kp.of (e : Evl.Ex H H') : Kp K H H' := ⟨fun _ _ => dex_l e, fun _ _ => dex_t e⟩
mutual
theorem Dp.kp (k : Kp K H H') : ∀ {v : V} {d : PyData}, Dp K H v d → Dp K H' v d
  | _, _, .non => .non
  | _, _, .bl b => .bl b
  | _, _, .int i => .int i
  | _, _, .str x => .str x
  | _, _, .lst h a => .lst (k.l _ _ h) (DpAll.kp k a)
  | _, _, .tup h a => .tup (k.t _ _ h) (DpAll.kp k a)
theorem DpAll.kp (k : Kp K H H') : ∀ {vs : List V} {ds : List PyData}, DpAll K H vs ds → DpAll K H' vs ds
  | _, _, .nil => .nil
  | _, _, .cons h a => .cons (Dp.kp k h) (DpAll.kp k a)
end
theorem Dp.mono (e : Evl.Ex H H') {v : V} {d : PyData} (h : Dp K H v d) : Dp K H' v d := Dp.kp (.of e) h
theorem DpAll.mono (e : Evl.Ex H H') {vs : List V} {ds : List PyData} (h : DpAll K H vs ds) : DpAll K H' vs ds := DpAll.kp (.of e) h
/-- no list within -/
def tupd : PyData → Bool
  | .none => true
  | .bool _ => true
  | .int _ => true
  | .str _ => true
  | .tuple ds => tupdAll ds
  | _ => false
where tupdAll : List PyData → Bool
  | [] => true
  | d :: ds => tupd d && tupdAll ds
abbrev tupds := tupd.tupdAll
mutual
theorem Dp.tk (k : ∀ a xs, SqT K H a xs → SqT K H' a xs) : ∀ {v : V} {d : PyData}, tupd d = true → Dp K H v d → Dp K H' v d
  | _, _, _, .non => .non
  | _, _, _, .bl b => .bl b
  | _, _, _, .int i => .int i
  | _, _, _, .str x => .str x
  | _, _, t, .lst h a => by simp [tupd] at t
  | _, _, t, .tup h a => .tup (k _ _ h) (DpAll.tk k (by rw [tupd] at t; exact t) a)
theorem DpAll.tk (k : ∀ a xs, SqT K H a xs → SqT K H' a xs) : ∀ {vs : List V} {ds : List PyData}, tupds ds = true → DpAll K H vs ds → DpAll K H' vs ds
  | _, _, _, .nil => .nil
  | _, _, t, .cons h a => by
    have t2 := Bool.and_eq_true_iff.mp (show (tupd _ && tupds _) = true from t)
    exact .cons (Dp.tk k t2.1 h) (DpAll.tk k t2.2 a)
end
theorem tupds_iff {ds : List PyData} : tupds ds = true ↔ ∀ d ∈ ds, tupd d = true := by
  induction ds with
  | nil => simp [tupds, tupd.tupdAll]
  | cons d ds ih =>
    show (tupd d && tupds ds) = true ↔ _
    rw [Bool.and_eq_true_iff, ih]
    simp
theorem tupd_int (i : Int) : tupd (.int i) = true := rfl

/-! inversions -/
theorem Dp.int_ {v : V} {i : Int} (h : Dp K H v (.int i)) : v = .int i := by cases h; rfl
theorem Dp.bl_ {v : V} {b : Bool} (h : Dp K H v (.bool b)) : v = .bl b := by cases h; rfl
theorem Dp.str_ {v : V} {x : Str} (h : Dp K H v (.str x)) : v = .str x := by cases h; rfl
theorem Dp.non_ {v : V} (h : Dp K H v .none) : v = .non := by cases h; rfl
theorem Dp.tup_ {v : V} {ds : List PyData} (h : Dp K H v (.tuple ds)) : ∃ a xs, v = .ref a ∧ SqT K H a xs ∧ DpAll K H xs ds := by cases h with | tup h a => exact ⟨_, _, rfl, h, a⟩
theorem Dp.lst_ {v : V} {ds : List PyData} (h : Dp K H v (.list ds)) : ∃ a xs, v = .ref a ∧ SqL K H a xs ∧ DpAll K H xs ds := by cases h with | lst h a => exact ⟨_, _, rfl, h, a⟩
theorem DpAll.len : ∀ {vs : List V} {ds : List PyData}, DpAll K H vs ds → vs.length = ds.length
  | _, _, .nil => rfl
  | _, _, .cons _ a => by simp [DpAll.len a]
theorem DpAll.at : ∀ {vs : List V} {ds : List PyData} {i : Nat} {d : PyData}, DpAll K H vs ds → ds[i]? = some d → ∃ v, vs[i]? = some v ∧ Dp K H v d
  | _, _, _, _, .nil, e => by simp at e
  | _, _, 0, _, .cons h _, e => ⟨_, rfl, by simp at e; subst e; exact h⟩
  | _, _, i + 1, _, .cons _ a, e => by
    obtain ⟨v, h1, h2⟩ := DpAll.at (i := i) a (by simpa using e)
    exact ⟨v, by simpa using h1, h2⟩
theorem DpAll.app : ∀ {vs ws : List V} {ds es : List PyData}, DpAll K H vs ds → DpAll K H ws es → DpAll K H (vs ++ ws) (ds ++ es)
  | _, _, _, _, .nil, b => b
  | _, _, _, _, .cons h a, b => .cons h (DpAll.app a b)
theorem DpAll.set : ∀ {vs : List V} {ds : List PyData} {i : Nat} {v : V} {d : PyData}, DpAll K H vs ds → Dp K H v d → DpAll K H (vs.set i v) (ds.set i d)
  | _, _, _, _, _, .nil, _ => .nil
  | _, _, 0, _, _, .cons _ a, h => .cons h a
  | _, _, i + 1, _, _, .cons h a, b => .cons h (DpAll.set (i := i) a b)
theorem DpAll.take : ∀ {vs : List V} {ds : List PyData} (n : Nat), DpAll K H vs ds → DpAll K H (vs.take n) (ds.take n)
  | _, _, 0, _ => by simp only [List.take_zero]; exact .nil
  | _, _, n + 1, .nil => by simp only [List.take_nil]; exact .nil
  | _, _, n + 1, .cons h a => by simp only [List.take_succ_cons]; exact .cons h (DpAll.take n a)
theorem DpAll.drop : ∀ {vs : List V} {ds : List PyData} (n : Nat), DpAll K H vs ds → DpAll K H (vs.drop n) (ds.drop n)
  | _, _, 0, a => a
  | _, _, n + 1, .nil => .nil
  | _, _, n + 1, .cons h a => by simp only [List.drop_succ_cons]; exact DpAll.drop n a
theorem DpAll.erase : ∀ {vs : List V} {ds : List PyData} (n : Nat), DpAll K H vs ds → DpAll K H (vs.eraseIdx n) (ds.eraseIdx n)
  | _, _, _, .nil => .nil
  | _, _, 0, .cons _ a => a
  | _, _, n + 1, .cons h a => by simp only [List.eraseIdx_cons_succ]; exact .cons h (DpAll.erase n a)
theorem DpAll.rev : ∀ {vs : List V} {ds : List PyData}, DpAll K H vs ds → DpAll K H vs.reverse ds.reverse
  | _, _, .nil => .nil
  | _, _, .cons h a => by
    rw [List.reverse_cons, List.reverse_cons]
    exact (DpAll.rev a).app (.cons h .nil)
/-- ints -/
theorem DpAll.ints : ∀ {vs : List V} {ns : List Int}, DpAll K H vs (ns.map PyData.int) → vs = ns.map V.int
  | _, [], h => by cases h; rfl
  | _, n :: ns, h => by
    cases h with
    | cons h a => rw [Dp.int_ h, DpAll.ints a]; rfl
theorem DpAll.of_ints : ∀ (ns : List Int), DpAll K H (ns.map V.int) (ns.map PyData.int)
  | [] => .nil
  | n :: ns => .cons (.int n) (DpAll.of_ints ns)
theorem DpAll.bools : ∀ {vs : List V} {bs : List Bool}, DpAll K H vs (bs.map PyData.bool) → vs = bs.map V.bl
  | _, [], h => by cases h; rfl
  | _, n :: ns, h => by
    cases h with
    | cons h a => rw [Dp.bl_ h, DpAll.bools a]; rfl
end

end L2
namespace Dw
open PySem PySem.Spec PyProof.Rows L2
abbrev Ex := Evl.Ex
abbrev St := L2.St
theorem Ex.rfl' {H : Hp} : Ex H H := Evl.Ex.refl H

/-! ### weakest readings -/
section
variable (X : Cx)
def W (e : Expr) : TE := fun σ H Q => ∀ pins s, Inv X pins σ H s → wpAny (model X.prog X.w) X.A (eval e X.env) (EP X pins σ Q) X.xe s
def WT (e : Expr) : TT := fun σ H Q => ∀ pins s, Inv X pins σ H s → wpAny (model X.prog X.w) X.A (isTrue e X.env (eval e X.env)) (TP X pins σ Q) X.xe s
def WA (es : List Expr) : TA := fun σ H Q => ∀ pos pins s, Inv X pins σ H s → wpAny (model X.prog X.w) X.A (spliced (backTo pos (starEach es X.env))) (AP X pins σ Q) X.xe s
def W1 (st : Stmt) : TS := fun D σ H => ∀ pins s, Inv X pins σ H s → wpAny (model X.prog X.w) X.A (exec st X.env) (SP X pins D) X.xe s
def Wn (st : List Stmt) : TS := fun D σ H => ∀ pins s, Inv X pins σ H s → wpAny (model X.prog X.w) X.A (execs st X.env) (SP X pins D) X.xe s
end
section
variable {X : Cx} {e : Expr} {es : List Expr} {st : Stmt} {ss : List Stmt}
theorem pe_W : PE X e (W X e) := ⟨fun pins s _ _ _ I h => h pins s I⟩
theorem pt_W : PT X e (WT X e) := ⟨fun pins s _ _ _ I h => h pins s I⟩
theorem pa_W : PA X es (WA X es) := ⟨fun pos pins s _ _ _ I h => h pos pins s I⟩
theorem ps_W : PS X st (W1 X st) := ⟨fun pins s _ _ _ I h => h pins s I⟩
theorem pss_W : PSs X ss (Wn X ss) := ⟨fun pins s _ _ _ I h => h pins s I⟩
theorem wE {t : TE} (h : PE X e t) {σ : St} {H : Hp} {Q : VK} (q : t σ H Q) : W X e σ H Q := fun pins s I => h.run pins s σ H Q I q
theorem wT {t : TT} (h : PT X e t) {σ : St} {H : Hp} {Q : Bool → Hp → Prop} (q : t σ H Q) : WT X e σ H Q := fun pins s I => h.run pins s σ H Q I q
theorem wA {t : TA} (h : PA X es t) {σ : St} {H : Hp} {Q : List V → Hp → Prop} (q : t σ H Q) : WA X es σ H Q := fun pos pins s I => h.run pos pins s σ H Q I q
theorem wS {t : TS} (h : PS X st t) {σ : St} {H : Hp} {D : Ends} (q : t D σ H) : W1 X st D σ H := fun pins s I => h.run pins s σ H D I q
theorem wSs {t : TS} (h : PSs X ss t) {σ : St} {H : Hp} {D : Ends} (q : t D σ H) : Wn X ss D σ H := fun pins s I => h.run pins s σ H D I q
end

/-! ### what a value is: a word of the heap and the value that new objects don't change -/
structure Sem where
  P : PySem.W.Frag → Hp → V → Prop
  up : ∀ {K : PySem.W.Frag} {H H' : Hp} {v : V}, Ex H H' → P K H v → P K H' v
/-- data -/
def dt (d : PyData) : Sem := ⟨fun K H v => Dp K H v d, fun e h => Dp.mono e h⟩
/-- a tuple made by tuple(..), known to its object -/
def TupO (o : Obj) : Prop := o.cls = .type "tuple" ∧ o.dict = none
def xt (ds : List PyData) : Sem := ⟨fun K H v => ∃ a o xs, v = .ref a ∧ H a = some (.frz o (.tup xs)) ∧ TupO o ∧ DpAll K H xs ds, fun e ⟨a, o, xs, h1, h2, h3, h4⟩ => ⟨a, o, xs, h1, e _ _ h2, h3, DpAll.mono e h4⟩⟩
theorem xt_dt {K : PySem.W.Frag} {H : Hp} {v : V} {ds : List PyData} (h : (xt ds).P K H v) : (dt (.tuple ds)).P K H v := by
  obtain ⟨a, o, xs, rfl, h2, _, h4⟩ := h
  exact .tup (.inl (.inr ⟨o, h2⟩)) h4
inductive SAll (K : PySem.W.Frag) (H : Hp) : List V → List Sem → Prop
  | nil : SAll K H [] []
  | cons {v : V} {vs : List V} {s : Sem} {ss : List Sem} : s.P K H v → SAll K H vs ss → SAll K H (v :: vs) (s :: ss)
theorem SAll.mono {K : PySem.W.Frag} {H H' : Hp} (e : Ex H H') : ∀ {vs : List V} {ss : List Sem}, SAll K H vs ss → SAll K H' vs ss
  | _, _, .nil => .nil
  | _, _, .cons h a => .cons (Sem.up _ e h) (SAll.mono e a)
theorem SAll.len {K : PySem.W.Frag} {H : Hp} : ∀ {vs : List V} {ss : List Sem}, SAll K H vs ss → vs.length = ss.length
  | _, _, .nil => rfl
  | _, _, .cons _ a => by simp [SAll.len a]
theorem SAll.dp {K : PySem.W.Frag} {H : Hp} : ∀ {vs : List V} {ds : List PyData}, SAll K H vs (ds.map dt) → DpAll K H vs ds
  | _, [], h => by cases h; exact .nil
  | _, d :: ds, h => by
    cases h with
    | cons h a => exact .cons h (SAll.dp a)

/-! ### slots -/
abbrev Sv := List (Option Sem)
def Sl (K : PySem.W.Frag) (H : Hp) (σ : St) (Γ : Sv) : Prop := σ.length = Γ.length ∧ ∀ (i : Nat) (s : Sem), Γ[i]? = some (some s) → ∃ v : V, σ[i]? = some (some v) ∧ s.P K H v
theorem Sl.mono {K : PySem.W.Frag} {H H' : Hp} {σ : St} {Γ : Sv} (e : Ex H H') (s : Sl K H σ Γ) : Sl K H' σ Γ :=
  ⟨s.1, fun i d h => by
    obtain ⟨v, a, b⟩ := s.2 i d h
    exact ⟨v, a, d.up e b⟩⟩
theorem Sl.set {K : PySem.W.Frag} {H : Hp} {σ : St} {Γ : Sv} (s : Sl K H σ Γ) (i : Nat) {v : V} {t : Sem} (h : t.P K H v) : Sl K H (σ.set i (some v)) (Γ.set i (some t)) := by
  refine ⟨by simp [s.1], fun j u hj => ?_⟩
  rw [List.getElem?_set] at hj ⊢
  by_cases e : i = j
  · subst e
    rw [if_pos rfl] at hj ⊢
    by_cases hl : i < Γ.length
    · rw [if_pos hl] at hj
      rw [if_pos (by rw [s.1]; exact hl)]
      cases hj
      exact ⟨v, rfl, h⟩
    · rw [if_neg hl] at hj
      cases hj
  · rw [if_neg e] at hj ⊢
    exact s.2 j u hj

section
variable (X : Cx) (Γ : Sv)
/-- e gives an s, whatever stands behind the slots -/
def PX (e : Expr) (s : Sem) : Prop := ∀ σ H Q, Sl X.K H σ Γ → (∀ v H', Ex H H' → s.P X.K H' v → Q v H') → W X e σ H Q
/-- e gives a new list -/
def PXL (e : Expr) (ds : List PyData) : Prop := ∀ σ H Q, Sl X.K H σ Γ → (∀ p H' xs, H p = none → Ex H H' → H' p = some (.lst xs) → DpAll X.K H' xs ds → Q (.ref p) H') → W X e σ H Q
def PB (e : Expr) (b : Bool) : Prop := ∀ σ H Q, Sl X.K H σ Γ → (∀ H', Ex H H' → Q b H') → WT X e σ H Q
def PXs (es : List Expr) (ss : List Sem) : Prop := ∀ σ H Q, Sl X.K H σ Γ → (∀ vs H', Ex H H' → SAll X.K H' vs ss → Q vs H') → WA X es σ H Q
end
/-! operators on data -/
def OpD (K : PySem.W.Frag) (r : R2) (d e f : Sem) : Prop := ∀ (x y : V) (H : Hp) (Q : VK), d.P K H x → e.P K H y → (∀ v H', Ex H H' → f.P K H' v → Q v H') → r x y H Q
section
variable {X : Cx} {Γ : Sv} {e a b c : Expr} {es : List Expr} {s t u : Sem} {d : PyData} {ds : List PyData} {pos : Pos}
theorem px_of {te : TE} (p : PE X e te) (h : ∀ σ H Q, Sl X.K H σ Γ → (∀ v H', Ex H H' → s.P X.K H' v → Q v H') → te σ H Q) : PX X Γ e s := fun σ H Q s q => wE p (h σ H Q s q)
theorem pxl_of {te : TE} (p : PE X e te) (h : ∀ σ H Q, Sl X.K H σ Γ → (∀ p H' xs, H p = none → Ex H H' → H' p = some (.lst xs) → DpAll X.K H' xs ds → Q (.ref p) H') → te σ H Q) : PXL X Γ e ds := fun σ H Q s q => wE p (h σ H Q s q)
theorem pb_of {te : TT} {k : Bool} (p : PT X e te) (h : ∀ σ H Q, Sl X.K H σ Γ → (∀ H', Ex H H' → Q k H') → te σ H Q) : PB X Γ e k := fun σ H Q s q => wT p (h σ H Q s q)
/-- a list made is data -/
theorem px_new (h : PXL X Γ e ds) : PX X Γ e (dt (.list ds)) := fun σ H Q s q => h σ H Q s fun p H' xs _ x hp a => q _ _ x (.lst (SqL.of hp) a)
theorem px_xt (h : PX X Γ e (xt ds)) : PX X Γ e (dt (.tuple ds)) := fun σ H Q s q => h σ H Q s fun v H' x p => q _ _ x (xt_dt p)
theorem px_eq {t : Sem} (h : PX X Γ e s) (z : s = t) : PX X Γ e t := z ▸ h
theorem px_eqd {d' : PyData} (h : PX X Γ e (dt d)) (z : d = d') : PX X Γ e (dt d') := z ▸ h
theorem pxl_eq {ds' : List PyData} (h : PXL X Γ e ds) (z : ds = ds') : PXL X Γ e ds' := z ▸ h
theorem pb_eq {k k' : Bool} (h : PB X Γ e k) (z : k = k') : PB X Γ e k' := z ▸ h
/-! names, constants -/
theorem px_var (i : Nat) {x : Str} (hN : X.N[i]? = some x) (hv : Vis X.env.scope x) (h : Γ[i]? = some (some s)) (hd : (x == ("__debug__" : Str)) = false := by decide) (hcd : (x == ("__classdict__" : Str)) = false := by decide) : PX X Γ (.Name x pos) s :=
  px_of (pe_var hN hv hd hcd) fun σ H Q z q => by
    obtain ⟨v, a, b⟩ := z.2 i s h
    exact ⟨v, a, q v H Ex.rfl' b⟩
theorem px_int {i : Int} {j} : PX X Γ (.Constant (.int i) j pos) (dt (.int i)) := px_of pe_int fun σ H Q s q => q _ H Ex.rfl' (Dp.int i)
theorem px_bl {k : Bool} {j} : PX X Γ (.Constant (.bool k) j pos) (dt (.bool k)) := px_of pe_bl fun σ H Q s q => q _ H Ex.rfl' (Dp.bl k)
theorem px_non {j} : PX X Γ (.Constant .none j pos) (dt .none) := px_of pe_non fun σ H Q s q => q _ H Ex.rfl' Dp.non
theorem px_str {x : Str} {j} : PX X Γ (.Constant (.str x) j pos) (dt (.str x)) := px_of pe_str fun σ H Q s q => q _ H Ex.rfl' (Dp.str x)
/-- a module's int -/
theorem px_glob {x : Str} {i : Int} (hg : Gl X x) (hm : ∃ t, X.mg x = some (.int i t)) (hd : (x == ("__debug__" : Str)) = false := by decide) : PX X Γ (.Name x pos) (dt (.int i)) := by
  obtain ⟨t, hm⟩ := hm
  exact px_of (pe_glob (v := .int i) hg hm ⟨t, rfl⟩ hd) fun σ H Q s q => q _ H Ex.rfl' (Dp.int i)
/-- a builtin type's name -/
theorem px_ty {x : Str} {n : String} (hg : Gl X x) (hm : X.mg x = none) (hv : bootBuiltins x = some (.type n)) {T : Sem} (hT : ∀ H, T.P X.K H (.ty n)) (hn : x ≠ "__name__" := by decide) (hd : (x == ("__debug__" : Str)) = false := by decide) : PX X Γ (.Name x pos) T :=
  px_of (pe_bltn (v := .ty n) hg hm hv rfl hn hd) fun σ H Q s q => q _ H Ex.rfl' (hT H)
/-! arguments -/
theorem pxs_nil : PXs X Γ [] [] := fun σ H Q s q => wA pa_nil (q [] H Ex.rfl' .nil)
theorem pxs_cons {rest : List Expr} {ss : List Sem} (he : PX X Γ e s) (hr : PXs X Γ rest ss) (hs : starEach (e :: rest) X.env = (false, eval e X.env) :: starEach rest X.env := by rfl) : PXs X Γ (e :: rest) (s :: ss) := fun σ H Q z q =>
  wA (pa_cons pe_W pa_W hs) (he σ H _ z fun v H1 x1 h1 => hr σ H1 _ (z.mono x1) fun vs H2 x2 h2 => q (v :: vs) H2 (x1.trans x2) (.cons (s.up x2 h1) h2))
/-! operators -/
theorem two (ha : PX X Γ a s) (hb : PX X Γ b t) {r : R2} (hr : OpD X.K r s t u) {σ : St} {H : Hp} {Q : VK} (z : Sl X.K H σ Γ) (q : ∀ v H', Ex H H' → u.P X.K H' v → Q v H') : tOp r (W X a) (W X b) σ H Q :=
  ha σ H _ z fun v H1 x1 h1 => hb σ H1 _ (z.mono x1) fun w H2 x2 h2 => hr v w H2 Q (s.up x2 h1) h2 fun y H3 x3 h3 => q y H3 ((x1.trans x2).trans x3) h3
theorem px_bin {op : Operator} {r : R2} (ho : OpR X (binaryOp op) r) (hr : OpD X.K r s t u) (ha : PX X Γ a s) (hb : PX X Γ b t) : PX X Γ (.BinOp a op b pos) u := px_of (pe_op ho pe_W pe_W) fun _ _ _ z q => two ha hb hr z q
theorem px_cmp {op : CmpOp} {r : R2} (ho : OpR X (compareOp op) r) (hm : behindInMarks op b = false) (hr : OpD X.K r s t u) (ha : PX X Γ a s) (hb : PX X Γ b t) : PX X Γ (.Compare a [op] [b] pos) u := px_of (pe_cmpR ho pe_W pe_W hm) fun _ _ _ z q => two ha hb hr z q
theorem pb_cmp {op : CmpOp} {r : R2} {k : Bool} (ho : OpR X (compareOp op) r) (hm : behindInMarks op b = false) (hr : OpD X.K r s t (dt (.bool k))) (ha : PX X Γ a s) (hb : PX X Γ b t) : PB X Γ (.Compare a [op] [b] pos) k :=
  pb_of (pt_cmpR ho pe_W pe_W hm) fun _ H Q z q => two ha hb hr z fun v H1 x1 h1 => ⟨k, Dp.bl_ h1, q H1 x1⟩
theorem pb_val {k : Bool} (h : PX X Γ e (dt (.bool k))) (he : ∀ whole, isTrue e X.env whole = (do let v ← whole; standAt e.pos; holding [v] (truthy v)) := by intro _; rfl) : PB X Γ e k :=
  pb_of (pt_val pe_W he) fun σ H Q s q => h σ H _ s fun v H1 x1 h1 => ⟨k, Dp.bl_ h1, q H1 x1⟩
section
variable {K : PySem.W.Frag} {i j : Int} {d e : PyData}
theorem od_I {C : Int → Int → Prop} {g : Int → Int → Int} (hc : C i j) : OpD K (rI C fun i j => .int (g i j)) (dt (.int i)) (dt (.int j)) (dt (.int (g i j))) := fun x y H Q h1 h2 q => ⟨i, j, Dp.int_ h1, Dp.int_ h2, hc, q _ H Ex.rfl' (Dp.int _)⟩
theorem od_I0 {g : Int → Int → Int} : OpD K (rI0 fun i j => .int (g i j)) (dt (.int i)) (dt (.int j)) (dt (.int (g i j))) := fun x y H Q h1 h2 q => ⟨i, j, Dp.int_ h1, Dp.int_ h2, q _ H Ex.rfl' (Dp.int _)⟩
theorem od_B0 {g : Int → Int → Bool} : OpD K (rI0 fun i j => .bl (g i j)) (dt (.int i)) (dt (.int j)) (dt (.bool (g i j))) := fun x y H Q h1 h2 q => ⟨i, j, Dp.int_ h1, Dp.int_ h2, q _ H Ex.rfl' (Dp.bl _)⟩
end
end
end Dw
set_option Elab.async false
set_option linter.all false
set_option maxRecDepth 100000
set_option maxHeartbeats 1000000
/-! Rules for expressions over data. -/
namespace Dw
open PySem PySem.Spec PyProof.Rows L2
/-- a list, exactly -/
def lt (ds : List PyData) : Sem := ⟨fun K H v => ∃ a xs, v = .ref a ∧ H a = some (.lst xs) ∧ DpAll K H xs ds, fun e ⟨a, xs, h1, h2, h4⟩ => ⟨a, xs, h1, e _ _ h2, DpAll.mono e h4⟩⟩
theorem lt_dt {K : PySem.W.Frag} {H : Hp} {v : V} {ds : List PyData} (h : (lt ds).P K H v) : (dt (.list ds)).P K H v := by
  obtain ⟨a, xs, rfl, h2, h4⟩ := h
  exact .lst (SqL.of h2) h4
theorem sz {n : Nat} (h : n ≤ 100000) : n ≤ sizeLine := Evl.sz_of h
/-- weaker words -/
def Wk (s t : Sem) : Prop := ∀ {K H v}, s.P K H v → t.P K H v
theorem wk_rfl {s : Sem} : Wk s s := fun h => h
theorem wk_x {ds : List PyData} : Wk (xt ds) (dt (.tuple ds)) := fun h => xt_dt h
theorem wk_l {ds : List PyData} : Wk (lt ds) (dt (.list ds)) := fun h => lt_dt h

def isNon : PyData → Bool
  | .none => true
  | _ => false
/-- ints as data -/
abbrev dI (ns : List Int) : List PyData := ns.map PyData.int
abbrev nI (ns : List Nat) : List PyData := ns.map fun (n : Nat) => PyData.int (n : Int)
theorem nI_dI (ns : List Nat) : nI ns = dI (ns.map fun (n : Nat) => (n : Int)) := by simp [nI, dI]

section
variable {X : Cx} {Γ : Sv} {e a b c : Expr} {es : List Expr} {s t u : Sem} {d : PyData} {ds : List PyData} {pos : Pos}
theorem px_wk (h : PX X Γ e s) (w : Wk s t) : PX X Γ e t := fun σ H Q z q => h σ H Q z fun v H' x p => q v H' x (w p)
theorem px_lt (h : PXL X Γ e ds) : PX X Γ e (lt ds) := fun σ H Q s q => h σ H Q s fun p H' xs _ x hp a => q _ _ x ⟨p, xs, rfl, hp, a⟩
/-! ### comparisons -/
section
variable {K : PySem.W.Frag} {i j : Int} {d e : PyData} {x y : Str}
theorem od_eqI : OpD K rEq (dt (.int i)) (dt (.int j)) (dt (.bool (decide (i = j)))) := fun v w H Q h1 h2 q => by
  rw [Dp.int_ h1, Dp.int_ h2]
  refine ⟨rfl, ?_⟩
  rw [show decide (V.int i = V.int j) = decide (i = j) by simp]
  exact q _ H Ex.rfl' (Dp.bl _)
theorem od_neI : OpD K rNe (dt (.int i)) (dt (.int j)) (dt (.bool (!decide (i = j)))) := fun v w H Q h1 h2 q => by
  rw [Dp.int_ h1, Dp.int_ h2]
  refine ⟨rfl, ?_⟩
  rw [show decide (V.int i = V.int j) = decide (i = j) by simp]
  exact q _ H Ex.rfl' (Dp.bl _)
theorem od_eqS : OpD K rEq (dt (.str x)) (dt (.str y)) (dt (.bool (decide (x = y)))) := fun v w H Q h1 h2 q => by
  rw [Dp.str_ h1, Dp.str_ h2]
  refine ⟨rfl, ?_⟩
  rw [show decide (V.str x = V.str y) = decide (x = y) by simp]
  exact q _ H Ex.rfl' (Dp.bl _)
theorem od_neS : OpD K rNe (dt (.str x)) (dt (.str y)) (dt (.bool (!decide (x = y)))) := fun v w H Q h1 h2 q => by
  rw [Dp.str_ h1, Dp.str_ h2]
  refine ⟨rfl, ?_⟩
  rw [show decide (V.str x = V.str y) = decide (x = y) by simp]
  exact q _ H Ex.rfl' (Dp.bl _)
theorem dp_isN {H : Hp} {v : V} (h : Dp K H v d) : decide (v = .non) = isNon d := by cases h <;> rfl
theorem od_isN : OpD K (fun x y H Q => y = .non ∧ Q (.bl (decide (x = .non))) H) (dt d) (dt .none) (dt (.bool (isNon d))) := fun v w H Q h1 h2 q => by
  refine ⟨Dp.non_ h2, ?_⟩
  rw [dp_isN h1]
  exact q _ H Ex.rfl' (Dp.bl _)
theorem od_notN : OpD K (fun x y H Q => y = .non ∧ Q (.bl (!decide (x = .non))) H) (dt d) (dt .none) (dt (.bool (!isNon d))) := fun v w H Q h1 h2 q => by
  refine ⟨Dp.non_ h2, ?_⟩
  rw [dp_isN h1]
  exact q _ H Ex.rfl' (Dp.bl _)
theorem od_eqD : OpD K (rEqD K) (dt d) (dt e) (dt (.bool (PyData.eqv d e))) → True := fun _ => trivial
theorem od_eqD' (hd : SeqAt.shaped d = true) (he : SeqAt.shaped e = true) : OpD K (rEqD K) (dt d) (dt e) (dt (.bool (PyData.eqv d e))) := fun v w H Q h1 h2 q => ⟨d, e, h1, h2, hd, he, q _ H Ex.rfl' (Dp.bl _)⟩
theorem od_neD' (hd : SeqAt.shaped d = true) (he : SeqAt.shaped e = true) : OpD K (rNeD K) (dt d) (dt e) (dt (.bool (!PyData.eqv d e))) := fun v w H Q h1 h2 q => ⟨d, e, h1, h2, hd, he, q _ H Ex.rfl' (Dp.bl _)⟩
theorem flat_ints (ns : List Int) : (ns.map V.int).all flatV = true := by
  induction ns with
  | nil => rfl
  | cons n ns ih => simp [flatV]
theorem inV_ints (i : Int) (ns : List Int) : inV (.int i) (ns.map V.int) = decide (i ∈ ns) := by
  induction ns with
  | nil => rfl
  | cons n ns ih =>
    unfold inV at ih ⊢
    rw [List.map_cons, List.any_cons, ih]
    show ((n == i) || _) = _
    by_cases e : n = i
    · subst e; simp
    · have e' : ¬ i = n := fun z => e z.symm
      simp [e, e']
theorem od_inL {ns : List Int} : OpD K (rIn K false) (dt (.int i)) (dt (.list (dI ns))) (dt (.bool (decide (i ∈ ns)))) := fun v w H Q h1 h2 q => by
  obtain ⟨a, xs, rfl, hs, ha⟩ := Dp.lst_ h2
  have ex := DpAll.ints ha
  subst ex
  rw [Dp.int_ h1]
  refine ⟨a, _, rfl, .inl hs, rfl, flat_ints ns, ?_⟩
  rw [if_neg Bool.false_ne_true, inV_ints]
  exact q _ H Ex.rfl' (Dp.bl _)
theorem od_inT {ns : List Int} : OpD K (rIn K false) (dt (.int i)) (dt (.tuple (dI ns))) (dt (.bool (decide (i ∈ ns)))) := fun v w H Q h1 h2 q => by
  obtain ⟨a, xs, rfl, hs, ha⟩ := Dp.tup_ h2
  have ex := DpAll.ints ha
  subst ex
  rw [Dp.int_ h1]
  refine ⟨a, _, rfl, .inr hs, rfl, flat_ints ns, ?_⟩
  rw [if_neg Bool.false_ne_true, inV_ints]
  exact q _ H Ex.rfl' (Dp.bl _)
theorem od_niL {ns : List Int} : OpD K (rIn K true) (dt (.int i)) (dt (.list (dI ns))) (dt (.bool (!decide (i ∈ ns)))) := fun v w H Q h1 h2 q => by
  obtain ⟨a, xs, rfl, hs, ha⟩ := Dp.lst_ h2
  have ex := DpAll.ints ha
  subst ex
  rw [Dp.int_ h1]
  refine ⟨a, _, rfl, .inl hs, rfl, flat_ints ns, ?_⟩
  rw [if_pos rfl, inV_ints]
  exact q _ H Ex.rfl' (Dp.bl _)
theorem od_niT {ns : List Int} : OpD K (rIn K true) (dt (.int i)) (dt (.tuple (dI ns))) (dt (.bool (!decide (i ∈ ns)))) := fun v w H Q h1 h2 q => by
  obtain ⟨a, xs, rfl, hs, ha⟩ := Dp.tup_ h2
  have ex := DpAll.ints ha
  subst ex
  rw [Dp.int_ h1]
  refine ⟨a, _, rfl, .inr hs, rfl, flat_ints ns, ?_⟩
  rw [if_pos rfl, inV_ints]
  exact q _ H Ex.rfl' (Dp.bl _)
theorem od_niD (hd : SeqAt.shaped d = true) (he : SeqAt.shaped (.list ds) = true) : OpD K (rNotInD K) (dt d) (dt (.list ds)) (dt (.bool (!ds.any fun z => PyData.eqv z d))) := fun v w H Q h1 h2 q => ⟨d, ds, h1, h2, hd, he, q _ H Ex.rfl' (Dp.bl _)⟩
end
/-! the rules by their Python words; hu: room -/
theorem px_eqI {i j : Int} (ha : PX X Γ a (dt (.int i))) (hb : PX X Γ b (dt (.int j))) : PX X Γ (.Compare a [.Eq] [b] pos) (dt (.bool (decide (i = j)))) := px_cmp op_eq (nomark _) od_eqI ha hb
theorem px_neI {i j : Int} (ha : PX X Γ a (dt (.int i))) (hb : PX X Γ b (dt (.int j))) : PX X Γ (.Compare a [.NotEq] [b] pos) (dt (.bool (!decide (i = j)))) := px_cmp op_ne (nomark _) od_neI ha hb
theorem px_eqS {i j : Str} (ha : PX X Γ a (dt (.str i))) (hb : PX X Γ b (dt (.str j))) : PX X Γ (.Compare a [.Eq] [b] pos) (dt (.bool (decide (i = j)))) := px_cmp op_eq (nomark _) od_eqS ha hb
theorem px_neS {i j : Str} (ha : PX X Γ a (dt (.str i))) (hb : PX X Γ b (dt (.str j))) : PX X Γ (.Compare a [.NotEq] [b] pos) (dt (.bool (!decide (i = j)))) := px_cmp op_ne (nomark _) od_neS ha hb
theorem pb_eqI {i j : Int} (ha : PX X Γ a (dt (.int i))) (hb : PX X Γ b (dt (.int j))) : PB X Γ (.Compare a [.Eq] [b] pos) (decide (i = j)) := pb_cmp op_eq (nomark _) od_eqI ha hb
theorem pb_neI {i j : Int} (ha : PX X Γ a (dt (.int i))) (hb : PX X Γ b (dt (.int j))) : PB X Γ (.Compare a [.NotEq] [b] pos) (!decide (i = j)) := pb_cmp op_ne (nomark _) od_neI ha hb
theorem pb_eqS {i j : Str} (ha : PX X Γ a (dt (.str i))) (hb : PX X Γ b (dt (.str j))) : PB X Γ (.Compare a [.Eq] [b] pos) (decide (i = j)) := pb_cmp op_eq (nomark _) od_eqS ha hb
theorem pb_neS {i j : Str} (ha : PX X Γ a (dt (.str i))) (hb : PX X Γ b (dt (.str j))) : PB X Γ (.Compare a [.NotEq] [b] pos) (!decide (i = j)) := pb_cmp op_ne (nomark _) od_neS ha hb
theorem pb_lt {i j : Int} (ha : PX X Γ a (dt (.int i))) (hb : PX X Γ b (dt (.int j))) : PB X Γ (.Compare a [.Lt] [b] pos) (decide (i < j)) := pb_cmp op_lt (nomark _) od_B0 ha hb
theorem pb_le {i j : Int} (ha : PX X Γ a (dt (.int i))) (hb : PX X Γ b (dt (.int j))) : PB X Γ (.Compare a [.LtE] [b] pos) (decide (i ≤ j)) := pb_cmp op_le (nomark _) od_B0 ha hb
theorem pb_gt {i j : Int} (ha : PX X Γ a (dt (.int i))) (hb : PX X Γ b (dt (.int j))) : PB X Γ (.Compare a [.Gt] [b] pos) (decide (j < i)) := pb_cmp op_gt (nomark _) od_B0 ha hb
theorem pb_ge {i j : Int} (ha : PX X Γ a (dt (.int i))) (hb : PX X Γ b (dt (.int j))) : PB X Γ (.Compare a [.GtE] [b] pos) (decide (j ≤ i)) := pb_cmp op_ge (nomark _) od_B0 ha hb
theorem px_lt' {i j : Int} (ha : PX X Γ a (dt (.int i))) (hb : PX X Γ b (dt (.int j))) : PX X Γ (.Compare a [.Lt] [b] pos) (dt (.bool (decide (i < j)))) := px_cmp op_lt (nomark _) od_B0 ha hb
theorem px_le {i j : Int} (ha : PX X Γ a (dt (.int i))) (hb : PX X Γ b (dt (.int j))) : PX X Γ (.Compare a [.LtE] [b] pos) (dt (.bool (decide (i ≤ j)))) := px_cmp op_le (nomark _) od_B0 ha hb
theorem px_gt {i j : Int} (ha : PX X Γ a (dt (.int i))) (hb : PX X Γ b (dt (.int j))) : PX X Γ (.Compare a [.Gt] [b] pos) (dt (.bool (decide (j < i)))) := px_cmp op_gt (nomark _) od_B0 ha hb
theorem px_ge {i j : Int} (ha : PX X Γ a (dt (.int i))) (hb : PX X Γ b (dt (.int j))) : PX X Γ (.Compare a [.GtE] [b] pos) (dt (.bool (decide (j ≤ i)))) := px_cmp op_ge (nomark _) od_B0 ha hb
theorem pb_isN {p : Pos} {j} (ha : PX X Γ a (dt d)) : PB X Γ (.Compare a [.Is] [.Constant .none j p] pos) (isNon d) := pb_cmp op_isN (nomark _) od_isN ha px_non
theorem pb_notN {p : Pos} {j} (ha : PX X Γ a (dt d)) : PB X Γ (.Compare a [.IsNot] [.Constant .none j p] pos) (!isNon d) := pb_cmp op_notN (nomark _) od_notN ha px_non
theorem px_isN {p : Pos} {j} (ha : PX X Γ a (dt d)) : PX X Γ (.Compare a [.Is] [.Constant .none j p] pos) (dt (.bool (isNon d))) := px_cmp op_isN (nomark _) od_isN ha px_non
theorem px_notN {p : Pos} {j} (ha : PX X Γ a (dt d)) : PX X Γ (.Compare a [.IsNot] [.Constant .none j p] pos) (dt (.bool (!isNon d))) := px_cmp op_notN (nomark _) od_notN ha px_non
theorem px_eqD {e : PyData} (hu : X.A.units + 64 < cLine) (hd : SeqAt.shaped d = true) (he : SeqAt.shaped e = true) (ha : PX X Γ a (dt d)) (hb : PX X Γ b (dt e)) : PX X Γ (.Compare a [.Eq] [b] pos) (dt (.bool (PyData.eqv d e))) := px_cmp (op_eqD hu) (nomark _) (od_eqD' hd he) ha hb
theorem px_neD {e : PyData} (hu : X.A.units + 64 < cLine) (hd : SeqAt.shaped d = true) (he : SeqAt.shaped e = true) (ha : PX X Γ a (dt d)) (hb : PX X Γ b (dt e)) : PX X Γ (.Compare a [.NotEq] [b] pos) (dt (.bool (!PyData.eqv d e))) := px_cmp (op_neD hu) (nomark _) (od_neD' hd he) ha hb
theorem pb_eqD {e : PyData} (hu : X.A.units + 64 < cLine) (hd : SeqAt.shaped d = true) (he : SeqAt.shaped e = true) (ha : PX X Γ a (dt d)) (hb : PX X Γ b (dt e)) : PB X Γ (.Compare a [.Eq] [b] pos) (PyData.eqv d e) := pb_cmp (op_eqD hu) (nomark _) (od_eqD' hd he) ha hb
theorem pb_neD {e : PyData} (hu : X.A.units + 64 < cLine) (hd : SeqAt.shaped d = true) (he : SeqAt.shaped e = true) (ha : PX X Γ a (dt d)) (hb : PX X Γ b (dt e)) : PB X Γ (.Compare a [.NotEq] [b] pos) (!PyData.eqv d e) := pb_cmp (op_neD hu) (nomark _) (od_neD' hd he) ha hb
theorem pb_niD (hu : X.A.units + 65 < cLine) (hm : behindInMarks .NotIn b = false) (hd : SeqAt.shaped d = true) (he : SeqAt.shaped (.list ds) = true) (ha : PX X Γ a (dt d)) (hb : PX X Γ b (dt (.list ds))) : PB X Γ (.Compare a [.NotIn] [b] pos) (!ds.any fun z => PyData.eqv z d) := pb_cmp (op_notInD hu) hm (od_niD hd he) ha hb
theorem px_chain {op op' : CmpOp} {g g' : Int → Int → Bool} (ho : OpR X (compareOp op) (rI0 fun i j => .bl (g i j))) (ho' : OpR X (compareOp op') (rI0 fun i j => .bl (g' i j))) {i j k : Int} (ha : PX X Γ a (dt (.int i))) (hb : PX X Γ b (dt (.int j))) (hc : PX X Γ c (dt (.int k)))
    (hm : lastMarks [op, op'] [b, c] = false := by with_unfolding_all rfl) : PX X Γ (.Compare a [op, op'] [b, c] pos) (dt (.bool (g i j && g' j k))) :=
  px_of (pe_chain ho ho' pe_W pe_W pe_W hm) fun σ H Q s q => ha σ H _ s fun v H1 x1 h1 => hb σ H1 _ (s.mono x1) fun u H2 x2 h2 => ⟨i, j, Dp.int_ h1, Dp.int_ h2, _, rfl, by
    cases e : g i j with
    | true =>
      rw [if_pos rfl]
      refine hc σ H2 _ (s.mono (x1.trans x2)) fun w H3 x3 h3 => ⟨j, k, Dp.int_ h2, Dp.int_ h3, ?_⟩
      exact q (.bl (g' j k)) H3 ((x1.trans x2).trans x3) (by rw [e]; exact Dp.bl _)
    | false =>
      rw [if_neg Bool.false_ne_true]
      exact q _ H2 (x1.trans x2) (by rw [e]; exact Dp.bl _)⟩
theorem pb_chain {op op' : CmpOp} {g g' : Int → Int → Bool} (ho : OpR X (compareOp op) (rI0 fun i j => .bl (g i j))) (ho' : OpR X (compareOp op') (rI0 fun i j => .bl (g' i j))) {i j k : Int} (ha : PX X Γ a (dt (.int i))) (hb : PX X Γ b (dt (.int j))) (hc : PX X Γ c (dt (.int k)))
    (hm : lastMarks [op, op'] [b, c] = false := by with_unfolding_all rfl) : PB X Γ (.Compare a [op, op'] [b, c] pos) (g i j && g' j k) :=
  pb_of (pt_chain ho ho' pe_W pe_W pe_W hm) fun σ H Q s q => ha σ H _ s fun v H1 x1 h1 => hb σ H1 _ (s.mono x1) fun u H2 x2 h2 => ⟨i, j, Dp.int_ h1, Dp.int_ h2, _, rfl, by
    cases e : g i j with
    | true =>
      rw [if_pos rfl]
      refine hc σ H2 _ (s.mono (x1.trans x2)) fun w H3 x3 h3 => ⟨j, k, Dp.int_ h2, Dp.int_ h3, _, rfl, ?_⟩
      have := q H3 ((x1.trans x2).trans x3)
      rw [e] at this
      exact this
    | false =>
      rw [if_neg Bool.false_ne_true]
      refine ⟨_, rfl, ?_⟩
      have := q H2 (x1.trans x2)
      rw [e] at this
      exact this⟩
/-! ### in, of ints -/
theorem pb_inL {i : Int} {ns : List Int} (ha : PX X Γ a (dt (.int i))) (hb : PX X Γ b (dt (.list (dI ns)))) (hm : behindInMarks .In b = false := by rfl) : PB X Γ (.Compare a [.In] [b] pos) (decide (i ∈ ns)) := pb_cmp op_in_seq hm od_inL ha hb
theorem pb_inT {i : Int} {ns : List Int} (ha : PX X Γ a (dt (.int i))) (hb : PX X Γ b (dt (.tuple (dI ns)))) (hm : behindInMarks .In b = false := by rfl) : PB X Γ (.Compare a [.In] [b] pos) (decide (i ∈ ns)) := pb_cmp op_in_seq hm od_inT ha hb
theorem pb_niL {i : Int} {ns : List Int} (ha : PX X Γ a (dt (.int i))) (hb : PX X Γ b (dt (.list (dI ns)))) (hm : behindInMarks .NotIn b = false := by rfl) : PB X Γ (.Compare a [.NotIn] [b] pos) (!decide (i ∈ ns)) := pb_cmp op_notIn_seq hm od_niL ha hb
theorem pb_niT {i : Int} {ns : List Int} (ha : PX X Γ a (dt (.int i))) (hb : PX X Γ b (dt (.tuple (dI ns)))) (hm : behindInMarks .NotIn b = false := by rfl) : PB X Γ (.Compare a [.NotIn] [b] pos) (!decide (i ∈ ns)) := pb_cmp op_notIn_seq hm od_niT ha hb
/-! ### and, or, not -/
def WTw (X : Cx) (e : Expr) : TT := fun σ H Q => ∀ whole pins s, Inv X pins σ H s → wpAny (model X.prog X.w) X.A (isTrue e X.env whole) (TP X pins σ Q) X.xe s
theorem pw_W : PW X e (WTw X e) := ⟨fun whole pins s _ _ _ I h => h whole pins s I⟩
def PBw (X : Cx) (Γ : Sv) (e : Expr) (b : Bool) : Prop := ∀ σ H Q, Sl X.K H σ Γ → (∀ H', Ex H H' → Q b H') → WTw X e σ H Q
theorem pbw_of {tt : TT} {k : Bool} (p : PW X e tt) (h : ∀ σ H Q, Sl X.K H σ Γ → (∀ H', Ex H H' → Q k H') → tt σ H Q) : PBw X Γ e k := fun σ H Q s q whole pins st I => p.run whole pins st σ H Q I (h σ H Q s q)
theorem pb_w {k : Bool} (h : PBw X Γ e k) : PB X Γ e k := fun σ H Q s q pins st I => h σ H Q s q _ pins st I
theorem pbw_and1 {k : Bool} (ha : PB X Γ a k) : PBw X Γ (.BoolOp .And [a] pos) k := pbw_of (pw_and1 pt_W) fun σ H Q s q => ha σ H Q s q
theorem pbw_or1 {k : Bool} (ha : PB X Γ a k) : PBw X Γ (.BoolOp .Or [a] pos) k := pbw_of (pw_or1 pt_W) fun σ H Q s q => ha σ H Q s q
theorem pbw_and {k m : Bool} {rest : List Expr} (ha : PB X Γ a k) (hb : k = true → PBw X Γ (.BoolOp .And (b :: rest) pos) m) : PBw X Γ (.BoolOp .And (a :: b :: rest) pos) (k && m) := pbw_of (pw_and pt_W pw_W) fun σ H Q s q => ha σ H _ s fun H1 x1 => by
  cases k with
  | true => rw [if_pos rfl]; exact hb rfl σ H1 Q (s.mono x1) fun H2 x2 => q H2 (x1.trans x2)
  | false => rw [if_neg Bool.false_ne_true]; exact q H1 x1
theorem pbw_or {k m : Bool} {rest : List Expr} (ha : PB X Γ a k) (hb : k = false → PBw X Γ (.BoolOp .Or (b :: rest) pos) m) : PBw X Γ (.BoolOp .Or (a :: b :: rest) pos) (k || m) := pbw_of (pw_or pt_W pw_W) fun σ H Q s q => ha σ H _ s fun H1 x1 => by
  cases k with
  | true => rw [if_pos rfl]; exact q H1 x1
  | false => rw [if_neg Bool.false_ne_true]; exact hb rfl σ H1 Q (s.mono x1) fun H2 x2 => q H2 (x1.trans x2)
theorem pb_and2 {k m : Bool} (ha : PB X Γ a k) (hb : k = true → PB X Γ b m) : PB X Γ (.BoolOp .And [a, b] pos) (k && m) := pb_w (pbw_and ha fun h => pbw_and1 (hb h))
theorem pb_or2 {k m : Bool} (ha : PB X Γ a k) (hb : k = false → PB X Γ b m) : PB X Γ (.BoolOp .Or [a, b] pos) (k || m) := pb_w (pbw_or ha fun h => pbw_or1 (hb h))
theorem pb_and3 {k m n : Bool} (ha : PB X Γ a k) (hb : k = true → PB X Γ b m) (hc : k = true → m = true → PB X Γ c n) : PB X Γ (.BoolOp .And [a, b, c] pos) (k && (m && n)) := pb_w (pbw_and ha fun h => pbw_and (hb h) fun h2 => pbw_and1 (hc h h2))
theorem pb_or3 {k m n : Bool} (ha : PB X Γ a k) (hb : k = false → PB X Γ b m) (hc : k = false → m = false → PB X Γ c n) : PB X Γ (.BoolOp .Or [a, b, c] pos) (k || (m || n)) := pb_w (pbw_or ha fun h => pbw_or (hb h) fun h2 => pbw_or1 (hc h h2))
theorem pb_not {k : Bool} (ha : PB X Γ a k) : PB X Γ (.UnaryOp .Not a pos) (!k) := pb_of (pt_not pt_W) fun σ H Q s q => ha σ H _ s fun H1 x1 => q H1 x1
theorem px_and2 {k m : Bool} (ha : PX X Γ a (dt (.bool k))) (hb : k = true → PX X Γ b (dt (.bool m))) : PX X Γ (.BoolOp .And [a, b] pos) (dt (.bool (k && m))) := px_of (pe_and pe_W (pe_one pe_W)) fun σ H Q s q => ha σ H _ s fun v H1 x1 h1 => ⟨k, Dp.bl_ h1, by
  cases k with
  | true => rw [if_pos rfl]; exact hb rfl σ H1 Q (s.mono x1) fun w H2 x2 h2 => q w H2 (x1.trans x2) h2
  | false => rw [if_neg Bool.false_ne_true]; exact q _ H1 x1 (Dp.bl _)⟩
theorem px_or2 {k m : Bool} (ha : PX X Γ a (dt (.bool k))) (hb : k = false → PX X Γ b (dt (.bool m))) : PX X Γ (.BoolOp .Or [a, b] pos) (dt (.bool (k || m))) := px_of (pe_or pe_W (pe_one pe_W)) fun σ H Q s q => ha σ H _ s fun v H1 x1 h1 => ⟨k, Dp.bl_ h1, by
  cases k with
  | true => rw [if_pos rfl]; exact q _ H1 x1 (Dp.bl _)
  | false => rw [if_neg Bool.false_ne_true]; exact hb rfl σ H1 Q (s.mono x1) fun w H2 x2 h2 => q w H2 (x1.trans x2) h2⟩
theorem px_and3 {k m n : Bool} (ha : PX X Γ a (dt (.bool k))) (hb : k = true → PX X Γ b (dt (.bool m))) (hc : k = true → m = true → PX X Γ c (dt (.bool n))) : PX X Γ (.BoolOp .And [a, b, c] pos) (dt (.bool (k && (m && n)))) := px_of (pe_and pe_W (pe_and pe_W (pe_one pe_W))) fun σ H Q s q => ha σ H _ s fun v H1 x1 h1 => ⟨k, Dp.bl_ h1, by
  cases k with
  | false => rw [if_neg Bool.false_ne_true]; exact q _ H1 x1 (Dp.bl _)
  | true =>
    rw [if_pos rfl]
    refine hb rfl σ H1 _ (s.mono x1) fun w H2 x2 h2 => ⟨m, Dp.bl_ h2, ?_⟩
    cases m with
    | false => rw [if_neg Bool.false_ne_true]; exact q _ H2 (x1.trans x2) (Dp.bl _)
    | true => rw [if_pos rfl]; exact hc rfl rfl σ H2 Q (s.mono (x1.trans x2)) fun w H3 x3 h3 => q w H3 ((x1.trans x2).trans x3) h3⟩
theorem px_not {k : Bool} (ha : PX X Γ a (dt (.bool k))) : PX X Γ (.UnaryOp .Not a pos) (dt (.bool (!k))) := px_of (pe_not pe_W) fun σ H Q s q => ha σ H _ s fun v H1 x1 h1 => ⟨k, Dp.bl_ h1, q _ H1 x1 (Dp.bl _)⟩
/-- the truth of a value -/
def truB : PyData → Bool
  | .none => false
  | .bool b => b
  | .int i => i != 0
  | .list ds => !ds.isEmpty
  | .tuple ds => !ds.isEmpty
  | _ => false
theorem pb_tru (ha : PX X Γ a (dt d)) (hs : ∀ x, d ≠ .str x := by intro x z; cases z) (he : ∀ whole, isTrue a X.env whole = (do let v ← whole; standAt a.pos; holding [v] (truthy v)) := by intro _; rfl) : PB X Γ a (truB d) := pb_of (pt_truth pe_W he) fun σ H Q s q => ha σ H _ s fun v H1 x1 h1 => ⟨truB d, by
  cases h1 with
  | non => rfl
  | bl b => rfl
  | int i => rfl
  | str x => exact absurd rfl (hs x)
  | lst h a => exact .inl ⟨_, h, by rw [truB]; cases a <;> rfl⟩
  | tup h a => exact .inr (.inl ⟨_, h, by rw [truB]; cases a <;> rfl⟩), q H1 x1⟩
theorem px_if {k : Bool} (hc : PB X Γ c k) (ha : k = true → PX X Γ a s) (hb : k = false → PX X Γ b s) : PX X Γ (.IfExp c a b pos) s := px_of (pe_ifExp pt_W pe_W pe_W) fun σ H Q z q => hc σ H _ z fun H1 x1 => by
  cases k with
  | true => rw [if_pos rfl]; exact ha rfl σ H1 Q (z.mono x1) fun w H2 x2 h2 => q w H2 (x1.trans x2) h2
  | false => rw [if_neg Bool.false_ne_true]; exact hb rfl σ H1 Q (z.mono x1) fun w H2 x2 h2 => q w H2 (x1.trans x2) h2
/-! ### displays -/
theorem px_tup {k} (h : PXs X Γ es (ds.map dt)) (hl : ds.length ≤ 100000) : PX X Γ (.Tuple es k pos) (dt (.tuple ds)) := px_of (pe_tup pa_W) fun σ H Q s q => h σ H _ s fun vs H1 x1 h1 =>
  ⟨sz (by rw [SAll.len h1]; simpa using hl), fun p hp => q _ _ (x1.trans (Evl.Ex.new hp)) (.tup (SqT.of upd_same) (DpAll.mono (Evl.Ex.new hp) (SAll.dp h1)))⟩
theorem pxl_lst (h : PXs X Γ es (ds.map dt)) (hl : ds.length ≤ 100000) : PXL X Γ (.List es pos) ds := pxl_of (pe_lst pa_W) fun σ H Q s q => h σ H _ s fun vs H1 x1 h1 =>
  ⟨sz (by rw [SAll.len h1]; simpa using hl), fun p hp => q p _ vs (Evl.fresh_back x1 hp) (x1.trans (Evl.Ex.new hp)) upd_same (DpAll.mono (Evl.Ex.new hp) (SAll.dp h1))⟩
/-! ### items -/
theorem atI_dp {K : PySem.W.Frag} {H : Hp} {xs : List V} {i : Int} (h : DpAll K H xs ds) (e : atI ds i = some d) : ∃ v, atI xs i = some v ∧ Dp K H v d := by
  unfold atI at e ⊢
  rw [DpAll.len h]
  cases q : ixN ds.length i with
  | none => rw [q] at e; cases e
  | some j =>
    rw [q] at e
    exact DpAll.at h e
theorem px_ixL {i : Int} (ha : PX X Γ a (dt (.list ds))) (hb : PX X Γ b (dt (.int i))) (e : atI ds i = some d) (hs : PlainIx b := by exact fun _ _ => rfl) : PX X Γ (.Subscript a b pos) (dt d) := px_of (pe_ix ix_list pe_W pe_W hs) fun σ H Q s q => two ha hb (r := rIxL X.K) (u := dt d) (fun v w H Q h1 h2 q => by
    obtain ⟨p, xs, rfl, hx, hd⟩ := Dp.lst_ h1
    obtain ⟨z, e1, e2⟩ := atI_dp hd e
    exact ⟨p, xs, i, z, rfl, Dp.int_ h2, hx, e1, q z H Ex.rfl' e2⟩) s q
theorem px_ixT {i : Int} (ha : PX X Γ a (dt (.tuple ds))) (hb : PX X Γ b (dt (.int i))) (e : atI ds i = some d) (hs : PlainIx b := by exact fun _ _ => rfl) : PX X Γ (.Subscript a b pos) (dt d) := px_of (pe_ix ix_tup pe_W pe_W hs) fun σ H Q s q => two ha hb (r := rIxT X.K) (u := dt d) (fun v w H Q h1 h2 q => by
    obtain ⟨p, xs, rfl, hx, hd⟩ := Dp.tup_ h1
    obtain ⟨z, e1, e2⟩ := atI_dp hd e
    exact ⟨p, xs, i, z, rfl, Dp.int_ h2, hx, e1, q z H Ex.rfl' e2⟩) s q
/-! ### slices of lists -/
def WO (X : Cx) (o : Option Expr) : TO := fun σ H Q => ∀ pins s, Inv X pins σ H s → wpAny (model X.prog X.w) X.A (evalPart o X.env) (fun v s' => ∃ l H', Inv X pins σ H' s' ∧ IsPart v l ∧ Q l H') X.xe s
inductive PO' (X : Cx) (Γ : Sv) : Option Expr → Option Int → Prop
  | none : PO' X Γ none none
  | some {e : Expr} {i : Int} : PX X Γ e (dt (.int i)) → PO' X Γ (some e) (some i)
def cutD (ds : List PyData) (lo hi : Option Int) : List PyData := (ds.drop (HT.sIx ds.length 0 lo)).take (HT.sIx ds.length ds.length hi - HT.sIx ds.length 0 lo)
theorem cut_dp {K : PySem.W.Frag} {H : Hp} {xs : List V} (h : DpAll K H xs ds) (lo hi : Option Int) : DpAll K H (cutV xs lo hi) (cutD ds lo hi) := by
  unfold cutV cutD
  rw [DpAll.len h]
  exact (h.drop _).take _
theorem part_go {lo : Option Expr} {l : Option Int} (h : PO' X Γ lo l) : ∃ tl, PO X lo tl ∧ ∀ σ H (Q : Option Int → Hp → Prop), Sl X.K H σ Γ → (∀ H', Ex H H' → Q l H') → tl σ H Q := by
  cases h with
  | none => exact ⟨_, po_none, fun σ H Q _ q => q H Ex.rfl'⟩
  | some h => exact ⟨_, po_some pe_W, fun σ H Q s q => h σ H _ s fun v H' x p => ⟨_, Dp.int_ p, q H' x⟩⟩
theorem pxl_sl {lo hi : Option Expr} {l m : Option Int} {p2 : Pos} (ha : PX X Γ a (dt (.list ds))) (hl : PO' X Γ lo l) (hh : PO' X Γ hi m) : PXL X Γ (.Subscript a (.Slice lo hi none p2) pos) (cutD ds l m) := by
  obtain ⟨tl, pl, ql⟩ := part_go hl
  obtain ⟨th, ph, qh⟩ := part_go hh
  refine pxl_of (pe_slice sl_list pe_W pl ph) fun σ H Q s q => ha σ H _ s fun v H1 x1 h1 => ql σ H1 _ (s.mono x1) fun H2 x2 => qh σ H2 _ (s.mono (x1.trans x2)) fun H3 x3 => ?_
  obtain ⟨p, xs, rfl, hx, hd⟩ := Dp.lst_ (Dp.mono (x2.trans x3) h1)
  exact ⟨p, xs, rfl, hx, fun r hr => q r _ _ (Evl.fresh_back ((x1.trans x2).trans x3) hr) (((x1.trans x2).trans x3).trans (Evl.Ex.new hr)) upd_same (cut_dp (DpAll.mono (Evl.Ex.new hr) hd) l m)⟩
/-! ### builtins -/
theorem px_len {p : Pos} (hg : Gl X "len") (hm : X.mg "len" = none) (ha : PX X Γ a (dt d)) {n : Nat} (hd : d = .list ds ∨ d = .tuple ds) (hn : ds.length = n) (hs : starEach [a] X.env = (false, eval a X.env) :: starEach [] X.env := by rfl) (hp : (backTo pos (starEach [] X.env)).any (·.1) = false := by rfl) : PX X Γ (.Call (.Name "len" p) [a] [] pos) (dt (.int (n : Int))) :=
  px_of (pe_callB call_len_seq hg hm PySem.boot_len pa_W (he := hs) (hpl := hp)) fun σ H Q s q => pxs_cons ha pxs_nil hs σ H _ s fun vs H1 x1 h1 => by
    cases h1 with
    | cons h1 h2 =>
      cases h2
      rcases hd with rfl | rfl
      · obtain ⟨p, xs, rfl, hx, hd⟩ := Dp.lst_ h1
        refine ⟨p, xs, rfl, .inl hx, ?_⟩
        rw [DpAll.len hd, hn]
        exact q _ H1 x1 (Dp.int _)
      · obtain ⟨p, xs, rfl, hx, hd⟩ := Dp.tup_ h1
        refine ⟨p, xs, rfl, .inr hx, ?_⟩
        rw [DpAll.len hd, hn]
        exact q _ H1 x1 (Dp.int _)
theorem pxl_list {p : Pos} (hg : Gl X "list") (hm : X.mg "list" = none) (ha : PX X Γ a (dt d)) (hd : d = .list ds ∨ d = .tuple ds) (hs : starEach [a] X.env = (false, eval a X.env) :: starEach [] X.env := by rfl) (hp : (backTo pos (starEach [] X.env)).any (·.1) = false := by rfl) : PXL X Γ (.Call (.Name "list" p) [a] [] pos) ds :=
  pxl_of (pe_callTy call_list_of hg hm (by decide +kernel) pa_W (he := hs) (hpl := hp)) fun σ H Q s q => pxs_cons ha pxs_nil hs σ H _ s fun vs H1 x1 h1 => by
    cases h1 with
    | cons h1 h2 =>
      cases h2
      rcases hd with rfl | rfl
      · obtain ⟨p, xs, rfl, hx, hd⟩ := Dp.lst_ h1
        exact ⟨p, xs, rfl, .inl hx, fun l hl => q l _ xs (Evl.fresh_back x1 hl) (x1.trans (Evl.Ex.new hl)) upd_same (DpAll.mono (Evl.Ex.new hl) hd)⟩
      · obtain ⟨p, xs, rfl, hx, hd⟩ := Dp.tup_ h1
        exact ⟨p, xs, rfl, .inr hx, fun l hl => q l _ xs (Evl.fresh_back x1 hl) (x1.trans (Evl.Ex.new hl)) upd_same (DpAll.mono (Evl.Ex.new hl) hd)⟩
theorem px_tuple {p : Pos} (hg : Gl X "tuple") (hm : X.mg "tuple" = none) (ha : PX X Γ a (dt (.list ds))) (hs : starEach [a] X.env = (false, eval a X.env) :: starEach [] X.env := by rfl) (hp : (backTo pos (starEach [] X.env)).any (·.1) = false := by rfl) : PX X Γ (.Call (.Name "tuple" p) [a] [] pos) (dt (.tuple ds)) :=
  px_of (pe_callTy call_tuple_of hg hm (by decide +kernel) pa_W (he := hs) (hpl := hp)) fun σ H Q s q => pxs_cons ha pxs_nil hs σ H _ s fun vs H1 x1 h1 => by
    cases h1 with
    | cons h1 h2 =>
      cases h2
      obtain ⟨p, xs, rfl, hx, hd⟩ := Dp.lst_ h1
      exact ⟨p, xs, rfl, .inl ⟨hx, fun l hl => q _ _ (x1.trans (Evl.Ex.new hl)) (.tup (SqT.of upd_same) (DpAll.mono (Evl.Ex.new hl) hd))⟩⟩
/-! ### two lists -/
theorem pxl_cat {es : List PyData} (ha : PX X Γ a (lt ds)) (hb : PX X Γ b (lt es)) (hl : ds.length + es.length ≤ 100000) : PXL X Γ (.BinOp a .Add b pos) (ds ++ es) := pxl_of (pe_op op_cat pe_W pe_W) fun σ H Q s q => ha σ H _ s fun v H1 x1 h1 => hb σ H1 _ (s.mono x1) fun w H2 x2 h2 => by
  obtain ⟨p, xs, rfl, hp, dp⟩ := (lt ds).up x2 h1
  obtain ⟨r, ys, rfl, hr, dr⟩ := h2
  exact ⟨p, r, xs, ys, rfl, rfl, hp, hr, sz (by rw [DpAll.len dp, DpAll.len dr]; exact hl), fun l hl => q l _ _ (Evl.fresh_back (x1.trans x2) hl) ((x1.trans x2).trans (Evl.Ex.new hl)) upd_same (DpAll.mono (Evl.Ex.new hl) (dp.app dr))⟩
theorem rep_dp {K : PySem.W.Frag} {H : Hp} {xs : List V} (h : DpAll K H xs ds) : ∀ n, DpAll K H (List.replicate n xs).flatten (List.replicate n ds).flatten
  | 0 => .nil
  | n + 1 => by
    rw [List.replicate_succ, List.replicate_succ, List.flatten_cons, List.flatten_cons]
    exact h.app (rep_dp h n)
theorem pxl_rep {n : Nat} (ha : PX X Γ a (lt ds)) (hb : PX X Γ b (dt (.int (n : Int)))) (hl : ds.length * n ≤ 100000) (hn : n ≤ 100000) : PXL X Γ (.BinOp a .Mult b pos) (List.replicate n ds).flatten := pxl_of (pe_op op_rep pe_W pe_W) fun σ H Q s q => ha σ H _ s fun v H1 x1 h1 => hb σ H1 _ (s.mono x1) fun w H2 x2 h2 => by
  obtain ⟨p, xs, rfl, hp, dp⟩ := (lt ds).up x2 h1
  exact ⟨p, _, xs, rfl, Dp.int_ h2, hp, by omega, by omega, sz (by rw [DpAll.len dp]; exact hl), fun l hl => q l _ _ (Evl.fresh_back (x1.trans x2) hl) ((x1.trans x2).trans (Evl.Ex.new hl)) upd_same (DpAll.mono (Evl.Ex.new hl) (rep_dp dp n))⟩
end
end Dw
set_option Elab.async false
set_option linter.all false
set_option maxRecDepth 100000
set_option maxHeartbeats 1000000
/-! States: slots that bear words, lists and dicts of ours apart. -/
namespace Dw
open PySem PySem.Spec PyProof.Rows L2
open Classical in
/-- the heap without some objects -/
noncomputable def cut (H : Hp) (P : Addr → Prop) : Hp := fun a => if P a then none else H a
theorem cut_no {H : Hp} {P : Addr → Prop} {a : Addr} (h : ¬ P a) : cut H P a = H a := by unfold cut; rw [if_neg h]
theorem cut_yes {H : Hp} {P : Addr → Prop} {a : Addr} (h : P a) : cut H P a = none := by unfold cut; rw [if_pos h]
theorem cut_ex {H : Hp} {P : Addr → Prop} : Ex (cut H P) H := fun a o h => by
  by_cases p : P a
  · rw [cut_yes p] at h; cases h
  · rwa [cut_no p] at h
/-- fewer objects cut, more objects there -/
theorem cut_grow {H H' : Hp} {P P' : Addr → Prop} (h : ∀ a o, H a = some o → ¬ P a → H' a = some o ∧ ¬ P' a) : Ex (cut H P) (cut H' P') := fun a o e => by
  by_cases p : P a
  · rw [cut_yes p] at e; cases e
  · rw [cut_no p] at e
    obtain ⟨q, n⟩ := h a o e p
    rw [cut_no n]
    exact q
/-- what stands at an object of ours -/
inductive Con where
  | lst (ds : List PyData)
  | dic (kvs : List (Key × PyData))
inductive KvD (K : PySem.W.Frag) (B : Hp) : List (Key × V) → List (Key × PyData) → Prop
  | nil : KvD K B [] []
  | cons {k : Key} {v : V} {d : PyData} {ks : List (Key × V)} {kvs : List (Key × PyData)} : Dp K B v d → KvD K B ks kvs → KvD K B ((k, v) :: ks) ((k, d) :: kvs)
theorem KvD.mono {K : PySem.W.Frag} {B B' : Hp} (e : Ex B B') : ∀ {ks kvs}, KvD K B ks kvs → KvD K B' ks kvs
  | _, _, .nil => .nil
  | _, _, .cons h a => .cons (Dp.mono e h) (KvD.mono e a)
def Con.ok (K : PySem.W.Frag) (B H : Hp) (p : Addr) : Con → Prop
  | .lst ds => ∃ xs, H p = some (.lst xs) ∧ DpAll K B xs ds
  | .dic kvs => ∃ ks, H p = some (.dK ks) ∧ KvD K B ks kvs
def Mutb (o : Option HO) : Prop := (∃ xs, o = some (.lst xs)) ∨ ∃ ks, o = some (.dK ks)
theorem Con.mutb {K : PySem.W.Frag} {B H : Hp} {p : Addr} : ∀ {c : Con}, c.ok K B H p → Mutb (H p)
  | .lst _, ⟨xs, h, _⟩ => .inl ⟨xs, h⟩
  | .dic _, ⟨ks, h, _⟩ => .inr ⟨ks, h⟩
theorem Con.ok.to {K : PySem.W.Frag} {B B' H H' : Hp} {p : Addr} (e : Ex B B') (h : H' p = H p) : ∀ {c : Con}, c.ok K B H p → c.ok K B' H' p
  | .lst _, ⟨xs, a, b⟩ => ⟨xs, h.trans a, DpAll.mono e b⟩
  | .dic _, ⟨ks, a, b⟩ => ⟨ks, h.trans a, KvD.mono e b⟩
inductive Ty where
  | un
  | dat (s : Sem)
  | own (p : Addr) (c : Con)
abbrev Ga := List Ty
def Own (Γ : Ga) (a : Addr) : Prop := ∃ (i : Nat) (c : Con), Γ[i]? = some (.own a c)
/-- hidden or owned -/
def Hid (O : List Addr) (Γ : Ga) (a : Addr) : Prop := a ∈ O ∨ Own Γ a
noncomputable abbrev Bs (H : Hp) (O : List Addr) (Γ : Ga) : Hp := cut H (Hid O Γ)
def SlotOk (K : PySem.W.Frag) (B H : Hp) : Ty → Option V → Prop
  | .un, _ => True
  | .dat s, v => ∃ x, v = some x ∧ s.P K B x
  | .own p c, v => v = some (.ref p) ∧ c.ok K B H p
structure Sta (K : PySem.W.Frag) (H0 H : Hp) (O : List Addr) (σ : St) (Γ : Ga) : Prop where
  ent : Ex H0 (Bs H O Γ)
  len : σ.length = Γ.length
  inj : ∀ (i j : Nat) (a : Addr) (c c' : Con), Γ[i]? = some (.own a c) → Γ[j]? = some (.own a c') → i = j
  dis : ∀ a ∈ O, ¬ Own Γ a
  hid : ∀ a ∈ O, Mutb (H a)
  slot : ∀ (i : Nat) (t : Ty), Γ[i]? = some t → ∃ v, σ[i]? = some v ∧ SlotOk K (Bs H O Γ) H t v
structure Up (H H' : Hp) (O : List Addr) (Γ Γ' : Ga) : Prop where
  keep : ∀ a ∈ O, H' a = H a
  grow : Ex (Bs H O Γ) (Bs H' O Γ')
theorem Up.rfl' {H : Hp} {O : List Addr} {Γ : Ga} : Up H H O Γ Γ := ⟨fun _ _ => rfl, Ex.rfl'⟩
theorem Up.tr {H H1 H2 : Hp} {O : List Addr} {Γ Γ1 Γ2 : Ga} (a : Up H H1 O Γ Γ1) (b : Up H1 H2 O Γ1 Γ2) : Up H H2 O Γ Γ2 := ⟨fun x h => (b.keep x h).trans (a.keep x h), a.grow.trans b.grow⟩
/-- words that stand without lists and dicts of ours -/
def Fr (s : Sem) : Prop := ∀ {K : PySem.W.Frag} {H : Hp} {P : Addr → Prop} {v : V}, (∀ a, P a → Mutb (H a)) → s.P K H v → s.P K (cut H P) v
theorem mutb_tup {H : Hp} {P : Addr → Prop} {K : PySem.W.Frag} (m : ∀ a, P a → Mutb (H a)) (a : Addr) (xs : List V) (h : SqT K H a xs) : SqT K (cut H P) a xs := by
  rcases h with h | h
  · refine .inl ?_
    have n : ¬ P a := fun p => by
      rcases h with h | ⟨o, h⟩ <;> rcases m a p with ⟨ys, e⟩ | ⟨ks, e⟩ <;> (rw [h] at e; cases e)
    rcases h with h | ⟨o, h⟩
    · exact .inl (by rw [cut_no n]; exact h)
    · exact .inr ⟨o, by rw [cut_no n]; exact h⟩
  · exact .inr h
theorem fr_dt {d : PyData} (h : tupd d = true) : Fr (dt d) := fun m p => Dp.tk (mutb_tup m) h p
theorem fr_all {K : PySem.W.Frag} {H : Hp} {P : Addr → Prop} {xs : List V} {ds : List PyData} (h : tupds ds = true) (m : ∀ a, P a → Mutb (H a)) (p : DpAll K H xs ds) : DpAll K (cut H P) xs ds := DpAll.tk (mutb_tup m) h p
theorem fr_int {i : Int} : Fr (dt (.int i)) := fr_dt rfl
theorem fr_bool {b : Bool} : Fr (dt (.bool b)) := fr_dt rfl
theorem fr_str {x : Str} : Fr (dt (.str x)) := fr_dt rfl
theorem fr_none : Fr (dt .none) := fr_dt rfl
theorem fr_tup {ds : List PyData} (h : tupds ds = true) : Fr (dt (.tuple ds)) := fr_dt (by show tupds ds = true; exact h)
theorem fr_xt {ds : List PyData} (h : tupds ds = true) : Fr (xt ds) := fun {K H P v} m p => by
  obtain ⟨a, o, xs, rfl, h2, h3, h4⟩ := p
  refine ⟨a, o, xs, rfl, ?_, h3, fr_all h m h4⟩
  rw [cut_no fun q => by rcases m a q with ⟨ys, e⟩ | ⟨ks, e⟩ <;> (rw [h2] at e; cases e)]
  exact h2
theorem tupds_I (ns : List Int) : tupds (dI ns) = true := tupds_iff.mpr fun d h => by
  obtain ⟨n, _, rfl⟩ := List.mem_map.mp h
  rfl

section
variable {K : PySem.W.Frag} {H0 H H1 : Hp} {O : List Addr} {σ : St} {Γ : Ga}
theorem Sta.mutb (S : Sta K H0 H O σ Γ) : ∀ a, Hid O Γ a → Mutb (H a) := fun a h => by
  rcases h with h | ⟨i, c, h⟩
  · exact S.hid a h
  · obtain ⟨v, _, _, q⟩ := S.slot i _ h
    exact Con.mutb (c := c) q
theorem Mutb.some' {H : Hp} {a : Addr} (h : Mutb (H a)) : ∃ o, H a = some o := by
  rcases h with ⟨xs, h⟩ | ⟨ks, h⟩
  · exact ⟨_, h⟩
  · exact ⟨_, h⟩
theorem Sta.fresh (S : Sta K H0 H O σ Γ) {p : Addr} (h : H p = none) : ¬ Hid O Γ p := fun q => by
  obtain ⟨o, e⟩ := Mutb.some' (S.mutb p q)
  rw [h] at e
  cases e
/-- new objects -/
theorem Sta.ex (S : Sta K H0 H O σ Γ) (e : Ex H H1) : Sta K H0 H1 O σ Γ ∧ Up H H1 O Γ Γ := by
  have kp : ∀ a, Hid O Γ a → H1 a = H a := fun a h => by
    obtain ⟨o, q⟩ := Mutb.some' (S.mutb a h)
    rw [q, e a o q]
  have g : Ex (Bs H O Γ) (Bs H1 O Γ) := cut_grow fun a o h n => ⟨e a o h, n⟩
  refine ⟨⟨S.ent.trans g, S.len, S.inj, S.dis, fun a h => by rw [kp a (.inl h)]; exact S.hid a h, fun i t h => ?_⟩, ⟨fun a h => kp a (.inl h), g⟩⟩
  obtain ⟨v, h1, h2⟩ := S.slot i t h
  refine ⟨v, h1, ?_⟩
  cases t with
  | un => trivial
  | dat s =>
    obtain ⟨x, e1, e2⟩ := h2
    exact ⟨x, e1, s.up g e2⟩
  | own p c => exact ⟨h2.1, h2.2.to g (kp p (.inr ⟨i, c, h⟩))⟩
theorem hid_set {i : Nat} {t : Ty} (hi : i < Γ.length) (a : Addr) : Hid O (Γ.set i t) a → Hid O Γ a ∨ ∃ c, t = .own a c := fun h => by
  rcases h with h | ⟨j, c, h⟩
  · exact .inl (.inl h)
  · rw [List.getElem?_set] at h
    by_cases e : i = j
    · subst e
      rw [if_pos rfl, if_pos hi] at h
      exact .inr ⟨c, Option.some.inj h⟩
    · rw [if_neg e] at h
      exact .inl (.inr ⟨j, c, h⟩)
/-- a slot gets a value -/
theorem Sta.put (S : Sta K H0 H O σ Γ) {i : Nat} (hi : i < Γ.length) {s : Sem} {v : V} (h : s.P K (Bs H O Γ) v) : Sta K H0 H O (σ.set i (some v)) (Γ.set i (.dat s)) ∧ Up H H O Γ (Γ.set i (.dat s)) := by
  have sub : ∀ a, Hid O (Γ.set i (.dat s)) a → Hid O Γ a := fun a q => by
    rcases hid_set hi a q with q | ⟨c, q⟩
    · exact q
    · cases q
  have g : Ex (Bs H O Γ) (Bs H O (Γ.set i (.dat s))) := cut_grow fun a o h n => ⟨h, fun q => n (sub a q)⟩
  have lk : ∀ j t, (Γ.set i (.dat s))[j]? = some t → (j = i ∧ t = .dat s) ∨ (j ≠ i ∧ Γ[j]? = some t) := fun j t q => by
    rw [List.getElem?_set] at q
    by_cases e : i = j
    · subst e
      rw [if_pos rfl, if_pos hi] at q
      exact .inl ⟨rfl, (Option.some.inj q).symm⟩
    · rw [if_neg e] at q
      exact .inr ⟨fun z => e z.symm, q⟩
  refine ⟨⟨S.ent.trans g, by simp [S.len], fun j k a c c' h1 h2 => ?_, fun a ha q => ?_, S.hid, fun j t q => ?_⟩, ⟨fun _ _ => rfl, g⟩⟩
  · rcases lk j _ h1 with ⟨_, z⟩ | ⟨_, q1⟩
    · cases z
    · rcases lk k _ h2 with ⟨_, z⟩ | ⟨_, q2⟩
      · cases z
      · exact S.inj j k a c c' q1 q2
  · obtain ⟨j, c, q⟩ := q
    rcases lk j _ q with ⟨_, z⟩ | ⟨_, q⟩
    · cases z
    · exact S.dis a ha ⟨j, c, q⟩
  · rcases lk j t q with ⟨rfl, rfl⟩ | ⟨ne, q⟩
    · exact ⟨some v, by rw [List.getElem?_set, if_pos rfl, if_pos (by rw [S.len]; exact hi)], v, rfl, s.up g h⟩
    · obtain ⟨w, h1, h2⟩ := S.slot j t q
      refine ⟨w, by rw [List.getElem?_set, if_neg fun z => ne z.symm]; exact h1, ?_⟩
      cases t with
      | un => trivial
      | dat s' =>
        obtain ⟨x, e1, e2⟩ := h2
        exact ⟨x, e1, s'.up g e2⟩
      | own p c => exact ⟨h2.1, h2.2.to g rfl⟩
/-- a slot gets an object of ours, hidden so far -/
theorem Sta.own' {p : Addr} (S : Sta K H0 H (p :: O) σ Γ) (hO : p ∉ O) {i : Nat} (hi : i < Γ.length) {c : Con} (h : c.ok K (Bs H (p :: O) Γ) H p) : Sta K H0 H O (σ.set i (some (.ref p))) (Γ.set i (.own p c)) ∧ Ex (Bs H (p :: O) Γ) (Bs H O (Γ.set i (.own p c))) := by
  have sub : ∀ a, Hid O (Γ.set i (.own p c)) a → Hid (p :: O) Γ a := fun a q => by
    rcases hid_set hi a q with (q | q) | ⟨c', q⟩
    · exact .inl (List.mem_cons_of_mem _ q)
    · exact .inr q
    · cases q
      exact .inl List.mem_cons_self
  have g : Ex (Bs H (p :: O) Γ) (Bs H O (Γ.set i (.own p c))) := cut_grow fun a o h n => ⟨h, fun q => n (sub a q)⟩
  have lk : ∀ j t, (Γ.set i (.own p c))[j]? = some t → (j = i ∧ t = .own p c) ∨ (j ≠ i ∧ Γ[j]? = some t) := fun j t q => by
    rw [List.getElem?_set] at q
    by_cases e : i = j
    · subst e
      rw [if_pos rfl, if_pos hi] at q
      exact .inl ⟨rfl, (Option.some.inj q).symm⟩
    · rw [if_neg e] at q
      exact .inr ⟨fun z => e z.symm, q⟩
  have np : ¬ Own Γ p := S.dis p List.mem_cons_self
  refine ⟨⟨S.ent.trans g, by simp [S.len], fun j k a c1 c2 h1 h2 => ?_, fun a ha q => ?_, fun a ha => S.hid a (List.mem_cons_of_mem _ ha), fun j t q => ?_⟩, g⟩
  · rcases lk j _ h1 with ⟨e1, z1⟩ | ⟨n1, q1⟩
    · cases z1
      rcases lk k _ h2 with ⟨e2, z⟩ | ⟨_, q2⟩
      · rw [e1, e2]
      · exact absurd ⟨k, c2, q2⟩ np
    · rcases lk k _ h2 with ⟨_, z⟩ | ⟨_, q2⟩
      · cases z
        exact absurd ⟨j, c1, q1⟩ np
      · exact S.inj j k a c1 c2 q1 q2
  · obtain ⟨j, c', q⟩ := q
    rcases lk j _ q with ⟨_, z⟩ | ⟨_, q⟩
    · cases z
      exact hO ha
    · exact S.dis a (List.mem_cons_of_mem _ ha) ⟨j, c', q⟩
  · rcases lk j t q with ⟨rfl, rfl⟩ | ⟨ne, q⟩
    · exact ⟨some (.ref p), by rw [List.getElem?_set, if_pos rfl, if_pos (by rw [S.len]; exact hi)], rfl, h.to g rfl⟩
    · obtain ⟨w, h1, h2⟩ := S.slot j t q
      refine ⟨w, by rw [List.getElem?_set, if_neg fun z => ne z.symm]; exact h1, ?_⟩
      cases t with
      | un => trivial
      | dat s' =>
        obtain ⟨x, e1, e2⟩ := h2
        exact ⟨x, e1, s'.up g e2⟩
      | own p' c' => exact ⟨h2.1, h2.2.to g rfl⟩
/-- an object that is new is hidden -/
theorem Sta.hide {p : Addr} (S : Sta K H0 H O σ Γ) (hp : H p = none) (e : Ex H H1) (m : Mutb (H1 p)) : Sta K H0 H1 (p :: O) σ Γ ∧ p ∉ O ∧ (∀ a ∈ O, H1 a = H a) ∧ Ex (Bs H O Γ) (Bs H1 (p :: O) Γ) := by
  have nf := S.fresh hp
  have kp : ∀ a, Hid O Γ a → H1 a = H a := fun a h => by
    obtain ⟨o, q⟩ := Mutb.some' (S.mutb a h)
    rw [q, e a o q]
  have g : Ex (Bs H O Γ) (Bs H1 (p :: O) Γ) := cut_grow fun a o h n => ⟨e a o h, fun q => by
    rcases q with q | q
    · rcases List.mem_cons.mp q with rfl | q
      · rw [hp] at h; cases h
      · exact n (.inl q)
    · exact n (.inr q)⟩
  refine ⟨⟨S.ent.trans g, S.len, S.inj, fun a h => ?_, fun a h => ?_, fun i t h => ?_⟩, fun h => nf (.inl h), fun a h => kp a (.inl h), g⟩
  · rcases List.mem_cons.mp h with rfl | h
    · exact fun q => nf (.inr q)
    · exact S.dis a h
  · rcases List.mem_cons.mp h with rfl | h
    · exact m
    · rw [kp a (.inl h)]; exact S.hid a h
  · obtain ⟨v, h1, h2⟩ := S.slot i t h
    refine ⟨v, h1, ?_⟩
    cases t with
    | un => trivial
    | dat s =>
      obtain ⟨x, e1, e2⟩ := h2
      exact ⟨x, e1, s.up g e2⟩
    | own p c => exact ⟨h2.1, h2.2.to g (kp p (.inr ⟨i, c, h⟩))⟩
/-- an object of ours is changed -/
theorem Sta.mut (S : Sta K H0 H O σ Γ) {i : Nat} {p : Addr} {c c' : Con} {o : HO} (h : Γ[i]? = some (.own p c)) (hc : c'.ok K (Bs H O Γ) (upd H p o) p) : Sta K H0 (upd H p o) O σ (Γ.set i (.own p c')) ∧ Up H (upd H p o) O Γ (Γ.set i (.own p c')) := by
  have hi : i < Γ.length := (List.getElem?_eq_some_iff.mp h).1
  have same : ∀ a, Hid O (Γ.set i (.own p c')) a ↔ Hid O Γ a := fun a => by
    constructor
    · intro q
      rcases hid_set hi a q with q | ⟨c', q⟩
      · exact q
      · cases q
        exact .inr ⟨i, c, h⟩
    · intro q
      rcases q with q | ⟨j, c1, q⟩
      · exact .inl q
      · by_cases e : i = j
        · subst e
          rw [h] at q
          cases q
          exact .inr ⟨i, c', by rw [List.getElem?_set, if_pos rfl, if_pos hi]⟩
        · exact .inr ⟨j, c1, by rw [List.getElem?_set, if_neg e]; exact q⟩
  have hpO : p ∉ O := fun z => S.dis p z ⟨i, c, h⟩
  have eq : Bs (upd H p o) O (Γ.set i (.own p c')) = Bs H O Γ := by
    funext a
    show cut (upd H p o) (Hid O (Γ.set i (.own p c'))) a = cut H (Hid O Γ) a
    by_cases q : Hid O Γ a
    · rw [cut_yes q, cut_yes ((same a).mpr q)]
    · rw [cut_no q, cut_no fun z => q ((same a).mp z), upd_ne fun z => q (by rw [z]; exact .inr ⟨i, c, h⟩)]
  have lk : ∀ j t, (Γ.set i (.own p c'))[j]? = some t → (j = i ∧ t = .own p c') ∨ (j ≠ i ∧ Γ[j]? = some t) := fun j t q => by
    rw [List.getElem?_set] at q
    by_cases e : i = j
    · subst e
      rw [if_pos rfl, if_pos hi] at q
      exact .inl ⟨rfl, (Option.some.inj q).symm⟩
    · rw [if_neg e] at q
      exact .inr ⟨fun z => e z.symm, q⟩
  refine ⟨⟨by rw [eq]; exact S.ent, by simp [S.len], fun j k a c1 c2 h1 h2 => ?_, fun a ha q => ?_, fun a ha => ?_, fun j t q => ?_⟩, ⟨fun a ha => upd_ne fun z => hpO (by rw [← z]; exact ha), by rw [eq]; exact Ex.rfl'⟩⟩
  · rcases lk j _ h1 with ⟨e1, z1⟩ | ⟨n1, q1⟩
    · cases z1
      rcases lk k _ h2 with ⟨e2, z⟩ | ⟨n2, q2⟩
      · rw [e1, e2]
      · exact absurd (S.inj k i p _ _ q2 h) n2
    · rcases lk k _ h2 with ⟨_, z⟩ | ⟨_, q2⟩
      · cases z
        exact absurd (S.inj j i p _ _ q1 h) n1
      · exact S.inj j k a c1 c2 q1 q2
  · rcases (same a).mp (.inr q) with z | z
    · exact S.dis a ha (by
        obtain ⟨j, c1, q⟩ := q
        rcases lk j _ q with ⟨_, z1⟩ | ⟨_, q1⟩
        · cases z1
          exact absurd ha hpO
        · exact ⟨j, c1, q1⟩)
    · exact S.dis a ha z
  · rw [upd_ne fun z => hpO (by rw [← z]; exact ha)]
    exact S.hid a ha
  · rcases lk j t q with ⟨rfl, rfl⟩ | ⟨ne, q⟩
    · obtain ⟨v, h1, h2, _⟩ := S.slot j _ h
      exact ⟨v, h1, h2, by rw [eq]; exact hc⟩
    · obtain ⟨w, h1, h2⟩ := S.slot j t q
      refine ⟨w, h1, ?_⟩
      rw [eq]
      cases t with
      | un => trivial
      | dat s' => exact h2
      | own p' c1 =>
        have np : p' ≠ p := fun z => ne (S.inj j i p _ _ (z ▸ q) h)
        exact ⟨h2.1, h2.2.to Ex.rfl' (upd_ne np)⟩
/-- a dict known to its items -/
def dct (kvs : List (Key × PyData)) : Sem := ⟨fun K H v => ∃ p ks, v = .ref p ∧ H p = some (.dK ks) ∧ KvD K H ks kvs, fun e ⟨p, ks, h1, h2, h3⟩ => ⟨p, ks, h1, e _ _ h2, KvD.mono e h3⟩⟩
/-- what the slots say for pure expressions -/
def frz1 : Ty → Option Sem
  | .un => none
  | .dat s => some s
  | .own _ (.lst ds) => some (lt ds)
  | .own _ (.dic kvs) => some (dct kvs)
abbrev frz (Γ : Ga) : Sv := Γ.map frz1
theorem Sta.sl (S : Sta K H0 H O σ Γ) : Sl K H σ (frz Γ) := by
  refine ⟨by simp [S.len], fun i s h => ?_⟩
  rw [List.getElem?_map] at h
  cases q : Γ[i]? with
  | none => rw [q] at h; cases h
  | some t =>
    rw [q] at h
    have h' : frz1 t = some s := by simpa using h
    obtain ⟨v, h1, h2⟩ := S.slot i t q
    cases t with
    | un => cases h'
    | dat s' =>
      cases h'
      obtain ⟨x, rfl, e2⟩ := h2
      exact ⟨x, h1, s.up cut_ex e2⟩
    | own p c =>
      cases c with
      | lst ds =>
        cases h'
        obtain ⟨rfl, xs, e1, e2⟩ := h2
        exact ⟨_, h1, p, xs, rfl, e1, DpAll.mono cut_ex e2⟩
      | dic kvs =>
        cases h'
        obtain ⟨rfl, ks, e1, e2⟩ := h2
        exact ⟨_, h1, p, ks, rfl, e1, KvD.mono cut_ex e2⟩
/-- an object of ours is ours no more -/
theorem Sta.freeze (S : Sta K H0 H O σ Γ) {i : Nat} {p : Addr} {ds : List PyData} (h : Γ[i]? = some (.own p (.lst ds))) : Sta K H0 H O σ (Γ.set i (.dat (lt ds))) ∧ Up H H O Γ (Γ.set i (.dat (lt ds))) := by
  have hi : i < Γ.length := (List.getElem?_eq_some_iff.mp h).1
  obtain ⟨v, h1, h2, xs, h3, h4⟩ := S.slot i _ h
  have sub : ∀ a, Hid O (Γ.set i (.dat (lt ds))) a → Hid O Γ a ∧ a ≠ p := fun a q => by
    have q2 := q
    rcases hid_set hi a q with q | ⟨c, q⟩
    · refine ⟨q, fun z => ?_⟩
      subst z
      rcases q2 with q2 | ⟨j, c, q2⟩
      · exact S.dis a q2 ⟨i, _, h⟩
      · rw [List.getElem?_set] at q2
        by_cases e : i = j
        · subst e
          rw [if_pos rfl, if_pos hi] at q2
          cases q2
        · rw [if_neg e] at q2
          exact e (S.inj i j a _ _ h q2)
    · cases q
  have g : Ex (Bs H O Γ) (Bs H O (Γ.set i (.dat (lt ds)))) := cut_grow fun a o h n => ⟨h, fun q => n (sub a q).1⟩
  have lk : ∀ j t, (Γ.set i (.dat (lt ds)))[j]? = some t → (j = i ∧ t = .dat (lt ds)) ∨ (j ≠ i ∧ Γ[j]? = some t) := fun j t q => by
    rw [List.getElem?_set] at q
    by_cases e : i = j
    · subst e
      rw [if_pos rfl, if_pos hi] at q
      exact .inl ⟨rfl, (Option.some.inj q).symm⟩
    · rw [if_neg e] at q
      exact .inr ⟨fun z => e z.symm, q⟩
  refine ⟨⟨S.ent.trans g, by simp [S.len], fun j k a c c' h1 h2 => ?_, fun a ha q => ?_, S.hid, fun j t q => ?_⟩, ⟨fun _ _ => rfl, g⟩⟩
  · rcases lk j _ h1 with ⟨_, z⟩ | ⟨_, q1⟩
    · cases z
    · rcases lk k _ h2 with ⟨_, z⟩ | ⟨_, q2⟩
      · cases z
      · exact S.inj j k a c c' q1 q2
  · obtain ⟨j, c, q⟩ := q
    rcases lk j _ q with ⟨_, z⟩ | ⟨_, q⟩
    · cases z
    · exact S.dis a ha ⟨j, c, q⟩
  · rcases lk j t q with ⟨rfl, rfl⟩ | ⟨ne, q⟩
    · refine ⟨v, h1, .ref p, h2, p, xs, rfl, ?_, DpAll.mono g h4⟩
      show cut H (Hid O (Γ.set j (.dat (lt ds)))) p = _
      rw [cut_no fun q => (sub p q).2 rfl]
      exact h3
    · obtain ⟨w, h1, h2⟩ := S.slot j t q
      refine ⟨w, h1, ?_⟩
      cases t with
      | un => trivial
      | dat s' =>
        obtain ⟨x, e1, e2⟩ := h2
        exact ⟨x, e1, s'.up g e2⟩
      | own p c => exact ⟨h2.1, h2.2.to g rfl⟩
end
end Dw
set_option Elab.async false
set_option linter.all false
set_option maxRecDepth 100000
set_option maxHeartbeats 1000000
/-! Statements over states; defs by what they give. -/
namespace Dw
open PySem PySem.Spec PyProof.Rows L2
/-- what is wanted behind statements -/
structure Ks where
  nx : Ga → Prop := fun _ => False
  rt : Sem → Ga → Prop := fun _ _ => False
  rl : Con → Ga → Prop := fun _ _ => False
  bk : Ga → Prop := fun _ => False
  ct : Ga → Prop := fun _ => False
structure EOk (K : PySem.W.Frag) (H0 : Hp) (O : List Addr) (H : Hp) (Γ : Ga) (D : Ks) (E : Ends) : Prop where
  nx : ∀ σ' H' Γ', D.nx Γ' → Sta K H0 H' O σ' Γ' → Up H H' O Γ Γ' → E.nx σ' H'
  bk : ∀ σ' H' Γ', D.bk Γ' → Sta K H0 H' O σ' Γ' → Up H H' O Γ Γ' → E.bk σ' H'
  ct : ∀ σ' H' Γ', D.ct Γ' → Sta K H0 H' O σ' Γ' → Up H H' O Γ Γ' → E.ct σ' H'
  rt : ∀ v σ' H' Γ' s, D.rt s Γ' → Sta K H0 H' O σ' Γ' → Up H H' O Γ Γ' → s.P K (Bs H' O Γ') v → E.rt v H'
  rl : ∀ p σ' H' Γ' c, D.rl c Γ' → Sta K H0 H' (p :: O) σ' Γ' → (∀ a ∈ O, H' a = H a) → Ex (Bs H O Γ) (Bs H' (p :: O) Γ') → c.ok K (Bs H' (p :: O) Γ') H' p → E.rt (.ref p) H'
theorem EOk.up {K : PySem.W.Frag} {H0 H H1 : Hp} {O : List Addr} {Γ Γ1 : Ga} {D : Ks} {E : Ends} (e : EOk K H0 O H Γ D E) (u : Up H H1 O Γ Γ1) : EOk K H0 O H1 Γ1 D E :=
  ⟨fun σ' H' Γ' d s v => e.nx σ' H' Γ' d s (u.tr v), fun σ' H' Γ' d s v => e.bk σ' H' Γ' d s (u.tr v), fun σ' H' Γ' d s v => e.ct σ' H' Γ' d s (u.tr v), fun v σ' H' Γ' t d s w => e.rt v σ' H' Γ' t d s (u.tr w),
   fun p σ' H' Γ' c d s k g => e.rl p σ' H' Γ' c d s (fun a h => (k a h).trans (u.keep a h)) (u.grow.trans g)⟩
def WS1 (X : Cx) (Γ : Ga) (st : Stmt) (D : Ks) : Prop := ∀ H0 O σ H E, Sta X.K H0 H O σ Γ → EOk X.K H0 O H Γ D E → W1 X st E σ H
def WS (X : Cx) (Γ : Ga) (ss : List Stmt) (D : Ks) : Prop := ∀ H0 O σ H E, Sta X.K H0 H O σ Γ → EOk X.K H0 O H Γ D E → Wn X ss E σ H
section
variable {X : Cx} {Γ : Ga} {D : Ks} {e c : Expr} {st : Stmt} {ss ts : List Stmt} {s : Sem} {ds : List PyData} {pos : Pos}
theorem ws_nil (h : D.nx Γ) : WS X Γ [] D := fun H0 O σ H E S eo => wSs pss_nil (eo.nx σ H Γ h S Up.rfl')
theorem ws_cons (h : WS1 X Γ st { D with nx := fun Γ' => WS X Γ' ss D }) : WS X Γ (st :: ss) D := fun H0 O σ H E S eo => wSs (pss_cons ps_W pss_W) (h H0 O σ H { E with nx := Wn X ss E } S
  ⟨fun σ' H' Γ' d s v => d H0 O σ' H' E s (eo.up v), eo.bk, eo.ct, eo.rt, eo.rl⟩)
theorem s_pass (h : D.nx Γ) : WS1 X Γ (.Pass pos) D := fun H0 O σ H E S eo => wS ps_pass (eo.nx σ H Γ h S Up.rfl')
theorem s_break (h : D.bk Γ) : WS1 X Γ (.Break pos) D := fun H0 O σ H E S eo => wS ps_break (eo.bk σ H Γ h S Up.rfl')
theorem s_cont (h : D.ct Γ) : WS1 X Γ (.Continue pos) D := fun H0 O σ H E S eo => wS ps_continue (eo.ct σ H Γ h S Up.rfl')
theorem frz_len : (frz Γ).length = Γ.length := by simp
/-! ### x = e -/
theorem s_asg {i : Nat} {x : Str} {pos' : Pos} (he : PX X (frz Γ) e s) (fr : Fr s) (k : D.nx (Γ.set i (.dat s))) (hN : X.N.Nodup) (hi : X.N[i]? = some x) (hx : Loc X.env.scope x) (hil : i < Γ.length) (hs : swapsWith e (some (.Name x pos')) pos.line X.env = pure false := by rfl)
    (hf : X.fn x = true ∨ X.env.scope.names.lookup x = some .local := by first | exact .inl rfl | exact .inr rfl) : WS1 X Γ (.Assign [.Name x pos'] e pos) D := fun H0 O σ H E S eo =>
  wS (ps_set hN hi hx pe_W hs hf) (he σ H _ S.sl fun v H1 x1 h1 => by
    obtain ⟨S1, u1⟩ := S.ex x1
    obtain ⟨S2, u2⟩ := S1.put hil (s := s) (v := v) (fr S1.mutb h1)
    exact eo.nx _ H1 _ k S2 (u1.tr u2))
/-- x = a new list -/
theorem s_asgL {i : Nat} {x : Str} {pos' : Pos} (he : PXL X (frz Γ) e ds) (fr : tupds ds = true) (k : ∀ p, D.nx (Γ.set i (.own p (.lst ds)))) (hN : X.N.Nodup) (hi : X.N[i]? = some x) (hx : Loc X.env.scope x) (hil : i < Γ.length) (hs : swapsWith e (some (.Name x pos')) pos.line X.env = pure false := by rfl)
    (hf : X.fn x = true ∨ X.env.scope.names.lookup x = some .local := by first | exact .inl rfl | exact .inr rfl) : WS1 X Γ (.Assign [.Name x pos'] e pos) D := fun H0 O σ H E S eo =>
  wS (ps_set hN hi hx pe_W hs hf) (he σ H _ S.sl fun p H1 xs np x1 hp h1 => by
    obtain ⟨S1, nO, k1, g1⟩ := S.hide np x1 (.inl ⟨xs, hp⟩)
    obtain ⟨S2, g2⟩ := S1.own' nO hil (c := .lst ds) ⟨xs, hp, fr_all fr S1.mutb h1⟩
    exact eo.nx _ H1 _ (k p) S2 ⟨k1, g1.trans g2⟩)
/-! ### if -/
theorem s_if {b : Bool} (hc : PB X (frz Γ) c b) (h1 : b = true → WS X Γ ss D) (h2 : b = false → WS X Γ ts D) : WS1 X Γ (.If c ss ts pos) D := fun H0 O σ H E S eo =>
  wS (ps_if pt_W pss_W pss_W) (hc σ H _ S.sl fun H1 x1 => by
    obtain ⟨S1, u1⟩ := S.ex x1
    cases b with
    | true => rw [if_pos rfl]; exact h1 rfl H0 O σ H1 E S1 (eo.up u1)
    | false => rw [if_neg Bool.false_ne_true]; exact h2 rfl H0 O σ H1 E S1 (eo.up u1))
/-! ### return -/
theorem s_ret (he : PX X (frz Γ) e s) (fr : Fr s) (k : D.rt s Γ) : WS1 X Γ (.Return (some e) pos) D := fun H0 O σ H E S eo =>
  wS (ps_ret pe_W) (he σ H _ S.sl fun v H1 x1 h1 => by
    obtain ⟨S1, u1⟩ := S.ex x1
    exact eo.rt v σ H1 Γ s k S1 u1 (fr S1.mutb h1))
theorem s_retN (k : D.rt (dt .none) Γ) : WS1 X Γ (.Return none pos) D := fun H0 O σ H E S eo => wS ps_retN (eo.rt .non σ H Γ _ k S Up.rfl' Dp.non)
theorem s_retL (he : PXL X (frz Γ) e ds) (fr : tupds ds = true) (k : D.rl (.lst ds) Γ) : WS1 X Γ (.Return (some e) pos) D := fun H0 O σ H E S eo =>
  wS (ps_ret pe_W) (he σ H _ S.sl fun p H1 xs np x1 hp h1 => by
    obtain ⟨S1, nO, k1, g1⟩ := S.hide np x1 (.inl ⟨xs, hp⟩)
    exact eo.rl p σ H1 Γ _ k S1 k1 g1 ⟨xs, hp, fr_all fr S1.mutb h1⟩)
/-- the list of ours in slot i goes -/
theorem Sta.give {K : PySem.W.Frag} {H0 H : Hp} {O : List Addr} {σ : St} (S : Sta K H0 H O σ Γ) {i : Nat} {p : Addr} {c : Con} (h : Γ[i]? = some (.own p c)) : Sta K H0 H (p :: O) σ (Γ.set i .un) ∧ Ex (Bs H O Γ) (Bs H (p :: O) (Γ.set i .un)) ∧ c.ok K (Bs H (p :: O) (Γ.set i .un)) H p := by
  have hi : i < Γ.length := (List.getElem?_eq_some_iff.mp h).1
  have same : ∀ a, Hid (p :: O) (Γ.set i .un) a → Hid O Γ a := fun a q => by
    rcases q with q | q
    · rcases List.mem_cons.mp q with rfl | q
      · exact .inr ⟨i, c, h⟩
      · exact .inl q
    · rcases hid_set (O := O) hi a (.inr q) with q | ⟨_, q⟩
      · exact q
      · cases q
  have g : Ex (Bs H O Γ) (Bs H (p :: O) (Γ.set i .un)) := cut_grow fun a o q n => ⟨q, fun z => n (same a z)⟩
  have lk : ∀ j t, (Γ.set i .un)[j]? = some t → (j = i ∧ t = .un) ∨ (j ≠ i ∧ Γ[j]? = some t) := fun j t q => by
    rw [List.getElem?_set] at q
    by_cases e : i = j
    · subst e
      rw [if_pos rfl, if_pos hi] at q
      exact .inl ⟨rfl, (Option.some.inj q).symm⟩
    · rw [if_neg e] at q
      exact .inr ⟨fun z => e z.symm, q⟩
  obtain ⟨v, h1, h2, h3⟩ := S.slot i _ h
  refine ⟨⟨S.ent.trans g, by simp [S.len], fun j k a c1 c2 q1 q2 => ?_, fun a ha q => ?_, fun a ha => ?_, fun j t q => ?_⟩, g, h3.to g rfl⟩
  · rcases lk j _ q1 with ⟨_, z⟩ | ⟨_, r1⟩
    · cases z
    · rcases lk k _ q2 with ⟨_, z⟩ | ⟨_, r2⟩
      · cases z
      · exact S.inj j k a c1 c2 r1 r2
  · obtain ⟨j, c1, q⟩ := q
    rcases lk j _ q with ⟨_, z⟩ | ⟨ne, q⟩
    · cases z
    · rcases List.mem_cons.mp ha with rfl | ha
      · exact ne (S.inj j i a _ _ q h)
      · exact S.dis a ha ⟨j, c1, q⟩
  · rcases List.mem_cons.mp ha with rfl | ha
    · exact S.mutb a (.inr ⟨i, c, h⟩)
    · exact S.hid a ha
  · rcases lk j t q with ⟨rfl, rfl⟩ | ⟨ne, q⟩
    · exact ⟨v, h1, trivial⟩
    · obtain ⟨w, h1, h2⟩ := S.slot j t q
      refine ⟨w, h1, ?_⟩
      cases t with
      | un => trivial
      | dat s' =>
        obtain ⟨x, e1, e2⟩ := h2
        exact ⟨x, e1, s'.up g e2⟩
      | own p' c1 => exact ⟨h2.1, h2.2.to g rfl⟩
theorem s_retO {i : Nat} {x : Str} {p : Addr} {cc : Con} {pos' : Pos} (h : Γ[i]? = some (.own p cc)) (k : D.rl cc (Γ.set i .un)) (hN : X.N[i]? = some x) (hv : Vis X.env.scope x) (hd : (x == ("__debug__" : Str)) = false := by decide) (hcd : (x == ("__classdict__" : Str)) = false := by decide) :
    WS1 X Γ (.Return (some (.Name x pos')) pos) D := fun H0 O σ H E S eo => by
  obtain ⟨v, h1, h2, h3⟩ := S.slot i _ h
  subst h2
  obtain ⟨S1, g, co⟩ := S.give h
  exact wS (ps_ret (pe_var hN hv hd hcd)) ⟨_, h1, eo.rl p σ H _ cc k S1 (fun _ _ => rfl) g co⟩
/-! ### an expression for nothing -/
theorem s_expr (he : PX X (frz Γ) e s) (k : D.nx Γ) (hs : swapsWith e none pos.line X.env = pure false := by rfl) : WS1 X Γ (.Expr e pos) D := fun H0 O σ H E S eo =>
  wS (ps_expr pe_W hs) (he σ H _ S.sl fun v H1 x1 h1 => by
    obtain ⟨S1, u1⟩ := S.ex x1
    exact eo.nx σ H1 Γ k S1 u1)
theorem s_doc {x : Str} {j} {p : Pos} (k : D.nx Γ) : WS1 X Γ (.Expr (.Constant (.str x) j p) pos) D := fun H0 O σ H E S eo => wS ps_doc (eo.nx σ H Γ k S Up.rfl')
/-! ### methods of a list of ours -/
theorem slot_own {K : PySem.W.Frag} {H0 H : Hp} {O : List Addr} {σ : St} (S : Sta K H0 H O σ Γ) {i : Nat} {p : Addr} (h : Γ[i]? = some (.own p (.lst ds))) : σ[i]? = some (some (.ref p)) ∧ ∃ xs, H p = some (.lst xs) ∧ DpAll K (Bs H O Γ) xs ds := by
  obtain ⟨v, h1, h2, h3⟩ := S.slot i _ h
  subst h2
  exact ⟨h1, h3⟩
theorem s_append {i : Nat} {x : Str} {p : Addr} {d : PyData} {p1 p2 p3 : Pos} (h : Γ[i]? = some (.own p (.lst ds))) (he : PX X (frz Γ) e (dt d)) (fr : tupd d = true) (hl : ds.length < 100000) (k : D.nx (Γ.set i (.own p (.lst (ds ++ [d]))))) (hN : X.N[i]? = some x) (hv : Vis X.env.scope x)
    (q1 : attributeBase (.Name x p1) ("append" : Str) X.env (eval (.Name x p1) X.env) = eval (.Name x p1) X.env := by rfl)
    (q2 : ((backTo p3 (starEach [e] X.env)).all (fun x => !x.1) && (backToKw p3 (keywordEach [] X.env)).all (fun x => x.1.isSome) && decide ([e].length + ([] : List Keyword).length + (if ([] : List Keyword).isEmpty then 0 else 1) < 30)) = true := by rfl)
    (q3 : (p2.endLine == p3.line) = true := by rfl) (q4 : starEach [e] X.env = (false, eval e X.env) :: starEach [] X.env := by rfl) (q5 : (backTo p3 (starEach [] X.env)).any (·.1) = false := by rfl)
    (hs : swapsWith (.Call (.Attribute (.Name x p1) ("append" : Str) p2) [e] [] p3) none pos.line X.env = pure false := by rfl)
    (hd : (x == ("__debug__" : Str)) = false := by decide) (hcd : (x == ("__classdict__" : Str)) = false := by decide) :
    WS1 X Γ (.Expr (.Call (.Attribute (.Name x p1) ("append" : Str) p2) [e] [] p3) pos) D := fun H0 O σ H E S eo => by
  obtain ⟨hσ, xs, hp, ha⟩ := slot_own S h
  refine wS (ps_expr (pe_bm PySem.F.plainAttrs_list PySem.F.slot_list_append PySem.F.type_list_append mt_append (pe_var hN hv hd hcd) pa_W q1 q2 q3 q4 q5) hs) ⟨_, hσ, .inl ⟨rfl, xs, SqL.of hp⟩, pxs_cons he pxs_nil q4 σ H _ S.sl fun vs H1 x1 h1 => ?_⟩
  cases h1 with
  | @cons v _ _ _ h1 h2 =>
    cases h2
    obtain ⟨S1, u1⟩ := S.ex x1
    have hp1 := x1 p _ hp
    have da := DpAll.mono u1.grow ha
    have dv : Dp X.K (Bs H1 O Γ) v d := fr_dt fr S1.mutb h1
    refine ⟨p, xs, v, rfl, rfl, hp1, by rw [DpAll.len ha]; exact Evl.sz_lt hl, ?_⟩
    obtain ⟨S2, u2⟩ := S1.mut (c' := .lst (ds ++ [d])) (o := .lst (xs ++ [v])) h ⟨_, upd_same, da.app (.cons dv .nil)⟩
    exact eo.nx σ _ _ k S2 (u1.tr u2)
end
/-! ### what a def gives -/
def spP (C : List Sem → Sem → Prop) (K : PySem.W.Frag) : Sp := fun vs H Q _ => ∃ ss s, SAll K H vs ss ∧ C ss s ∧ ∀ v H', Ex H H' → s.P K H' v → Q v H'
def spL (C : List Sem → List PyData → Prop) (K : PySem.W.Frag) : Sp := fun vs H Q _ => ∃ ss ds, SAll K H vs ss ∧ C ss ds ∧ ∀ p H' xs, H p = none → Ex H H' → H' p = some (.lst xs) → DpAll K H' xs ds → Q (.ref p) H'
structure Fn (P : Program) (w : World) (K : PySem.W.Frag) (mg : Str → Option Value) (base : Heap) (x : Str) (k : Nat) (ps : List Str) (sp : Sp) : Prop where
  ex : ∃ f fd, FnOk P w K mg base CX0 k f fd ps sp ∧ mg x = some (.ref f) ∧ PySem.W.keepIn K (.ref f) = true ∧ Binds K fd ps []
section
variable {X : Cx} {Γ : Sv} {e : Expr} {es : List Expr} {x : Str} {k n : Nat} {ps : List Str} {p pos : Pos} {ss : List Sem} {s : Sem} {ds : List PyData}
theorem px_call {C : List Sem → Sem → Prop} (F : Fn X.prog X.w X.K X.mg X.base x k ps (spP C X.K)) (hr : Room n X.A) (hn : k ≤ n) (hg : Gl X x) (ha : PXs X Γ (e :: es) ss) (hc : C ss s) (hdb : (x == ("__debug__" : Str)) = false := by decide)
    (he : starEach (e :: es) X.env = (false, eval e X.env) :: starEach es X.env := by rfl) (hpl : (backTo pos (starEach es X.env)).any (·.1) = false := by rfl) : PX X Γ (.Call (.Name x p) (e :: es) [] pos) s := by
  obtain ⟨f, fd, G, hm, hk, hb⟩ := F.ex
  refine px_of (pe_call G (hr.mono hn) hg hm hk hb .nil pass0 pa_W hdb he hpl) fun σ H Q z q => ha σ H _ z fun vs H1 x1 h1 => ?_
  rw [List.append_nil]
  exact ⟨ss, s, h1, hc, fun v H2 x2 h2 => q v H2 (x1.trans x2) h2⟩
theorem pxl_call {C : List Sem → List PyData → Prop} (F : Fn X.prog X.w X.K X.mg X.base x k ps (spL C X.K)) (hr : Room n X.A) (hn : k ≤ n) (hg : Gl X x) (ha : PXs X Γ (e :: es) ss) (hc : C ss ds) (hdb : (x == ("__debug__" : Str)) = false := by decide)
    (he : starEach (e :: es) X.env = (false, eval e X.env) :: starEach es X.env := by rfl) (hpl : (backTo pos (starEach es X.env)).any (·.1) = false := by rfl) : PXL X Γ (.Call (.Name x p) (e :: es) [] pos) ds := by
  obtain ⟨f, fd, G, hm, hk, hb⟩ := F.ex
  refine pxl_of (pe_call G (hr.mono hn) hg hm hk hb .nil pass0 pa_W hdb he hpl) fun σ H Q z q => ha σ H _ z fun vs H1 x1 h1 => ?_
  rw [List.append_nil]
  exact ⟨ss, ds, h1, hc, fun r H2 xs nr x2 hr h2 => q r H2 xs (Evl.fresh_back x1 nr) (x1.trans x2) hr h2⟩
end
def ini (N : List Str) (ss : List Sem) : Ga := ss.map .dat ++ List.replicate (N.length - ss.length) .un
theorem ini_sta {K : PySem.W.Frag} {H : Hp} {N : List Str} {vs : List V} {ss : List Sem} (h : SAll K H vs ss) : Sta K H H [] (L2.start N vs) (ini N ss) := by
  have hl := SAll.len h
  have no : ∀ a, ¬ Own (ini N ss) a := fun a ⟨i, c, q⟩ => by
    unfold ini at q
    rw [List.getElem?_append] at q
    split at q
    · rw [List.getElem?_map] at q
      cases z : ss[i]? with
      | none => rw [z] at q; cases q
      | some t => rw [z] at q; cases q
    · rw [List.getElem?_replicate] at q
      split at q <;> cases q
  have e : Bs H [] (ini N ss) = H := by
    funext a
    exact cut_no fun q => q.elim (fun z => nomatch z) (no a)
  refine ⟨by rw [e]; exact Ex.rfl', by simp [L2.start, ini, hl], fun i j a c c' q _ => absurd ⟨i, c, q⟩ (no a), (fun a ha => nomatch ha), (fun a ha => nomatch ha), fun i t q => ?_⟩
  rw [e]
  unfold ini at q
  unfold L2.start
  by_cases hi : i < ss.length
  · rw [List.getElem?_append_left (by simpa using hi), List.getElem?_map] at q
    rw [List.getElem?_append_left (by simp; omega), List.getElem?_map]
    have key : ∀ {vs : List V} {ss : List Sem} {i : Nat} {s : Sem}, SAll K H vs ss → ss[i]? = some s → ∃ v, vs[i]? = some v ∧ s.P K H v := by
      intro vs ss i s h
      induction h generalizing i with
      | nil => intro q; simp at q
      | cons a r ih =>
        intro q
        cases i with
        | zero =>
          simp at q
          subst q
          exact ⟨_, rfl, a⟩
        | succ i =>
          obtain ⟨v, h1, h2⟩ := ih (i := i) (by simpa using q)
          exact ⟨v, by simpa using h1, h2⟩
    cases z : ss[i]? with
    | none => rw [z] at q; cases q
    | some s =>
      rw [z] at q
      have et : Ty.dat s = t := by simpa using q
      subst et
      obtain ⟨v, h1, h2⟩ := key h z
      exact ⟨some v, by rw [h1]; rfl, v, rfl, h2⟩
  · rw [List.getElem?_append_right (by simp; omega), List.getElem?_replicate] at q
    split at q
    · cases q
      refine ⟨none, ?_, trivial⟩
      rw [List.getElem?_append_right (by simp; omega), List.getElem?_replicate, if_pos]
      simp at *
      omega
    · cases q
theorem ret_ex {K : PySem.W.Frag} {H0 H : Hp} {O : List Addr} {σ : St} {Γ : Ga} (S : Sta K H0 H O σ Γ) : Ex H0 H := S.ent.trans cut_ex
section
variable {P : Program} {w : World} {K : PySem.W.Frag} {mg : Str → Option Value} {base : Heap} {x qual : Str} {params : Arguments} {body : List Stmt} {scope : Scope} {f : Addr} {fd : FuncData}
abbrev cxD (P : Program) (w : World) (K : PySem.W.Frag) (mg : Str → Option Value) (base : Heap) (N : List Str) (qual : Str) (scope : Scope) (f : Addr) (cdv : Value) (A : Around) (outer : List Env) (s : Shared) (H : Hp) (E : XK) : Cx := (cxOf CX0 P w K mg base N qual scope f cdv A outer s H E).nox
/-- THE RULE for a def that gives one thing and changes nothing -/
theorem fn_pure (F : FunD K x qual params body scope [] [] f fd) {N ps : List Str} (S : FnScope N ps scope) {C : List Sem → Sem → Prop} {k : Nat} (hl : ∀ ss s, C ss s → ss.length = ps.length)
    (hb : ∀ (cdv : Value) (A : Around) (outer : List Env) (s : Shared) (H : Hp) (E : XK), Room k (A.deeper (envOfC qual scope s.heap.objs.size f cdv)) → ∀ ss r, C ss r →
      WS (cxD P w K mg base N qual scope f cdv A outer s H E) (ini N ss) body { nx := fun _ => r = dt .none, rt := fun s' _ => s' = r }) : FnOk P w K mg base CX0 (k + 1) f fd ps (spP C K) := by
  refine F.ok S (fun vs H Q E ⟨ss, s, h1, h2, _⟩ => (SAll.len h1).trans (hl ss s h2)) (fun cdv A outer s H vs Q E hr h => ?_)
  obtain ⟨ss, r, h1, h2, h3⟩ := h
  refine ⟨_, PSs.nox pss_W, hb cdv A outer s H E hr ss r h2 H [] _ H _ (ini_sta h1) ⟨?_, ?_, ?_, ?_, ?_⟩⟩
  · rintro σ' H' Γ' rfl S' u
    exact h3 .non H' (ret_ex S') Dp.non
  · intro _ _ _ d; exact d.elim
  · intro _ _ _ d; exact d.elim
  · rintro v σ' H' Γ' t rfl S' u pv
    exact h3 v H' (ret_ex S') (Sem.up _ cut_ex pv)
  · intro _ _ _ _ _ d; exact d.elim
/-- .. that gives a new list -/
theorem fn_list (F : FunD K x qual params body scope [] [] f fd) {N ps : List Str} (S : FnScope N ps scope) {C : List Sem → List PyData → Prop} {k : Nat} (hl : ∀ ss s, C ss s → ss.length = ps.length)
    (hb : ∀ (cdv : Value) (A : Around) (outer : List Env) (s : Shared) (H : Hp) (E : XK), Room k (A.deeper (envOfC qual scope s.heap.objs.size f cdv)) → ∀ ss ds, C ss ds →
      WS (cxD P w K mg base N qual scope f cdv A outer s H E) (ini N ss) body { rl := fun c _ => c = .lst ds }) : FnOk P w K mg base CX0 (k + 1) f fd ps (spL C K) := by
  refine F.ok S (fun vs H Q E ⟨ss, s, h1, h2, _⟩ => (SAll.len h1).trans (hl ss s h2)) (fun cdv A outer s H vs Q E hr h => ?_)
  obtain ⟨ss, r, h1, h2, h3⟩ := h
  refine ⟨_, PSs.nox pss_W, hb cdv A outer s H E hr ss r h2 H [] _ H _ (ini_sta h1) ⟨?_, ?_, ?_, ?_, ?_⟩⟩
  · intro _ _ _ d; exact d.elim
  · intro _ _ _ d; exact d.elim
  · intro _ _ _ d; exact d.elim
  · intro _ _ _ _ _ d; exact d.elim
  · rintro p σ' H' Γ' c rfl S' _ _ ⟨xs, hp, ha⟩
    refine h3 p H' xs ?_ (ret_ex S') hp (DpAll.mono cut_ex ha)
    cases q : H p with
    | none => rfl
    | some o =>
      have z : cut H' (Hid [p] Γ') p = some o := S'.ent p o q
      rw [cut_yes (show Hid [p] Γ' p from .inl List.mem_cons_self)] at z
      cases z
/-- a def bound to its name -/
theorem fn_mk (F : FunD K x qual params body scope [] [] f fd) {k : Nat} {ps : List Str} {sp : Sp} (G : FnOk P w K mg base CX0 k f fd ps sp) (hm : mg x = some (.ref f)) (hb : Binds K fd ps []) : Fn P w K mg base x k ps sp := ⟨f, fd, G, hm, F.kp, hb⟩
end
end Dw
set_option Elab.async false
set_option linter.all false
set_option maxRecDepth 100000
set_option maxHeartbeats 1000000
/-! Walks: for, comprehensions, while. -/
namespace Dw
open PySem PySem.Spec PyProof.Rows L2
/-- what iter hands out, at a state: the items of L, by item -/
def WI (X : Cx) (Γ : Ga) (tg iter : Expr) {α : Type} (L : List α) (item : α → Sem) : Prop := ∃ wi, PI X tg iter wi ∧ ∀ H0 O σ H R, Sta X.K H0 H O σ Γ → (∀ J H1 n G Y, Ex H H1 → n = L.length → Walk J n G Y → (∀ H2, Ex (Bs H1 O Γ) H2 → G H2) →
  (∀ (i : Nat) (a : α) σ2 Γ2 H2 x H3, L[i]? = some a → Sta X.K H0 H2 O σ2 Γ2 → Ex (Bs H1 O Γ) (Bs H2 O Γ2) → Y i H2 x H3 → Ex H2 H3 ∧ (item a).P X.K (Bs H3 O Γ2) x) → R J H1) → wi σ H R
/-- .. for pure words -/
def PIt (X : Cx) (Γ : Sv) (tg iter : Expr) {α : Type} (L : List α) (item : α → Sem) : Prop := ∃ wi, PI X tg iter wi ∧ ∀ σ H R, Sl X.K H σ Γ → (∀ J H1 n G Y, Ex H H1 → n = L.length → Walk J n G Y → (∀ H2, Ex H1 H2 → G H2) →
  (∀ (i : Nat) (a : α) H2 x H3, L[i]? = some a → Ex H1 H2 → Y i H2 x H3 → Ex H2 H3 ∧ (item a).P X.K H3 x) → R J H1) → wi σ H R
theorem SAll.at {K : PySem.W.Frag} {H : Hp} : ∀ {vs : List V} {ss : List Sem} {i : Nat} {s : Sem}, SAll K H vs ss → ss[i]? = some s → ∃ v, vs[i]? = some v ∧ s.P K H v
  | _, _, _, _, .nil, e => by simp at e
  | _, _, 0, _, .cons h _, e => ⟨_, rfl, by simp at e; subst e; exact h⟩
  | _, _, i + 1, _, .cons _ a, e => by
    obtain ⟨v, h1, h2⟩ := SAll.at (i := i) a (by simpa using e)
    exact ⟨v, by simpa using h1, h2⟩
theorem SAll.of_dp {K : PySem.W.Frag} {H : Hp} {α : Type} {f : α → PyData} : ∀ {vs : List V} {L : List α}, DpAll K H vs (L.map f) → SAll K H vs (L.map fun a => dt (f a))
  | _, [], h => by cases h; exact .nil
  | _, a :: L, h => by
    cases h with
    | cons h1 h2 => exact .cons h1 (SAll.of_dp h2)
theorem SAll.ints {K : PySem.W.Frag} {H : Hp} {α : Type} {f : α → Int} : ∀ (L : List α), SAll K H (L.map fun a => V.int (f a)) (L.map fun a => dt (.int (f a)))
  | [] => .nil
  | a :: L => .cons (Dp.int _) (SAll.ints L)
/-- values handed out one by one -/
theorem at_yld {K : PySem.W.Frag} {H0 H1 : Hp} {O : List Addr} {Γ : Ga} {α : Type} {L : List α} {item : α → Sem} {vs : List V} (its : SAll K (Bs H1 O Γ) vs (L.map item)) :
    ∀ (i : Nat) (a : α) σ2 Γ2 H2 x H3, L[i]? = some a → Sta K H0 H2 O σ2 Γ2 → Ex (Bs H1 O Γ) (Bs H2 O Γ2) → YAt vs i H2 x H3 → Ex H2 H3 ∧ (item a).P K (Bs H3 O Γ2) x := fun i a σ2 Γ2 H2 x H3 hi S e y => by
  obtain ⟨rfl, hx⟩ := y
  obtain ⟨v, e1, e2⟩ := SAll.at its (i := i) (s := item a) (by rw [List.getElem?_map, hi]; rfl)
  rw [hx] at e1
  cases e1
  exact ⟨Ex.rfl', Sem.up _ e e2⟩
theorem at_yldP {K : PySem.W.Frag} {H1 : Hp} {α : Type} {L : List α} {item : α → Sem} {vs : List V} (its : SAll K H1 vs (L.map item)) :
    ∀ (i : Nat) (a : α) H2 x H3, L[i]? = some a → Ex H1 H2 → YAt vs i H2 x H3 → Ex H2 H3 ∧ (item a).P K H3 x := fun i a H2 x H3 hi e y => by
  obtain ⟨rfl, hx⟩ := y
  obtain ⟨v, e1, e2⟩ := SAll.at its (i := i) (s := item a) (by rw [List.getElem?_map, hi]; rfl)
  rw [hx] at e1
  cases e1
  exact ⟨Ex.rfl', Sem.up _ e e2⟩
theorem SAll.lenL {K : PySem.W.Frag} {H : Hp} {α : Type} {L : List α} {item : α → Sem} {vs : List V} (h : SAll K H vs (L.map item)) : vs.length = L.length := by have := SAll.len h; simpa using this
section
variable {X : Cx} {e a b : Expr} {ds : List PyData} {pos p : Pos} {tg : Expr}
theorem yfn_at {n : Nat} {f : Nat → V} {i : Nat} {H : Hp} {x : V} {H' : Hp} (hi : i < n) (y : YFn f i H x H') : YAt ((List.range n).map f) i H x H' := ⟨y.1, by rw [y.2, List.getElem?_map, List.getElem?_range hi]; rfl⟩
theorem walk_rangeAt {lo : Int} {n : Nat} : Walk (Itr lo n) ((List.range n).map fun i => V.int (lo + (i : Nat))).length (fun _ => True) (YAt ((List.range n).map fun i => V.int (lo + (i : Nat)))) := by
  rw [show ((List.range n).map fun i => V.int (lo + (i : Nat))).length = n by simp]
  exact walk_range.mono (fun _ h => h) fun i H x H' hi _ y => yfn_at hi y
/-! ### sources -/
theorem wi_range {Γ : Ga} {n : Nat} (hg : Gl X "range") (hm : X.mg "range" = none) (ha : PX X (frz Γ) a (dt (.int (n : Int)))) (hn : n ≤ 100000) (hs : starEach [a] X.env = [(false, eval a X.env)] := by rfl) : WI X Γ tg (.Call (.Name "range" p) [a] [] pos) (List.range n) (fun i => dt (.int (i : Nat))) := by
  refine ⟨_, pi_range1 hg hm pa_W hs, fun H0 O σ H R S q => pxs_cons ha pxs_nil hs σ H _ S.sl fun vs H1 x1 h1 => ?_⟩
  cases h1 with
  | cons h1 h2 =>
    cases h2
    rw [Dp.int_ h1]
    refine ⟨(n : Int), rfl, by omega, by omega, ?_⟩
    have its : SAll X.K (Bs H1 O Γ) ((List.range n).map fun i => V.int (0 + (i : Nat))) ((List.range n).map fun i => dt (.int (i : Nat))) := by
      have := SAll.ints (K := X.K) (H := Bs H1 O Γ) (f := fun i : Nat => (i : Int)) (List.range n)
      simpa using this
    have := q (Itr 0 n) H1 _ (fun _ => True) _ x1 its.lenL walk_rangeAt (fun _ _ => trivial) (at_yld its)
    simpa using this
theorem pit_range {Γ : Sv} {n : Nat} (hg : Gl X "range") (hm : X.mg "range" = none) (ha : PX X Γ a (dt (.int (n : Int)))) (hn : n ≤ 100000) (hs : starEach [a] X.env = [(false, eval a X.env)] := by rfl) : PIt X Γ tg (.Call (.Name "range" p) [a] [] pos) (List.range n) (fun i => dt (.int (i : Nat))) := by
  refine ⟨_, pi_range1 hg hm pa_W hs, fun σ H R S q => pxs_cons ha pxs_nil hs σ H _ S fun vs H1 x1 h1 => ?_⟩
  cases h1 with
  | cons h1 h2 =>
    cases h2
    rw [Dp.int_ h1]
    refine ⟨(n : Int), rfl, by omega, by omega, ?_⟩
    have its : SAll X.K H1 ((List.range n).map fun i => V.int (0 + (i : Nat))) ((List.range n).map fun i => dt (.int (i : Nat))) := by
      have := SAll.ints (K := X.K) (H := H1) (f := fun i : Nat => (i : Int)) (List.range n)
      simpa using this
    have := q (Itr 0 n) H1 _ (fun _ => True) _ x1 its.lenL walk_rangeAt (fun _ _ => trivial) (at_yldP its)
    simpa using this
/-- range(lo, hi) of numbers from 0 -/
theorem wi_range2 {Γ : Ga} {m n : Nat} (hg : Gl X "range") (hm : X.mg "range" = none) (ha : PX X (frz Γ) a (dt (.int (m : Int)))) (hb : PX X (frz Γ) b (dt (.int (n : Int)))) (h1 : m ≤ 100000) (hn : n ≤ 100000) (hs : starEach [a, b] X.env = [(false, eval a X.env), (false, eval b X.env)] := by rfl) (hs2 : starEach [b] X.env = [(false, eval b X.env)] := by rfl) :
    WI X Γ tg (.Call (.Name "range" p) [a, b] [] pos) (List.range (n - m)) (fun i => dt (.int ((m + i : Nat) : Int))) := by
  refine ⟨_, pi_range2 hg hm pa_W hs hs2, fun H0 O σ H R S q => pxs_cons ha (pxs_cons hb pxs_nil hs2) (by rw [hs, hs2]) σ H _ S.sl fun vs H1 x1 h1 => ?_⟩
  cases h1 with
  | cons h1 h2 =>
    cases h2 with
    | cons h2 h3 =>
      cases h3
      rw [Dp.int_ h1, Dp.int_ h2]
      refine ⟨(m : Int), (n : Int), rfl, by omega, ?_⟩
      rw [show ((n : Int) - (m : Int)).toNat = n - m by omega]
      have its : SAll X.K (Bs H1 O Γ) ((List.range (n - m)).map fun i => V.int ((m : Int) + (i : Nat))) ((List.range (n - m)).map fun i => dt (.int ((m + i : Nat) : Int))) := by
        have := SAll.ints (K := X.K) (H := Bs H1 O Γ) (f := fun i : Nat => ((m + i : Nat) : Int)) (List.range (n - m))
        simpa using this
      exact q (Itr m (n - m)) H1 _ (fun _ => True) _ x1 its.lenL walk_rangeAt (fun _ _ => trivial) (at_yld its)
/-- a tuple -/
theorem wi_tup {Γ : Ga} {α : Type} {L : List α} {f : α → PyData} (ha : PX X (frz Γ) e (dt (.tuple (L.map f)))) (fr : ∀ a ∈ L, tupd (f a) = true) : WI X Γ tg e L (fun a => dt (f a)) := by
  refine ⟨_, pi_tup pe_W, fun H0 O σ H R S q => ha σ H _ S.sl fun v H1 x1 h1 => ?_⟩
  obtain ⟨S1, u1⟩ := S.ex x1
  have ft : tupds (L.map f) = true := tupds_iff.mpr fun d h => by
    obtain ⟨a, ha, rfl⟩ := List.mem_map.mp h
    exact fr a ha
  obtain ⟨c, xs, rfl, hx, hd⟩ := Dp.tup_ (fr_tup ft S1.mutb h1)
  exact ⟨c, rfl, ⟨xs, dex_t cut_ex hx⟩, q _ H1 _ _ _ x1 (SAll.of_dp hd).lenL walk_tup (fun H2 e2 => dex_t e2 hx) (at_yld (SAll.of_dp hd))⟩
theorem pit_tup {Γ : Sv} {α : Type} {L : List α} {f : α → PyData} (ha : PX X Γ e (dt (.tuple (L.map f)))) : PIt X Γ tg e L (fun a => dt (f a)) := by
  refine ⟨_, pi_tup pe_W, fun σ H R S q => ha σ H _ S fun v H1 x1 h1 => ?_⟩
  obtain ⟨c, xs, rfl, hx, hd⟩ := Dp.tup_ h1
  exact ⟨c, rfl, ⟨xs, hx⟩, q _ H1 _ _ _ x1 (SAll.of_dp hd).lenL walk_tup (fun H2 e2 => dex_t e2 hx) (at_yldP (SAll.of_dp hd))⟩
theorem pit_lst {Γ : Sv} {α : Type} {L : List α} {f : α → PyData} (ha : PX X Γ e (dt (.list (L.map f)))) : PIt X Γ tg e L (fun a => dt (f a)) := by
  refine ⟨_, pi_list pe_W, fun σ H R S q => ha σ H _ S fun v H1 x1 h1 => ?_⟩
  obtain ⟨c, xs, rfl, hx, hd⟩ := Dp.lst_ h1
  exact ⟨c, rfl, ⟨xs, hx⟩, q _ H1 _ _ _ x1 (SAll.of_dp hd).lenL walk_list (fun H2 e2 => dex_l e2 hx) (at_yldP (SAll.of_dp hd))⟩
/-- a new list -/
theorem wi_new {Γ : Ga} {α : Type} {L : List α} {f : α → PyData} (ha : PXL X (frz Γ) e (L.map f)) (fr : ∀ a ∈ L, tupd (f a) = true) : WI X Γ tg e L (fun a => dt (f a)) := by
  refine ⟨_, pi_list pe_W, fun H0 O σ H R S q => ha σ H _ S.sl fun r H1 xs nr x1 hr h1 => ?_⟩
  obtain ⟨S1, u1⟩ := S.ex x1
  have ft : tupds (L.map f) = true := tupds_iff.mpr fun d h => by
    obtain ⟨a, ha, rfl⟩ := List.mem_map.mp h
    exact fr a ha
  have hb : Bs H1 O Γ r = some (.lst xs) := by
    show cut H1 (Hid O Γ) r = _
    rw [cut_no fun z => S.fresh nr z]
    exact hr
  exact ⟨r, rfl, ⟨xs, SqL.of hr⟩, q _ H1 _ _ _ x1 (SAll.of_dp h1).lenL walk_list (fun H2 e2 => SqL.of (e2 r _ hb)) (at_yld (SAll.of_dp (fr_all ft S1.mutb h1)))⟩
/-- a name that bears a list which is not ours -/
theorem wi_var {Γ : Ga} {α : Type} {L : List α} {f : α → PyData} {i : Nat} {x : Str} {s : Sem} (h : Γ[i]? = some (.dat s)) (w : Wk s (dt (.list (L.map f)))) (hN : X.N[i]? = some x) (hv : Vis X.env.scope x) (hd : (x == ("__debug__" : Str)) = false := by decide) (hcd : (x == ("__classdict__" : Str)) = false := by decide) : WI X Γ tg (.Name x p) L (fun a => dt (f a)) := by
  refine ⟨_, pi_list (pe_var hN hv hd hcd), fun H0 O σ H R S q => ?_⟩
  obtain ⟨v, h1, y, rfl, h2⟩ := S.slot i _ h
  obtain ⟨c, xs, rfl, hx, hd⟩ := Dp.lst_ (w h2)
  exact ⟨_, h1, c, rfl, ⟨xs, dex_l cut_ex hx⟩, q _ H _ _ _ Ex.rfl' (SAll.of_dp hd).lenL walk_list (fun H2 e2 => dex_l e2 hx) (at_yld (SAll.of_dp hd))⟩
end
/-! ### targets -/
/-- the target takes an s and leaves a state of k -/
def GX (X : Cx) (tg : Expr) (s : Sem) (Γ : Ga) (g : TG) (k : Ga → Prop) : Prop := PG X tg g ∧ ∀ H0 O σ H v (Q : St → Hp → Prop), Sta X.K H0 H O σ Γ → s.P X.K (Bs H O Γ) v → (∀ σ' Γ', k Γ' → Sta X.K H0 H O σ' Γ' → Up H H O Γ Γ' → Q σ' H) → g v σ H Q
section
variable {X : Cx} {Γ : Ga} {D : Ks} {s : Sem} {k : Ga → Prop} {pos : Pos}
theorem g_name {i : Nat} {x : Str} (h : k (Γ.set i (.dat s))) (hN : X.N.Nodup) (hi : X.N[i]? = some x) (hx : Loc X.env.scope x) (hil : i < Γ.length) (hf : X.fn x = true ∨ X.env.scope.names.lookup x = some .local := by first | exact .inl rfl | exact .inr rfl) : GX X (.Name x pos) s Γ (gName i) k :=
  ⟨pg_name hN hi hx hf, fun H0 O σ H v Q S p q => by
    obtain ⟨S1, u1⟩ := S.put hil (s := s) (v := v) p
    exact q _ _ h S1 u1⟩
/-- several targets -/
def GXs (X : Cx) (ts : List Expr) (ds : List PyData) (Γ : Ga) (g : TGs) (k : Ga → Prop) : Prop := PGs X ts g ∧ ∀ H0 O σ H vs (Q : St → Hp → Prop), Sta X.K H0 H O σ Γ → DpAll X.K (Bs H O Γ) vs ds → (∀ σ' Γ', k Γ' → Sta X.K H0 H O σ' Γ' → Up H H O Γ Γ' → Q σ' H) → g vs σ H Q
theorem g_nil (h : k Γ) : GXs X [] [] Γ gNil k := ⟨pgs_nil, fun H0 O σ H vs Q S p q => by
  cases p
  exact ⟨rfl, q σ Γ h S Up.rfl'⟩⟩
theorem g_cons {t : Expr} {ts : List Expr} {d : PyData} {ds : List PyData} {g : TG} {gs : TGs} (h2 : PGs X ts gs) (h : GX X t (dt d) Γ g fun Γ' => GXs X ts ds Γ' gs k) (hs : (assignEach (t :: ts) X.env).map (·.2) = assign t X.env :: (assignEach ts X.env).map (·.2) := by rfl) : GXs X (t :: ts) (d :: ds) Γ (gCons g gs) k := by
  refine ⟨pgs_cons h.1 h2 hs, fun H0 O σ H vs Q S p q => ?_⟩
  cases p with
  | cons p1 p2 => exact ⟨_, _, rfl, h.2 H0 O σ H _ _ S p1 fun σ1 Γ1 k1 S1 u1 => k1.2 H0 O σ1 H _ Q S1 (DpAll.mono u1.grow p2) fun σ2 Γ2 k2 S2 u2 => q σ2 Γ2 k2 S2 (u1.tr u2)⟩
theorem g_tup {ts : List Expr} {kk n : Nat} {ds : List PyData} {gs : TGs} (hc : X.calm = true) (h : GXs X ts ds Γ gs k) (hl : ds.length = n) (hn : (assignEach ts X.env).length = n := by rfl) (hst : (assignEach ts X.env).findIdx? (·.1) = none := by rfl) : GX X (.Tuple ts kk pos) (dt (.tuple ds)) Γ (gTup X.K n gs) k :=
  ⟨pg_tup hc h.1 hn hst, fun H0 O σ H v Q S p q => by
    obtain ⟨a, xs, rfl, hx, hd⟩ := Dp.tup_ p
    exact ⟨a, xs, rfl, dex_t cut_ex hx, by rw [DpAll.len hd, hl], h.2 H0 O σ H xs Q S hd q⟩⟩
/-- two names -/
theorem g_two {i j : Nat} {x y : Str} {kk : Nat} {p1 p2 : Pos} {d1 d2 : PyData} (hc : X.calm = true) (h : k ((Γ.set i (.dat (dt d1))).set j (.dat (dt d2)))) (hN : X.N.Nodup) (hi : X.N[i]? = some x) (hx : Loc X.env.scope x) (hil : i < Γ.length) (hj : X.N[j]? = some y) (hy : Loc X.env.scope y) (hjl : j < Γ.length)
    (hf : X.fn x = true ∨ X.env.scope.names.lookup x = some .local := by first | exact .inl rfl | exact .inr rfl) (hf2 : X.fn y = true ∨ X.env.scope.names.lookup y = some .local := by first | exact .inl rfl | exact .inr rfl)
    (hs : (assignEach [.Name x p1, .Name y p2] X.env).map (·.2) = assign (.Name x p1) X.env :: (assignEach [.Name y p2] X.env).map (·.2) := by rfl) (hs2 : (assignEach [.Name y p2] X.env).map (·.2) = assign (.Name y p2) X.env :: (assignEach [] X.env).map (·.2) := by rfl)
    (hn : (assignEach [.Name x p1, .Name y p2] X.env).length = 2 := by rfl) (hst : (assignEach [.Name x p1, .Name y p2] X.env).findIdx? (·.1) = none := by rfl) :
    GX X (.Tuple [.Name x p1, .Name y p2] kk pos) (dt (.tuple [d1, d2])) Γ (gTup X.K 2 (gCons (gName i) (gCons (gName j) gNil))) k :=
  g_tup hc (g_cons (pgs_cons (pg_name hN hj hy hf2) pgs_nil hs2) (g_name (g_cons pgs_nil (g_name (g_nil h) hN hj hy (by simpa using hjl) hf2) hs2) hN hi hx hil hf) hs) rfl hn hst
/-! ### for -/
theorem s_for {α : Type} {L : List α} {item : α → Sem} {tg iter : Expr} {body : List Stmt} {g : TG} (hc : X.calm = true) (hp : PassesOwn (model X.prog X.w) X.A X.env X.xe) (hi : WI X Γ tg iter L item) (Iv : Nat → Ga → Prop) (h0 : Iv 0 Γ)
    (hgp : PG X tg g)
    (hs : ∀ (i : Nat) (a : α) Γ', L[i]? = some a → Iv i Γ' → GX X tg (item a) Γ' g fun Γ2 => WS X Γ2 body { D with nx := Iv (i + 1), ct := Iv (i + 1), bk := D.nx }) (hd : ∀ Γ', Iv L.length Γ' → D.nx Γ') (hs2 : ∀ x, foldedSetIterable iter X.env x = pure x := by intro _; rfl) : WS1 X Γ (.For tg iter body [] pos) D := fun H0 O σ H E S eo => by
  obtain ⟨wi, pi, ri⟩ := hi
  refine wS (ps_for hp hc pi hgp pss_W hs2) (ri H0 O σ H _ S fun J H1 n G Y x1 hlen wk per its => ?_)
  obtain ⟨S1, u1⟩ := S.ex x1
  refine for_it wk (fun i σ' H' => ∃ Γ', Iv i Γ' ∧ Sta X.K H0 H' O σ' Γ' ∧ Up H1 H' O Γ Γ') ⟨Γ, h0, S1, Up.rfl'⟩ (fun i σ' H' _ ⟨Γ', _, _, u'⟩ => per H' (u'.grow.trans cut_ex)) (fun i x σ' H' H'' hi ⟨Γ', iv, S', u'⟩ y => ?_) (fun σ' H' ⟨Γ', iv, S', u'⟩ => eo.nx σ' H' Γ' (hd Γ' (hlen ▸ iv)) S' (u1.tr u'))
  have hi' : i < L.length := hlen ▸ hi
  obtain ⟨e1, e2⟩ := its i L[i] σ' Γ' H' x H'' (List.getElem?_eq_getElem hi') S' u'.grow y
  obtain ⟨S', u''⟩ := S'.ex e1
  replace u' := u'.tr u''
  refine (hs i L[i] Γ' (List.getElem?_eq_getElem hi') iv).2 H0 O σ' H'' x _ S' e2 fun σ2 Γ2 ws S2 u2 => ?_
  refine ws H0 O σ2 H'' _ S2 ?_
  have eo2 := eo.up (u1.tr (u'.tr u2))
  exact ⟨fun σ3 H3 Γ3 d s3 u3 => ⟨Γ3, d, s3, u'.tr (u2.tr u3)⟩, fun σ3 H3 Γ3 d s3 u3 => eo2.nx σ3 H3 Γ3 d s3 u3, fun σ3 H3 Γ3 d s3 u3 => ⟨Γ3, d, s3, u'.tr (u2.tr u3)⟩, eo2.rt, eo2.rl⟩
/-! ### while -/
theorem s_while {c : Expr} {body : List Stmt} (hp : PassesOwn (model X.prog X.w) X.A X.env X.xe) (Iv : Nat → Ga → Prop) (m0 : Nat) (h0 : Iv m0 Γ)
    (hs : ∀ m Γ', Iv m Γ' → ∃ b, PB X (frz Γ') c b ∧ (b = true → WS X Γ' body { D with nx := fun Γ2 => ∃ m', m' < m ∧ Iv m' Γ2, ct := fun Γ2 => ∃ m', m' < m ∧ Iv m' Γ2, bk := D.nx }) ∧ (b = false → D.nx Γ')) : WS1 X Γ (.While c body [] pos) D := fun H0 O σ H E S eo => by
  refine wS (ps_while hp pt_W pss_W) ⟨fun m σ' H' => ∃ Γ', Iv m Γ' ∧ Sta X.K H0 H' O σ' Γ' ∧ Up H H' O Γ Γ', ⟨m0, Γ, h0, S, Up.rfl'⟩, fun m σ' H' ⟨Γ', iv, S', u'⟩ => ?_⟩
  obtain ⟨b, hb, h1, h2⟩ := hs m Γ' iv
  refine hb σ' H' _ S'.sl fun H2 x2 => ?_
  obtain ⟨S2, u2⟩ := S'.ex x2
  have eo2 := eo.up (u'.tr u2)
  cases b with
  | true =>
    rw [if_pos rfl]
    refine ⟨fun σ3 H3 => ∃ m', m' < m ∧ ∃ Γ', Iv m' Γ' ∧ Sta X.K H0 H3 O σ3 Γ' ∧ Up H H3 O Γ Γ', fun σ3 H3 z => z, h1 rfl H0 O σ' H2 _ S2 ⟨?_, eo2.nx, ?_, eo2.rt, eo2.rl⟩⟩
    · rintro σ3 H3 Γ3 ⟨m', l, iv3⟩ s3 u3
      exact ⟨m', l, Γ3, iv3, s3, u'.tr (u2.tr u3)⟩
    · rintro σ3 H3 Γ3 ⟨m', l, iv3⟩ s3 u3
      exact ⟨m', l, Γ3, iv3, s3, u'.tr (u2.tr u3)⟩
  | false =>
    rw [if_neg Bool.false_ne_true]
    exact eo2.nx σ' H2 Γ' (h2 rfl) S2 Up.rfl'
/-- a list of ours is ours no more -/
theorem ws_freeze {i : Nat} {p : Addr} {ds : List PyData} {ss : List Stmt} (h : Γ[i]? = some (.own p (.lst ds))) (k : WS X (Γ.set i (.dat (lt ds))) ss D) : WS X Γ ss D := fun H0 O σ H E S eo => by
  obtain ⟨S1, u1⟩ := S.freeze h
  exact k H0 O σ H E S1 (eo.up u1)
end
/-! ### comprehensions -/
theorem wipe_at {σ : St} : ∀ {vs : List Nat} {i : Nat}, (wipe σ vs)[i]? = if i ∈ vs then (if i < σ.length then some none else none) else σ[i]?
  | [], i => by simp [wipe]
  | v :: vs, i => by
    rw [wipe, List.getElem?_set, wipe_length, wipe_at (vs := vs)]
    by_cases e : v = i
    · subst e; simp
    · have e' : ¬ i = v := fun z => e z.symm
      simp [e, e']
theorem wipe_set {σ : St} {vs : List Nat} {j : Nat} (h : j ∈ vs) (x : Option V) : wipe (σ.set j x) vs = wipe σ vs := by
  apply List.ext_getElem?
  intro i
  rw [wipe_at, wipe_at, List.length_set]
  by_cases e : i ∈ vs
  · rw [if_pos e, if_pos e]
  · rw [if_neg e, if_neg e, List.getElem?_set_ne (fun z => e (by rw [← z]; exact h))]
theorem wipe_wipe {σ : St} {vs : List Nat} : wipe (wipe σ vs) vs = wipe σ vs := by
  apply List.ext_getElem?
  intro i
  rw [wipe_at, wipe_length]
  by_cases e : i ∈ vs
  · rw [if_pos e, wipe_at, if_pos e]
  · rw [if_neg e]
def wipeE (Γ : Sv) : List Nat → Sv
  | [] => Γ
  | v :: vs => (wipeE Γ vs).set v none
theorem wipeE_len (Γ : Sv) : ∀ vs, (wipeE Γ vs).length = Γ.length
  | [] => rfl
  | v :: vs => by rw [wipeE, List.length_set, wipeE_len Γ vs]
theorem wipeE_at {Γ : Sv} : ∀ {vs : List Nat} {i : Nat} {s : Sem}, (wipeE Γ vs)[i]? = some (some s) → Γ[i]? = some (some s) ∧ i ∉ vs
  | [], i, s, h => ⟨h, by simp⟩
  | v :: vs, i, s, h => by
    rw [wipeE, List.getElem?_set] at h
    by_cases e : v = i
    · subst e
      rw [if_pos rfl] at h
      split at h <;> simp at h
    · rw [if_neg e] at h
      obtain ⟨a, b⟩ := wipeE_at h
      exact ⟨a, by simp; exact ⟨fun z => e z.symm, b⟩⟩
theorem Sl.wipe {K : PySem.W.Frag} {H : Hp} {σ : St} {Γ : Sv} (s : Sl K H σ Γ) (vs : List Nat) : Sl K H (L2.wipe σ vs) (wipeE Γ vs) := by
  refine ⟨by rw [wipe_length, wipeE_len, s.1], fun i t h => ?_⟩
  obtain ⟨a, b⟩ := wipeE_at h
  obtain ⟨v, h1, h2⟩ := s.2 i t a
  exact ⟨v, by rw [wipe_at, if_neg b]; exact h1, h2⟩
/-- the target of a comprehension takes an s -/
def GP (K : PySem.W.Frag) (g : TG) (vs : List Nat) (s : Sem) (Γ Γ' : Sv) : Prop := ∀ v H σ (Q : St → Hp → Prop), Sl K H σ Γ → s.P K H v → (∀ σ', wipe σ' vs = wipe σ vs → Sl K H σ' Γ' → Q σ' H) → g v σ H Q
theorem gp_name {K : PySem.W.Frag} {j : Nat} {vs : List Nat} {s : Sem} {Γ : Sv} (h : j ∈ vs) : GP K (gName j) vs s Γ (Γ.set j (some s)) := fun v H σ Q sl p q => q _ (wipe_set h _) (sl.set j p)
theorem gp_two {K : PySem.W.Frag} {i j : Nat} {vs : List Nat} {d1 d2 : PyData} {Γ : Sv} (h1 : i ∈ vs) (h2 : j ∈ vs) : GP K (gTup K 2 (gCons (gName i) (gCons (gName j) gNil))) vs (dt (.tuple [d1, d2])) Γ ((Γ.set i (some (dt d1))).set j (some (dt d2))) := fun v H σ Q sl p q => by
  obtain ⟨a, xs, rfl, hx, hd⟩ := Dp.tup_ p
  cases hd with
  | cons p1 hd => cases hd with
    | cons p2 hd =>
      cases hd
      exact ⟨a, _, rfl, hx, rfl, _, _, rfl, _, _, rfl, rfl, q _ (by rw [wipe_set h2, wipe_set h1]) ((sl.set i (t := dt d1) p1).set j (t := dt d2) p2)⟩
section
variable {X : Cx} {Γ : Sv} {pos : Pos} {α : Type}
/-- any block of a comprehension -/
abbrev Blk (X : Cx) (scope : Scope) (φ : Cx → Prop) : Prop := ∀ (s : Shared) (H : Hp) (C : Addr) (cl : List (Str × Addr)) (fp : List Addr), φ (X.blk s H scope (compEnvC scope cl C X.env) fp)
inductive Ifs (X : Cx) (scope : Scope) : List Expr → TT → Prop
  | nil : Ifs X scope [] tYes
  | one {c : Expr} : Ifs X scope [c] (fun σ H Q => ∀ (s : Shared) (H' : Hp) (C : Addr) (cl : List (Str × Addr)) (fp : List Addr), WT (X.blk s H' scope (compEnvC scope cl C X.env) fp) c σ H Q)
def ifsOk (X : Cx) (scope : Scope) (ifs : List Expr) (Γ : Sv) (b : Bool) : Prop := match ifs with
  | [] => b = true
  | [c] => Blk X scope fun Y => PB Y Γ c b
  | _ => False
/-- a comprehension that gives a new list, also where it is stored at once -/
def LCX (X : Cx) (Γ : Sv) (e : Expr) (ds : List PyData) : Prop := ∃ te : TE, (∀ σ H Q, Sl X.K H σ Γ → (∀ p H' xs, H p = none → Ex H H' → H' p = some (.lst xs) → DpAll X.K H' xs ds → Q (.ref p) H') → te σ H Q) ∧ PE X e te ∧
  ∀ (i : Nat) (y : Str) (py spos : Pos), X.N[i]? = some y → X.env.scope.names.lookup y = some .local → swapsWith e (some (.Name y py)) spos.line X.env = pure true → PS X (.Assign [.Name y py] e spos) (tAsg te (gName i))
theorem LCX.pxl {e : Expr} {ds : List PyData} (h : LCX X Γ e ds) : PXL X Γ e ds := by
  obtain ⟨te, h1, h2, _⟩ := h
  exact pxl_of h2 h1
theorem lcx_lc {L : List α} {item : α → Sem} {test : α → Bool} {val : α → PyData} {bnd : α → Sv} {g : TG} {elt tg iter : Expr} {ifs : List Expr} {scope : Scope} {own : List (Str × Nat)} {tt : TT}
    (hc : X.calm = true) (hN : X.N.Nodup) (hi : PIt X Γ tg iter L item) (ok : BlkOk X.N X.env.scope scope own) (hg : Blk X scope fun Y => PG Y tg g) (hifs : Ifs X scope ifs tt) (hb : ∀ a ∈ L, GP X.K g (own.map (·.2)) (item a) (wipeE Γ (own.map (·.2))) (bnd a))
    (ht : ∀ a ∈ L, ifsOk X scope ifs (bnd a) (test a)) (he : ∀ a ∈ L, test a = true → Blk X scope fun Y => PX Y (bnd a) elt (dt (val a))) (hv : ∀ a ∈ L, test a = true → tupd (val a) = true) (hl : L.length < 100000)
    (hs : ∀ x, foldedSetIterable iter X.env x = pure x := by intro _; rfl) : LCX X Γ (.ListComp elt [⟨tg, iter, ifs, 0⟩] scope pos) ((L.filter test).map val) := by
  obtain ⟨wi, pi, ri⟩ := hi
  have pts : Blk X scope fun Y => PTs Y ifs tt := fun s H C cl fp => by
    cases hifs with
    | nil => exact pts_nil
    | one => exact pts_one ⟨fun pins s1 σ H1 Q I h => h s H C cl fp pins s1 I⟩
  refine ⟨_, ?_, pe_lc (te := fun σ H Q => ∀ (s : Shared) (H' : Hp) (C : Addr) (cl : List (Str × Addr)) (fp : List Addr), W (X.blk s H' scope (compEnvC scope cl C X.env) fp) elt σ H Q) hc hN pi ok hg pts (fun s H C cl fp => ⟨fun pins s1 σ H1 Q I h => h s H C cl fp pins s1 I⟩) hs, fun i y py spos hy hyl hsw => ps_setLc (te := fun σ H Q => ∀ (s : Shared) (H' : Hp) (C : Addr) (cl : List (Str × Addr)) (fp : List Addr), W (X.blk s H' scope (compEnvC scope cl C X.env) fp) elt σ H Q) hc hN hy hyl hsw pi ok hg pts (fun s H C cl fp => ⟨fun pins s1 σ H1 Q I h => h s H C cl fp pins s1 I⟩) hs⟩
  intro σ H Q sl q
  refine ri σ H _ sl fun J H1 n G Y x1 hlen wk per its => ?_
  intro Dl hD
  have ftk : ∀ n, tupds (((L.take n).filter test).map val) = true := fun n => tupds_iff.mpr fun d h => by
    obtain ⟨a, ha, rfl⟩ := List.mem_map.mp h
    have := List.mem_filter.mp ha
    exact hv a (List.mem_of_mem_take this.1) this.2
  have lent : ∀ n, (((L.take n).filter test).map val).length ≤ L.length := fun n => by
    rw [List.length_map]
    refine Nat.le_trans (List.length_filter_le _ _) ?_
    rw [List.length_take]
    omega
  have kt : ∀ {H2 : Hp} {acc acc' : List V}, H2 Dl = some (.lst acc) → ∀ a xs, SqT X.K H2 a xs → SqT X.K (upd H2 Dl (.lst acc')) a xs := fun {H2 acc acc'} h a xs z => by
    rcases z with z | z
    · refine .inl ?_
      have n : a ≠ Dl := fun e => by
        subst e
        rcases z with z | ⟨o, z⟩ <;> (rw [h] at z; cases z)
      rcases z with z | ⟨o, z⟩
      · exact .inl (by rw [upd_ne n]; exact z)
      · exact .inr ⟨o, by rw [upd_ne n]; exact z⟩
    · exact .inr z
  refine lc_it (g := g) (tt := tt) (te := (fun σ H Q => ∀ (s : Shared) (H' : Hp) (C : Addr) (cl : List (Str × Addr)) (fp : List Addr), W (X.blk s H' scope (compEnvC scope cl C X.env) fp) elt σ H Q)) (vs := own.map (·.2)) (σ := σ) wk (fun i H' => Ex H1 H' ∧ ∃ acc, H' Dl = some (.lst acc) ∧ DpAll X.K H' acc (((L.take i).filter test).map val)) ⟨Evl.Ex.new hD, [], upd_same, by simp; exact .nil⟩ (fun i H' _ p => per H' p.1) (fun i x H' H'' hi p y => ?_) (fun H' ⟨e, acc, h1, h2⟩ => q Dl H' acc (Evl.fresh_back x1 hD) (x1.trans e) h1 (by rw [hlen, List.take_length] at h2; exact h2))
  obtain ⟨e1, acc, h1, h2⟩ := p
  have hi' : i < L.length := hlen ▸ hi
  obtain ⟨f0, f2⟩ := its i L[i] H' x H'' (List.getElem?_eq_getElem hi') e1 y
  replace e1 := e1.trans f0
  replace h2 := DpAll.mono f0 h2
  replace h1 := f0 Dl _ h1
  have mem : L[i] ∈ L := List.getElem_mem hi'
  have tk : L.take (i + 1) = L.take i ++ [L[i]] := by rw [List.take_add_one, List.getElem?_eq_getElem hi']; rfl
  have slw : Sl X.K H'' (L2.wipe σ (own.map (·.2))) (wipeE Γ (own.map (·.2))) := (sl.mono (x1.trans e1)).wipe _
  refine hb L[i] mem x H'' _ _ slw f2 fun σ2 w2 sl2 => ⟨by rw [w2, wipe_wipe], ?_⟩
  -- the test
  have tst : ∀ (Q' : Bool → Hp → Prop), (∀ H3, Ex H'' H3 → Q' (test L[i]) H3) → tt σ2 H'' Q' := fun Q' q' => by
    have t0 := ht L[i] mem
    cases hifs with
    | nil =>
      have t1 : test L[i] = true := t0
      have := q' H'' Ex.rfl'
      rw [t1] at this
      exact this
    | one => exact fun s H' C cl fp => t0 s H' C cl fp σ2 H'' Q' sl2 q'
  refine tst _ fun H3 e3 => ?_
  have a3 := e3 Dl _ h1
  have d3 := DpAll.mono e3 h2
  cases q3 : test L[i] with
  | false =>
    rw [if_neg Bool.false_ne_true]
    refine ⟨e1.trans e3, acc, a3, ?_⟩
    rw [tk, List.filter_append, List.filter_cons, q3, if_neg Bool.false_ne_true]
    simpa using d3
  | true =>
    rw [if_pos rfl]
    intro s H' C cl fp
    refine he L[i] mem q3 s H' C cl fp σ2 H3 _ (sl2.mono e3) fun y H4 e4 h4 => ?_
    have a4 := e4 Dl _ a3
    have d4 := DpAll.mono e4 d3
    have ln : acc.length < 100000 := by
      rw [DpAll.len h2]
      exact Nat.lt_of_le_of_lt (lent i) hl
    refine ⟨acc, a4, Evl.sz_lt ln, Evl.Ex.mut ((e1.trans e3).trans e4) hD, acc ++ [y], upd_same, ?_⟩
    have ex : ((L.take (i + 1)).filter test).map val = ((L.take i).filter test).map val ++ [val L[i]] := by
      rw [tk, List.filter_append, List.filter_cons, q3, if_pos rfl]
      simp
    rw [ex]
    exact DpAll.tk (kt a4) (by rw [← ex]; exact ftk (i + 1)) (d4.app (.cons h4 .nil))
theorem pxl_lc {L : List α} {item : α → Sem} {test : α → Bool} {val : α → PyData} {bnd : α → Sv} {g : TG} {elt tg iter : Expr} {ifs : List Expr} {scope : Scope} {own : List (Str × Nat)} {tt : TT}
    (hc : X.calm = true) (hN : X.N.Nodup) (hi : PIt X Γ tg iter L item) (ok : BlkOk X.N X.env.scope scope own) (hg : Blk X scope fun Y => PG Y tg g) (hifs : Ifs X scope ifs tt) (hb : ∀ a ∈ L, GP X.K g (own.map (·.2)) (item a) (wipeE Γ (own.map (·.2))) (bnd a))
    (ht : ∀ a ∈ L, ifsOk X scope ifs (bnd a) (test a)) (he : ∀ a ∈ L, test a = true → Blk X scope fun Y => PX Y (bnd a) elt (dt (val a))) (hv : ∀ a ∈ L, test a = true → tupd (val a) = true) (hl : L.length < 100000)
    (hs : ∀ x, foldedSetIterable iter X.env x = pure x := by intro _; rfl) : PXL X Γ (.ListComp elt [⟨tg, iter, ifs, 0⟩] scope pos) ((L.filter test).map val) := (lcx_lc hc hN hi ok hg hifs hb ht he hv hl hs).pxl
end
end Dw
set_option Elab.async false
set_option linter.all false
set_option maxRecDepth 100000
set_option maxHeartbeats 1000000
/-! Short forms: what reads off by rfl is asked last. -/
namespace Dw
open PySem PySem.Spec PyProof.Rows L2
section
variable {X : Cx} {Γ : Sv} {pos : Pos} {s : Sem} {ds : List PyData} {d : PyData}
theorem pn (i : Nat) {x : Str} (h : Γ[i]? = some (some s) := by rfl) (hN : X.N[i]? = some x := by rfl) (hv : Vis X.env.scope x := by first | exact Or.inl rfl | exact Or.inr (Or.inl rfl) | exact Or.inr (Or.inr rfl)) (hd : (x == ("__debug__" : Str)) = false := by decide)
    (hcd : (x == ("__classdict__" : Str)) = false := by decide) : PX X Γ (.Name x pos) s := px_var i hN hv h hd hcd
theorem pnl (i : Nat) {x : Str} (h : Γ[i]? = some (some (lt ds)) := by rfl) (hN : X.N[i]? = some x := by rfl) (hv : Vis X.env.scope x := by first | exact Or.inl rfl | exact Or.inr (Or.inl rfl) | exact Or.inr (Or.inr rfl)) (hd : (x == ("__debug__" : Str)) = false := by decide)
    (hcd : (x == ("__classdict__" : Str)) = false := by decide) : PX X Γ (.Name x pos) (dt (.list ds)) := px_wk (px_var i hN hv h hd hcd) wk_l
theorem pnx (i : Nat) {x : Str} (h : Γ[i]? = some (some (xt ds)) := by rfl) (hN : X.N[i]? = some x := by rfl) (hv : Vis X.env.scope x := by first | exact Or.inl rfl | exact Or.inr (Or.inl rfl) | exact Or.inr (Or.inr rfl)) (hd : (x == ("__debug__" : Str)) = false := by decide)
    (hcd : (x == ("__classdict__" : Str)) = false := by decide) : PX X Γ (.Name x pos) (dt (.tuple ds)) := px_wk (px_var i hN hv h hd hcd) wk_x
end
section
variable {X : Cx} {Γ : Ga} {D : Ks} {e c : Expr} {ss ts rest : List Stmt} {s : Sem} {ds : List PyData} {d : PyData} {pos : Pos}
theorem w_asg (i : Nat) {x : Str} {pos' : Pos} (hN : X.N.Nodup) (he : PX X (frz Γ) e s) (fr : Fr s) (k : WS X (Γ.set i (.dat s)) rest D) (hi : X.N[i]? = some x := by rfl) (hx : Loc X.env.scope x := by first | exact Or.inl rfl | exact Or.inr rfl) (hil : i < Γ.length := by exact Nat.le_of_ble_eq_true rfl) (hs : swapsWith e (some (.Name x pos')) pos.line X.env = pure false := by rfl)
    (hf : X.fn x = true ∨ X.env.scope.names.lookup x = some .local := by first | exact .inl rfl | exact .inr rfl) : WS X Γ (.Assign [.Name x pos'] e pos :: rest) D := ws_cons (s_asg (i := i) he fr k hN hi hx hil hs hf)
theorem w_asgL (i : Nat) {x : Str} {pos' : Pos} (hN : X.N.Nodup) (he : PXL X (frz Γ) e ds) (fr : tupds ds = true) (k : ∀ p, WS X (Γ.set i (.own p (.lst ds))) rest D) (hi : X.N[i]? = some x := by rfl) (hx : Loc X.env.scope x := by first | exact Or.inl rfl | exact Or.inr rfl) (hil : i < Γ.length := by exact Nat.le_of_ble_eq_true rfl) (hs : swapsWith e (some (.Name x pos')) pos.line X.env = pure false := by rfl)
    (hf : X.fn x = true ∨ X.env.scope.names.lookup x = some .local := by first | exact .inl rfl | exact .inr rfl) : WS X Γ (.Assign [.Name x pos'] e pos :: rest) D := ws_cons (s_asgL (i := i) he fr k hN hi hx hil hs hf)
/-- x = [comprehension], on one line -/
theorem w_asgC (i : Nat) {x : Str} {pos' : Pos} (hN : X.N.Nodup) (he : LCX X (frz Γ) e ds) (fr : tupds ds = true) (k : ∀ p, WS X (Γ.set i (.own p (.lst ds))) rest D) (hi : X.N[i]? = some x := by rfl) (hx : X.env.scope.names.lookup x = some .local := by rfl) (hil : i < Γ.length := by exact Nat.le_of_ble_eq_true rfl) (hs : swapsWith e (some (.Name x pos')) pos.line X.env = pure true := by rfl) : WS X Γ (.Assign [.Name x pos'] e pos :: rest) D := ws_cons fun H0 O σ H E S eo => by
  obtain ⟨te, h1, _, h3⟩ := he
  refine wS (h3 i x pos' pos hi hx hs) (h1 σ H _ S.sl fun p H1 xs np x1 hp hd => ?_)
  obtain ⟨S1, nO, k1, g1⟩ := S.hide np x1 (.inl ⟨xs, hp⟩)
  obtain ⟨S2, g2⟩ := S1.own' nO hil (c := .lst ds) ⟨xs, hp, fr_all fr S1.mutb hd⟩
  exact eo.nx _ H1 _ (k p) S2 ⟨k1, g1.trans g2⟩
theorem w_if {b : Bool} (hc : PB X (frz Γ) c b) (h1 : b = true → WS X Γ ss { D with nx := fun Γ' => WS X Γ' rest D }) (h2 : b = false → WS X Γ ts { D with nx := fun Γ' => WS X Γ' rest D }) : WS X Γ (.If c ss ts pos :: rest) D := ws_cons (s_if hc h1 h2)
/-- if without else -/
theorem w_when {b : Bool} (hc : PB X (frz Γ) c b) (h1 : b = true → WS X Γ ss { D with nx := fun Γ' => WS X Γ' rest D }) (h2 : b = false → WS X Γ rest D) : WS X Γ (.If c ss [] pos :: rest) D := ws_cons (s_if hc h1 fun h => ws_nil (h2 h))
theorem w_ret (he : PX X (frz Γ) e s) (fr : Fr s) (k : D.rt s Γ) : WS X Γ (.Return (some e) pos :: rest) D := ws_cons (s_ret he fr k)
theorem w_retL (he : PXL X (frz Γ) e ds) (fr : tupds ds = true) (k : D.rl (.lst ds) Γ) : WS X Γ (.Return (some e) pos :: rest) D := ws_cons (s_retL he fr k)
theorem w_retO (i : Nat) {x : Str} {p : Addr} {cc : Con} {pos' : Pos} (k : D.rl cc (Γ.set i .un)) (h : Γ[i]? = some (.own p cc) := by rfl) (hN : X.N[i]? = some x := by rfl) (hv : Vis X.env.scope x := by first | exact Or.inl rfl | exact Or.inr (Or.inl rfl) | exact Or.inr (Or.inr rfl)) (hd : (x == ("__debug__" : Str)) = false := by decide)
    (hcd : (x == ("__classdict__" : Str)) = false := by decide) : WS X Γ (.Return (some (.Name x pos')) pos :: rest) D := ws_cons (s_retO h k hN hv hd hcd)
theorem w_append (i : Nat) {x : Str} {p : Addr} {p1 p2 p3 : Pos} (he : PX X (frz Γ) e (dt d)) (fr : tupd d = true) (hl : ds.length < 100000) (k : WS X (Γ.set i (.own p (.lst (ds ++ [d])))) rest D) (h : Γ[i]? = some (.own p (.lst ds)) := by rfl) (hN : X.N[i]? = some x := by rfl)
    (hv : Vis X.env.scope x := by first | exact Or.inl rfl | exact Or.inr (Or.inl rfl) | exact Or.inr (Or.inr rfl))
    (q1 : attributeBase (.Name x p1) ("append" : Str) X.env (eval (.Name x p1) X.env) = eval (.Name x p1) X.env := by rfl)
    (q2 : ((backTo p3 (starEach [e] X.env)).all (fun x => !x.1) && (backToKw p3 (keywordEach [] X.env)).all (fun x => x.1.isSome) && decide ([e].length + ([] : List Keyword).length + (if ([] : List Keyword).isEmpty then 0 else 1) < 30)) = true := by rfl)
    (q3 : (p2.endLine == p3.line) = true := by rfl) (q4 : starEach [e] X.env = (false, eval e X.env) :: starEach [] X.env := by rfl) (q5 : (backTo p3 (starEach [] X.env)).any (·.1) = false := by rfl)
    (hs : swapsWith (.Call (.Attribute (.Name x p1) ("append" : Str) p2) [e] [] p3) none pos.line X.env = pure false := by rfl)
    (hd : (x == ("__debug__" : Str)) = false := by decide) (hcd : (x == ("__classdict__" : Str)) = false := by decide) :
    WS X Γ (.Expr (.Call (.Attribute (.Name x p1) ("append" : Str) p2) [e] [] p3) pos :: rest) D := ws_cons (s_append h he fr hl k hN hv q1 q2 q3 q4 q5 hs hd hcd)
theorem w_for {α : Type} {L : List α} {item : α → Sem} {tg iter : Expr} {body : List Stmt} {g : TG} (Iv : Nat → Ga → Prop) (hi : WI X Γ tg iter L item) (h0 : Iv 0 Γ) (hgp : PG X tg g)
    (hs : ∀ (i : Nat) (a : α) Γ', L[i]? = some a → Iv i Γ' → GX X tg (item a) Γ' g fun Γ2 => WS X Γ2 body { D with nx := Iv (i + 1), ct := Iv (i + 1), bk := fun Γ' => WS X Γ' rest D }) (hd : ∀ Γ', Iv L.length Γ' → WS X Γ' rest D)
    (hc : X.calm = true := by rfl) (hp : PassesOwn (model X.prog X.w) X.A X.env X.xe := by exact PassesOwn.never) (hs2 : ∀ x, foldedSetIterable iter X.env x = pure x := by intro _; rfl) : WS X Γ (.For tg iter body [] pos :: rest) D :=
  ws_cons (s_for (D := { D with nx := fun Γ' => WS X Γ' rest D }) hc hp hi Iv h0 hgp hs hd hs2)
theorem w_while {body : List Stmt} (Iv : Nat → Ga → Prop) (m0 : Nat) (h0 : Iv m0 Γ)
    (hs : ∀ m Γ', Iv m Γ' → ∃ b, PB X (frz Γ') c b ∧ (b = true → WS X Γ' body { D with nx := fun Γ2 => ∃ m', m' < m ∧ Iv m' Γ2, ct := fun Γ2 => ∃ m', m' < m ∧ Iv m' Γ2, bk := fun Γ' => WS X Γ' rest D }) ∧ (b = false → WS X Γ' rest D))
    (hp : PassesOwn (model X.prog X.w) X.A X.env X.xe := by exact PassesOwn.never) : WS X Γ (.While c body [] pos :: rest) D := ws_cons (s_while (D := { D with nx := fun Γ' => WS X Γ' rest D }) hp Iv m0 h0 hs)
theorem gn (i : Nat) {x : Str} {k : Ga → Prop} (hN : X.N.Nodup) (h : k (Γ.set i (.dat s))) (hi : X.N[i]? = some x := by rfl) (hx : Loc X.env.scope x := by first | exact Or.inl rfl | exact Or.inr rfl) (hil : i < Γ.length := by exact Nat.le_of_ble_eq_true rfl) (hf : X.fn x = true ∨ X.env.scope.names.lookup x = some .local := by first | exact .inl rfl | exact .inr rfl) : GX X (.Name x pos) s Γ (gName i) k := g_name h hN hi hx hil hf
theorem gpn (i : Nat) {x : Str} (hN : X.N.Nodup) (hi : X.N[i]? = some x := by rfl) (hx : Loc X.env.scope x := by first | exact Or.inl rfl | exact Or.inr rfl) (hf : X.fn x = true ∨ X.env.scope.names.lookup x = some .local := by first | exact .inl rfl | exact .inr rfl) : PG X (.Name x pos) (gName i) := pg_name hN hi hx hf
theorem cr_len {X : Cx} {Γ : Sv} {a : Expr} {ds : List PyData} {p pos : Pos} {n : Nat} (hm : X.mg "len" = none) (ha : PX X Γ a (dt (.list ds))) (hn : ds.length = n) (hg : Gl X "len" := by rfl) (hs : starEach [a] X.env = (false, eval a X.env) :: starEach [] X.env := by rfl) (hp : (backTo pos (starEach [] X.env)).any (·.1) = false := by rfl) : PX X Γ (.Call (.Name "len" p) [a] [] pos) (dt (.int (n : Int))) := px_len hg hm ha (.inl rfl) hn hs hp
theorem cr_lenT {X : Cx} {Γ : Sv} {a : Expr} {ds : List PyData} {p pos : Pos} {n : Nat} (hm : X.mg "len" = none) (ha : PX X Γ a (dt (.tuple ds))) (hn : ds.length = n) (hg : Gl X "len" := by rfl) (hs : starEach [a] X.env = (false, eval a X.env) :: starEach [] X.env := by rfl) (hp : (backTo pos (starEach [] X.env)).any (·.1) = false := by rfl) : PX X Γ (.Call (.Name "len" p) [a] [] pos) (dt (.int (n : Int))) := px_len hg hm ha (.inr rfl) hn hs hp
end
section
variable {X : Cx} {Γ : Sv} {a b : Expr} {es : List Expr} {ds : List PyData} {pos : Pos}
theorem px_neg {i : Int} (ha : PX X Γ a (dt (.int i))) : PX X Γ (.UnaryOp .USub a pos) (dt (.int (-i))) := px_of (pe_un un_neg pe_W) fun σ H Q s q => ha σ H _ s fun v H1 x1 h1 => ⟨i, Dp.int_ h1, q _ H1 x1 (Dp.int _)⟩
theorem px_add {i j : Int} (ha : PX X Γ a (dt (.int i))) (hb : PX X Γ b (dt (.int j))) : PX X Γ (.BinOp a .Add b pos) (dt (.int (i + j))) := px_bin op_add od_I0 ha hb
theorem px_sub {i j : Int} (ha : PX X Γ a (dt (.int i))) (hb : PX X Γ b (dt (.int j))) : PX X Γ (.BinOp a .Sub b pos) (dt (.int (i - j))) := px_bin op_sub od_I0 ha hb
theorem pt_ {k} (h : PXs X Γ es (ds.map dt)) (hl : ds.length ≤ 100000 := by exact Nat.le_of_ble_eq_true rfl) : PX X Γ (.Tuple es k pos) (dt (.tuple ds)) := px_tup h hl
theorem pl_ (h : PXs X Γ es (ds.map dt)) (hl : ds.length ≤ 100000 := by exact Nat.le_of_ble_eq_true rfl) : PXL X Γ (.List es pos) ds := pxl_lst h hl
theorem pt1 {k} {d : PyData} (ha : PX X Γ a (dt d)) (hs : starEach [a] X.env = (false, eval a X.env) :: starEach [] X.env := by rfl) : PX X Γ (.Tuple [a] k pos) (dt (.tuple [d])) := px_tup (ds := [d]) (pxs_cons ha pxs_nil hs) (Nat.le_of_ble_eq_true rfl)
theorem pt2 {k} {d e : PyData} (ha : PX X Γ a (dt d)) (hb : PX X Γ b (dt e)) (hs : starEach [a, b] X.env = (false, eval a X.env) :: starEach [b] X.env := by rfl) (hs2 : starEach [b] X.env = (false, eval b X.env) :: starEach [] X.env := by rfl) : PX X Γ (.Tuple [a, b] k pos) (dt (.tuple [d, e])) := px_tup (ds := [d, e]) (pxs_cons ha (pxs_cons hb pxs_nil hs2) hs) (Nat.le_of_ble_eq_true rfl)
theorem pl1 {d : PyData} (ha : PX X Γ a (dt d)) (hs : starEach [a] X.env = (false, eval a X.env) :: starEach [] X.env := by rfl) : PXL X Γ (.List [a] pos) [d] := pxl_lst (ds := [d]) (pxs_cons ha pxs_nil hs) (Nat.le_of_ble_eq_true rfl)
theorem pl0 : PXL X Γ (.List [] pos) [] := pxl_lst (ds := []) pxs_nil (Nat.zero_le _)
end
/-! items of lists of numbers -/
theorem at_nI {r : List Nat} {i : Nat} (h : i < r.length) : atI (nI r) (i : Int) = some (.int (r.getD i 0 : Nat)) := atI_nat (by rw [List.getElem?_map, List.getElem?_eq_getElem h]; simp [List.getD_eq_getElem?_getD, h])
theorem at_map {α : Type} {f : α → PyData} {L : List α} {i : Nat} {a : α} (h : L[i]? = some a) : atI (L.map f) (i : Int) = some (f a) := atI_nat (by rw [List.getElem?_map, h]; rfl)
theorem at_last {α : Type} {L : List α} {a : α} (h : L[L.length - 1]? = some a) : atI L (-1) = some a := by
  have hl : L.length - 1 < L.length := (List.getElem?_eq_some_iff.mp h).1
  unfold atI ixN
  rw [if_neg (by omega), if_pos (by omega)]
  show L[(-1 + (L.length : Int)).toNat]? = _
  rw [show (-1 + (L.length : Int)).toNat = L.length - 1 by omega]
  exact h
theorem tupds_nI (ns : List Nat) : tupds (nI ns) = true := tupds_iff.mpr fun d h => by
  obtain ⟨n, _, rfl⟩ := List.mem_map.mp h
  rfl
theorem tupds_map {α : Type} {f : α → PyData} {L : List α} (h : ∀ a ∈ L, tupd (f a) = true) : tupds (L.map f) = true := tupds_iff.mpr fun d hd => by
  obtain ⟨a, ha, rfl⟩ := List.mem_map.mp hd
  exact h a ha
end Dw
set_option Elab.async false
set_option linter.all false
set_option maxRecDepth 100000
set_option maxHeartbeats 1000000
/-! More of Python's words over data. -/
namespace Dw
open PySem PySem.Spec PyProof.Rows L2
theorem dcut {K : PySem.W.Frag} {H : Hp} {P : Addr → Prop} {v : V} {d : PyData} (h : tupd d = true) (m : ∀ a, P a → Mutb (H a)) (p : Dp K H v d) : Dp K (cut H P) v d := fr_dt h m p
section
variable {X : Cx} {Γ : Ga} {D : Ks} {e a b c tg : Expr} {rest : List Stmt} {s : Sem} {ds es : List PyData} {d : PyData} {pos : Pos}
/-! ### x[k] = e, x a list of ours; hg: pg_sub (pv i) pe_W set_list -/
theorem w_setitem (i : Nat) {p : Addr} {k : Int} {j : Nat} (hg : PG X tg (gSub (tVar i) (W X b) rSetL)) (he : PX X (frz Γ) e (dt d)) (fr : tupd d = true) (hb : PX X (frz Γ) b (dt (.int k))) (hj : ixN ds.length k = some j) (kk : WS X (Γ.set i (.own p (.lst (ds.set j d)))) rest D)
    (h : Γ[i]? = some (.own p (.lst ds)) := by rfl) (hs : swapsWithSole [tg] e pos.line X.env = pure false := by rfl) (hw : swappedStores [tg] e X.env = pure none := by rfl) (h1 : (assignEach [tg] X.env).map (·.2) = [assign tg X.env] := by rfl) : WS X Γ (.Assign [tg] e pos :: rest) D := ws_cons fun H0 O σ H E S eo => by
  obtain ⟨hσ, xs, hp, ha⟩ := slot_own S h
  refine wS (ps_asg pe_W hg hs hw h1) (he σ H _ S.sl fun v H1 x1 h1 => ⟨_, hσ, hb σ H1 _ (S.ex x1).1.sl fun w H2 x2 h2 => ?_⟩)
  obtain ⟨S2, u2⟩ := S.ex (x1.trans x2)
  have hp2 := x2 p _ (x1 p _ hp)
  have da := DpAll.mono u2.grow ha
  refine ⟨p, xs, k, j, rfl, Dp.int_ h2, hp2, by rw [DpAll.len ha]; exact hj, ?_⟩
  obtain ⟨S3, u3⟩ := S2.mut (c' := .lst (ds.set j d)) (o := .lst (xs.set j v)) h ⟨_, upd_same, da.set (dcut fr S2.mutb (Dp.mono x2 h1))⟩
  exact eo.nx σ _ _ kk S3 (u2.tr u3)
/-! ### x.extend(e), x.remove(e); hm: pe_bm .. (pv i) pa_W -/
theorem w_extend (i : Nat) {p : Addr} {ce : Expr} (hm : PE X ce (tBM X.K "list" rExtend (tVar i) (WA X [e]))) (he : PXL X (frz Γ) e es) (fr : tupds es = true) (hl : ds.length + es.length ≤ 100000) (kk : WS X (Γ.set i (.own p (.lst (ds ++ es)))) rest D)
    (h : Γ[i]? = some (.own p (.lst ds)) := by rfl) (hs : swapsWith ce none pos.line X.env = pure false := by rfl) (q4 : starEach [e] X.env = (false, eval e X.env) :: starEach [] X.env := by rfl) : WS X Γ (.Expr ce pos :: rest) D := ws_cons fun H0 O σ H E S eo => by
  obtain ⟨hσ, xs, hp, ha⟩ := slot_own S h
  refine wS (ps_expr hm hs) ⟨_, hσ, .inl ⟨rfl, xs, SqL.of hp⟩, wA (pa_cons pe_W pa_nil q4) (he σ H _ S.sl fun r H1 ys nr x1 hr h1 => ?_)⟩
  obtain ⟨S1, u1⟩ := S.ex x1
  have da := DpAll.mono u1.grow ha
  refine ⟨p, r, xs, ys, rfl, rfl, x1 p _ hp, hr, sz (by rw [DpAll.len ha, DpAll.len h1]; exact hl), ?_⟩
  obtain ⟨S3, u3⟩ := S1.mut (c' := .lst (ds ++ es)) (o := .lst (xs ++ ys)) h ⟨_, upd_same, da.app (fr_all fr S1.mutb h1)⟩
  exact eo.nx σ _ _ kk S3 (u1.tr u3)
theorem w_remove (i : Nat) {p : Addr} {ce : Expr} {ns : List Int} {k : Int} {j : Nat} (hm : PE X ce (tBM X.K "list" rRemI (tVar i) (WA X [e]))) (he : PX X (frz Γ) e (dt (.int k))) (hj : ns[j]? = some k) (hno : ∀ m, m < j → ns[m]? ≠ some k) (kk : WS X (Γ.set i (.own p (.lst (dI (ns.eraseIdx j))))) rest D)
    (h : Γ[i]? = some (.own p (.lst (dI ns))) := by rfl) (hs : swapsWith ce none pos.line X.env = pure false := by rfl) (q4 : starEach [e] X.env = (false, eval e X.env) :: starEach [] X.env := by rfl) : WS X Γ (.Expr ce pos :: rest) D := ws_cons fun H0 O σ H E S eo => by
  obtain ⟨hσ, xs, hp, ha⟩ := slot_own S h
  have ex := DpAll.ints ha
  subst ex
  refine wS (ps_expr hm hs) ⟨_, hσ, .inl ⟨rfl, _, SqL.of hp⟩, pxs_cons he pxs_nil q4 σ H _ S.sl fun vs H1 x1 h1 => ?_⟩
  cases h1 with
  | cons h1 h2 =>
    cases h2
    obtain ⟨S1, u1⟩ := S.ex x1
    rw [Dp.int_ h1]
    refine ⟨p, ns, k, j, rfl, rfl, x1 p _ hp, hj, hno, ?_⟩
    obtain ⟨S3, u3⟩ := S1.mut (c' := .lst (dI (ns.eraseIdx j))) (o := .lst ((ns.eraseIdx j).map V.int)) h ⟨_, upd_same, DpAll.of_ints _⟩
    exact eo.nx σ _ _ kk S3 (u1.tr u3)
/-! ### x += e of ints -/
theorem w_augI (i : Nat) {x : Str} {op : Operator} {f : Int → Int → Int} {m n : Int} {pos' : Pos} (hN : X.N.Nodup) (ho : PIp X op (ipI f)) (he : PX X (frz Γ) e (dt (.int n))) (kk : WS X (Γ.set i (.dat (dt (.int (f m n))))) rest D) (h : Γ[i]? = some (.dat (dt (.int m))) := by rfl) (hi : X.N[i]? = some x := by rfl) (hx : Loc X.env.scope x := by first | exact Or.inl rfl | exact Or.inr rfl)
    (hf : X.fn x = true ∨ X.env.scope.names.lookup x = some .local := by first | exact .inl rfl | exact .inr rfl) : WS X Γ (.AugAssign (.Name x pos') op e pos :: rest) D := ws_cons fun H0 O σ H E S eo => by
  obtain ⟨v, h1, y, rfl, h2⟩ := S.slot i _ h
  refine wS (ps_aug hN hi hx pe_W ho hf) ⟨y, h1, he σ H _ S.sl fun w H1 x1 h3 => ⟨m, n, Dp.int_ h2, Dp.int_ h3, ?_⟩⟩
  obtain ⟨S1, u1⟩ := S.ex x1
  obtain ⟨S2, u2⟩ := S1.put (List.getElem?_eq_some_iff.mp h).1 (s := dt (.int (f m n))) (v := .int (f m n)) (Dp.int _)
  exact eo.nx _ H1 _ kk S2 (u1.tr u2)
/-! ### a, b = e, any target -/
theorem w_tgt {g : TG} (he : PX X (frz Γ) e s) (fr : Fr s) (hg : GX X tg s Γ g fun Γ' => WS X Γ' rest D) (hs : swapsWithSole [tg] e pos.line X.env = pure false := by rfl) (hw : swappedStores [tg] e X.env = pure none := by rfl) (h1 : (assignEach [tg] X.env).map (·.2) = [assign tg X.env] := by rfl) : WS X Γ (.Assign [tg] e pos :: rest) D := ws_cons fun H0 O σ H E S eo => by
  refine wS (ps_asg pe_W hg.1 hs hw h1) (he σ H _ S.sl fun v H1 x1 h1 => ?_)
  obtain ⟨S1, u1⟩ := S.ex x1
  exact hg.2 H0 O σ H1 v _ S1 (fr S1.mutb h1) fun σ' Γ' k S2 u2 => eo.nx σ' H1 Γ' k S2 (u1.tr u2)
end
/-! ### methods that only read: count, index; hm: pe_bm .. pe_W pa_W -/
section
variable {X : Cx} {Γ : Sv} {e a b c ce : Expr} {ds : List PyData} {d : PyData} {pos p : Pos}
theorem px_lcount {ns : List Int} {k : Int} (hm : PE X ce (tBM X.K "list" (rCntI X.K) (W X a) (WA X [b]))) (ha : PX X Γ a (dt (.list (dI ns)))) (hb : PX X Γ b (dt (.int k))) (q4 : starEach [b] X.env = (false, eval b X.env) :: starEach [] X.env := by rfl) : PX X Γ ce (dt (.int (ns.count k : Nat))) := px_of hm fun σ H Q s q => ha σ H _ s fun v H1 x1 h1 => by
  obtain ⟨r, xs, rfl, hx, hd⟩ := Dp.lst_ h1
  have ex := DpAll.ints hd
  subst ex
  refine ⟨.inl ⟨rfl, _, hx⟩, pxs_cons hb pxs_nil q4 σ H1 _ (s.mono x1) fun vs H2 x2 h2 => ?_⟩
  cases h2 with
  | cons h2 h3 =>
    cases h3
    rw [Dp.int_ h2]
    exact ⟨r, ns, k, rfl, rfl, dex_l x2 hx, q _ H2 (x1.trans x2) (Dp.int _)⟩
theorem px_lindex {ns : List Int} {k : Int} {j : Nat} (hm : PE X ce (tBM X.K "list" (rIndex X.K) (W X a) (WA X [b]))) (ha : PX X Γ a (dt (.list (dI ns)))) (hb : PX X Γ b (dt (.int k))) (hj : ns[j]? = some k) (hno : ∀ m, m < j → ns[m]? ≠ some k) (q4 : starEach [b] X.env = (false, eval b X.env) :: starEach [] X.env := by rfl) : PX X Γ ce (dt (.int (j : Nat))) := px_of hm fun σ H Q s q => ha σ H _ s fun v H1 x1 h1 => by
  obtain ⟨r, xs, rfl, hx, hd⟩ := Dp.lst_ h1
  have ex := DpAll.ints hd
  subst ex
  refine ⟨.inl ⟨rfl, _, hx⟩, pxs_cons hb pxs_nil q4 σ H1 _ (s.mono x1) fun vs H2 x2 h2 => ?_⟩
  cases h2 with
  | cons h2 h3 =>
    cases h3
    rw [Dp.int_ h2]
    refine ⟨r, _, .int k, j, .int k, rfl, rfl, dex_l x2 hx, rfl, flat_ints ns, by rw [List.getElem?_map, hj]; rfl, by simp [eqV], fun m z' hm hz => ?_, q _ H2 (x1.trans x2) (Dp.int _)⟩
    rw [List.getElem?_map] at hz
    cases q2 : ns[m]? with
    | none => rw [q2] at hz; cases hz
    | some y =>
      rw [q2] at hz
      cases hz
      have : y ≠ k := fun z => hno m hm (by rw [q2, z])
      simp [eqV, this]
/-! ### isinstance -/
def tyS (n : String) : Sem := ⟨fun _ _ v => v = .ty n, fun _ h => h⟩
theorem px_tyn {x : Str} {n : String} (hm : X.mg x = none) (hv : bootBuiltins x = some (.type n)) (hg : Gl X x := by rfl) (hn : x ≠ "__name__" := by decide) (hd : (x == ("__debug__" : Str)) = false := by decide) : PX X Γ (.Name x pos) (tyS n) := px_ty hg hm hv (fun _ => rfl) hn hd
/-- the builtin type of data -/
def tyD : PyData → String
  | .none => "NoneType"
  | .bool _ => "bool"
  | .int _ => "int"
  | .str _ => "str"
  | .list _ => "list"
  | .tuple _ => "tuple"
  | .dict _ => "dict"
theorem ty_of {K : PySem.W.Frag} {H : Hp} {x : V} (h : Dp K H x d) : TyX K H x (.type (tyD d)) := by
  cases h with
  | non => exact .base .non
  | bl b => exact .base (.bl b)
  | int i => exact .base (.int i)
  | str y => exact .base (.str y)
  | lst h a =>
    rcases h with (h | ⟨o, h⟩) | ⟨o, its, n, h, c, _⟩
    · exact .base (.lst h)
    · exact .base (.frz h)
    · exact .kList h c
  | tup h a =>
    rcases h with (h | ⟨o, h⟩) | ⟨o, its, n, h, c, _⟩
    · exact .base (.tup h)
    · exact .fTuple h
    · exact .kTuple h c
/-- isinstance(x, T) -/
theorem px_isi {n : String} {k : Bool} (hm : X.mg "isinstance" = none) (ha : PX X Γ a (dt d)) (hb : PX X Γ b (tyS n)) (hk : kitB (tyD d) n = some k) (hg : Gl X "isinstance" := by rfl) (hs : starEach [a, b] X.env = (false, eval a X.env) :: starEach [b] X.env := by rfl) (hs2 : starEach [b] X.env = (false, eval b X.env) :: starEach [] X.env := by rfl)
    (hp : (backTo pos (starEach [b] X.env)).any (·.1) = false := by rfl) : PX X Γ (.Call (.Name "isinstance" p) [a, b] [] pos) (dt (.bool k)) := px_of (pe_callB call_isi hg hm (by decide +kernel) pa_W (he := hs) (hpl := hp)) fun σ H Q z q => pxs_cons ha (pxs_cons hb pxs_nil hs2) hs σ H _ z fun vs H1 x1 h1 => by
  cases h1 with
  | cons h1 h2 => cases h2 with
    | cons h2 h3 =>
      cases h3
      have e2 : _ = V.ty n := h2
      subst e2
      exact ⟨_, _, _, _, k, rfl, .ty n, ty_of h1, kit_ty hk, q _ H1 x1 (Dp.bl k)⟩
/-! ### tuple(list), known to its object; its count -/
theorem call_tuple_frz {X : Cx} : CallR X (.type "tuple") (fun xs H Q => ∃ p ys, xs = [.ref p] ∧ SqL X.K H p ys ∧ ∀ l o, TupO o → H l = none → Q (.ref l) (upd H l (.frz o (.tup ys)))) := by
  intro pins s σ H xs us Q I r h
  obtain ⟨p, ys, rfl, hq, q⟩ := h
  obtain ⟨u, rfl, rx⟩ := vals1 r
  cases rx
  obtain ⟨its, r', pl, hz⟩ := I.list hq
  have hlen := r'.length
  refine call_tuple_list pl.isList (fun h' kp => ?_) (by simp only [List.size_toArray] <;> omega)
  have I1 : Inv X pins σ H { s with heap := h' } := I.kept (t' := s.toks) kp
  have hget : (h'.push { cls := .type "tuple", data := .seq its.toArray }).get? h'.objs.size = some { cls := .type "tuple", data := .seq its.toArray } := Heap.get?_push_size _ rfl
  have I2 : Inv X pins σ (upd H h'.objs.size (.frz { cls := .type "tuple", data := .seq its.toArray } (.tup ys))) { s with heap := h'.push { cls := .type "tuple", data := .seq its.toArray } } :=
    I1.laid (t' := s.toks) (fun b o e => Heap.get?_push_of_some _ e) (Nat.le_refl _) (show ObjOk X.prog X.w _ _ _ (.frz _ (.tup ys)) from ⟨hget, hz, its, r', IsTup.new _ _⟩)
  exact ⟨.ref h'.objs.size, _, I2, rfl, q _ _ ⟨rfl, rfl⟩ (I1.hok.fresh (Nat.le_refl _))⟩
theorem px_tupX (hm : X.mg "tuple" = none) (ha : PX X Γ a (dt (.list ds))) (hg : Gl X "tuple" := by rfl) (hs : starEach [a] X.env = (false, eval a X.env) :: starEach [] X.env := by rfl) (hp : (backTo pos (starEach [] X.env)).any (·.1) = false := by rfl) : PX X Γ (.Call (.Name "tuple" p) [a] [] pos) (xt ds) :=
  px_of (pe_callTy call_tuple_frz hg hm (by decide +kernel) pa_W (he := hs) (hpl := hp)) fun σ H Q s q => pxs_cons ha pxs_nil hs σ H _ s fun vs H1 x1 h1 => by
    cases h1 with
    | cons h1 h2 =>
      cases h2
      obtain ⟨p, xs, rfl, hx, hd⟩ := Dp.lst_ h1
      exact ⟨p, xs, rfl, hx, fun l o to hl => q _ _ (x1.trans (Evl.Ex.new hl)) ⟨l, o, xs, rfl, upd_same, to, DpAll.mono (Evl.Ex.new hl) hd⟩⟩
def rTcnt : V → List V → Hp → VK → Prop := fun x xs H Q => ∃ (p : Addr) (o : Obj) (ns : List Int) (k : Int), x = .ref p ∧ xs = [.int k] ∧ H p = some (.frz o (.tup (ns.map V.int))) ∧ TupO o ∧ Q (.int (ns.count k : Nat)) H
theorem mt_tcount {X : Cx} : MtR X "tuple.count" rTcnt := by
  intro pins s σ H x xs v us Q I rx rxs h
  obtain ⟨p, o, ns, k, rfl, rfl, hp, to, q⟩ := h
  cases rx
  obtain ⟨u, rfl, ru⟩ := rxs.one
  obtain ⟨t, rfl⟩ := ru
  obtain ⟨hg, _, its, rv, o2, h1, h2, n, h3⟩ := (show ObjOk X.prog X.w H s.heap p (.frz o (.tup (ns.map V.int))) from I.hok p _ hp)
  rw [hg] at h1
  cases h1
  obtain ⟨cls, dd, data, sl⟩ := o
  simp only at h2 h3
  subst h2 h3
  have hi := ints_of_vals rv
  refine call_meets PySem.F.slot_tuple_count ⟨_, hg, rfl⟩ PySem.F.entry_tuple_count (PySem.F.args_tuple_count_2 _ _)
    (SeqAt.tuple_countAt p its.toArray n dd sl (.int k t) (eqk k)) ⟨hg, fun y hy => (eqk_gives hi y (by simpa using hy)).at _ _, ?_⟩
  have ec : its.toArray.toList.countP (eqk k) = ns.count k := eqk_count hi
  refine ⟨.int (ns.count k : Nat), H, I.tok _, ⟨s.toks, ?_⟩, q⟩
  show Value.int ((its.toArray.toList.countP (eqk k) : Nat) : Int) s.toks = Value.int ((ns.count k : Nat) : Int) s.toks
  rw [ec]
/-- o.m(e), o a tuple known to its object -/
theorem px_tcount {ns : List Int} {k : Int} {apos cpos : Pos} (ha : PX X Γ a (xt (dI ns))) (hb : PX X Γ b (dt (.int k))) (hbase : attributeBase a ("count" : Str) X.env (eval a X.env) = eval a X.env := by rfl)
    (hfew : ((backTo cpos (starEach (b :: []) X.env)).all (fun x => !x.1) && (backToKw cpos (keywordEach [] X.env)).all (fun x => x.1.isSome) && decide ((b :: []).length + ([] : List Keyword).length + (if ([] : List Keyword).isEmpty then 0 else 1) < 30)) = true := by rfl)
    (hline : (apos.endLine == cpos.line) = true := by rfl) (hs : starEach (b :: []) X.env = (false, eval b X.env) :: starEach [] X.env := by rfl) (hplain : (backTo cpos (starEach [] X.env)).any (·.1) = false := by rfl) :
    PX X Γ (.Call (.Attribute a "count" apos) [b] [] cpos) (dt (.int (ns.count k : Nat))) := fun σ H Q z q pins s I => by
  refine wpAny_Call_method_late hbase hfew hline rfl (thn (ha σ H (fun v H1 => Ex H H1 ∧ (xt (dI ns)).P X.K H1 v) z (fun v H1 x1 h1 => ⟨x1, h1⟩) pins s I) fun v s1 ⟨x, H1, I1, r1, x1, h1⟩ => ?_)
  obtain ⟨r, o, xs, rfl, hr, to, hd⟩ := h1
  have ex := DpAll.ints hd
  subst ex
  obtain rfl : v = Value.ref r := r1
  obtain ⟨hget, _⟩ := (show ObjOk X.prog X.w H1 s1.heap r (.frz o _) from I1.hok r _ hr)
  refine ⟨"tuple", "tuple.count", PySem.F.plainAttrs_tuple, PySem.F.slot_tuple_count, PySem.F.type_tuple_count, ⟨o, hget, to.1⟩, fun a e => ?_, ?_⟩
  · cases e
    exact ⟨o, hget, to.2⟩
  · have hA := pxs_cons hb pxs_nil hs σ H1 (fun vs H2 => Ex H1 H2 ∧ SAll X.K H2 vs [dt (.int k)]) (z.mono x1) (fun vs H2 x2 h2 => ⟨x2, h2⟩) cpos pins s1 I1
    rw [hs] at hA ⊢
    refine Calls.callWith_builtin (by show (false || (backTo cpos (starEach [] X.env)).any (·.1)) = false; rw [hplain] <;> rfl) (Calls.evalArgs_plain ?_)
    refine thn hA fun us s2 ⟨vs, H2, I2, r2, x2, h2⟩ => mt_tcount pins s2 σ H2 (.ref r) vs (.ref r) us Q I2 rfl r2 ?_
    cases h2 with
    | cons h2 h3 =>
      cases h3
      exact ⟨r, o, ns, k, rfl, by rw [Dp.int_ h2], x2 r _ hr, to, q _ H2 (x1.trans x2) (Dp.int _)⟩
end
end Dw
set_option Elab.async false
set_option linter.all false
set_option maxRecDepth 100000
set_option maxHeartbeats 1000000
/-! enumerate over a tuple; walks over enumerate. -/
namespace PySem
open AutoSeq1 (wpAny_loadPart')
theorem dw_enum_newT (l : Addr) (items : Array Value) (n : Nat) (dct : Option Addr) (sl : Array (Option Value)) :
    Meets (Builtin.«enumerate.__new__» ⟨[.type "enumerate", .ref l], []⟩) (fun _ R s => s.heap.get? l = some { cls := .type "tuple", dict := dct, data := .seq items n, slots := sl } ∧
      R (.ok (.ret (.ref (s.heap.push { cls := .type "tuple_iterator", data := .fields #[.ref l, .int 0 0] }).objs.size)))
        { s with heap := (s.heap.push { cls := .type "tuple_iterator", data := .fields #[.ref l, .int 0 0] }).push { cls := .type "enumerate", data := .fields #[.none, .bool false, .ref s.heap.objs.size, rawInt 0, .none, .none] } }) :=
  .of_wp fun prog w A R s h => by
    obtain ⟨hp, g, d, tk, os⟩ := s; obtain ⟨hl, h⟩ := h
    have hsub := sub_enumerate
    have hL : Heap.IsTuple (Shared.heap ⟨hp, g, d, tk, os⟩) l items := ⟨_, hl, rfl, n, rfl⟩
    wp_walk using wpAny_loadPart' hl
    refine wpAny_stack_any fun st => wpAny_pure ?_
    split
    · rename_i c _ _ _ _ _
      cases (c == Value.type "enumerate")
      · wp_walk using wpAny_loadPart' hl, wpAny_pyIter_tuple hL
        exact ⟨_, rfl, h⟩
      · wp_walk using wpAny_loadPart' hl, wpAny_pyIter_tuple hL
        exact ⟨_, rfl, h⟩
    · wp_walk using wpAny_loadPart' hl, wpAny_pyIter_tuple hL
      exact ⟨_, rfl, h⟩
theorem dw_enum_tuple {prog : Program} {w : World} {A : Around} {E : Value → Shared → Prop} {s : Shared} {l : Addr} {items : Array Value} {Q : Value → Shared → Prop} (hL : s.heap.IsTuple l items)
    (h : ∀ h', IsEnum h' (s.heap.objs.size + 1) s.heap.objs.size 0 .none → h'.IsTupleIter s.heap.objs.size l 0 → h'.objs.size = s.heap.objs.size + 2 →
      (∀ b o, s.heap.get? b = some o → h'.get? b = some o) → Q (.ref (s.heap.objs.size + 1)) { s with heap := h' }) :
    wpAny (model prog w) A (call (.type "enumerate") [.ref l]) Q E s := by
  obtain ⟨⟨c, dct, dt, sl⟩, hl, hc, n, hd⟩ := hL
  replace hc : c = .type "tuple" := hc
  replace hd : dt = .seq items n := hd
  subst hc hd
  refine callType_new F.called_enumerate (by decide) (F.typeCall_enumerate_1 _) (F.newCall_enumerate_1 _) (fun obj => F.args_object_init_2 obj _) F.entry_enumerate_new
    (dw_enum_newT l items n dct sl) ⟨hl, ?_⟩
  have hz : (s.heap.push { cls := .type "tuple_iterator", data := .fields #[.ref l, .int 0 0] }).objs.size = s.heap.objs.size + 1 := Heap.size_push ..
  show _ ∧ _
  rw [hz]
  have he : IsEnum ((s.heap.push { cls := .type "tuple_iterator", data := .fields #[.ref l, .int 0 0] }).push
      { cls := .type "enumerate", data := .fields #[.none, .bool false, .ref s.heap.objs.size, rawInt 0, .none, .none] }) (s.heap.objs.size + 1) s.heap.objs.size 0 .none := by
    have := Heap.get?_push_size (s.heap.push { cls := .type "tuple_iterator", data := .fields #[.ref l, .int 0 0] })
      (o := { cls := .type "enumerate", data := .fields #[.none, .bool false, .ref s.heap.objs.size, rawInt 0, .none, .none] }) rfl
    rw [hz] at this; exact this
  refine ⟨⟨_, he, rfl⟩, h _ he ⟨_, Heap.get?_push_of_some _ (Heap.get?_push_size _ rfl), rfl, rfl⟩ (by rw [Heap.size_push, hz]) fun b o x => Heap.get?_push_of_some _ (Heap.get?_push_of_some _ x)⟩
end PySem
namespace L2
open PySem PySem.Spec PyProof.Rows
/-- the tuple at a, each item in a new pair -/
def IteT (K : PySem.W.Frag) (a : Addr) : It :=
  ⟨fun i H => ∃ (xs : List V) (x : V), SqT K H a xs ∧ xs[i]? = some x, fun i H v H' => ∃ T x, v = .ref T ∧ H T = none ∧ H' = upd H T (.tup [.int (i : Nat), x]) ∧ ∀ xs, SqT K H a xs → xs[i]? = some x, fun i H => ∃ xs : List V, SqT K H a xs ∧ xs.length = i⟩
theorem turn_enumT {P : Program} {w : World} {K : PySem.W.Frag} {elts : List Expr} {kk : Nat} {tpos : Pos} (a e it : Addr) :
    Turn P w K (.Tuple elts kk tpos) (IteT K a) [e, it] e (fun i h => (∃ old, IsEnum h e it ((i : Nat) : Int) old) ∧ h.IsTupleIter it a i ∧ e ≠ it ∧ a ≠ it ∧ a ≠ e) where
  mem := by simp
  obj := fun i h st b hb => by
    obtain ⟨⟨old, he⟩, ⟨o, ho, hc, hd⟩, _⟩ := st
    have e' : b = e ∨ b = it := by simpa using hb
    rcases e' with z | z
    · rw [z]; exact ⟨_, he, fun v q => nomatch q⟩
    · rw [z]; exact ⟨o, ho, fun v q => by rw [hd] at q; cases q⟩
  keep := fun i h h' st k => let ⟨⟨old, he⟩, hi, hne⟩ := st; ⟨⟨old, k e (by simp) _ he⟩, hi.at fun o q => k it (by simp) o q, hne⟩
  item := by
    intro X hP hw hK hc i pins s σ H E I hf st hg
    subst hP hw hK
    obtain ⟨⟨old, he⟩, hit, hne, hai, hae⟩ := st
    obtain ⟨xs, x, hq, hx⟩ := hg
    obtain ⟨its, rv, p, hz⟩ := I.tuple hq
    obtain ⟨u, hu, ru⟩ := rv.get hx
    have hel : e < s.heap.objs.size := Heap.lt_size he
    have hil : it < s.heap.objs.size := by obtain ⟨_, q, _⟩ := hit; exact Heap.lt_size q
    have hT0 : s.heap.IsTuple a its.toArray := p
    have hh : X.A.in1.handled = none := I.ok.hd hc
    have hlt : i < its.toArray.size := by
      have := (List.getElem?_eq_some_iff.mp hu).1
      simpa using this
    refine wpAny_pyNext_enum_itemD (Draws.tuple hh it a hai its.toArray) he ⟨hit, hT0⟩ hlt hne (by simp [hne, Ne.symm hae]) fun x' h' tk hx' ho hst' hT hsz hk => ?_
    obtain ⟨hit', _⟩ := hst'
    have ex : x' = u := by
      have h1 : its[i]? = some x' := by simpa using hx'
      rw [hu] at h1
      exact (Option.some.inj h1).symm
    subst ex
    refine ⟨_, rfl, wpAny_letOwnedTupleGo_enum (s := { s with heap := h', toks := tk + 1 }) ho fun h'' he' sb => ?_⟩
    have hT2 : h''.get? s.heap.objs.size = some { cls := .type "tuple", data := .seq #[.int i tk, x'] } := (sb.2 _ (Nat.ne_of_gt hel)).trans hT
    have new : ObjOk X.prog X.w (upd H s.heap.objs.size (.tup [.int (i : Nat), x])) h'' s.heap.objs.size (.tup [.int (i : Nat), x]) :=
      ⟨by show 2 ≤ sizeLine; decide, [.int i tk, x'], .cons ⟨_, rfl⟩ (.cons ru .nil), ⟨_, hT2, rfl, _, rfl⟩⟩
    have I1 : Inv X pins σ (upd H s.heap.objs.size (.tup [.int (i : Nat), x])) { s with heap := h'', toks := tk + 1 } :=
      I.turnedNew (ch := [e, it]) (fun b ob hb q => (sb.2 b (fun z => hb (by simp [z]))).trans (hk b ob (fun z => hb (by simp [z])) (fun z => hb (by simp [z])) q)) hf (Nat.le_refl _) new
    refine ⟨.ref s.heap.objs.size, _, I1, rfl, ⟨_, x, rfl, I.hok.fresh (Nat.le_refl _), rfl, fun ys hy => by rw [I.tuple_inj hy hq]; exact hx⟩, ⟨⟨x', ?_⟩, hit'.at fun o q => (sb.2 it (Ne.symm hne)).trans q, hne, hai, hae⟩, fun b hb => ?_⟩
    · have e1 : ((i + 1 : Nat) : Int) = (i : Int) + 1 := by omega
      rw [e1]; exact he'
    · have hb' : b < s.heap.objs.size := by
        have e' : b = e ∨ b = it := by simpa using hb
        rcases e' with z | z
        · rw [z]; exact hel
        · rw [z]; exact hil
      rw [upd_ne (Nat.ne_of_lt hb')]
      exact (hf b hb).1
  done := by
    intro X hP hw hK hc i pins s σ H E I hf st hg
    subst hP hw hK
    obtain ⟨⟨old, he⟩, hit, hne, hai, hae⟩ := st
    obtain ⟨xs, hq, hx⟩ := hg
    obtain ⟨its, rv, p, hz⟩ := I.tuple hq
    obtain ⟨f0, f1, f2, f3, f4, f5⟩ := hf it (by simp)
    have hl := rv.length
    have hT0 : s.heap.IsTuple a its.toArray := p
    have hh : X.A.in1.handled = none := I.ok.hd hc
    have hn : its.toArray.size = i := by simp; omega
    refine wpAny_pyNext_enum_endD (Draws.tuple hh it a hai its.toArray) he (by rw [hn]; exact ⟨hit, hT0⟩) fun h' eb => ⟨rfl, I.turned (t' := s.toks) (fun b o hb q => eb b o hb q) f0 f1 f3 f4 f5⟩
  self := fun A i s Q E st h => let ⟨⟨_, he⟩, _⟩ := st; wpAny_pyIter_enum he h
def iEnumT (K : PySem.W.Frag) (ta : TA) : TI := fun σ H R => ta σ H fun vs H1 => ∃ a xs, vs = [.ref a] ∧ SqT K H1 a xs ∧ R (IteT K a) H1
theorem pi_enumT {X : Cx} {e : Expr} {ta : TA} {p pos tpos : Pos} {elts : List Expr} {kk : Nat} (hg : Gl X "enumerate") (hm : X.mg "enumerate" = none) (ha : PA X [e] ta) (hs : starEach [e] X.env = [(false, eval e X.env)] := by rfl) :
    PI X (.Tuple elts kk tpos) (.Call (.Name "enumerate" p) [e] [] pos) (iEnumT X.K ta) := by
  refine ⟨fun pins s σ H R I h => ?_⟩
  refine Call_ (ld_blt I hg hm boot_enumerate (PyProof.Rows.callWith_type1 (thn (ha.run pos pins s σ H _ I h) fun us s1 ⟨vs, H1, I1, r1, q1⟩ => ?_) hs rfl))
  obtain ⟨a, xs, ex, hq, q⟩ := q1
  subst ex
  cases r1 with
  | cons r rr =>
    cases rr
    cases r
    obtain ⟨its, rv, p', hz⟩ := I1.tuple hq
    have hT0 : s1.heap.IsTuple a its.toArray := p'
    have hal : a < s1.heap.objs.size := by obtain ⟨o, h1, _⟩ := p'; exact Heap.lt_size h1
    refine dw_enum_tuple hT0 fun h' he hit hsz hk => wpAny_pyIter_enum he ?_
    have I2 : Inv X pins σ H1 { s1 with heap := h' } := I1.kept (t' := s1.toks) hk
    refine ⟨s1.heap.objs.size + 1, [s1.heap.objs.size + 1, s1.heap.objs.size], _, _, H1, rfl, I2, turn_enumT a (s1.heap.objs.size + 1) s1.heap.objs.size, ⟨⟨.none, he⟩, hit, Nat.succ_ne_self _, Nat.ne_of_lt hal, Nat.ne_of_lt (Nat.lt_succ_of_lt hal)⟩, fun b hb => ?_, q⟩
    have e' : b = s1.heap.objs.size + 1 ∨ b = s1.heap.objs.size := by simpa using hb
    have hle : s1.heap.objs.size ≤ b := by
      rcases e' with z | z
      · rw [z]; exact Nat.le_add_right _ _
      · rw [z]; exact Nat.le_refl _
    exact I1.fpOk hle (I1.hok.fresh hle)
theorem walk_enumT {K : PySem.W.Frag} {a : Addr} {xs : List V} : Walk (IteT K a) xs.length (fun H => SqT K H a xs) (YPair (fun i => some (.int (i : Nat))) (fun i => xs[i]?)) :=
  ⟨fun i _ hi q => ⟨xs, xs[i], q, by simp [hi]⟩, fun _ q => ⟨xs, q, rfl⟩, fun i H v H' hi q ⟨T, x, e1, e2, e3, y⟩ => ⟨T, .int (i : Nat), x, e1, e2, e3, rfl, y xs q⟩⟩
end L2
namespace Dw
open PySem PySem.Spec PyProof.Rows L2
/-- pairs handed out, each new -/
theorem pair_yld {K : PySem.W.Frag} {H0 H1 : Hp} {O : List Addr} {Γ : Ga} {α : Type} {L : List α} {f : α → PyData} {vs : List V} {fi : Nat → Option V} (its : DpAll K (Bs H1 O Γ) vs (L.map f)) (hfi : ∀ i, fi i = some (.int (i : Nat))) :
    ∀ (i : Nat) (a : α × Nat) σ2 Γ2 H2 x H3, (L.zipIdx)[i]? = some a → Sta K H0 H2 O σ2 Γ2 → Ex (Bs H1 O Γ) (Bs H2 O Γ2) → YPair fi (fun i => vs[i]?) i H2 x H3 → Ex H2 H3 ∧ (dt (.tuple [.int (a.2 : Nat), f a.1])).P K (Bs H3 O Γ2) x := fun i a σ2 Γ2 H2 x H3 hi S e y => by
  obtain ⟨T, u, v, rfl, hT, rfl, h1, h2⟩ := y
  obtain ⟨a, j⟩ := a
  have hz : L[i]? = some a ∧ j = i := by
    rw [List.getElem?_zipIdx] at hi
    cases q : L[i]? with
    | none => rw [q] at hi; cases hi
    | some b =>
      rw [q] at hi
      have e : b = a ∧ i = j := by simpa using hi
      exact ⟨by rw [e.1], e.2.symm⟩
  obtain ⟨ha, rfl⟩ := hz
  rw [hfi] at h1
  cases h1
  obtain ⟨w, e1, e2⟩ := DpAll.at its (i := j) (d := f a) (by rw [List.getElem?_map, ha]; rfl)
  have e1' : vs[j]? = some v := h2
  rw [e1] at e1'
  cases e1'
  have ex : Ex H2 (upd H2 T (.tup [.int (j : Nat), v])) := Evl.Ex.new hT
  refine ⟨ex, ?_⟩
  obtain ⟨S1, u1⟩ := S.ex ex
  have hTb : Bs (upd H2 T (.tup [.int (j : Nat), v])) O Γ2 T = some (.tup [.int (j : Nat), v]) := by
    show cut _ (Hid O Γ2) T = _
    rw [cut_no (S.fresh hT)]
    exact upd_same
  exact .tup (SqT.of hTb) (.cons (Dp.int _) (.cons (Dp.mono (e.trans u1.grow) e2) .nil))
theorem pair_yldP {K : PySem.W.Frag} {H1 : Hp} {α : Type} {L : List α} {f : α → PyData} {vs : List V} {fi : Nat → Option V} (its : DpAll K H1 vs (L.map f)) (hfi : ∀ i, fi i = some (.int (i : Nat))) :
    ∀ (i : Nat) (a : α × Nat) H2 x H3, (L.zipIdx)[i]? = some a → Ex H1 H2 → YPair fi (fun i => vs[i]?) i H2 x H3 → Ex H2 H3 ∧ (dt (.tuple [.int (a.2 : Nat), f a.1])).P K H3 x := fun i a H2 x H3 hi e y => by
  obtain ⟨T, u, v, rfl, hT, rfl, h1, h2⟩ := y
  obtain ⟨a, j⟩ := a
  have hz : L[i]? = some a ∧ j = i := by
    rw [List.getElem?_zipIdx] at hi
    cases q : L[i]? with
    | none => rw [q] at hi; cases hi
    | some b =>
      rw [q] at hi
      have e : b = a ∧ i = j := by simpa using hi
      exact ⟨by rw [e.1], e.2.symm⟩
  obtain ⟨ha, rfl⟩ := hz
  rw [hfi] at h1
  cases h1
  obtain ⟨w, e1, e2⟩ := DpAll.at its (i := j) (d := f a) (by rw [List.getElem?_map, ha]; rfl)
  have e1' : vs[j]? = some v := h2
  rw [e1] at e1'
  cases e1'
  have ex : Ex H2 (upd H2 T (.tup [.int (j : Nat), v])) := Evl.Ex.new hT
  exact ⟨ex, .tup (SqT.of upd_same) (.cons (Dp.int _) (.cons (Dp.mono (e.trans ex) e2) .nil))⟩
abbrev enI {α : Type} (f : α → PyData) (a : α × Nat) : Sem := dt (.tuple [.int (a.2 : Nat), f a.1])
section
variable {X : Cx} {e a b : Expr} {ds : List PyData} {pos p tpos : Pos} {elts : List Expr} {kk : Nat}
/-- enumerate of a tuple -/
theorem wi_enT {Γ : Ga} {α : Type} {L : List α} {f : α → PyData} (hm : X.mg "enumerate" = none) (ha : PX X (frz Γ) e (dt (.tuple (L.map f)))) (fr : ∀ a ∈ L, tupd (f a) = true) (hg : Gl X "enumerate" := by rfl) (hs : starEach [e] X.env = [(false, eval e X.env)] := by rfl) : WI X Γ (.Tuple elts kk tpos) (.Call (.Name "enumerate" p) [e] [] pos) L.zipIdx (enI f) := by
  refine ⟨_, pi_enumT hg hm pa_W hs, fun H0 O σ H R S q => pxs_cons ha pxs_nil hs σ H _ S.sl fun vs H1 x1 h1 => ?_⟩
  cases h1 with
  | cons h1 h2 =>
    cases h2
    obtain ⟨S1, u1⟩ := S.ex x1
    obtain ⟨c, xs, rfl, hx, hd⟩ := Dp.tup_ (fr_tup (tupds_map fr) S1.mutb h1)
    exact ⟨c, xs, rfl, dex_t cut_ex hx, q _ H1 _ _ _ x1 (by rw [DpAll.len hd]; simp) walk_enumT (fun H2 e2 => dex_t e2 hx) (pair_yld hd fun _ => rfl)⟩
theorem pit_enT {Γ : Sv} {α : Type} {L : List α} {f : α → PyData} (hm : X.mg "enumerate" = none) (ha : PX X Γ e (dt (.tuple (L.map f)))) (hg : Gl X "enumerate" := by rfl) (hs : starEach [e] X.env = [(false, eval e X.env)] := by rfl) : PIt X Γ (.Tuple elts kk tpos) (.Call (.Name "enumerate" p) [e] [] pos) L.zipIdx (enI f) := by
  refine ⟨_, pi_enumT hg hm pa_W hs, fun σ H R S q => pxs_cons ha pxs_nil hs σ H _ S fun vs H1 x1 h1 => ?_⟩
  cases h1 with
  | cons h1 h2 =>
    cases h2
    obtain ⟨c, xs, rfl, hx, hd⟩ := Dp.tup_ h1
    exact ⟨c, xs, rfl, hx, q _ H1 _ _ _ x1 (by rw [DpAll.len hd]; simp) walk_enumT (fun H2 e2 => dex_t e2 hx) (pair_yldP hd fun _ => rfl)⟩
/-- enumerate of a name that bears a list which is not ours -/
theorem wi_enV {Γ : Ga} {α : Type} {L : List α} {f : α → PyData} {i : Nat} {x : Str} {s : Sem} {p2 : Pos} (hm : X.mg "enumerate" = none) (h : Γ[i]? = some (.dat s)) (w : Wk s (dt (.list (L.map f)))) (hN : X.N[i]? = some x := by rfl) (hv : Vis X.env.scope x := by first | exact Or.inl rfl | exact Or.inr (Or.inl rfl) | exact Or.inr (Or.inr rfl))
    (hg : Gl X "enumerate" := by rfl) (hs : starEach [.Name x p2] X.env = [(false, eval (.Name x p2) X.env)] := by rfl) (hd : (x == ("__debug__" : Str)) = false := by decide) (hcd : (x == ("__classdict__" : Str)) = false := by decide) : WI X Γ (.Tuple elts kk tpos) (.Call (.Name "enumerate" p) [.Name x p2] [] pos) L.zipIdx (enI f) := by
  refine ⟨_, pi_enum hg hm (pa_cons (pe_var hN hv hd hcd) pa_nil hs) hs, fun H0 O σ H R S q => ?_⟩
  obtain ⟨v, h1, y, rfl, h2⟩ := S.slot i _ h
  obtain ⟨c, xs, rfl, hx, hd⟩ := Dp.lst_ (w h2)
  exact ⟨_, h1, c, xs, rfl, dex_l cut_ex hx, q _ H _ _ _ Ex.rfl' (by rw [DpAll.len hd]; simp) walk_enum (fun H2 e2 => dex_l e2 hx) (pair_yld hd fun _ => rfl)⟩
theorem pit_enL {Γ : Sv} {α : Type} {L : List α} {f : α → PyData} (hm : X.mg "enumerate" = none) (ha : PX X Γ e (dt (.list (L.map f)))) (hg : Gl X "enumerate" := by rfl) (hs : starEach [e] X.env = [(false, eval e X.env)] := by rfl) : PIt X Γ (.Tuple elts kk tpos) (.Call (.Name "enumerate" p) [e] [] pos) L.zipIdx (enI f) := by
  refine ⟨_, pi_enum hg hm pa_W hs, fun σ H R S q => pxs_cons ha pxs_nil hs σ H _ S fun vs H1 x1 h1 => ?_⟩
  cases h1 with
  | cons h1 h2 =>
    cases h2
    obtain ⟨c, xs, rfl, hx, hd⟩ := Dp.lst_ h1
    exact ⟨c, xs, rfl, hx, q _ H1 _ _ _ x1 (by rw [DpAll.len hd]; simp) walk_enum (fun H2 e2 => dex_l e2 hx) (pair_yldP hd fun _ => rfl)⟩
end
end Dw
set_option Elab.async false
set_option linter.all false
set_option maxRecDepth 100000
set_option maxHeartbeats 2000000
/-! Sets of ints: a comprehension, set(..), sorted(..). -/
namespace L2
open PySem PySem.Spec PyProof.Rows PpSet
section
variable {X : Cx}
theorem addI_ok {pins : List (Addr × Obj)} {σ : L2.St} {H : Hp} {s : Shared} {E : Value → Shared → Prop} {D : Addr} {S : Int → Bool} {n : Nat} {y : Int} {ty : Tok} {Q : Value → Shared → Prop} (I : Inv X pins σ H s) (hD : H D = some (SetO X.w D S n)) (room : n + 1 < scanBound)
    (h : ∀ s', Inv X pins σ (upd H D (SetO X.w D (fun j => S j || decide (j = y)) (if S y = true then n else n + 1))) s' → Q .none s') : wpAny (model X.prog X.w) X.A (call (.builtin "set.add") [.ref D, .int y ty]) Q E s := by
  refine setR_add (setO_get I hD) room fun h' sb new => ?_
  have he : ∃ u, h'.get? D = some u := by
    obtain ⟨o, _, _, _, ho, _⟩ := new
    exact ⟨o, ho⟩
  exact h _ (I.write (e := D) (t' := s.toks + 1) (by rw [hD]; trivial) (.inl rfl) (fun b u hb hu => (sb.2 b hb).trans hu) he (setO_new new))
/-- {elt for target in iter if ..}, elt a truth value: D the new set -/
def tScI (w : World) (wi : TI) (g : TG) (tt : TT) (te : TE) (vs : List Nat) : TE := fun σ H Q => wi σ H fun J H1 => ∀ D, H1 D = none → ∃ W : Nat → Nat → Hp → Prop, (∃ m, W 0 m (upd H1 D (SetO w D (fun _ => false) 0))) ∧ ∀ i m H, W i m H →
  (J.stop i H ∧ Q (.ref D) H) ∨ (J.go i H ∧ ∃ Nx : Hp → Prop, (∀ H', Nx H' → ∃ m', m' < m ∧ W (i + 1) m' H') ∧ ∀ x H', J.yld i H x H' → g x (wipe σ vs) H' fun σ2 H2 => wipe σ2 vs = wipe σ vs ∧ tt σ2 H2 fun b H3 =>
    if b = true then te σ2 H3 fun y H4 => ∃ (c : Int) (S : Int → Bool) (n : Nat), y = .int c ∧ H4 D = some (SetO w D S n) ∧ n + 1 < scanBound ∧ Nx (upd H4 D (SetO w D (fun j => S j || decide (j = c)) (if S c = true then n else n + 1))) else Nx H3)
theorem scI_core {pins : List (Addr × Obj)} {s : Shared} {σ : L2.St} {H : Hp} {Q : VK} {elt tg iter : Expr} {ifs : List Expr} {scope : Scope} {own : List (PySem.Str × Nat)} {pos pos' : Pos} {wi : TI} {g : TG} {tt : TT} {te : TE} {use : Option (Value → Sem Unit)} {Qf : Value → Shared → Prop}
    (hc : X.calm = true) (hN : X.N.Nodup) (I : Inv X pins σ H s) (hi : PI X tg iter wi) (ok : BlkOk X.N X.env.scope scope own)
    (hg : ∀ (s : Shared) (H : Hp) (C : Addr) (cl : List (PySem.Str × Addr)) (fp : List Addr), PG (X.blk s H scope (compEnvC scope cl C X.env) fp) tg g) (ht : ∀ (s : Shared) (H : Hp) (C : Addr) (cl : List (PySem.Str × Addr)) (fp : List Addr), PTs (X.blk s H scope (compEnvC scope cl C X.env) fp) ifs tt)
    (he : ∀ (s : Shared) (H : Hp) (C : Addr) (cl : List (PySem.Str × Addr)) (fp : List Addr), PE (X.blk s H scope (compEnvC scope cl C X.env) fp) elt te) (hs : ∀ x, foldedSetIterable iter X.env x = pure x)
    (h : tScI X.w wi g tt te (own.map (·.2)) σ H Q)
    (hRR : ∀ D C s' m H', Inv X pins σ H' s' → Q (.ref D) H' → s'.heap.Ns C m → FpOk X pins H' C → compPost (model X.prog X.w) X.A X.xe use Qf (.ref D) C (.ok .next) s') :
    wpAny (model X.prog X.w) X.A (comprehension (.SetComp elt [⟨tg, iter, ifs, 0⟩] scope pos) scope X.env pos' (newSet (.type "set")) false (eval iter X.env) use) Qf X.xe s := by
  have hfree : ∀ y ∈ scope.names, y.2 = .free → ∃ c, X.env.cells.lookup y.1 = some c := fun y hy e => by
    rcases ok.free y hy e with k | k
    · exact I.ok.has _ (.inl k)
    · exact I.ok.has _ (.inr k)
  refine wpAny_comprehension_free (use := use) rfl hs (closure_ok hfree) ok.kind (fun y hy e => by rw [ok.uniq y hy, e])
    (thn (hi.run pins s σ H _ I h) fun xv s1 hx => thn hx fun itv s2 h2 => ?_)
  obtain ⟨it, fp, tn, J, H2, e, I2, T, st2, f2, q⟩ := h2
  subst e
  refine newSet_ok (newEnv_comp ?_)
  generalize hD : s2.heap.objs.size = D
  have hDn : H2 D = none := I2.hok.fresh (Nat.le_of_eq hD)
  obtain ⟨W, ⟨m0, w0⟩, turn⟩ := q D hDn
  -- the new list
  generalize hs3 : ({ s2 with heap := s2.heap.push { cls := .type "set", dict := none, data := .set #[] 0 (.fresh 0 0 (!X.w.params.followText "set-order")) } } : Shared) = s3
  have I3 : Inv X pins σ (upd H2 D (SetO X.w D (fun _ => false) 0)) s3 := by
    rw [← hs3]
    refine I2.laid (t' := s2.toks) (fun b o e => Heap.get?_push_of_some _ e) (Nat.le_of_eq hD) ?_
    rw [← hD]
    exact setO_new (setR_fresh X.w)
  have h3 : s3.heap = s2.heap.push { cls := .type "set", dict := none, data := .set #[] 0 (.fresh 0 0 (!X.w.params.followText "set-order")) } := by rw [← hs3]
  have sz : ∀ b ∈ fp, b < s2.heap.objs.size := fun b hb => by
    obtain ⟨o, e, _⟩ := T.obj _ _ st2 b hb
    exact Heap.lt_size e
  have f3 : ∀ b ∈ fp, FpOk X pins (upd H2 D (SetO X.w D (fun _ => false) 0)) b ∧ b < s3.heap.objs.size := fun b hb => by
    have hlt := sz b hb
    refine ⟨⟨?_, (f2 b hb).2⟩, by rw [h3, Heap.size_push]; exact Nat.lt_succ_of_lt hlt⟩
    rw [upd_ne (by rw [← hD]; exact Nat.ne_of_lt hlt)]
    exact (f2 b hb).1
  have st3 : tn 0 s3.heap := T.keep _ _ _ st2 fun b _ o e => by rw [h3]; exact Heap.get?_push_of_some _ e
  have I4 := block_start I3 ok hN f3
  have pg := hg s3 (upd H2 D (SetO X.w D (fun _ => false) 0)) s3.heap.objs.size (cellsFrom (s3.heap.objs.size + 1) scope.names (cloFrom X.env.cells scope.names [])) fp
  have pt := ht s3 (upd H2 D (SetO X.w D (fun _ => false) 0)) s3.heap.objs.size (cellsFrom (s3.heap.objs.size + 1) scope.names (cloFrom X.env.cells scope.names [])) fp
  have pe := he s3 (upd H2 D (SetO X.w D (fun _ => false) 0)) s3.heap.objs.size (cellsFrom (s3.heap.objs.size + 1) scope.names (cloFrom X.env.cells scope.names [])) fp
  show codeAny _ _ (.compStart (.SetComp elt [⟨tg, iter, ifs, 0⟩] scope pos) 0 (.ref it) (.ref D) (compEnvC scope (cellsFrom (s3.heap.objs.size + 1) scope.names (cloFrom X.env.cells scope.names [])) s3.heap.objs.size X.env)) (compPost (model X.prog X.w) X.A X.xe use Qf (.ref D) s3.heap.objs.size) { s3 with heap := pushCells (s3.heap.push { cls := .type "dict", data := .dict #[] }) scope.names }
  have nfp : ∀ b ∈ fp, (upd H2 D (SetO X.w D (fun _ => false) 0)) b = none := fun b hb => (f3 b hb).1.1
  generalize hce : compEnvC scope (cellsFrom (s3.heap.objs.size + 1) scope.names (cloFrom X.env.cells scope.names [])) s3.heap.objs.size X.env = ce at I4 pg pt pe ⊢
  have cL : ce.locals = s3.heap.objs.size := by subst hce; rfl
  generalize hH3 : upd H2 D (SetO X.w D (fun _ => false) 0) = H3 at I3 I4 pg pt pe w0 nfp f3
  generalize hs4 : ({ s3 with heap := pushCells (s3.heap.push { cls := .type "dict", data := .dict #[] }) scope.names } : Shared) = s4 at I4 ⊢
  have st4 : tn 0 s4.heap := T.keep _ _ _ st3 fun b _ o e => by rw [← hs4]; exact pushCells_keeps _ _ _ _ (Heap.get?_push_of_some _ e)
  have stat : ∀ {σ' : L2.St} {H' : Hp} {s' : Shared}, Inv (X.blk s3 H3 scope ce fp) [] σ' H' s' → (∀ b ∈ fp, H' b = none) → ∀ b ∈ fp, FpOk (X.blk s3 H3 scope ce fp) [] H' b := fun {σ' H' s'} I' hn b hb =>
    ⟨hn b hb, (I'.ok.exf b hb).1, I'.ok.exfs b hb, .inl hb, fun x c e => (I'.ok.exf b hb).2 x c e, fun p hp => absurd (show p ∈ ([] : List (Addr × Obj)) ++ [] from hp) (by simp)⟩
  have loop : codeAny (model X.prog X.w) X.A (.compLoop (.SetComp elt [⟨tg, iter, ifs, 0⟩] scope pos) 0 (.ref it) (.ref D) ce) (compPost (model X.prog X.w) X.A X.xe use Qf (.ref D) s3.heap.objs.size) s4 := by
    refine compLoopS_any (fun n s' => ∃ i H', Inv (X.blk s3 H3 scope ce fp) [] (wipe σ (own.map (·.2))) H' s' ∧ tn i s'.heap ∧ (∀ b ∈ fp, H' b = none) ∧ W i n H') ?_ m0 ⟨0, H3, I4, st4, nfp, w0⟩
    rintro n s5 ⟨i, H5, I5, st5, n5, w5⟩
    rcases turn i n H5 w5 with ⟨stop, qq⟩ | ⟨go, Nx, hNx, step⟩
    · have td := T.done (X.blk s3 H3 scope ce fp) rfl rfl rfl hc i [] s5 _ H5 (fun _ _ => False) I5 (stat I5 n5) st5 stop
      refine thnF td fun r s6 ⟨hr, I6⟩ => ?_
      subst hr
      -- back in the def's context
      have I7 : Inv X pins σ H5 s6 := I3.call' (ch := fp) I6.os I6.base I6.hok I6.bare fun b hb => ⟨(f3 b hb).1.2.2.2.1, (f3 b hb).1.2.1, (f3 b hb).1.2.2.2.2.1, (f3 b hb).1.2.2.2.2.2⟩
      have nC : H5 s3.heap.objs.size = none := by
        have z : H5 ce.locals = none := I6.free
        rw [cL] at z
        exact z
      obtain ⟨m, hn, _⟩ := I6.loc
      have hn : s6.heap.Ns ce.locals m := hn
      rw [cL] at hn
      exact hRR D s3.heap.objs.size s6 m H5 I7 qq hn (I3.fpOk (Nat.le_refl _) nC)
    · have ti := T.item (X.blk s3 H3 scope ce fp) rfl rfl rfl hc i [] s5 _ H5 (fun _ _ => False) I5 (stat I5 n5) st5 go
      refine thnF ti fun r s6 ⟨u, hr, h6⟩ => ?_
      subst hr
      refine thnF h6 fun _ s7 ⟨x, H7, I7, r7, y7, st7, n7⟩ => ?_
      have I7' := I7.pinned (stat I7 n7) (T.obj _ _ st7)
      refine thnF (pg.run _ s7 _ H7 x u _ I7' r7 (step x H7 y7)) fun _ s8 ⟨σ8, H8, I8, hw8, q8⟩ => ?_
      refine thnF (pt.run _ s8 σ8 H8 _ I8 q8) fun b s9 ⟨H9, I9, q9⟩ => ?_
      -- the turn's end
      have fin : ∀ {s' : Shared} {H' : Hp}, Inv (X.blk s3 H3 scope ce fp) ([] ++ pinsAt fp s7.heap) σ8 H' s' → Nx H' → ∃ m, m < n ∧ ∃ i H', Inv (X.blk s3 H3 scope ce fp) [] (wipe σ (own.map (·.2))) H' s' ∧ tn i s'.heap ∧ (∀ b ∈ fp, H' b = none) ∧ W i m H' := fun {s' H'} I' nx => by
        obtain ⟨m', hm, w'⟩ := hNx H' nx
        have pin' : ∀ b ∈ fp, ∀ o, s7.heap.get? b = some o → s'.heap.get? b = some o ∧ H' b = none := fun b hb o e =>
          let z := I'.pin (b, o) (List.mem_append_right _ (List.mem_append_right _ (mem_pinsAt hb e)))
          ⟨z.1, z.2.1⟩
        have hl : (wipe σ (own.map (·.2))).length = σ8.length := by rw [← hw8, wipe_length]
        refine ⟨m', hm, i + 1, H', (I'.unpinned (pins := [])).weak hl (fun j v e => ?_), T.keep _ _ _ st7 fun b hb o e => (pin' b hb o e).1, fun b hb => ?_, w'⟩
        · rw [← hw8] at e
          exact (wipe_some e).1
        · obtain ⟨o, e, _⟩ := T.obj _ _ st7 b hb
          exact (pin' b hb o e).2
      cases b with
      | false =>
        simp only [Bool.false_eq_true, if_false] at q9 ⊢
        exact fin I9 q9
      | true =>
        simp only [if_true] at q9 ⊢
        refine thnF (pe.run _ s9 σ8 H9 _ I9 q9) fun z s10 ⟨yv, H10, I10, r10, cb, S0, n0, ey, hD10, hz10, nx⟩ => ?_
        subst ey
        obtain ⟨tkz, rfl⟩ := r10
        exact addI_ok (X := X.blk s3 H3 scope ce fp) I10 hD10 hz10 fun s11 I11 => fin I11 nx
  exact codeAny_compStart_set loop (T.self X.A 0 _ _ _ st4 loop)
/-- as a value -/
theorem pe_scI {elt tg iter : Expr} {ifs : List Expr} {scope : Scope} {own : List (PySem.Str × Nat)} {pos : Pos} {wi : TI} {g : TG} {tt : TT} {te : TE} (hc : X.calm = true) (hN : X.N.Nodup) (hi : PI X tg iter wi) (ok : BlkOk X.N X.env.scope scope own)
    (hg : ∀ (s : Shared) (H : Hp) (C : Addr) (cl : List (PySem.Str × Addr)) (fp : List Addr), PG (X.blk s H scope (compEnvC scope cl C X.env) fp) tg g) (ht : ∀ (s : Shared) (H : Hp) (C : Addr) (cl : List (PySem.Str × Addr)) (fp : List Addr), PTs (X.blk s H scope (compEnvC scope cl C X.env) fp) ifs tt)
    (he : ∀ (s : Shared) (H : Hp) (C : Addr) (cl : List (PySem.Str × Addr)) (fp : List Addr), PE (X.blk s H scope (compEnvC scope cl C X.env) fp) elt te) (hs : ∀ x, foldedSetIterable iter X.env x = pure x := by intro _; rfl) :
    PE X (.SetComp elt [⟨tg, iter, ifs, 0⟩] scope pos) (tScI X.w wi g tt te (own.map (·.2))) := by
  refine ⟨fun pins s σ H Q I h => ?_⟩
  rw [eval_SetComp]
  refine scI_core hc hN I hi ok hg ht he hs h fun D C s' m H' I' q hn f => ⟨m, hn, fun h'' sb => ?_⟩
  obtain ⟨f0, f1, f2, f3, f4, f5⟩ := f
  exact ⟨.ref D, H', I'.turned (t' := s'.toks) (fun b o hb e => (sb.2 b hb).trans e) f0 f1 f3 f4 f5, rfl, q⟩
end
end L2

namespace L2
open PySem PySem.Spec PyProof.Rows PpSet
/-- the walk of such a comprehension -/
theorem sc_it {w : World} {J : It} {n : Nat} {G : Hp → Prop} {Y : Nat → Hp → V → Hp → Prop} (wk : Walk J n G Y) {g : TG} {tt : TT} {te : TE} {vs : List Nat} {σ : L2.St} {H1 : Hp} {D : Addr} {Qd : Hp → Prop} (Pv : Nat → Hp → Prop) (h0 : Pv 0 (upd H1 D (SetO w D (fun _ => false) 0))) (hG : ∀ i H, i ≤ n → Pv i H → G H)
    (hs : ∀ i x H H', i < n → Pv i H → Y i H x H' → g x (wipe σ vs) H' fun σ2 H2 => wipe σ2 vs = wipe σ vs ∧ tt σ2 H2 fun b H3 =>
      if b = true then te σ2 H3 fun y H4 => ∃ (c : Int) (S : Int → Bool) (n : Nat), y = .int c ∧ H4 D = some (SetO w D S n) ∧ n + 1 < scanBound ∧ Pv (i + 1) (upd H4 D (SetO w D (fun j => S j || decide (j = c)) (if S c = true then n else n + 1))) else Pv (i + 1) H3) (hd : ∀ H, Pv n H → Qd H) :
    ∃ W : Nat → Nat → Hp → Prop, (∃ m, W 0 m (upd H1 D (SetO w D (fun _ => false) 0))) ∧ ∀ i m H, W i m H →
      (J.stop i H ∧ Qd H) ∨ (J.go i H ∧ ∃ Nx : Hp → Prop, (∀ H', Nx H' → ∃ m', m' < m ∧ W (i + 1) m' H') ∧ ∀ x H', J.yld i H x H' → g x (wipe σ vs) H' fun σ2 H2 => wipe σ2 vs = wipe σ vs ∧ tt σ2 H2 fun b H3 =>
        if b = true then te σ2 H3 fun y H4 => ∃ (c : Int) (S : Int → Bool) (n : Nat), y = .int c ∧ H4 D = some (SetO w D S n) ∧ n + 1 < scanBound ∧ Nx (upd H4 D (SetO w D (fun j => S j || decide (j = c)) (if S c = true then n else n + 1))) else Nx H3) := by
  refine ⟨fun i m H => m = n - i ∧ i ≤ n ∧ Pv i H, ⟨n, by simp, Nat.zero_le _, h0⟩, ?_⟩
  rintro i m H ⟨rfl, hi, p⟩
  have q := hG i H hi p
  by_cases hlt : i < n
  · exact .inr ⟨wk.goes i H hlt q, Pv (i + 1), fun H' p' => ⟨n - (i + 1), by omega, rfl, hlt, p'⟩, fun x H' y => hs i x H H' hlt p (wk.yields i H x H' hlt q y)⟩
  · have e : i = n := by omega
    subst e
    exact .inl ⟨wk.stops H q, hd H p⟩
/-- set(t), t a tuple of ints -/
def rSetI (K : PySem.W.Frag) (w : World) : List V → Hp → VK → Prop := fun xs H Q => ∃ (l : Addr) (ns : List Int), xs = [V.ref l] ∧ SqT K H l (ns.map V.int) ∧ ns.length ≤ 1000 ∧
  ∀ c p, c ≤ ns.length → H p = none → Q (.ref p) (upd H p (SetO w p (fun j => decide (j ∈ ns)) c))
theorem cr_setI {X : Cx} (hc : X.calm = true) : CallR X (.type "set") (rSetI X.K X.w) := by
  intro pins s σ H xs us Q I r h
  obtain ⟨l, ns, rfl, hq, hl, q⟩ := h
  rw [Vals.ref1 r]
  obtain ⟨its, rv, pt, hz⟩ := I.tuple hq
  have hi : IntsAre its.toArray.toList ns := ints_of_vals rv
  refine call_set_tupI ns (I.ok.hd hc) (show s.heap.IsTuple l its.toArray from pt) hi (by unfold scanBound; omega) fun h' tk c R1 hcn k => ?_
  exact ⟨.ref s.heap.objs.size, _, I.laid (t' := tk) k (Nat.le_refl _) (setO_new R1), rfl, q c _ hcn (I.hok.fresh (Nat.le_refl _))⟩
end L2
namespace Dw
open PySem PySem.Spec PyProof.Rows L2 PpSet
/-- a set of the ints ns -/
def stI (w : World) (ns : List Int) : Sem := ⟨fun K H v => ∃ a S n, v = .ref a ∧ H a = some (SetO w a S n) ∧ (∀ k, S k = true ↔ k ∈ ns) ∧ n ≤ ns.length, fun e ⟨a, S, n, h1, h2, h3⟩ => ⟨a, S, n, h1, e _ _ h2, h3⟩⟩
theorem ris_eq : ∀ {l m : List Int}, l.Pairwise (· < ·) → m.Pairwise (· < ·) → (∀ k, k ∈ l ↔ k ∈ m) → l = m
  | [], [], _, _, _ => rfl
  | [], b :: m, _, _, h => absurd ((h b).mpr List.mem_cons_self) (by simp)
  | a :: l, [], _, _, h => absurd ((h a).mp List.mem_cons_self) (by simp)
  | a :: l, b :: m, p, q, h => by
    have p2 := List.pairwise_cons.mp p
    have q2 := List.pairwise_cons.mp q
    have e : a = b := by
      have h1 := (h a).mp List.mem_cons_self
      have h2 := (h b).mpr List.mem_cons_self
      rcases List.mem_cons.mp h1 with h1 | h1
      · exact h1
      · rcases List.mem_cons.mp h2 with h2 | h2
        · exact h2.symm
        · have := q2.1 a h1
          have := p2.1 b h2
          omega
    subst e
    congr 1
    refine ris_eq p2.2 q2.2 fun k => ?_
    have hk := h k
    rw [List.mem_cons, List.mem_cons] at hk
    constructor
    · intro z
      rcases hk.mp (.inr z) with y | y
      · have := p2.1 k z
        omega
      · exact y
    · intro z
      rcases hk.mpr (.inr z) with y | y
      · have := q2.1 k z
        omega
      · exact y
theorem seto_no {w : World} {a : Addr} {S : Int → Bool} {n : Nat} : ¬ Mutb (some (SetO w a S n)) := fun h => by
  rcases h with ⟨xs, e⟩ | ⟨ks, e⟩
  · have z : HO.ext _ = HO.lst xs := Option.some.inj e
    cases z
  · have z : HO.ext _ = HO.dK ks := Option.some.inj e
    cases z
section
variable {X : Cx} {Γ : Sv} {e a : Expr} {pos p : Pos} {ns : List Int}
theorem px_setT (hc : X.calm = true) (hm : X.mg "set" = none) (ha : PX X Γ a (dt (.tuple (dI ns)))) (hl : ns.length ≤ 1000) (hg : Gl X "set" := by rfl) (hs : starEach [a] X.env = (false, eval a X.env) :: starEach [] X.env := by rfl) (hp : (backTo pos (starEach [] X.env)).any (·.1) = false := by rfl) : PX X Γ (.Call (.Name "set" p) [a] [] pos) (stI X.w ns) :=
  px_of (pe_callTy (cr_setI hc) hg hm (by decide +kernel) pa_W (he := hs) (hpl := hp)) fun σ H Q s q => pxs_cons ha pxs_nil hs σ H _ s fun vs H1 x1 h1 => by
    cases h1 with
    | cons h1 h2 =>
      cases h2
      obtain ⟨c, xs, rfl, hx, hd⟩ := Dp.tup_ h1
      have e := DpAll.ints hd
      subst e
      exact ⟨c, ns, rfl, hx, hl, fun n r hn hr => q _ _ (x1.trans (Evl.Ex.new hr)) ⟨r, _, n, rfl, upd_same, fun k => by simp, hn⟩⟩
theorem pxl_sortedS (hc : X.calm = true) (hm : X.mg "sorted" = none) (ha : PX X Γ a (stI X.w ns)) (hl : ns.length < 64) {ms : List Int} (h1 : ms.Pairwise (· < ·)) (h2 : ∀ k, k ∈ ms ↔ k ∈ ns) (hg : Gl X "sorted" := by rfl) (hs : starEach [a] X.env = (false, eval a X.env) :: starEach [] X.env := by rfl) (hp : (backTo pos (starEach [] X.env)).any (·.1) = false := by rfl) : PXL X Γ (.Call (.Name "sorted" p) [a] [] pos) (dI ms) :=
  pxl_of (pe_callB (cr_sortedSet hc) hg hm (by decide +kernel) pa_W (he := hs) (hpl := hp)) fun σ H Q s q => pxs_cons ha pxs_nil hs σ H _ s fun vs H1 x1 h => by
    cases h with
    | cons h h' =>
      cases h'
      obtain ⟨r, S, n, rfl, hr, hS, hn⟩ := h
      refine ⟨r, S, n, rfl, hr, by omega, fun ks t p1 p2 p3 ht => ?_⟩
      have e : ks = ms := ris_eq p1 h1 fun k => by rw [p2, hS, h2]
      subst e
      exact q t _ _ (Evl.fresh_back x1 ht) (x1.trans (Evl.Ex.new ht)) upd_same (DpAll.of_ints ks)
theorem px_sc {α : Type} {L : List α} {item : α → Sem} {test : α → Bool} {val : α → Int} {bnd : α → Sv} {g : TG} {elt tg iter : Expr} {ifs : List Expr} {scope : Scope} {own : List (Str × Nat)} {tt : TT}
    (hc : X.calm = true) (hN : X.N.Nodup) (hi : PIt X Γ tg iter L item) (ok : BlkOk X.N X.env.scope scope own) (hg : Blk X scope fun Y => PG Y tg g) (hifs : Ifs X scope ifs tt) (hb : ∀ a ∈ L, GP X.K g (own.map (·.2)) (item a) (wipeE Γ (own.map (·.2))) (bnd a))
    (ht : ∀ a ∈ L, ifsOk X scope ifs (bnd a) (test a)) (he : ∀ a ∈ L, test a = true → Blk X scope fun Y => PX Y (bnd a) elt (dt (.int (val a)))) (hl : L.length < 4000)
    (hs : ∀ x, foldedSetIterable iter X.env x = pure x := by intro _; rfl) : PX X Γ (.SetComp elt [⟨tg, iter, ifs, 0⟩] scope pos) (stI X.w ((L.filter test).map val)) := by
  obtain ⟨wi, pi, ri⟩ := hi
  have pts : Blk X scope fun Y => PTs Y ifs tt := fun s H C cl fp => by
    cases hifs with
    | nil => exact pts_nil
    | one => exact pts_one ⟨fun pins s1 σ H1 Q I h => h s H C cl fp pins s1 I⟩
  refine px_of (pe_scI (te := fun σ H Q => ∀ (s : Shared) (H' : Hp) (C : Addr) (cl : List (Str × Addr)) (fp : List Addr), W (X.blk s H' scope (compEnvC scope cl C X.env) fp) elt σ H Q) hc hN pi ok hg pts (fun s H C cl fp => ⟨fun pins s1 σ H1 Q I h => h s H C cl fp pins s1 I⟩) hs) fun σ H Q sl q => ri σ H _ sl fun J H1 n G Y x1 hlen wk per its => ?_
  intro Dl hD
  refine sc_it (g := g) (tt := tt) (te := (fun σ H Q => ∀ (s : Shared) (H' : Hp) (C : Addr) (cl : List (Str × Addr)) (fp : List Addr), W (X.blk s H' scope (compEnvC scope cl C X.env) fp) elt σ H Q)) (vs := own.map (·.2)) (σ := σ) wk
    (fun i H' => Ex H1 H' ∧ ∃ S c, H' Dl = some (SetO X.w Dl S c) ∧ (∀ k, S k = true ↔ k ∈ ((L.take i).filter test).map val) ∧ c ≤ (((L.take i).filter test).map val).length) ⟨Evl.Ex.new hD, _, 0, upd_same, by simp, by simp⟩ (fun i H' _ p => per H' p.1) (fun i x H' H'' hi p y => ?_) (fun H' ⟨e, S, c, h1, h2, h3⟩ => q _ H' (x1.trans e) ⟨Dl, S, c, rfl, h1, by rw [hlen, List.take_length] at h2; exact h2, by rw [hlen, List.take_length] at h3; exact h3⟩)
  obtain ⟨e1, S, c, h1, h2, h3⟩ := p
  have hi' : i < L.length := hlen ▸ hi
  obtain ⟨f0, f2⟩ := its i L[i] H' x H'' (List.getElem?_eq_getElem hi') e1 y
  replace e1 := e1.trans f0
  replace h1 := f0 Dl _ h1
  have mem : L[i] ∈ L := List.getElem_mem hi'
  have tk : L.take (i + 1) = L.take i ++ [L[i]] := by rw [List.take_add_one, List.getElem?_eq_getElem hi']; rfl
  have slw : Sl X.K H'' (L2.wipe σ (own.map (·.2))) (wipeE Γ (own.map (·.2))) := (sl.mono (x1.trans e1)).wipe _
  refine hb L[i] mem x H'' _ _ slw f2 fun σ2 w2 sl2 => ⟨by rw [w2, wipe_wipe], ?_⟩
  have tst : ∀ (Q' : Bool → Hp → Prop), (∀ H3, Ex H'' H3 → Q' (test L[i]) H3) → tt σ2 H'' Q' := fun Q' q' => by
    have t0 := ht L[i] mem
    cases hifs with
    | nil =>
      have t1 : test L[i] = true := t0
      have := q' H'' Ex.rfl'
      rw [t1] at this
      exact this
    | one => exact fun s H' C cl fp => t0 s H' C cl fp σ2 H'' Q' sl2 q'
  refine tst _ fun H3 e3 => ?_
  have a3 := e3 Dl _ h1
  have lc : c ≤ L.length := by
    refine Nat.le_trans h3 ?_
    rw [List.length_map]
    refine Nat.le_trans (List.length_filter_le _ _) ?_
    rw [List.length_take]
    omega
  cases q3 : test L[i] with
  | false =>
    rw [if_neg Bool.false_ne_true]
    have ex : ((L.take (i + 1)).filter test).map val = ((L.take i).filter test).map val := by
      rw [tk, List.filter_append, List.filter_cons, q3, if_neg Bool.false_ne_true]
      simp
    exact ⟨e1.trans e3, S, c, a3, by rw [ex]; exact h2, by rw [ex]; exact h3⟩
  | true =>
    rw [if_pos rfl]
    intro s H' C cl fp
    refine he L[i] mem q3 s H' C cl fp σ2 H3 _ (sl2.mono e3) fun y H4 e4 h4 => ?_
    have a4 := e4 Dl _ a3
    have ex : ((L.take (i + 1)).filter test).map val = ((L.take i).filter test).map val ++ [val L[i]] := by
      rw [tk, List.filter_append, List.filter_cons, q3, if_pos rfl]
      simp
    refine ⟨val L[i], S, c, Dp.int_ h4, a4, by unfold scanBound; omega, Evl.Ex.mut ((e1.trans e3).trans e4) hD, _, _, upd_same, fun k => ?_, ?_⟩
    · rw [ex, List.mem_append, ← h2 k, Bool.or_eq_true, decide_eq_true_eq, List.mem_singleton]
    · rw [ex, List.length_append]
      simp only [List.length_singleton]
      split <;> omega
end
end Dw
set_option Elab.async false
set_option linter.all false
set_option maxRecDepth 100000
set_option maxHeartbeats 1000000
/-! Dicts of ours, star calls, ranges as lists and tuples, min. -/
namespace Dw
open PySem PySem.Spec PyProof.Rows L2
/-! ### dicts -/
def dlook : List (Key × PyData) → Key → Option PyData
  | [], _ => none
  | (j, d) :: r, k => if j = k then some d else dlook r k
theorem KvD.look {K : PySem.W.Frag} {B : Hp} {k : Key} : ∀ {ks : List (Key × V)} {kvs : List (Key × PyData)}, KvD K B ks kvs → (match dlook kvs k with | none => valV ks k = none | some d => ∃ v, valV ks k = some v ∧ Dp K B v d)
  | _, _, .nil => rfl
  | _, _, .cons (k := j) (v := v) (ks := ks) h a => by
    have ih := KvD.look (k := k) a
    unfold dlook
    by_cases e : j = k
    · rw [if_pos e]
      exact ⟨v, valV_pos (p := (j, v)) e, h⟩
    · rw [if_neg e]
      have z : valV ((j, v) :: ks) k = valV ks k := by simp [valV, List.find?_cons, e]
      rw [z]
      exact ih
theorem KvD.len {K : PySem.W.Frag} {B : Hp} : ∀ {ks : List (Key × V)} {kvs : List (Key × PyData)}, KvD K B ks kvs → ks.length = kvs.length
  | _, _, .nil => rfl
  | _, _, .cons _ a => by simp [KvD.len a]
theorem KvD.app {K : PySem.W.Frag} {B : Hp} {k : Key} {v : V} {d : PyData} (h : Dp K B v d) : ∀ {ks : List (Key × V)} {kvs : List (Key × PyData)}, KvD K B ks kvs → KvD K B (ks ++ [(k, v)]) (kvs ++ [(k, d)])
  | _, _, .nil => .cons h .nil
  | _, _, .cons g a => .cons g (KvD.app h a)
theorem putK_new {k : Key} {z : V} : ∀ {ks : List (Key × V)}, valV ks k = none → putK ks k z = ks ++ [(k, z)] := fun {ks} h => by
  have q : (ks.any fun kv => decide (kv.1 = k)) = false := by
    unfold valV at h
    have h' := Option.map_eq_none_iff.mp h
    rw [List.find?_eq_none] at h'
    rw [List.any_eq_false]
    exact fun x hx => h' x hx
  unfold putK
  rw [q, if_neg Bool.false_ne_true]
theorem dget_of {H : Hp} {p : Addr} {ks : List (Key × V)} {i : Int} (h : H p = some (.dK ks)) : DGet H p (.int i) (valV ks (.inl i)) := DGet.k (k := .inl i) h
section
variable {X : Cx} {Γ : Sv} {o i e : Expr} {pos : Pos} {kvs : List (Key × PyData)} {k : Int} {d : PyData}
theorem px_dget (hu : X.A.units + 1 < cLine) (ho : PX X Γ o (dct kvs)) (hi : PX X Γ i (dt (.int k))) (h : dlook kvs (.inl k) = some d) (hs : NoSl i := by exact fun _ _ => rfl) : PX X Γ (.Subscript o i pos) (dt d) := px_of (pe_dget hu pe_W pe_W hs) fun σ H Q s q => ho σ H _ s fun v H1 x1 h1 => hi σ H1 _ (s.mono x1) fun w H2 x2 h2 => by
  obtain ⟨p, ks, rfl, hp, hk⟩ := (dct kvs).up x2 h1
  have z := hk.look (k := .inl k)
  rw [h] at z
  obtain ⟨v, e1, e2⟩ := z
  rw [Dp.int_ h2]
  refine ⟨p, v, rfl, ?_, q v H2 (x1.trans x2) e2⟩
  rw [← e1]
  exact dget_of hp
theorem pb_din (hu : X.A.units + 1 < cLine) (hi : PX X Γ i (dt (.int k))) (ho : PX X Γ o (dct kvs)) (hm : behindInMarks .In o = false := by rfl) : PB X Γ (.Compare i [.In] [o] pos) (dlook kvs (.inl k)).isSome := pb_of (pt_cmp (pc_din hu pe_W pe_W) hm) fun σ H Q s q => hi σ H _ s fun w H1 x1 h1 => ho σ H1 _ (s.mono x1) fun v H2 x2 h2 => by
  obtain ⟨p, ks, rfl, hp, hk⟩ := h2
  rw [Dp.int_ h1]
  refine ⟨p, valV ks (.inl k), rfl, dget_of hp, ?_⟩
  have z := hk.look (k := .inl k)
  have fin : (valV ks (Sum.inl k)).isSome = (dlook kvs (.inl k)).isSome := by
    cases y : dlook kvs (.inl k) with
    | none => rw [y] at z; rw [z]; rfl
    | some d =>
      rw [y] at z
      obtain ⟨v, e1, _⟩ := z
      rw [e1]; rfl
  refine ⟨_, rfl, ?_⟩
  rw [fin]
  exact q H2 (x1.trans x2)
end
section
variable {X : Cx} {Γ : Ga} {D : Ks} {e f : Expr} {rest : List Stmt} {pos : Pos} {kvs : List (Key × PyData)} {k : Int} {d : PyData}
/-- x = {} -/
theorem w_asgD (i : Nat) {x : Str} {pos' p : Pos} (hN : X.N.Nodup) (kk : ∀ p, WS X (Γ.set i (.own p (.dic []))) rest D) (hi : X.N[i]? = some x := by rfl) (hx : Loc X.env.scope x := by first | exact Or.inl rfl | exact Or.inr rfl) (hil : i < Γ.length := by exact Nat.le_of_ble_eq_true rfl) (hs : swapsWith (.Dict [] [] p) (some (.Name x pos')) pos.line X.env = pure false := by rfl)
    (hf : X.fn x = true ∨ X.env.scope.names.lookup x = some .local := by first | exact .inl rfl | exact .inr rfl) : WS X Γ (.Assign [.Name x pos'] (.Dict [] [] p) pos :: rest) D := ws_cons fun H0 O σ H E S eo =>
  wS (ps_set hN hi hx pe_dnewK hs hf) fun p hp => by
    obtain ⟨S1, nO, k1, g1⟩ := S.hide hp (Evl.Ex.new hp) (.inr ⟨[], upd_same⟩)
    obtain ⟨S2, g2⟩ := S1.own' nO hil (c := .dic []) ⟨[], upd_same, .nil⟩
    exact eo.nx _ _ _ (kk p) S2 ⟨k1, g1.trans g2⟩
/-- x.setdefault(i, e) -/
def dset (kvs : List (Key × PyData)) (k : Key) (d : PyData) : List (Key × PyData) := match dlook kvs k with
  | some _ => kvs
  | none => kvs ++ [(k, d)]
theorem w_setdef (i : Nat) {x : Str} {p : Addr} {p1 p2 p3 : Pos} (he : PX X (frz Γ) e (dt (.int k))) (hf : PX X (frz Γ) f (dt d)) (fr : tupd d = true) (hl : kvs.length < 100000) (kk : WS X (Γ.set i (.own p (.dic (dset kvs (.inl k) d)))) rest D) (h : Γ[i]? = some (.own p (.dic kvs)) := by rfl) (hN : X.N[i]? = some x := by rfl)
    (hv : Vis X.env.scope x := by first | exact Or.inl rfl | exact Or.inr (Or.inl rfl) | exact Or.inr (Or.inr rfl)) (m : M2 X (.Name x p1) "setdefault" p2 e f p3 := by exact ⟨rfl, rfl, rfl, rfl⟩)
    (hs : swapsWith (.Call (.Attribute (.Name x p1) "setdefault" p2) [e, f] [] p3) none pos.line X.env = pure false := by rfl)
    (hd : (x == ("__debug__" : Str)) = false := by decide) (hcd : (x == ("__classdict__" : Str)) = false := by decide) :
    WS X Γ (.Expr (.Call (.Attribute (.Name x p1) "setdefault" p2) [e, f] [] p3) pos :: rest) D := ws_cons fun H0 O σ H E S eo => by
  obtain ⟨v, h1, h2, ks, h3, h4⟩ := S.slot i _ h
  subst h2
  refine wS (ps_expr (pe_dsetd (pe_var hN hv hd hcd) pe_W pe_W m) hs) ⟨_, h1, p, rfl, .inl ⟨ks, .inl h3⟩, he σ H _ S.sl fun w H1 x1 g1 => hf σ H1 _ (S.ex x1).1.sl fun z H2 x2 g2 => ?_⟩
  obtain ⟨S2, u2⟩ := S.ex (x1.trans x2)
  have hp2 := x2 p _ (x1 p _ h3)
  have hk2 := KvD.mono u2.grow h4
  have hz := fr_dt fr S2.mutb g2
  have lk := hk2.look (k := .inl k)
  refine ⟨ks, .inl k, hp2, by rw [Dp.int_ g1]; rfl, by rw [hk2.len]; exact Evl.sz_lt hl, fun v hv => ?_, fun hn => ?_⟩
  · cases y : dlook kvs (.inl k) with
    | none => rw [y] at lk; rw [lk] at hv; cases hv
    | some d' =>
      have e0 : Γ.set i (.own p (.dic (dset kvs (.inl k) d))) = Γ := by
        unfold dset
        rw [y]
        apply List.ext_getElem?
        intro j
        rw [List.getElem?_set]
        by_cases e : i = j
        · subst e
          rw [if_pos rfl, if_pos (List.getElem?_eq_some_iff.mp h).1, h]
        · rw [if_neg e]
      rw [e0] at kk
      exact eo.nx σ _ _ kk S2 u2
  · have y : dlook kvs (.inl k) = none := by
      cases y : dlook kvs (.inl k) with
      | none => rfl
      | some d' =>
        rw [y] at lk
        obtain ⟨v, e1, _⟩ := lk
        rw [hn] at e1
        cases e1
    have kk' : WS X (Γ.set i (.own p (.dic (kvs ++ [(.inl k, d)])))) rest D := by
      have e0 : dset kvs (.inl k) d = kvs ++ [(.inl k, d)] := by unfold dset; rw [y]
      rw [← e0]; exact kk
    obtain ⟨S3, u3⟩ := S2.mut (c' := .dic (kvs ++ [(.inl k, d)])) (o := .dK (putK ks (.inl k) z)) h ⟨_, upd_same, by rw [putK_new hn]; exact hk2.app hz⟩
    exact eo.nx σ _ _ kk' S3 (u2.tr u3)
end
/-! ### ranges made lists and tuples -/
theorem dp_rg {K : PySem.W.Frag} {H : Hp} (n : Nat) : DpAll K H (rgV 0 (n : Int)) (nI (List.range n)) := by
  have e : rgV 0 (n : Int) = (List.range n).map fun i => V.int ((i : Nat) : Int) := by
    unfold rgV
    rw [show ((n : Int) - 0).toNat = n by omega]
    congr 1
    funext i
    rw [Int.zero_add]
  rw [e]
  have := DpAll.of_ints (K := K) (H := H) ((List.range n).map fun i => ((i : Nat) : Int))
  rw [List.map_map, List.map_map] at this
  exact this
section
variable {X : Cx} {Γ : Sv} {a b e : Expr} {pos p p2 pos2 : Pos} {n : Nat} {ds : List PyData}
theorem pxl_rg (hc : X.calm = true) (hm : X.mg "list" = none) (hm2 : X.mg "range" = none) (ha : PX X Γ a (dt (.int (n : Int)))) (hn : n ≤ 100000) (hg : Gl X "list" := by rfl) (hg2 : Gl X "range" := by rfl) (hs : starEach [a] X.env = (false, eval a X.env) :: starEach [] X.env := by rfl)
    (na : starEach [.Call (.Name "range" p2) [a] [] pos2] X.env = (false, eval (.Call (.Name "range" p2) [a] [] pos2) X.env) :: starEach [] X.env := by rfl) : PXL X Γ (.Call (.Name "list" p) [.Call (.Name "range" p2) [a] [] pos2] [] pos) (nI (List.range n)) :=
  pxl_of (pe_listRg hc hg hm (prg_1 hg2 hm2 pe_W hs) na) fun σ H Q s q => ha σ H _ s fun v H1 x1 h1 => ⟨n, Dp.int_ h1, RgOk.of_le (by omega) (by omega) (by omega) (by omega), fun r hr => q r _ _ (Evl.fresh_back x1 hr) (x1.trans (Evl.Ex.new hr)) upd_same (dp_rg n)⟩
theorem px_tuprg (hc : X.calm = true) (hm : X.mg "tuple" = none) (hm2 : X.mg "range" = none) (ha : PX X Γ a (dt (.int (n : Int)))) (hn : n ≤ 100000) (hg : Gl X "tuple" := by rfl) (hg2 : Gl X "range" := by rfl) (hs : starEach [a] X.env = (false, eval a X.env) :: starEach [] X.env := by rfl)
    (na : starEach [.Call (.Name "range" p2) [a] [] pos2] X.env = (false, eval (.Call (.Name "range" p2) [a] [] pos2) X.env) :: starEach [] X.env := by rfl) : PX X Γ (.Call (.Name "tuple" p) [.Call (.Name "range" p2) [a] [] pos2] [] pos) (dt (.tuple (nI (List.range n)))) :=
  px_of (pe_tupRg hc hg hm (prg_1 hg2 hm2 pe_W hs) na) fun σ H Q s q => ha σ H _ s fun v H1 x1 h1 => ⟨n, Dp.int_ h1, RgOk.of_le (by omega) (by omega) (by omega) (by omega), fun r hr => q _ _ (x1.trans (Evl.Ex.new hr)) (.tup (SqT.of upd_same) (dp_rg n))⟩
/-! ### min of a list, of two numbers -/
theorem px_minL {ns : List Int} {m : Int} (hc : X.calm = true) (hm : X.mg "min" = none) (ha : PX X Γ a (dt (.list (dI ns)))) (h1 : m ∈ ns) (h2 : ∀ y ∈ ns, m ≤ y) (hg : Gl X "min" := by rfl) (hs : starEach [a] X.env = (false, eval a X.env) :: starEach [] X.env := by rfl) (hp : (backTo pos (starEach [] X.env)).any (·.1) = false := by rfl) : PX X Γ (.Call (.Name "min" p) [a] [] pos) (dt (.int m)) :=
  px_of (pe_callB (cr_min hc) hg hm (by decide +kernel) pa_W (he := hs) (hpl := hp)) fun σ H Q s q => pxs_cons ha pxs_nil hs σ H _ s fun vs H1 x1 h => by
    cases h with
    | cons h h' =>
      cases h'
      obtain ⟨c, xs, rfl, hx, hd⟩ := Dp.lst_ h
      have e := DpAll.ints hd
      subst e
      refine ⟨c, ns, rfl, hx, List.length_pos_iff.mpr (List.ne_nil_of_mem h1), fun k k1 k2 => ?_⟩
      have e : k = m := Int.le_antisymm (k2 m h1) (h2 k k1)
      subst e
      exact q _ H1 x1 (Dp.int _)
theorem px_min2 {i j : Int} (hc : X.calm = true) (hm : X.mg "min" = none) (ha : PX X Γ a (dt (.int i))) (hb : PX X Γ b (dt (.int j))) (hg : Gl X "min" := by rfl) (hs : starEach [a, b] X.env = (false, eval a X.env) :: starEach [b] X.env := by rfl) (hs2 : starEach [b] X.env = (false, eval b X.env) :: starEach [] X.env := by rfl) (hp : (backTo pos (starEach [b] X.env)).any (·.1) = false := by rfl) : PX X Γ (.Call (.Name "min" p) [a, b] [] pos) (dt (.int (if j < i then j else i))) :=
  px_of (pe_callB (call_min2 hc) hg hm (by decide +kernel) pa_W (he := hs) (hpl := hp)) fun σ H Q s q => pxs_cons ha (pxs_cons hb pxs_nil hs2) hs σ H _ s fun vs H1 x1 h => by
    cases h with
    | cons h h' =>
      cases h' with
      | cons h2 h3 =>
        cases h3
        rw [Dp.int_ h, Dp.int_ h2]
        exact ⟨i, j, rfl, q _ H1 x1 (Dp.int _)⟩
end
/-! ### def f( *xs) and f( *e) -/
structure FnS (P : Program) (w : World) (K : PySem.W.Frag) (mg : Str → Option Value) (base : Heap) (x : Str) (k : Nat) (C : List PyData → List PyData → Prop) : Prop where
  ex : ∃ f, FnR P w K mg base CX0 k f (fun vs H Q E => vs.length ≤ sizeLine ∧ ∃ ds es, tupds ds = true ∧ DpAll K H vs ds ∧ C ds es ∧ ∀ p H' xs, H p = none → Ex H H' → H' p = some (.lst xs) → DpAll K H' xs es → Q (.ref p) H') ∧ mg x = some (.ref f) ∧ PySem.W.keepIn K (.ref f) = true
section
variable {X : Cx} {Γ : Sv} {e : Expr} {x : Str} {k n : Nat} {p pos sp_ : Pos} {ds es : List PyData}
theorem pxl_callS {C : List PyData → List PyData → Prop} (F : FnS X.prog X.w X.K X.mg X.base x k C) (hr : Room n X.A) (hn : k ≤ n) (ha : PX X Γ e (dt (.list ds))) (ht : tupds ds = true) (hl : ds.length ≤ 100000) (hc : C ds es) (hg : Gl X x := by rfl) (hd : (x == ("__debug__" : Str)) = false := by decide)
    (hst : starEach [.Starred e sp_] X.env = [(true, eval e X.env)] := by rfl) : PXL X Γ (.Call (.Name x p) [.Starred e sp_] [] pos) es := by
  obtain ⟨f, G, hm, hk⟩ := F.ex
  refine pxl_of (StX.pe_callS1 G (hr.mono hn) hk hg hm pass0 pe_W hd hst) fun σ H Q s q => ha σ H _ s fun v H1 x1 h1 => ?_
  obtain ⟨c, xs, rfl, hx, hd⟩ := Dp.lst_ h1
  exact ⟨c, xs, rfl, .inr hx, sz (by rw [DpAll.len hd]; exact hl), ds, es, ht, hd, hc, fun r H2 ys nr x2 hr h2 => q r H2 ys (Evl.fresh_back x1 nr) (x1.trans x2) hr h2⟩
end
section
variable {P : Program} {w : World} {K : PySem.W.Frag} {mg : Str → Option Value} {base : Heap} {x qual : Str} {params : Arguments} {body : List Stmt} {scope : Scope} {f : Addr} {fd : FuncData}
theorem fn_star1 (F : FunD K x qual params body scope [] [] f fd) {N : List Str} {pv : Str} (S : FnScope N [pv] scope) {C : List PyData → List PyData → Prop} {k : Nat}
    (hbd : ∀ (kV doc pm : Value) (an : Option Addr) (cdv ct : Value) (rest : List Value), bindArgs (PySem.W.fnOf x qual params body scope .none kV doc pm an cdv ct) ⟨rest, []⟩ = (newTuple rest >>= fun t => pure [(pv, t)])) (hm : mg x = some (.ref f))
    (hb : ∀ (cdv : Value) (A : Around) (outer : List Env) (s : Shared) (H : Hp) (E : XK), Room k (A.deeper (envOfC qual scope s.heap.objs.size f cdv)) → ∀ ds es, tupds ds = true → C ds es →
      WS (cxD P w K mg base N qual scope f cdv A outer s H E) (ini N [dt (.tuple ds)]) body { rl := fun c _ => c = .lst es }) : FnS P w K mg base x (k + 1) C := by
  refine ⟨f, ?_, hm, F.kp⟩
  obtain ⟨oc, od, dV, kV, doc, pm, an, cdv, ct, osl, rfl, lk, hcd, hdV, _⟩ := F.ex
  obtain rfl : dV = .none := by
    rcases hdV with ⟨_, h⟩ | ⟨h, _⟩
    · exact h
    · exact absurd rfl h
  have R := StX.fn_star (P := P) (w := w) (mg := mg) (base := base) (CX := CX0) (k := k) (N := N) (ps := []) (sp := spL (fun ss es => ∃ ds, ss = [dt (.tuple ds)] ∧ tupds ds = true ∧ C ds es) K) (pv := pv) lk hcd S StX.cxUp_none (fun us rest hl => by
    cases us with
    | nil => exact hbd _ _ _ _ _ _ rest
    | cons _ _ => cases hl) (fun A outer s H vs Q E hr h => ?_)
  · intro A outer s H us vs Q E hr e0 r hsp
    obtain ⟨hz, ds, es, ht, hd, hc, q⟩ := hsp
    refine R A outer s H us vs Q E hr e0 r ⟨[], vs, rfl, rfl, hz, fun p hp => ⟨[dt (.tuple ds)], es, .cons (.tup (SqT.of upd_same) (DpAll.mono (Evl.Ex.new hp) hd)) .nil, ⟨ds, rfl, ht, hc⟩, fun r H2 xs nr x2 hr h2 => q r H2 xs (Evl.fresh_back (Evl.Ex.new hp) nr) ((Evl.Ex.new hp).trans x2) hr h2⟩⟩
  · obtain ⟨ss, ds', h1, ⟨ds, rfl, ht, hc⟩, h3⟩ := h
    refine ⟨_, PSs.nox pss_W, hb cdv A outer s H E hr ds ds' ht hc H [] _ H _ (ini_sta h1) ⟨?_, ?_, ?_, ?_, ?_⟩⟩
    · intro _ _ _ d; exact d.elim
    · intro _ _ _ d; exact d.elim
    · intro _ _ _ d; exact d.elim
    · intro _ _ _ _ _ d; exact d.elim
    · rintro p σ' H' Γ' c rfl S' _ _ ⟨xs, hp, ha⟩
      refine h3 p H' xs ?_ (ret_ex S') hp (DpAll.mono cut_ex ha)
      cases q : H p with
      | none => rfl
      | some o =>
        have z : cut H' (Hid [p] Γ') p = some o := S'.ent p o q
        rw [cut_yes (show Hid [p] Γ' p from .inl List.mem_cons_self)] at z
        cases z
end
end Dw
set_option Elab.async false
set_option linter.all false
set_option maxRecDepth 100000
set_option maxHeartbeats 2000000
/-! An own exception class over classes over ValueError whose __init__ says super().__init__(x) first. -/
namespace Dw
open PySem PySem.Spec PySem.Calls PyProof.Rows L2
/-- the context of a def that closes over __class__ alone -/
def cxS (CX : CXT) (P : Program) (w : World) (K : PySem.W.Frag) (mg : Str → Option Value) (base : Heap) (N : List Str) (qual : Str) (scope : Scope) (f : Addr) (cd : Value) (cc : Addr) (A : Around) (outer : List Env) (s : Shared) (H : Hp) (E : XK) : Cx where
  prog := P
  w := w
  K := K
  mg := mg
  base := base
  A := A.deeper (PySem.W.ksEnv qual scope s.heap.objs.size f cd cc)
  N := N
  s_0 := s
  H_0 := H
  env := PySem.W.ksEnv qual scope s.heap.objs.size f cd cc
  outer := outer
  stack := PySem.W.ksEnv qual scope s.heap.objs.size f cd cc :: outer
  ex := []
  calm := true
  fn := fun _ => false
  pn := []
  xe := fun e s' => wpAny (model P w) (A.deeper (PySem.W.ksEnv qual scope s.heap.objs.size f cd cc)) (leaving (PySem.W.ksEnv qual scope s.heap.objs.size f cd cc) e) (fun _ s'' => CX outer H s E e s'') (fun e' s'' => CX outer H s E e' s'') s'
structure SupScope (N P : List Str) (sc : Scope) : Prop where
  kind : sc.kind = .function
  co : sc.isCoroutine = false
  gen : sc.isGenerator = false
  nd : N.Nodup
  pre : N.take P.length = P
  par : ∀ x ∈ P, sc.names.lookup x = some .local
  nocell : ∀ y ∈ sc.names, y.2 ≠ .cell
  onefree : ∀ y ∈ sc.names, y.2 = .free → y.1 = ("__class__" : Str)
  cls : sc.names.lookup ("__class__" : Str) = some .free
  sup : sc.names.lookup ("super" : Str) = some .globalImplicit
theorem rev_look {x : Str} {v : Value} : ∀ {P : List Str} {vs : List Value} {i : Nat}, P.Nodup → P[i]? = some x → vs[i]? = some v → (P.zip vs).reverse.lookup x = some v
  | [], _, _, _, h, _ => by simp at h
  | _ :: _, [], _, _, _, h => by simp at h
  | p :: P, w :: vs, 0, nd, h1, h2 => by
    simp at h1 h2; subst h1; subst h2
    rw [List.zip_cons_cons, List.reverse_cons, List.lookup_append]
    have e : (P.zip vs).reverse.lookup p = none := by
      rw [List.lookup_eq_none_iff]
      intro q hq
      have hq' := List.mem_reverse.mp hq
      have := (List.of_mem_zip (a := q.1) (b := q.2) hq').1
      have hn := (List.nodup_cons.mp nd).1
      simp
      intro z
      exact hn (z ▸ this)
    rw [e]
    simp
  | p :: P, w :: vs, i + 1, nd, h1, h2 => by
    rw [List.zip_cons_cons, List.reverse_cons, List.lookup_append, rev_look (i := i) (List.nodup_cons.mp nd).2 (by simpa using h1) (by simpa using h2)]
    rfl
theorem inv_startS {CX : CXT} {P : Program} {w : World} {K : PySem.W.Frag} {mg : Str → Option Value} {base : Heap} {N ps : List Str} {qual : Str} {scope : Scope} {f : Addr} {cd : Value} {cc : Addr} {A : Around} {outer : List Env} {s : Shared} {H : Hp} {E : XK} {us : List Value} {vs : List V} {h₀ : Heap} {tk : Nat} {oc : Obj} {cv : Option Value}
    (S : SupScope N ps scope) (hd : A.handled = none) (e0 : Env0 P w K mg base A outer s H) (hl : vs.length = ps.length) (r : Vals vs us) (hcc : K.lookup cc = some oc) (hcv : oc.data = .cell cv)
    (hn : h₀.Ns s.heap.objs.size (fun x => (ps.zip us).reverse.lookup x)) (hk : ∀ b o, s.heap.get? b = some o → h₀.get? b = some o) :
    Inv (cxS CX P w K mg base N qual scope f cd cc A outer s H E) [] (L2.start N vs) H { s with heap := h₀, toks := tk } := by
  have hpl : ps.length ≤ N.length := by have := congrArg List.length S.pre; rw [List.length_take] at this; omega
  have noA : ∀ b : Addr, b ∉ (cxS CX P w K mg base N qual scope f cd cc A outer s H E).ex := fun b z => absurd (show b ∈ ([] : List Addr) from z) (by simp)
  have look : ∀ y c, (cxS CX P w K mg base N qual scope f cd cc A outer s H E).env.cells.lookup y = some c → y = ("__class__" : Str) ∧ c = cc := fun y c h => by
    have h' : ([(("__class__" : Str), cc)] : List (Str × Addr)).lookup y = some c := h
    rw [List.lookup_cons] at h'
    split at h'
    · rename_i e
      have e' : y = ("__class__" : Str) := by simpa using e
      cases h'
      exact ⟨e', rfl⟩
    · cases h'
  obtain ⟨bc, hHc⟩ := e0.bs cc oc (e0.mod.kin cc oc hcc)
  refine ⟨⟨e0.mod, S.kind, rfl, rfl, Nat.le_refl _, fun y z c h1 h2 => (look y c h1).1.trans (look z c h2).1.symm, fun y hy => ?_, fun y c z h => Bool.noConfusion (show false = true from z), fun _ => hd, Around.frames_deeper e0.frames, .inr ⟨rfl, rfl⟩, fun b z => absurd z (noA b), e0.bs, e0.bsz, fun b _ _ => noA b, fun b z => absurd z (noA b), e0.funs, e0.frf⟩,
    rfl, e0.bare, Un.kept hk, ⟨_, hn, fun i y v h1 h2 h3 => ?_⟩, fun y c h => ?_, e0.hok.fresh (Nat.le_refl _), fun y c h => ?_, fun p hp => absurd (show p ∈ ([] : List (Addr × Obj)) from hp) (by simp), e0.hok.kept hk, ?_⟩
  · have hy : scope.names.lookup y = some .cell ∨ scope.names.lookup y = some .free := hy
    rcases hy with hy | hy
    · exact absurd rfl (S.nocell _ (PySem.mem_of_lookup hy))
    · have e := S.onefree _ (PySem.mem_of_lookup hy) rfl
      have e' : y = ("__class__" : Str) := e
      subst e'
      exact ⟨cc, by show ([(("__class__" : Str), cc)] : List (Str × Addr)).lookup _ = _; rw [List.lookup_cons]; simp⟩
  · have hi : i < vs.length := by
      unfold L2.start at h2
      by_cases hi : i < vs.length
      · exact hi
      · rw [List.getElem?_append_right (by simpa using hi)] at h2
        rw [List.getElem?_replicate] at h2
        split at h2 <;> cases h2
    have ha : vs[i]? = some v := by
      unfold L2.start at h2
      rw [List.getElem?_append_left (by simpa using hi), List.getElem?_map] at h2
      cases e : vs[i]? with
      | none => rw [e] at h2; cases h2
      | some a => rw [e] at h2; cases h2; rfl
    obtain ⟨u, hu, rv⟩ := r.get ha
    have hp : ps[i]? = some y := by
      rw [← S.pre, List.getElem?_take_of_lt (by omega)]; exact h1
    have ndP : ps.Nodup := by rw [← S.pre]; exact S.nd.sublist (List.take_sublist _ _)
    exact ⟨u, rv, .inl ⟨S.par y (List.mem_of_getElem? hp), rev_look ndP hp hu⟩⟩
  · obtain ⟨_, rfl⟩ := look y c h
    exact ⟨cv, oc, hk _ _ bc, hcv⟩
  · obtain ⟨_, rfl⟩ := look y c h
    exact hHc
  · unfold L2.start
    show _ = N.length
    rw [List.length_append, List.length_map, List.length_replicate]
    omega
end Dw
set_option Elab.async false
set_option linter.all false
set_option maxRecDepth 100000
set_option maxHeartbeats 2000000
namespace Dw
open PySem PySem.Spec PySem.Calls PyProof.Rows L2
/-- what the written part says of such a class -/
structure SupC (P : Program) (K : PySem.W.Frag) (C fI cc cda : Addr) (name qual : Str) (params : Arguments) (body : List Stmt) (scope : Scope) : Prop where
  oex : OexC K C
  ini : PySem.W.findIn K (.ref C) "__init__" = some (some (.ref fI))
  typ : PySem.W.typeIn K (.ref fI) = some (.type "function")
  fn : ∃ oc od kV doc pm an ct osl, K.lookup fI = some ⟨oc, od, .func (PySem.W.ksFn name qual params body scope .none kV doc pm an (.ref cda) ct cc), osl⟩
  cod : PySem.W.codeIn K (.ref cda) qual = true
  cell : ∃ cl cld csl, K.lookup cc = some ⟨cl, cld, .cell (some (.ref C)), csl⟩
  file : ∃ ccl cdd vs ccs file tf, K.lookup cda = some ⟨ccl, cdd, .fields vs, ccs⟩ ∧ vs[2]? = some (.str file tf) ∧ ((P.main.file : Str) == file) = true
  top : (P.main.scope.names.lookup ("super" : Str)).isSome = false
  self : PySem.W.mroIn K C (.ref C) = some true
  sup : PySem.W.ks_superIn K C C "__init__" = some (some (.builtin "ValueError.__init__"))
  sub : PySem.W.subIn K (.ref C) (.type "ValueError") = some true
  third : PySem.W.nsIn K cStatics "thirdparty.any" = some none
section
variable {X : Cx} {pins : List (Addr × Obj)} {σ : L2.St} {H : Hp} {s : Shared}
/-- ValueError.__init__, bound to an exception that is being made, called -/
theorem bw_ok {C a u : Addr} {us : List Value} {Q : Value → Shared → Prop} {E : Value → Shared → Prop} {A : Around} (T : OexC X.K C) (I : Inv X pins σ H s) (e : H a = some (exo a C none)) (hu : s.heap.get? u = some (PySem.W.kxs_mw "ValueError.__init__" a)) (hl : us.length ≤ sizeLine) (h : ∀ s', Inv X pins σ H s' → Q .none s') :
    wpAny (model X.prog X.w) A (call (.ref u) us) Q E s := by
  obtain ⟨nm, q, N, bs, bm, sn, sub, ab, col, dd, k0, k1, k2, k3, k5, hC, hbm⟩ := T.cls
  obtain ⟨t1, ho⟩ := exo_at I.hok e
  obtain ⟨hp, g, d, t, os⟩ := s
  refine wpAny_call (codeAny_of_tree ?_)
  show wpAny _ A.in1 (callAny (.ref u) ⟨us, []⟩) _ _ _
  simp only [callAny]
  refine wpAny_bind (wpAny_load hu ?_)
  simp only [PySem.W.kxs_mw, show (Value.type "method-wrapper" == Value.type "method" || Value.type "method-wrapper" == Value.type "builtin_function_or_method" || Value.type "method-wrapper" == Value.type "method-wrapper") = true by decide, if_true]
  refine PySem.W.KFB.if_so (by decide) ?_
  refine wpAny_bind (PySem.W.check_bound_init F.excBase_ValueError.toExcCallFacts (I.kIn _ _ hC) ho rfl ?_)
  refine wpAny_bind (wpAny_pure (wpAny_pure ?_))
  refine ⟨plainId_quiet F.excBase_ValueError.init.plain _, codeAny_builtin F.excBase_ValueError.initEntry ?_⟩
  refine PySem.W.exc_init_tree (cls := .ref C) (t0 := t1) (dv := none) (c2 := .none) (c3 := .none) (b4 := .bool false) ho hl fun h' k hx _ => ?_
  have J := I.write (t' := t) (x := a) (e := a) (o := exo a C none) (by rw [e]; exact True.intro) (.inl rfl) k ⟨_, hx⟩ (exo_ok hx)
  have eu : upd H a (exo a C none) = H := by
    funext b
    by_cases hb : b = a
    · rw [hb, upd_same, e]
    · rw [upd_ne hb]
  rw [eu] at J
  exact h _ J
end
section
variable {CX : CXT} {P : Program} {w : World} {K : PySem.W.Frag} {mg : Str → Option Value} {base : Heap} {N : List Str} {name qual : Str} {params : Arguments} {body : List Stmt} {scope : Scope} {C fI cc cda : Addr} {A : Around} {outer : List Env} {s0 : Shared} {H0 : Hp} {E : XK}
/-- super().__init__(e) -/
theorem sup_stmt {ps : List Str} (F : SupC P K C fI cc cda name qual params body scope) (S : SupScope N ps scope) {ar : Arg} (har : (params.posonlyargs ++ params.args).head? = some ar) (h0 : N[0]? = some ar.arg) (hm0 : ar.arg ∈ ps) {σ : L2.St} {H : Hp} {s : Shared} {a : Addr} {e : Expr} {ta : TA} {p0 p1 p2 p3 p4 : Pos} {Q : Flow → Shared → Prop} {bb : List Stmt}
    (hms : mg "super" = none) (I : Inv (cxS CX P w K mg base N qual scope fI (.ref cda) cc A outer s0 H0 E) [] σ H s) (hσ : σ[0]? = some (some (.ref a))) (hea : H a = some (exo a C none))
    (pa : PA (cxS CX P w K mg base N qual scope fI (.ref cda) cc A outer s0 H0 E) [e] ta) {q : List V → Hp → Prop} (hta : ta σ H q) (hqq : ∀ vs H1, q vs H1 → vs.length ≤ 1000 ∧ H1 a = some (exo a C none) ∧ ∀ s', Inv (cxS CX P w K mg base N qual scope fI (.ref cda) cc A outer s0 H0 E) [] σ H1 s' → Q .next s')
    (he : starEach [e] (PySem.W.ksEnv qual scope s0.heap.objs.size fI (.ref cda) cc) = (false, eval e (PySem.W.ksEnv qual scope s0.heap.objs.size fI (.ref cda) cc)) :: starEach [] (PySem.W.ksEnv qual scope s0.heap.objs.size fI (.ref cda) cc) := by rfl)
    (hsw : swapsWith (.Call (.Attribute (.Call (.Name "super" p0) [] [] p1) "__init__" p2) [e] [] p3) none p4.line (PySem.W.ksEnv qual scope s0.heap.objs.size fI (.ref cda) cc) = pure false := by rfl)
    {pl : _root_.PySem.Sem Bool} (hev : eval (.Call (.Attribute (.Call (.Name "super" p0) [] [] p1) "__init__" p2) [e] [] p3) (PySem.W.ksEnv qual scope s0.heap.objs.size fI (.ref cda) cc) = (do
      let ov ← attributeBase (.Call (.Name "super" p0) [] [] p1) "__init__" (PySem.W.ksEnv qual scope s0.heap.objs.size fI (.ref cda) cc) (eval (.Call (.Name "super" p0) [] [] p1) (PySem.W.ksEnv qual scope s0.heap.objs.size fI (.ref cda) cc))
      standAt p2.atName
      let (f, first) ← holding [ov] (getMethod ov "__init__" pl)
      callWith p3 f first (backTo p3 (starEach [e] (PySem.W.ksEnv qual scope s0.heap.objs.size fI (.ref cda) cc))) []) := by rfl)
    (hit : interactive (PySem.W.ksEnv qual scope s0.heap.objs.size fI (.ref cda) cc) = false := by rfl) :
    _root_.PySem.wpAt (model P w) (A.deeper (PySem.W.ksEnv qual scope s0.heap.objs.size fI (.ref cda) cc)) (.func bb (PySem.W.ksEnv qual scope s0.heap.objs.size fI (.ref cda) cc))
      (exec (.Expr (.Call (.Attribute (.Call (.Name "super" p0) [] [] p1) "__init__" p2) [e] [] p3) p4) (PySem.W.ksEnv qual scope s0.heap.objs.size fI (.ref cda) cc)) Q (cxS CX P w K mg base N qual scope fI (.ref cda) cc A outer s0 H0 E).xe s := by
  refine ks_wpAt_Expr_any ?_ hit hsw
  refine ks_wpAt_MethodCall ?_ hev
  obtain ⟨oc, od, kV, doc, pm, an, ct, osl, hf⟩ := F.fn
  obtain ⟨cl, cld, csl, hcell⟩ := F.cell
  obtain ⟨ccl, cdd, vs, ccs, file, tf, hcode, hvs, hfile⟩ := F.file
  have KI := I.kIn
  obtain ⟨mb, hb1, hb2⟩ := I.mod.blt
  obtain ⟨m, hns, hlk⟩ := id I.loc
  obtain ⟨u, ru, lu⟩ := hlk 0 ar.arg (.ref a) h0 hσ (.inl (S.par _ hm0))
  obtain rfl : u = Value.ref a := ru
  have hma : m ar.arg = some (.ref a) := by
    rcases lu with ⟨_, z⟩ | ⟨z, _⟩
    · exact z
    · have hl : scope.names.lookup ar.arg = some .local := S.par _ hm0
      have z' : scope.names.lookup ar.arg = some .cell ∨ scope.names.lookup ar.arg = some .free := z
      rw [hl] at z'
      rcases z' with z' | z' <;> cases z'
  obtain ⟨nm, q, N', bs, bm, sn, sub, ab, col, dd, k0, k1, k2, k3, k5, hC, hbm⟩ := F.oex.cls
  have hD := KI _ _ hC
  obtain ⟨t1, hoa⟩ := exo_at I.hok hea
  have hcls : PySem.W.clsIn K C = some { name := nm, bases := bs, mro := .ref C :: bm, ns := N', qualname := q, hasDict := true, slotNames := sn, subclasses := sub, abstract := ab, collection := col, hasDel := false } := by unfold PySem.W.clsIn; rw [hC] <;> rfl
  have IA : PySem.W.InstAt s.heap a _ C none := ⟨hoa, rfl, rfl, trivial⟩
  refine ks_wpAt_super_base (env := PySem.W.ksEnv qual scope s0.heap.objs.size fI (.ref cda) cc) S.sup S.cls (by decide) rfl (KI _ _ hf) rfl har rfl (KI _ _ hcode) rfl hvs hfile F.top ?_
  refine PySem.W.ks_loadName_global S.kind S.sup (Calls.loadGlobal_builtin (env := PySem.W.ksEnv qual scope s0.heap.objs.size fI (.ref cda) cc) (I.mod.glob.keeps I.bk) hms (hb1.keeps I.bk) ((hb2 _ (by decide)).trans (show bootBuiltins "super" = some (.type "super") by decide +kernel)) ⟨rfl, ?_⟩)
  refine wpAny_loadName_free S.kind S.cls (c := cc) (by show ([(("__class__" : Str), cc)] : List (Str × Addr)).lookup _ = _; rw [List.lookup_cons]; simp) ⟨_, KI _ _ hcell, rfl⟩ ?_
  refine wpAny_loadName_local S.kind (S.par _ hm0) hns hma ?_
  obtain ⟨hh, g, d, t, os⟩ := s
  refine ks_wpAny_isType_cls hD rfl ⟨rfl, ?_⟩
  refine ks_wpAny_call_super hD rfl hoa rfl (fun c e => by cases e) (PySem.W.looks_mroIn KI F.self) (fun h1 e1 kk1 => ?_)
  have I1 : Inv (cxS CX P w K mg base N qual scope fI (.ref cda) cc A outer s0 H0 E) [] σ H ⟨h1, g, d, t, os⟩ := I.kept kk1
  have KI1 := I1.kIn
  obtain ⟨t2, hoa1⟩ := exo_at I1.hok hea
  have IA1 : PySem.W.InstAt h1 a _ C none := ⟨hoa1, rfl, rfl, trivial⟩
  have hsup := F.sup
  unfold PySem.W.ks_superIn at hsup
  rw [hcls] at hsup
  refine PySem.W.kxs_getMethod PySem.W.kxs_ValueError e1 (PySem.W.looks_opaque KI1 F.third) (fun A Q E s k q => wpAny_bind ((PySem.W.looks_clsIn KI1 hcls) A _ E s k (wpAny_pure q))) rfl KI1 hsup (IA1.type.andThen (PySem.W.looks_subIn KI1 F.sub)) (PySem.W.ks_ne KI1 IA1 hcls) (by decide) ?_
  have I2 : Inv (cxS CX P w K mg base N qual scope fI (.ref cda) cc A outer s0 H0 E) [] σ H ⟨h1.push (PySem.W.kxs_mw "ValueError.__init__" a), g, d, t + 1, os⟩ := I1.kept fun b o e => Heap.get?_push_of_some _ e
  have hu : H h1.objs.size = none := I1.hok.fresh (Nat.le_refl _)
  obtain ⟨f0, f1, f2, f3, f4, f5⟩ := I1.fpOk (Nat.le_refl _) hu
  have I3 : Inv (cxS CX P w K mg base N qual scope fI (.ref cda) cc A outer s0 H0 E) [(h1.objs.size, PySem.W.kxs_mw "ValueError.__init__" a)] σ H ⟨h1.push (PySem.W.kxs_mw "ValueError.__init__" a), g, d, t + 1, os⟩ :=
    ⟨I2.ok, I2.os, I2.bare, I2.base, I2.loc, I2.cell, I2.free, I2.freeC, fun p hp => by
      have e : p = (h1.objs.size, PySem.W.kxs_mw "ValueError.__init__" a) := by simpa using (show p ∈ ([] : List (Addr × Obj)) ++ [(h1.objs.size, PySem.W.kxs_mw "ValueError.__init__" a)] from hp)
      rw [e]
      exact ⟨Heap.get?_push_at rfl rfl, f0, f1, f2, fun v z => by cases z⟩, I2.hok, I2.len⟩
  have par : wpAny (model P w) (A.deeper (PySem.W.ksEnv qual scope s0.heap.objs.size fI (.ref cda) cc)) (spliced (backTo p3 (starEach [e] (PySem.W.ksEnv qual scope s0.heap.objs.size fI (.ref cda) cc))))
      (fun us s3 => PySem.W.KxsAt "ValueError.__init__" h1.objs.size a s3.heap ∧ wpAny (model P w) (A.deeper (PySem.W.ksEnv qual scope s0.heap.objs.size fI (.ref cda) cc)) (call (.ref h1.objs.size) ([] ++ us)) (fun _ => Q .next) (cxS CX P w K mg base N qual scope fI (.ref cda) cc A outer s0 H0 E).xe s3)
      (cxS CX P w K mg base N qual scope fI (.ref cda) cc A outer s0 H0 E).xe ⟨h1.push (PySem.W.kxs_mw "ValueError.__init__" a), g, d, t + 1, os⟩ := by
   refine wpAny_mono (pa.run p3 _ _ σ H _ I3 hta) (fun us s3 hh3 => ?_) fun _ _ z => z
   obtain ⟨ws, H3, I3', rv, hh3⟩ := hh3
   obtain ⟨hlw, hea3, hq⟩ := hqq ws H3 hh3
   have hu3 : s3.heap.get? h1.objs.size = some (PySem.W.kxs_mw "ValueError.__init__" a) := (I3'.pin (h1.objs.size, PySem.W.kxs_mw "ValueError.__init__" a) (List.mem_append_right _ List.mem_cons_self)).1
   have I4 : Inv (cxS CX P w K mg base N qual scope fI (.ref cda) cc A outer s0 H0 E) [] σ H3 s3 :=
     ⟨I3'.ok, I3'.os, I3'.bare, I3'.base, I3'.loc, I3'.cell, I3'.free, I3'.freeC, fun p hp => absurd (show p ∈ ([] : List (Addr × Obj)) from hp) (by simp), I3'.hok, I3'.len⟩
   refine ⟨hu3, ?_⟩
   show wpAny _ _ (call (.ref h1.objs.size) us) _ _ _
   exact bw_ok (X := cxS CX P w K mg base N qual scope fI (.ref cda) cc A outer s0 H0 E) F.oex I4 hea3 hu3 (by rw [← rv.length, sizeLine_eq]; omega) hq
  rw [he] at par ⊢
  refine PySem.W.kxs_callWith (i := "ValueError.__init__") (x := a) rfl ?_
  exact evalArgs_plain par
/-- the def, its first statement super().__init__(e) -/
theorem fn_sup {ps : List Str} {rest : List Stmt} {e : Expr} {p0 p1 p2 p3 p4 : Pos} (hbd : body = .Expr (.Call (.Attribute (.Call (.Name "super" p0) [] [] p1) "__init__" p2) [e] [] p3) p4 :: rest) (F : SupC P K C fI cc cda name qual params body scope) (S : SupScope N ps scope) {ar : Arg} (har : (params.posonlyargs ++ params.args).head? = some ar) (h0 : N[0]? = some ar.arg) (hm0 : ar.arg ∈ ps)
    (hms : mg "super" = none) {sp : Sp} {k : Nat} (len : ∀ vs H Q E, sp vs H Q E → vs.length = ps.length)
    (hst : ∀ L : Addr, starEach [e] (PySem.W.ksEnv qual scope L fI (.ref cda) cc) = (false, eval e (PySem.W.ksEnv qual scope L fI (.ref cda) cc)) :: starEach [] (PySem.W.ksEnv qual scope L fI (.ref cda) cc))
    (hsw : ∀ L : Addr, swapsWith (.Call (.Attribute (.Call (.Name "super" p0) [] [] p1) "__init__" p2) [e] [] p3) none p4.line (PySem.W.ksEnv qual scope L fI (.ref cda) cc) = pure false)
    {pl : Addr → _root_.PySem.Sem Bool} (hev : ∀ L : Addr, eval (.Call (.Attribute (.Call (.Name "super" p0) [] [] p1) "__init__" p2) [e] [] p3) (PySem.W.ksEnv qual scope L fI (.ref cda) cc) = (do
      let ov ← attributeBase (.Call (.Name "super" p0) [] [] p1) "__init__" (PySem.W.ksEnv qual scope L fI (.ref cda) cc) (eval (.Call (.Name "super" p0) [] [] p1) (PySem.W.ksEnv qual scope L fI (.ref cda) cc))
      standAt p2.atName
      let (f, first) ← holding [ov] (getMethod ov "__init__" (pl L))
      callWith p3 f first (backTo p3 (starEach [e] (PySem.W.ksEnv qual scope L fI (.ref cda) cc))) []))
    (hit : ∀ L : Addr, interactive (PySem.W.ksEnv qual scope L fI (.ref cda) cc) = false)
    (hbody : ∀ (A : Around) (outer : List Env) (s : Shared) (H : Hp) (vs : List V) (Q : VK) (E : XK), Room k (A.deeper (PySem.W.ksEnv qual scope s.heap.objs.size fI (.ref cda) cc)) → sp vs H Q E →
      ∃ (a : Addr) (ta : TA) (tr : TS), vs[0]? = some (.ref a) ∧ H a = some (exo a C none) ∧ PA (cxS CX P w K mg base N qual scope fI (.ref cda) cc A outer s H E) [e] ta ∧ PSs (cxS CX P w K mg base N qual scope fI (.ref cda) cc A outer s H E) rest tr ∧
        ta (L2.start N vs) H fun ws H1 => ws.length ≤ 1000 ∧ H1 a = some (exo a C none) ∧ tr { nx := fun _ H' => Q .non H', rt := Q } (L2.start N vs) H1) :
    ∃ fd, (∃ kV doc pm an ct, fd = PySem.W.ksFn name qual params body scope .none kV doc pm an (.ref cda) ct cc) ∧ FnOk P w K mg base CX (k + 1) fI fd ps sp := by
  obtain ⟨oc, od, kV, doc, pm, an, ct, osl, lk⟩ := F.fn
  refine ⟨_, ⟨kV, doc, pm, an, ct, rfl⟩, len, fun A outer s H args us vs Q E hr e0 hb r hsp => ?_⟩
  have hl := len _ _ _ _ hsp
  have KX : K.In s.heap := e0.mod.kin.keeps fun b o e => (e0.bs b o e).1
  have lim : s.heap.NoLimit := e0.mod.nolimit.keeps fun b o e => (e0.bs b o e).1
  obtain ⟨cl, cld, csl, hcell⟩ := F.cell
  obtain ⟨a, ta, tr, hv0, hHa, pa, pr, hta⟩ := hbody A outer s H vs Q E (hr.deeper _) hsp
  refine ks_codeAny_call_defAt (fd := PySem.W.ksFn name qual params body scope .none kV doc pm an (.ref cda) ct cc) (body := body) (binds := ps.zip us) hr.depth (KX _ _ lk) rfl lim (PySem.W.codeRec_of KX F.cod) rfl hb S.nocell (fun y hy => S.par _ (List.of_mem_zip hy).1) (fun h₁ hns hk₁ => ?_) S.co S.gen S.kind
  have I : Inv (cxS CX P w K mg base N qual scope fI (.ref cda) cc A outer s H E) [] (L2.start N vs) H { s with heap := h₁, toks := s.toks + (ps.zip us).length } := inv_startS S hr.hd e0 hl r hcell rfl hns hk₁
  have fin : ∀ {s' : Shared} {σ' : L2.St} {H' : Hp} {v : V} {u : Value}, Inv (cxS CX P w K mg base N qual scope fI (.ref cda) cc A outer s H E) [] σ' H' s' → RelV v u → Q v H' → CE outer P w H s Q u s' :=
    fun {s' σ' H' v u} J rv q => ⟨v, H', J.os, J.bare, J.base, J.hok, rv, q⟩
  have hσ0 : (L2.start N vs)[0]? = some (some (.ref a)) := by
    unfold L2.start
    have hlt : 0 < vs.length := (List.getElem?_eq_some_iff.mp hv0).1
    rw [List.getElem?_append_left (by simpa using hlt), List.getElem?_map, hv0]
    rfl
  subst hbd
  refine ks_wpAt_execs_cons ?_
  refine sup_stmt F S har h0 hm0 hms I hσ0 hHa pa (p0 := p0) (p1 := p1) (p2 := p2) (p3 := p3) (p4 := p4) hta (fun ws H1 hq1 => ⟨hq1.1, hq1.2.1, fun s1 I1 => ?_⟩) (hst _) (hsw _) (hev _) (hit _)
  refine wpAt_of_wpAny (wpAny_mono (pr.run [] s1 _ H1 _ I1 hq1.2.2) (fun fl s' hs => ?_) fun e s' hs => hs)
  cases fl with
  | ret u =>
    obtain ⟨v, σ', H', J, rv, q⟩ := hs
    exact fin J rv q
  | next =>
    obtain ⟨σ', H', J, q⟩ := hs
    exact fin (v := V.non) (u := Value.none) J rfl q
  | brk =>
    obtain ⟨_, _, _, q⟩ := hs
    exact False.elim q
  | cont =>
    obtain ⟨_, _, _, q⟩ := hs
    exact False.elim q
end
end Dw
set_option Elab.async false
set_option linter.all false
set_option maxRecDepth 100000
set_option maxHeartbeats 2000000
namespace Dw
open PySem PySem.Spec PySem.Calls PyProof.Rows L2
section
variable {X : Cx} {e : Expr} {es : List Expr} {ta : TA} {p pos : Pos}
/-- C(e, ..), C's own __init__ keeping sp -/
theorem pmk_sup {CX : CXT} {x : Str} {C fI : Addr} {k : Nat} {fd : FuncData} {ps : List Str} {sp : Sp} (T : OexC X.K C) (iC : PySem.W.findIn X.K (.ref C) "__init__" = some (some (.ref fI))) (tI : PySem.W.typeIn X.K (.ref fI) = some (.type "function"))
    (F1 : FnOk X.prog X.w X.K X.mg X.base CX k fI fd ps sp) (hr : Room (k + 1) X.A) (hb : Binds X.K fd ps []) (hx : Passes CX X (fun _ _ _ => False)) (hg : Gl X x) (hm : X.mg x = some (.ref C)) (ha : PA X (e :: es) ta)
    (hdb : (x == ("__debug__" : Str)) = false := by decide) (he : starEach (e :: es) X.env = (false, eval e X.env) :: starEach es X.env := by rfl) (hpl : (backTo pos (starEach es X.env)).any (·.1) = false := by rfl) :
    L2N.PMk X (.Call (.Name x p) (e :: es) [] pos) (tMkO C sp [] ta) := by
  intro pins s σ H Q I h
  obtain ⟨nm, q, N, bs, bm, sn, sub, ab, col, dd, k0, k1, k2, k3, k5, hC, hbm⟩ := T.cls
  refine wpAny_Call_Name_kw (ld_glob I hg hm ?_ hdb)
  refine PySem.W.callWith_K (h₀ := X.base) I.ok.mod.kin T.kC (thn (ha.run pos pins s σ H _ I h) fun us s1 hh => ?_) he hpl
  obtain ⟨vs, H1, I1, r1, hz, q1⟩ := hh
  refine ⟨I1.kIn, ?_⟩
  show wpAny _ _ (call (.ref C) us) _ _ _
  obtain ⟨hp, g, dr, tk, os⟩ := s1
  have hsz : hp.objs.size ≤ hp.objs.size + 1 := Nat.le_succ _
  have hn : H1 (hp.objs.size + 1) = none := I1.hok.fresh hsz
  have hq := q1 (hp.objs.size + 1) hn
  rw [List.append_nil] at hq
  have kk : ∀ b o, hp.get? b = some o → ((hp.push (PySem.W.kdv_tup us)).push (PySem.HandSPX.excO C hp.objs.size)).get? b = some o := fun b o e => Heap.get?_push_of_some _ (Heap.get?_push_of_some _ e)
  have hget : ((hp.push (PySem.W.kdv_tup us)).push (PySem.HandSPX.excO C hp.objs.size)).get? (hp.objs.size + 1) = some (PySem.HandSPX.excO C hp.objs.size) := by heap_get
  have I2 : L2.Inv X pins σ (upd H1 (hp.objs.size + 1) (exo (hp.objs.size + 1) C none)) ⟨(hp.push (PySem.W.kdv_tup us)).push (PySem.HandSPX.excO C hp.objs.size), g, dr, tk, os⟩ :=
    I1.laid (t' := tk) (a := hp.objs.size + 1) (o := exo (hp.objs.size + 1) C none) (h' := (hp.push (PySem.W.kdv_tup us)).push (PySem.HandSPX.excO C hp.objs.size)) kk hsz (exo_ok hget)
  have r2 : Vals (V.ref (hp.objs.size + 1) :: vs) (Value.ref (hp.objs.size + 1) :: us) := .cons rfl r1
  have hl : (Value.ref (hp.objs.size + 1) :: us ++ []).length = ps.length := by
    have e := r2.length
    rw [F1.len _ _ _ _ hq] at e
    rw [List.append_nil]
    exact e.symm
  have hus : us.length ≤ sizeLine := by
    rw [← Paired.length r1, sizeLine_eq]
    omega
  have hbb := hb _ (Value.ref (hp.objs.size + 1) :: us) I2.kIn hl
  rw [List.append_nil] at hbb
  refine wpAny_call (PySem.HandSPX.call_own F.excBase_ValueError (fun Y => PySem.HandSPX.refsVE_contains Y bm hbm) (I1.kIn _ _ hC) (PySem.W.looks_findIn I1.kIn iC) (fun self => PySem.W.bind_fn I1.kIn self tI) hus
    (codeAny_mono (F1.run _ X.stack _ _ ⟨Value.ref (hp.objs.size + 1) :: us, []⟩ (Value.ref (hp.objs.size + 1) :: us) _ _ (fun _ _ _ => False) (hr.make C us []) (I2.env0.make C us []) hbb r2 hq) fun r s' hq' => ?_))
  cases r with
  | error er => exact hx pins σ _ _ er s' I2 hq'
  | ok fl =>
    cases fl with
    | ret u =>
      obtain ⟨v, H2, os2, bare2, un2, hok2, rv, ev, d, fs, ea, ed, hd1, q2⟩ := hq'
      subst ev
      obtain ⟨h2, g2, d2, t2, os'⟩ := s'
      obtain ⟨t0, G, J, kG, ge, hoe, na⟩ := mk_end0 (d2 := d2) (t2 := t2) I1 hsz kk un2 hok2 os2 bare2 ea ed hd1
      exact ⟨rv, _, _, _, ⟨G, g2, d2, t2, os'⟩, _, .ref C, some d, rfl, J, kG, ge, hoe, ⟨rfl, rfl, fun vs e => by cases e; rfl⟩, rfl, rfl, na, rfl, bare2, raises_own T.exC T.tyC, q2⟩
    | next => exact False.elim hq'
    | brk => exact False.elim hq'
    | cont => exact False.elim hq'
/-- X(), no own __init__ -/
theorem pmk_own0 {C : Addr} {bmB : List Value} {B newId initId : String} {x : Str} (F : ExcBaseFacts B newId initId bmB) (q : PySem.W.excIn X.K C bmB newId = true) (gC : X.mg x = some (.ref C)) (kC : PySem.W.keepIn X.K (.ref C) = true) (r : Raises X (.ref C)) (hg : Gl X x)
    (hdb : (x == ("__debug__" : Str)) = false := by decide) : L2N.PMk X (.Call (.Name x p) [] [] pos) (fun _ H Q => Q (.ref C) none H) := by
  intro pins s σ H Q I h
  refine wpAny_Call_Name_kw (ld_glob I hg gC ?_ hdb)
  refine PySem.W.callWith_K0 I.kIn kC ?_
  show wpAny _ _ (call (.ref C) []) _ _ _
  obtain ⟨bm, N, nm, qn, bs, hdct, sn, sub, ab, col, dd, k0, k1, k2, k3, k5, mN, hC, hN, hni, T⟩ := exc_obj I.kIn q
  obtain ⟨hp, g, d, t, os⟩ := s
  refine wpAny_call_exc_subT F T hC hN hni (fun h' e hm => ?_) (Nat.zero_le _)
  exact L2N.mk_of I hm r h (I.hok.gone hm.new)
end
end Dw
set_option Elab.async false
set_option linter.all false
set_option maxRecDepth 100000
set_option maxHeartbeats 2000000
/-! Defs that raise, try, the suite of an except clause. -/
namespace Dw
open PySem PySem.Spec PyProof.Rows L2
abbrev WdT := Option Addr → Hp → Prop
/-- a def that raises a cls whose dict is as Wd says -/
def spR (C : List Sem → WdT → Prop) (cls : Value) (K : PySem.W.Frag) : Sp := fun vs H Q E => ∃ ss Wd, SAll K H vs ss ∧ C ss Wd ∧ ∀ d H', Ex H H' → Wd d H' → E cls d H'
structure FnX (P : Program) (w : World) (K : PySem.W.Frag) (mg : Str → Option Value) (base : Heap) (x : Str) (k : Nat) (ps : List Str) (sp : Sp) : Prop where
  ex : ∃ f fd, FnOk P w K mg base (L2N.CX P w) k f fd ps sp ∧ mg x = some (.ref f) ∧ PySem.W.keepIn K (.ref f) = true ∧ Binds K fd ps []
/-- what is let out of X, told at H0 -/
def Lets (X : Cx) (H0 : Hp) (cls : Value) (Wd : WdT) : Prop := ∃ E : XK, L2N.Takes X (fun c d _ H' => E c d H') ∧ ∀ d H', Ex H0 H' → Wd d H' → E cls d H'
def WX1 (X : Cx) (H0 : Hp) (Γ : Ga) (st : Stmt) (D : Ks) : Prop := ∀ O σ H E, Sta X.K H0 H O σ Γ → EOk X.K H0 O H Γ D E → W1 X st E σ H
def WXs (X : Cx) (H0 : Hp) (Γ : Ga) (ss : List Stmt) (D : Ks) : Prop := ∀ O σ H E, Sta X.K H0 H O σ Γ → EOk X.K H0 O H Γ D E → Wn X ss E σ H
section
variable {X : Cx} {Γ : Ga} {D : Ks} {H0 : Hp} {e c : Expr} {es : List Expr} {st : Stmt} {ss ts : List Stmt} {s : Sem} {pos : Pos} {cls : Value} {Wd : WdT}
theorem wx_of (h : WS X Γ ss D) : WXs X H0 Γ ss D := fun O σ H E S eo => h H0 O σ H E S eo
theorem wx1_of (h : WS1 X Γ st D) : WX1 X H0 Γ st D := fun O σ H E S eo => h H0 O σ H E S eo
theorem wx_cons (h : WX1 X H0 Γ st { D with nx := fun Γ' => WXs X H0 Γ' ss D }) : WXs X H0 Γ (st :: ss) D := fun O σ H E S eo => wSs (pss_cons ps_W pss_W) (h O σ H { E with nx := Wn X ss E } S
  ⟨fun σ' H' Γ' d s v => d O σ' H' E s (eo.up v), eo.bk, eo.ct, eo.rt, eo.rl⟩)
theorem wx_if {b : Bool} (hc : PB X (frz Γ) c b) (h1 : b = true → WXs X H0 Γ ss D) (h2 : b = false → WXs X H0 Γ ts D) : WX1 X H0 Γ (.If c ss ts pos) D := fun O σ H E S eo =>
  wS (ps_if pt_W pss_W pss_W) (hc σ H _ S.sl fun H1 x1 => by
    obtain ⟨S1, u1⟩ := S.ex x1
    cases b with
    | true => rw [if_pos rfl]; exact h1 rfl O σ H1 E S1 (eo.up u1)
    | false => rw [if_neg Bool.false_ne_true]; exact h2 rfl O σ H1 E S1 (eo.up u1))
theorem Sta.all {K : PySem.W.Frag} {H0 H H1 : Hp} {O : List Addr} {σ : St} {Γ : Ga} (S : Sta K H0 H O σ Γ) (x : Ex H H1) : Ex H0 H1 := (S.ent.trans cut_ex).trans x
/-- raise X() -/
theorem wx_raise0 {C : Addr} (lt : Lets X H0 (.ref C) Wd) (hc : X.calm = true) (pm : L2N.PMk X e (fun _ H Q => Q (.ref C) none H)) (hw : ∀ H', Wd none H') : WX1 X H0 Γ (.Raise (some e) none pos) D := fun O σ H E S eo => by
  obtain ⟨EX, tk, hE⟩ := lt
  exact wS (L2N.ps_raise hc tk pm) (hE _ _ (S.all Ex.rfl') (hw _))
/-- a call that raises, as a statement -/
theorem wx_call {C : List Sem → WdT → Prop} {k n : Nat} {x : Str} {ps : List Str} {p pos' : Pos} {ss : List Sem} (F : FnX X.prog X.w X.K X.mg X.base x k ps (spR C cls X.K)) (lt : Lets X H0 cls Wd) (hr : Room n X.A) (hn : k ≤ n) (hg : Gl X x) (ha : PXs X (frz Γ) (e :: es) ss) (hc : C ss Wd)
    (hdb : (x == ("__debug__" : Str)) = false := by decide) (he : starEach (e :: es) X.env = (false, eval e X.env) :: starEach es X.env := by rfl) (hpl : (backTo pos (starEach es X.env)).any (·.1) = false := by rfl) (hs : swapsWith (.Call (.Name x p) (e :: es) [] pos) none pos'.line X.env = pure false := by rfl) : WX1 X H0 Γ (.Expr (.Call (.Name x p) (e :: es) [] pos) pos') D := fun O σ H E S eo => by
  obtain ⟨EX, tk, hE⟩ := lt
  obtain ⟨f, fd, G, hm, hk, hb⟩ := F.ex
  refine wS (ps_expr (pe_callS G (hr.mono hn) hg hm hk hb (E := WE fun c d _ H' => EX c d H') (L2N.passAt tk) pa_W hdb he hpl) hs) (ha σ H _ S.sl fun vs H1 x1 h1 => ?_)
  exact ⟨ss, Wd, h1, hc, fun d H' x2 hw => hE d H' (S.all (x1.trans x2)) hw⟩
end
section
variable {P : Program} {w : World} {K : PySem.W.Frag} {mg : Str → Option Value} {base : Heap} {x qual : Str} {params : Arguments} {body : List Stmt} {scope : Scope} {f : Addr} {fd : FuncData}
/-- THE RULE for a def that raises -/
theorem fn_raise (F : FunD K x qual params body scope [] [] f fd) {N ps : List Str} (S : FnScope N ps scope) {C : List Sem → WdT → Prop} {cls : Value} {k : Nat} (hl : ∀ ss s, C ss s → ss.length = ps.length)
    (hb : ∀ (cdv : Value) (A : Around) (outer : List Env) (s : Shared) (H : Hp) (E : XK), Room k (A.deeper (envOfC qual scope s.heap.objs.size f cdv)) → ∀ ss Wd, C ss Wd →
      Lets (cxOf (L2N.CX P w) P w K mg base N qual scope f cdv A outer s H E) H cls Wd → WXs (cxOf (L2N.CX P w) P w K mg base N qual scope f cdv A outer s H E) H (ini N ss) body {}) : FnOk P w K mg base (L2N.CX P w) (k + 1) f fd ps (spR C cls K) := by
  refine F.ok S (fun vs H Q E ⟨ss, s, h1, h2, _⟩ => (SAll.len h1).trans (hl ss s h2)) (fun cdv A outer s H vs Q E hr h => ?_)
  obtain ⟨ss, Wd, h1, h2, h3⟩ := h
  refine ⟨_, pss_W, hb cdv A outer s H E hr ss Wd h2 ⟨E, L2N.takes_of rfl rfl rfl rfl, h3⟩ [] _ H _ (ini_sta h1) ⟨?_, ?_, ?_, ?_, ?_⟩⟩
  · intro _ _ _ d; exact d.elim
  · intro _ _ _ d; exact d.elim
  · intro _ _ _ d; exact d.elim
  · intro _ _ _ _ _ d; exact d.elim
  · intro _ _ _ _ _ d; exact d.elim
theorem fnx_mk (F : FunD K x qual params body scope [] [] f fd) {k : Nat} {ps : List Str} {sp : Sp} (G : FnOk P w K mg base (L2N.CX P w) k f fd ps sp) (hm : mg x = some (.ref f)) (hb : Binds K fd ps []) : FnX P w K mg base x k ps sp := ⟨f, fd, G, hm, F.kp, hb⟩
end
/-! ### try -/
theorem takes_no {X : Cx} : L2N.Takes X (fun _ _ _ _ => False) := fun _ _ ⟨_, _, _, _, _, _, _, _, _, _, _, _, _, _, _, _, w⟩ => w.elim
section
variable {X : Cx} {Γ : Ga} {D : Ks} {suite : List Stmt} {b₀ : Stmt} {cls cl : Value} {p p1 np pos pos' pos1 pos2 : Pos} {x y xn : Str} {k n i : Nat} {ps : List Str} {C : List Sem → WdT → Prop} {Wd : WdT} {s : Sem}
/-- try: f(y) / except X: suite, where f raises -/
theorem s_tryN (F : FnX X.prog X.w X.K X.mg X.base x k ps (spR C cls X.K)) (hr : Room n X.A) (hn : k ≤ n) (hs : X.stack = X.env :: X.outer) (hf : X.env.frame = some X.env.locals) (hgx : Gl X x) (hcl : Names X xn cl) (hexm : PySem.W.exmOne X.K cls cl = some true)
    (hΓ : (frz Γ)[i]? = some (some s)) (hc : C [s] Wd) (hN : X.N[i]? = some y) (hv : Vis X.env.scope y)
    (hsu : ∀ (a : Addr) (oe : Obj) (d : Option Addr) (pn : List (Addr × Obj)), L2N.Zn cls d oe → (∃ vs, oe.data = .fields vs) → WS (X.suite a ((a, oe) :: pn)) Γ (b₀ :: suite) D)
    (hdx : (x == ("__debug__" : Str)) = false := by decide) (hd : (y == ("__debug__" : Str)) = false := by decide) (hcd : (y == ("__classdict__" : Str)) = false := by decide)
    (he : starEach [.Name y p1] X.env = (false, eval (.Name y p1) X.env) :: starEach [] X.env := by rfl) (hpl : (backTo pos1 (starEach [] X.env)).any (·.1) = false := by rfl) (hsw : swapsWith (.Call (.Name x p) [.Name y p1] [] pos1) none pos2.line X.env = pure false := by rfl) :
    WS1 X Γ (.Try [.Expr (.Call (.Name x p) [.Name y p1] [] pos1) pos2] [.ExceptHandler (some (.Name xn np)) none (b₀ :: suite) pos'] [] [] pos) D := fun H0 O σ H E S eo => by
  obtain ⟨f, fd, G, hm, hk, hb⟩ := F.ex
  obtain ⟨v, hσ, hsv⟩ := S.sl.2 i s hΓ
  have ht := L2N.ps_try_many (X := X) (body := [.Expr (.Call (.Name x p) [.Name y p1] [] pos1) pos2]) (h₀ := .ExceptHandler (some (.Name xn np)) none (b₀ :: suite) pos') (hds := []) (pos := pos)
    (l := [(cl, fun a cls d => fun D σ H => ∀ oe pn, L2N.Zn cls d oe → (∃ vs, oe.data = .fields vs) → Wn (X.suite a ((a, oe) :: pn)) (b₀ :: suite) D σ H)])
    (Wout := fun _ _ _ _ => False) (tb := fun W => fun D σ H => tCallS (spR C cls X.K) (WE W) (tCons (tVar i) tNil) σ H fun _ H' => D.nx σ H') hs hf takes_no
    (fun W pn xe tk hp => pss_one (ps_expr (X := X.tr pn xe) (pe_callS (X := X.tr pn xe) G (hr.mono hn) hgx hm hk hb (E := WE W) (L2N.passAt tk) (pa_cons (pe_var (X := X.tr pn xe) hN hv hd hcd) pa_nil he) hdx he hpl) hsw))
    (.cons hcl (fun a oe cls d pn hz hfl => ⟨fun pins s0 σ H D I h => h oe pn hz hfl pins s0 I⟩) .nil)
  refine wS ht ?_
  refine ⟨v, hσ, [s], Wd, .cons hsv .nil, hc, fun d H' x2 hw => ⟨true, hexm, fun _ a ha oe pn hz hfl => ?_, fun z => by cases z⟩⟩
  obtain ⟨S1, u1⟩ := S.ex x2
  exact hsu a oe d pn hz hfl H0 O σ H' E S1 (eo.up u1)
end
end Dw
set_option Elab.async false
set_option linter.all false
set_option maxRecDepth 100000
set_option maxHeartbeats 2000000
/-! Within the suite of an except clause: a comprehension over range(n), calls of defs. -/
namespace L2
open PySem PySem.Spec PyProof.Rows L2H HotX
/-- an iterator whose end may be met while an exception is handled -/
structure TurnG (P : Program) (w : World) (K : PySem.W.Frag) (tg : Expr) (J : It) (fp : List Addr) (it : Addr) (tn : Nat → Heap → Prop) : Prop where
  mem : it ∈ fp
  obj : ∀ i h, tn i h → ∀ b ∈ fp, ∃ o, h.get? b = some o ∧ ∀ v, o.data ≠ .cell v
  keep : ∀ i h h', tn i h → (∀ b ∈ fp, ∀ o, h.get? b = some o → h'.get? b = some o) → tn i h'
  item : ∀ (X : Cx), X.prog = P → X.w = w → X.K = K → ∀ (i : Nat) (pins : List (Addr × Obj)) (s : Shared) (σ : St) (H : Hp) (E : Value → Shared → Prop), Inv X pins σ H s → (∀ b ∈ fp, FpOk X pins H b) → tn i s.heap → J.go i H →
    wpAny (model P w) X.A (pyNext (.ref it)) (fun r s1 => ∃ u, r = some u ∧
      wpAny (model P w) X.A (letOwnedTupleGo tg (.ref it) u) (fun _ s2 => ∃ x H', Inv X pins σ H' s2 ∧ RelV x u ∧ J.yld i H x H' ∧ tn (i + 1) s2.heap ∧ ∀ b ∈ fp, H' b = none) E s1) E s
  done : ∀ (X : Cx), X.prog = P → X.w = w → X.K = K → ∀ (i : Nat) (pins : List (Addr × Obj)) (s : Shared) (σ : St) (H : Hp) (E : Value → Shared → Prop), Inv X pins σ H s → (∀ b ∈ fp, FpOk X pins H b) → tn i s.heap → J.stop i H → (∃ x1, HotAt X.A x1 s.heap) →
    wpAny (model P w) X.A (pyNext (.ref it)) (fun r s1 => r = none ∧ Inv X pins σ H s1) E s
  self : ∀ (A : Around) (i : Nat) (s : Shared) (Q : Value → Shared → Prop) (E : Value → Shared → Prop), tn i s.heap → Q (.ref it) s → wpAny (model P w) A (pyIter (.ref it)) Q E s
theorem turnG_range {P : Program} {w : World} {K : PySem.W.Frag} {tg : Expr} (it : Addr) (lo : Int) (n : Nat) : TurnG P w K tg (Itr lo n) [it] it (fun i h => IsRangeIter h it (lo + (i : Nat) * 1) ((n : Int) - (i : Nat)) 1) where
  mem := by simp
  obj := (turn_rangeH (P := P) (w := w) (K := K) (tg := tg) it lo n).obj
  keep := (turn_rangeH (P := P) (w := w) (K := K) (tg := tg) it lo n).keep
  self := (turn_rangeH (P := P) (w := w) (K := K) (tg := tg) it lo n).self
  item := by
    intro X hP hw hK i pins s σ H E I hf st hg
    subst hP hw hK
    obtain ⟨f0, f1, f2, f3, f4, f5⟩ := hf it (by simp)
    have hlt : i < n := hg
    refine wpAny_pyNext_range_item st (by omega) fun h' st' sb => ?_
    have st2 : IsRangeIter h' it (lo + ((i + 1 : Nat) : Int) * 1) ((n : Int) - ((i + 1 : Nat) : Int)) 1 := by
      have e1 : lo + ((i : Nat) : Int) * 1 + 1 = lo + ((i + 1 : Nat) : Int) * 1 := by omega
      have e2 : (n : Int) - ((i : Nat) : Int) - 1 = (n : Int) - ((i + 1 : Nat) : Int) := by omega
      rw [← e1, ← e2]
      exact st'
    have I1 : Inv X pins σ H { s with heap := h', toks := s.toks + 1 } := I.turned (fun b o hb e => (sb.2 b hb).trans e) f0 f1 f3 f4 f5
    refine ⟨_, rfl, go_of (s := { s with heap := h', toks := s.toks + 1 }) (n := "range_iterator") st2 rfl rfl (by decide) ⟨.int (lo + i), H, I1, ⟨s.toks, ?_⟩, ⟨rfl, rfl⟩, st2, fun b hb => (hf b hb).1⟩⟩
    rw [Int.mul_one]
  done := by
    intro X hP hw hK i pins s σ H E I hf st hg hot
    subst hP hw hK
    obtain ⟨f0, f1, f2, f3, f4, f5⟩ := hf it (by simp)
    obtain ⟨x1, hot⟩ := hot
    exact pyNext_range_end_hot hot st (by have : n ≤ i := hg; omega) fun h' eb => ⟨rfl, I.turned (t' := s.toks) (fun b o _ e => eb b o e) f0 f1 f3 f4 f5⟩
def PIEG (X : Cx) (pins : List (Addr × Obj)) (σ : St) (tg : Expr) (R : It → Hp → Prop) (itv : Value) (s2 : Shared) : Prop :=
  ∃ (it : Addr) (fp : List Addr) (tn : Nat → Heap → Prop) (J : It) (H' : Hp), itv = .ref it ∧ Inv X pins σ H' s2 ∧ TurnG X.prog X.w X.K tg J fp it tn ∧ tn 0 s2.heap ∧ (∀ b ∈ fp, FpOk X pins H' b) ∧ R J H'
structure PIG (X : Cx) (tg iter : Expr) (wi : TI) : Prop where
  run : ∀ (pins : List (Addr × Obj)) (s : Shared) (σ : St) (H : Hp) (R : It → Hp → Prop), Inv X pins σ H s → wi σ H R →
    wpAny (model X.prog X.w) X.A (eval iter X.env) (fun v s1 => wpAny (model X.prog X.w) X.A (pyIter v) (PIEG X pins σ tg R) X.xe s1) X.xe s
section
variable {X : Cx} {tg : Expr}
theorem range_itG {pins : List (Addr × Obj)} {σ : St} {H : Hp} {s : Shared} {R : It → Hp → Prop} {E : Value → Shared → Prop} {lo hi : Int} {t u v : Tok} {tk : Nat} (I : Inv X pins σ H s) (h1 : -(2 ^ 62) ≤ lo) (h2 : lo < 2 ^ 62) (h3 : -(2 ^ 62) ≤ hi) (h4 : hi < 2 ^ 62)
    (q : R (Itr lo (hi - lo).toNat) H) : wpAny (model X.prog X.w) X.A (pyIter (.ref s.heap.objs.size)) (PIEG X pins σ tg R) E { s with heap := s.heap.push { cls := .type "range", data := .fields #[.int lo t, .int hi u, .int 1 v] }, toks := tk } := by
  refine wpAny_pyIter_range (IsRange.new ..) (small_one h1 h2 h3 h4) ?_
  have I1 : Inv X pins σ H { s with heap := s.heap.push { cls := .type "range", data := .fields #[.int lo t, .int hi u, .int 1 v] }, toks := tk } := I.kept fun b o e => Heap.get?_push_of_some _ e
  refine ⟨(s.heap.push { cls := .type "range", data := .fields #[.int lo t, .int hi u, .int 1 v] }).objs.size, [(s.heap.push { cls := .type "range", data := .fields #[.int lo t, .int hi u, .int 1 v] }).objs.size], _, _, H, rfl,
    I1.kept (t' := tk) fun b o e => Heap.get?_push_of_some _ e, turnG_range _ lo (hi - lo).toNat, ?_, fun b hb => ?_, q⟩
  · have e1 : lo + ((0 : Nat) : Int) * 1 = lo := by simp
    have e2 : (((hi - lo).toNat : Nat) : Int) - ((0 : Nat) : Int) = Builtin.Range.rangeSize lo hi 1 := by rw [rangeSize_one]; split <;> omega
    show IsRangeIter _ _ (lo + ((0 : Nat) : Int) * 1) ((((hi - lo).toNat : Nat) : Int) - ((0 : Nat) : Int)) 1
    rw [e1, e2]
    exact Heap.get?_push_size _ rfl
  · have e : b = (s.heap.push { cls := .type "range", data := .fields #[.int lo t, .int hi u, .int 1 v] }).objs.size := by simpa using hb
    subst e
    exact I1.fpOk (Nat.le_refl _) (I1.hok.fresh (Nat.le_refl _))
theorem pi_range1G {a : Expr} {ta : TA} {p pos : Pos} (hg : Gl X "range") (hm : X.mg "range" = none) (ha : PA X [a] ta) (hs : starEach [a] X.env = [(false, eval a X.env)] := by rfl) : PIG X tg (.Call (.Name "range" p) [a] [] pos) (iRng1 ta) := by
  refine ⟨fun pins s σ H R I h => ?_⟩
  refine Call_ (ld_blt I hg hm boot_range (PyProof.Rows.callWith_type1 (thn (ha.run pos pins s σ H _ I h) fun us s1 ⟨vs, H1, I1, r1, q1⟩ => ?_) hs rfl))
  obtain ⟨j, e, q1, q2, q⟩ := q1
  subst e
  cases r1 with
  | cons r rr =>
    cases rr
    obtain ⟨t, rfl⟩ := r
    exact call_range_1 (range_itG I1 (by omega) (by omega) q1 q2 (by simpa using q))
/-- the handled exception is seen from within the block -/
theorem hotB {pins : List (Addr × Obj)} {σ σ' : St} {H3 H5 : Hp} {s3 s5 : Shared} {scope : Scope} {ce : Env} {fp : List Addr} (I3 : Inv X pins σ H3 s3) (hc : HotC X) (hf : ∀ b ∈ fp, FpOk X pins H3 b) (I5 : Inv (X.blk s3 H3 scope ce fp) [] σ' H5 s5) : ∃ x1, HotAt (X.blk s3 H3 scope ce fp).A x1 s5.heap := by
  obtain ⟨p, ⟨hh, v1, e1, c1⟩, hp⟩ := hc
  obtain ⟨g, n, nl, nf, _⟩ := I3.pin p (List.mem_append_left _ hp)
  have nfp : p.1 ∉ fp := fun hb => (hf _ hb).2.2.2.2.2 p (List.mem_append_left _ hp) rfl
  have nst : p.1 ∉ frs X.stack := by
    rcases I3.ok.stk with e | ⟨e, ef⟩
    · rw [e]; exact nf
    · rw [e]
      intro hm
      obtain ⟨en, hen, q⟩ := List.mem_filterMap.mp hm
      rcases List.mem_cons.mp hen with z | z
      · subst z
        rw [ef] at q
        exact nl (Option.some.inj q).symm
      · exact nf (List.mem_filterMap.mpr ⟨en, z, q⟩)
  exact ⟨p.1, hh, p.2, v1, I5.base.keep p.1 p.2 g n nst nfp, e1, c1⟩
theorem lcH_core {pins : List (Addr × Obj)} {s : Shared} {σ : St} {H : Hp} {Q : VK} {elt tg iter : Expr} {ifs : List Expr} {scope : Scope} {own : List (Str × Nat)} {pos pos' : Pos} {wi : TI} {g : TG} {tt : TT} {te : TE} {use : Option (Value → Sem Unit)} {Qf : Value → Shared → Prop}
    (hc : HotC X) (hN : X.N.Nodup) (I : Inv X pins σ H s) (hi : PIG X tg iter wi) (ok : BlkOk X.N X.env.scope scope own)
    (hg : ∀ (s : Shared) (H : Hp) (C : Addr) (cl : List (Str × Addr)) (fp : List Addr), PG (X.blk s H scope (compEnvC scope cl C X.env) fp) tg g) (ht : ∀ (s : Shared) (H : Hp) (C : Addr) (cl : List (Str × Addr)) (fp : List Addr), PTs (X.blk s H scope (compEnvC scope cl C X.env) fp) ifs tt)
    (he : ∀ (s : Shared) (H : Hp) (C : Addr) (cl : List (Str × Addr)) (fp : List Addr), PE (X.blk s H scope (compEnvC scope cl C X.env) fp) elt te) (hs : ∀ x, foldedSetIterable iter X.env x = pure x)
    (h : tLc wi g tt te (own.map (·.2)) σ H Q)
    (hRR : ∀ D C s' m H', Inv X pins σ H' s' → Q (.ref D) H' → s'.heap.Ns C m → FpOk X pins H' C → compPost (model X.prog X.w) X.A X.xe use Qf (.ref D) C (.ok .next) s') :
    wpAny (model X.prog X.w) X.A (comprehension (.ListComp elt [⟨tg, iter, ifs, 0⟩] scope pos) scope X.env pos' (newList []) false (eval iter X.env) use) Qf X.xe s := by
  have hfree : ∀ y ∈ scope.names, y.2 = .free → ∃ c, X.env.cells.lookup y.1 = some c := fun y hy e => by
    rcases ok.free y hy e with k | k
    · exact I.ok.has _ (.inl k)
    · exact I.ok.has _ (.inr k)
  refine wpAny_comprehension_free (use := use) rfl hs (closure_ok hfree) ok.kind (fun y hy e => by rw [ok.uniq y hy, e])
    (thn (hi.run pins s σ H _ I h) fun xv s1 hx => thn hx fun itv s2 h2 => ?_)
  obtain ⟨it, fp, tn, J, H2, e, I2, T, st2, f2, q⟩ := h2
  subst e
  refine wpAny_newObj_type (newEnv_comp ?_) (by show 0 ≤ sizeLine; decide)
  generalize hD : s2.heap.objs.size = D
  have hDn : H2 D = none := I2.hok.fresh (Nat.le_of_eq hD)
  obtain ⟨W, ⟨m0, w0⟩, turn⟩ := q D hDn
  -- the new list
  generalize hs3 : ({ s2 with heap := s2.heap.push { cls := .type "list", data := .seq ([] : List Value).toArray } } : Shared) = s3
  have I3 : Inv X pins σ (upd H2 D (.lst [])) s3 := by
    rw [← hs3]
    refine I2.laid (t' := s2.toks) (fun b o e => Heap.get?_push_of_some _ e) (Nat.le_of_eq hD) ⟨Nat.zero_le _, [], 0, .nil, ?_⟩
    rw [← hD]
    exact Heap.get?_push_size _ rfl
  have h3 : s3.heap = s2.heap.push { cls := .type "list", data := .seq ([] : List Value).toArray } := by rw [← hs3]
  have sz : ∀ b ∈ fp, b < s2.heap.objs.size := fun b hb => by
    obtain ⟨o, e, _⟩ := T.obj _ _ st2 b hb
    exact Heap.lt_size e
  have f3 : ∀ b ∈ fp, FpOk X pins (upd H2 D (.lst [])) b ∧ b < s3.heap.objs.size := fun b hb => by
    have hlt := sz b hb
    refine ⟨⟨?_, (f2 b hb).2⟩, by rw [h3, Heap.size_push]; exact Nat.lt_succ_of_lt hlt⟩
    rw [upd_ne (by rw [← hD]; exact Nat.ne_of_lt hlt)]
    exact (f2 b hb).1
  have st3 : tn 0 s3.heap := T.keep _ _ _ st2 fun b _ o e => by rw [h3]; exact Heap.get?_push_of_some _ e
  have I4 := block_start I3 ok hN f3
  have pg := hg s3 (upd H2 D (.lst [])) s3.heap.objs.size (cellsFrom (s3.heap.objs.size + 1) scope.names (cloFrom X.env.cells scope.names [])) fp
  have pt := ht s3 (upd H2 D (.lst [])) s3.heap.objs.size (cellsFrom (s3.heap.objs.size + 1) scope.names (cloFrom X.env.cells scope.names [])) fp
  have pe := he s3 (upd H2 D (.lst [])) s3.heap.objs.size (cellsFrom (s3.heap.objs.size + 1) scope.names (cloFrom X.env.cells scope.names [])) fp
  show codeAny _ _ (.compStart (.ListComp elt [⟨tg, iter, ifs, 0⟩] scope pos) 0 (.ref it) (.ref D) (compEnvC scope (cellsFrom (s3.heap.objs.size + 1) scope.names (cloFrom X.env.cells scope.names [])) s3.heap.objs.size X.env)) (compPost (model X.prog X.w) X.A X.xe use Qf (.ref D) s3.heap.objs.size) { s3 with heap := pushCells (s3.heap.push { cls := .type "dict", data := .dict #[] }) scope.names }
  have nfp : ∀ b ∈ fp, (upd H2 D (.lst [])) b = none := fun b hb => (f3 b hb).1.1
  generalize hce : compEnvC scope (cellsFrom (s3.heap.objs.size + 1) scope.names (cloFrom X.env.cells scope.names [])) s3.heap.objs.size X.env = ce at I4 pg pt pe ⊢
  have cL : ce.locals = s3.heap.objs.size := by subst hce; rfl
  generalize hH3 : upd H2 D (.lst []) = H3 at I3 I4 pg pt pe w0 nfp f3
  generalize hs4 : ({ s3 with heap := pushCells (s3.heap.push { cls := .type "dict", data := .dict #[] }) scope.names } : Shared) = s4 at I4 ⊢
  have st4 : tn 0 s4.heap := T.keep _ _ _ st3 fun b _ o e => by rw [← hs4]; exact pushCells_keeps _ _ _ _ (Heap.get?_push_of_some _ e)
  have stat : ∀ {σ' : St} {H' : Hp} {s' : Shared}, Inv (X.blk s3 H3 scope ce fp) [] σ' H' s' → (∀ b ∈ fp, H' b = none) → ∀ b ∈ fp, FpOk (X.blk s3 H3 scope ce fp) [] H' b := fun {σ' H' s'} I' hn b hb =>
    ⟨hn b hb, (I'.ok.exf b hb).1, I'.ok.exfs b hb, .inl hb, fun x c e => (I'.ok.exf b hb).2 x c e, fun p hp => absurd (show p ∈ ([] : List (Addr × Obj)) ++ [] from hp) (by simp)⟩
  have loop : codeAny (model X.prog X.w) X.A (.compLoop (.ListComp elt [⟨tg, iter, ifs, 0⟩] scope pos) 0 (.ref it) (.ref D) ce) (compPost (model X.prog X.w) X.A X.xe use Qf (.ref D) s3.heap.objs.size) s4 := by
    refine compLoop_any (fun n s' => ∃ i H', Inv (X.blk s3 H3 scope ce fp) [] (wipe σ (own.map (·.2))) H' s' ∧ tn i s'.heap ∧ (∀ b ∈ fp, H' b = none) ∧ W i n H') ?_ m0 ⟨0, H3, I4, st4, nfp, w0⟩
    rintro n s5 ⟨i, H5, I5, st5, n5, w5⟩
    rcases turn i n H5 w5 with ⟨stop, qq⟩ | ⟨go, Nx, hNx, step⟩
    · have td := T.done (X.blk s3 H3 scope ce fp) rfl rfl rfl i [] s5 _ H5 (fun _ _ => False) I5 (stat I5 n5) st5 stop (hotB I3 hc (fun b hb => (f3 b hb).1) I5)
      refine thnF td fun r s6 ⟨hr, I6⟩ => ?_
      subst hr
      -- back in the def's context
      have I7 : Inv X pins σ H5 s6 := I3.call' (ch := fp) I6.os I6.base I6.hok I6.bare fun b hb => ⟨(f3 b hb).1.2.2.2.1, (f3 b hb).1.2.1, (f3 b hb).1.2.2.2.2.1, (f3 b hb).1.2.2.2.2.2⟩
      have nC : H5 s3.heap.objs.size = none := by
        have z : H5 ce.locals = none := I6.free
        rw [cL] at z
        exact z
      obtain ⟨m, hn, _⟩ := I6.loc
      have hn : s6.heap.Ns ce.locals m := hn
      rw [cL] at hn
      exact hRR D s3.heap.objs.size s6 m H5 I7 qq hn (I3.fpOk (Nat.le_refl _) nC)
    · have ti := T.item (X.blk s3 H3 scope ce fp) rfl rfl rfl i [] s5 _ H5 (fun _ _ => False) I5 (stat I5 n5) st5 go
      refine thnF ti fun r s6 ⟨u, hr, h6⟩ => ?_
      subst hr
      refine thnF h6 fun _ s7 ⟨x, H7, I7, r7, y7, st7, n7⟩ => ?_
      have I7' := I7.pinned (stat I7 n7) (T.obj _ _ st7)
      refine thnF (pg.run _ s7 _ H7 x u _ I7' r7 (step x H7 y7)) fun _ s8 ⟨σ8, H8, I8, hw8, q8⟩ => ?_
      refine thnF (pt.run _ s8 σ8 H8 _ I8 q8) fun b s9 ⟨H9, I9, q9⟩ => ?_
      -- the turn's end
      have fin : ∀ {s' : Shared} {H' : Hp}, Inv (X.blk s3 H3 scope ce fp) ([] ++ pinsAt fp s7.heap) σ8 H' s' → Nx H' → ∃ m, m < n ∧ ∃ i H', Inv (X.blk s3 H3 scope ce fp) [] (wipe σ (own.map (·.2))) H' s' ∧ tn i s'.heap ∧ (∀ b ∈ fp, H' b = none) ∧ W i m H' := fun {s' H'} I' nx => by
        obtain ⟨m', hm, w'⟩ := hNx H' nx
        have pin' : ∀ b ∈ fp, ∀ o, s7.heap.get? b = some o → s'.heap.get? b = some o ∧ H' b = none := fun b hb o e =>
          let z := I'.pin (b, o) (List.mem_append_right _ (List.mem_append_right _ (mem_pinsAt hb e)))
          ⟨z.1, z.2.1⟩
        have hl : (wipe σ (own.map (·.2))).length = σ8.length := by rw [← hw8, wipe_length]
        refine ⟨m', hm, i + 1, H', (I'.unpinned (pins := [])).weak hl (fun j v e => ?_), T.keep _ _ _ st7 fun b hb o e => (pin' b hb o e).1, fun b hb => ?_, w'⟩
        · rw [← hw8] at e
          exact (wipe_some e).1
        · obtain ⟨o, e, _⟩ := T.obj _ _ st7 b hb
          exact (pin' b hb o e).2
      cases b with
      | false =>
        simp only [Bool.false_eq_true, if_false] at q9 ⊢
        exact fin I9 q9
      | true =>
        simp only [if_true] at q9 ⊢
        refine thnF (pe.run _ s9 σ8 H9 _ I9 q9) fun z s10 ⟨yv, H10, I10, r10, acc, hD10, hz10, nx⟩ => ?_
        exact app_ok (X := X.blk s3 H3 scope ce fp) I10 hD10 hz10 r10 fun s11 I11 => fin I11 nx
  exact codeAny_compStart_list loop (T.self X.A 0 _ _ _ st4 loop)
/-- as a value -/
theorem pe_lcH {elt tg iter : Expr} {ifs : List Expr} {scope : Scope} {own : List (Str × Nat)} {pos : Pos} {wi : TI} {g : TG} {tt : TT} {te : TE} (hc : HotC X) (hN : X.N.Nodup) (hi : PIG X tg iter wi) (ok : BlkOk X.N X.env.scope scope own)
    (hg : ∀ (s : Shared) (H : Hp) (C : Addr) (cl : List (Str × Addr)) (fp : List Addr), PG (X.blk s H scope (compEnvC scope cl C X.env) fp) tg g) (ht : ∀ (s : Shared) (H : Hp) (C : Addr) (cl : List (Str × Addr)) (fp : List Addr), PTs (X.blk s H scope (compEnvC scope cl C X.env) fp) ifs tt)
    (he : ∀ (s : Shared) (H : Hp) (C : Addr) (cl : List (Str × Addr)) (fp : List Addr), PE (X.blk s H scope (compEnvC scope cl C X.env) fp) elt te) (hs : ∀ x, foldedSetIterable iter X.env x = pure x := by intro _; rfl) :
    PE X (.ListComp elt [⟨tg, iter, ifs, 0⟩] scope pos) (tLc wi g tt te (own.map (·.2))) := by
  refine ⟨fun pins s σ H Q I h => ?_⟩
  rw [eval_ListComp]
  refine lcH_core hc hN I hi ok hg ht he hs h fun D C s' m H' I' q hn f => ⟨m, hn, fun h'' sb => ?_⟩
  obtain ⟨f0, f1, f2, f3, f4, f5⟩ := f
  exact ⟨.ref D, H', I'.turned (t' := s'.toks) (fun b o hb e => (sb.2 b hb).trans e) f0 f1 f3 f4 f5, rfl, q⟩
end
end L2
namespace Dw
open PySem PySem.Spec PyProof.Rows L2 L2H HotX
/-! ### a comprehension over range(n) -/
def PItG (X : Cx) (Γ : Sv) (tg iter : Expr) {α : Type} (L : List α) (item : α → Sem) : Prop := ∃ wi, PIG X tg iter wi ∧ ∀ σ H R, Sl X.K H σ Γ → (∀ J H1 n G Y, Ex H H1 → n = L.length → Walk J n G Y → (∀ H2, Ex H1 H2 → G H2) →
  (∀ (i : Nat) (a : α) H2 x H3, L[i]? = some a → Ex H1 H2 → Y i H2 x H3 → Ex H2 H3 ∧ (item a).P X.K H3 x) → R J H1) → wi σ H R
theorem pit_rangeG {X : Cx} {Γ : Sv} {tg a : Expr} {p pos : Pos} {n : Nat} (hm : X.mg "range" = none) (ha : PX X Γ a (dt (.int (n : Int)))) (hn : n ≤ 100000) (hg : Gl X "range" := by rfl) (hs : starEach [a] X.env = [(false, eval a X.env)] := by rfl) : PItG X Γ tg (.Call (.Name "range" p) [a] [] pos) (List.range n) (fun i => dt (.int (i : Nat))) := by
  refine ⟨_, pi_range1G hg hm pa_W hs, fun σ H R S q => pxs_cons ha pxs_nil hs σ H _ S fun vs H1 x1 h1 => ?_⟩
  cases h1 with
  | cons h1 h2 =>
    cases h2
    rw [Dp.int_ h1]
    refine ⟨(n : Int), rfl, by omega, by omega, ?_⟩
    have its : SAll X.K H1 ((List.range n).map fun i => V.int (0 + (i : Nat))) ((List.range n).map fun i => dt (.int (i : Nat))) := by
      have := SAll.ints (K := X.K) (H := H1) (f := fun i : Nat => (i : Int)) (List.range n)
      simpa using this
    have := q (Itr 0 n) H1 _ (fun _ => True) _ x1 its.lenL walk_rangeAt (fun _ _ => trivial) (at_yldP its)
    simpa using this
section
variable {X : Cx} {Γ : Sv} {pos : Pos} {α : Type}
theorem pxl_lcH {L : List α} {item : α → Sem} {test : α → Bool} {val : α → PyData} {bnd : α → Sv} {g : TG} {elt tg iter : Expr} {ifs : List Expr} {scope : Scope} {own : List (Str × Nat)} {tt : TT}
    (hc : HotC X) (hN : X.N.Nodup) (hi : PItG X Γ tg iter L item) (ok : BlkOk X.N X.env.scope scope own) (hg : Blk X scope fun Y => PG Y tg g) (hifs : Ifs X scope ifs tt) (hb : ∀ a ∈ L, GP X.K g (own.map (·.2)) (item a) (wipeE Γ (own.map (·.2))) (bnd a))
    (ht : ∀ a ∈ L, ifsOk X scope ifs (bnd a) (test a)) (he : ∀ a ∈ L, test a = true → Blk X scope fun Y => PX Y (bnd a) elt (dt (val a))) (hv : ∀ a ∈ L, test a = true → tupd (val a) = true) (hl : L.length < 100000)
    (hs : ∀ x, foldedSetIterable iter X.env x = pure x := by intro _; rfl) : PXL X Γ (.ListComp elt [⟨tg, iter, ifs, 0⟩] scope pos) ((L.filter test).map val) := by
  obtain ⟨wi, pi, ri⟩ := hi
  have pts : Blk X scope fun Y => PTs Y ifs tt := fun s H C cl fp => by
    cases hifs with
    | nil => exact pts_nil
    | one => exact pts_one ⟨fun pins s1 σ H1 Q I h => h s H C cl fp pins s1 I⟩
  refine pxl_of (pe_lcH (te := fun σ H Q => ∀ (s : Shared) (H' : Hp) (C : Addr) (cl : List (Str × Addr)) (fp : List Addr), W (X.blk s H' scope (compEnvC scope cl C X.env) fp) elt σ H Q) hc hN pi ok hg pts (fun s H C cl fp => ⟨fun pins s1 σ H1 Q I h => h s H C cl fp pins s1 I⟩) hs) fun σ H Q sl q => ri σ H _ sl fun J H1 n G Y x1 hlen wk per its => ?_
  intro Dl hD
  have ftk : ∀ n, tupds (((L.take n).filter test).map val) = true := fun n => tupds_iff.mpr fun d h => by
    obtain ⟨a, ha, rfl⟩ := List.mem_map.mp h
    have := List.mem_filter.mp ha
    exact hv a (List.mem_of_mem_take this.1) this.2
  have lent : ∀ n, (((L.take n).filter test).map val).length ≤ L.length := fun n => by
    rw [List.length_map]
    refine Nat.le_trans (List.length_filter_le _ _) ?_
    rw [List.length_take]
    omega
  have kt : ∀ {H2 : Hp} {acc acc' : List V}, H2 Dl = some (.lst acc) → ∀ a xs, SqT X.K H2 a xs → SqT X.K (upd H2 Dl (.lst acc')) a xs := fun {H2 acc acc'} h a xs z => by
    rcases z with z | z
    · refine .inl ?_
      have n : a ≠ Dl := fun e => by
        subst e
        rcases z with z | ⟨o, z⟩ <;> (rw [h] at z; cases z)
      rcases z with z | ⟨o, z⟩
      · exact .inl (by rw [upd_ne n]; exact z)
      · exact .inr ⟨o, by rw [upd_ne n]; exact z⟩
    · exact .inr z
  refine lc_it (g := g) (tt := tt) (te := (fun σ H Q => ∀ (s : Shared) (H' : Hp) (C : Addr) (cl : List (Str × Addr)) (fp : List Addr), W (X.blk s H' scope (compEnvC scope cl C X.env) fp) elt σ H Q)) (vs := own.map (·.2)) (σ := σ) wk (fun i H' => Ex H1 H' ∧ ∃ acc, H' Dl = some (.lst acc) ∧ DpAll X.K H' acc (((L.take i).filter test).map val)) ⟨Evl.Ex.new hD, [], upd_same, by simp; exact .nil⟩ (fun i H' _ p => per H' p.1) (fun i x H' H'' hi p y => ?_) (fun H' ⟨e, acc, h1, h2⟩ => q Dl H' acc (Evl.fresh_back x1 hD) (x1.trans e) h1 (by rw [hlen, List.take_length] at h2; exact h2))
  obtain ⟨e1, acc, h1, h2⟩ := p
  have hi' : i < L.length := hlen ▸ hi
  obtain ⟨f0, f2⟩ := its i L[i] H' x H'' (List.getElem?_eq_getElem hi') e1 y
  replace e1 := e1.trans f0
  replace h2 := DpAll.mono f0 h2
  replace h1 := f0 Dl _ h1
  have mem : L[i] ∈ L := List.getElem_mem hi'
  have tk : L.take (i + 1) = L.take i ++ [L[i]] := by rw [List.take_add_one, List.getElem?_eq_getElem hi']; rfl
  have slw : Sl X.K H'' (L2.wipe σ (own.map (·.2))) (wipeE Γ (own.map (·.2))) := (sl.mono (x1.trans e1)).wipe _
  refine hb L[i] mem x H'' _ _ slw f2 fun σ2 w2 sl2 => ⟨by rw [w2, wipe_wipe], ?_⟩
  -- the test
  have tst : ∀ (Q' : Bool → Hp → Prop), (∀ H3, Ex H'' H3 → Q' (test L[i]) H3) → tt σ2 H'' Q' := fun Q' q' => by
    have t0 := ht L[i] mem
    cases hifs with
    | nil =>
      have t1 : test L[i] = true := t0
      have := q' H'' Ex.rfl'
      rw [t1] at this
      exact this
    | one => exact fun s H' C cl fp => t0 s H' C cl fp σ2 H'' Q' sl2 q'
  refine tst _ fun H3 e3 => ?_
  have a3 := e3 Dl _ h1
  have d3 := DpAll.mono e3 h2
  cases q3 : test L[i] with
  | false =>
    rw [if_neg Bool.false_ne_true]
    refine ⟨e1.trans e3, acc, a3, ?_⟩
    rw [tk, List.filter_append, List.filter_cons, q3, if_neg Bool.false_ne_true]
    simpa using d3
  | true =>
    rw [if_pos rfl]
    intro s H' C cl fp
    refine he L[i] mem q3 s H' C cl fp σ2 H3 _ (sl2.mono e3) fun y H4 e4 h4 => ?_
    have a4 := e4 Dl _ a3
    have d4 := DpAll.mono e4 d3
    have ln : acc.length < 100000 := by
      rw [DpAll.len h2]
      exact Nat.lt_of_le_of_lt (lent i) hl
    refine ⟨acc, a4, Evl.sz_lt ln, Evl.Ex.mut ((e1.trans e3).trans e4) hD, acc ++ [y], upd_same, ?_⟩
    have ex : ((L.take (i + 1)).filter test).map val = ((L.take i).filter test).map val ++ [val L[i]] := by
      rw [tk, List.filter_append, List.filter_cons, q3, if_pos rfl]
      simp
    rw [ex]
    exact DpAll.tk (kt a4) (by rw [← ex]; exact ftk (i + 1)) (d4.app (.cons h4 .nil))
end
/-! ### calls of defs that give one thing -/
structure FnP (P : Program) (w : World) (K : PySem.W.Frag) (mg : Str → Option Value) (base : Heap) (x : Str) (k : Nat) (ps : List Str) (sp : Sp) : Prop where
  ex : ∃ f fd, FnH P w K mg base CX0 k f fd ps sp ∧ mg x = some (.ref f) ∧ PySem.W.keepIn K (.ref f) = true ∧ Binds K fd ps []
theorem px_callH {X : Cx} {Γ : Sv} {e : Expr} {es : List Expr} {x : Str} {k n : Nat} {ps : List Str} {p pos : Pos} {ss : List Sem} {s : Sem} {C : List Sem → Sem → Prop} (F : FnP X.prog X.w X.K X.mg X.base x k ps (spP C X.K)) (hr : RoomH n X.A) (hc0 : HotC X) (hn : k ≤ n) (ha : PXs X Γ (e :: es) ss) (hc : C ss s) (hg : Gl X x := by rfl) (hdb : (x == ("__debug__" : Str)) = false := by decide)
    (he : starEach (e :: es) X.env = (false, eval e X.env) :: starEach es X.env := by rfl) (hpl : (backTo pos (starEach es X.env)).any (·.1) = false := by rfl) : PX X Γ (.Call (.Name x p) (e :: es) [] pos) s := by
  obtain ⟨f, fd, G, hm, hk, hb⟩ := F.ex
  refine px_of (pe_callH G (hr.mono hn) hc0 hg hm hk hb (E := fun _ => E0) (fun σ pins H s e s' I z => z.elim) pa_W hdb he hpl) fun σ H Q z q => ha σ H _ z fun vs H1 x1 h1 => ?_
  exact ⟨ss, s, h1, hc, fun v H2 x2 h2 => q v H2 (x1.trans x2) h2⟩
section
variable {P : Program} {w : World} {K : PySem.W.Frag} {mg : Str → Option Value} {base : Heap} {x qual : Str} {params : Arguments} {body : List Stmt} {scope : Scope} {f : Addr} {fd : FuncData}
theorem fn_pureH (F : FunD K x qual params body scope [] [] f fd) {N ps : List Str} (S : FnScope N ps scope) {C : List Sem → Sem → Prop} {k : Nat} (hl : ∀ ss s, C ss s → ss.length = ps.length)
    (hb : ∀ (cdv : Value) (A : Around) (outer : List Env) (s : Shared) (H : Hp) (E : XK) (p : Addr × Obj), RoomH k (A.deeper (envOfC qual scope s.heap.objs.size f cdv)) → ∀ ss r, C ss r →
      WS (cxH CX0 P w K mg base N qual scope f cdv A outer s H E p).nox (ini N ss) body { nx := fun _ => r = dt .none, rt := fun s' _ => s' = r }) : FnH P w K mg base CX0 (k + 1) f fd ps (spP C K) := by
  obtain ⟨oc, od, dV, kV, doc, pm, an, cdv, ct, osl, rfl, lk, hcd, _, _⟩ := F.ex
  refine fn_ofH lk hcd S (fun vs H Q E ⟨ss, s, h1, h2, _⟩ => (SAll.len h1).trans (hl ss s h2)) (fun A outer s H vs Q E p hot hr h => ?_)
  obtain ⟨ss, r, h1, h2, h3⟩ := h
  refine ⟨_, PSs.nox pss_W, hb cdv A outer s H E p hr ss r h2 H [] _ H _ (ini_sta h1) ⟨?_, ?_, ?_, ?_, ?_⟩⟩
  · rintro σ' H' Γ' rfl S' u
    exact h3 .non H' (ret_ex S') Dp.non
  · intro _ _ _ d; exact d.elim
  · intro _ _ _ d; exact d.elim
  · rintro v σ' H' Γ' t rfl S' u pv
    exact h3 v H' (ret_ex S') (Sem.up _ cut_ex pv)
  · intro _ _ _ _ _ d; exact d.elim
theorem fnp_mk (F : FunD K x qual params body scope [] [] f fd) {k : Nat} {ps : List Str} {sp : Sp} (G : FnH P w K mg base CX0 k f fd ps sp) (hm : mg x = some (.ref f)) (hb : Binds K fd ps []) : FnP P w K mg base x k ps sp := ⟨f, fd, G, hm, F.kp, hb⟩
end
theorem hotc_suite {X : Cx} {a : Addr} {oe : Obj} {cls : Value} {d : Option Addr} {pn : List (Addr × Obj)} (hz : L2N.Zn cls d oe) (hf : ∃ vs, oe.data = .fields vs) : HotC (X.suite a ((a, oe) :: pn)) := by
  obtain ⟨vs, e⟩ := hf
  exact ⟨(a, oe), ⟨rfl, vs, e, hz.2.2 vs e⟩, List.mem_cons_self⟩
/-! ### except X as n -/
/-- the caught exception, its field f -/
def xcS (a : Addr) (d : Option Addr) (f : Str) (v : PyData) : Sem := ⟨fun K H x => x = .ref a ∧ ∃ dd fs u, d = some dd ∧ H dd = some (.xd fs) ∧ fs.lookup f = some u ∧ Dp K H u v, fun e ⟨h1, dd, fs, u, h2, h3, h4, h5⟩ => ⟨h1, dd, fs, u, h2, e _ _ h3, h4, Dp.mono e h5⟩⟩
def WdF (f : Str) (i : Int) : WdT := fun d H => ∃ dd fs, d = some dd ∧ H dd = some (.xd fs) ∧ fs.lookup f = some (.int i)
theorem Sta.unput {K : PySem.W.Frag} {H0 H : Hp} {O : List Addr} {σ : St} {Γ : Ga} (S : Sta K H0 H O σ Γ) {i : Nat} {t : Sem} (h : Γ[i]? = some (.dat t)) : Sta K H0 H O (σ.set i none) (Γ.set i .un) ∧ Up H H O Γ (Γ.set i .un) := by
  have hi : i < Γ.length := (List.getElem?_eq_some_iff.mp h).1
  have lk : ∀ j t', (Γ.set i .un)[j]? = some t' → (j = i ∧ t' = .un) ∨ (j ≠ i ∧ Γ[j]? = some t') := fun j t' q => by
    rw [List.getElem?_set] at q
    by_cases e : i = j
    · subst e
      rw [if_pos rfl, if_pos hi] at q
      exact .inl ⟨rfl, (Option.some.inj q).symm⟩
    · rw [if_neg e] at q
      exact .inr ⟨fun z => e z.symm, q⟩
  have sub : ∀ a, Hid O (Γ.set i .un) a → Hid O Γ a := fun a q => by
    rcases hid_set hi a q with q | ⟨c, q⟩
    · exact q
    · cases q
  have g : Ex (Bs H O Γ) (Bs H O (Γ.set i .un)) := cut_grow fun a o h n => ⟨h, fun q => n (sub a q)⟩
  refine ⟨⟨S.ent.trans g, by simp [S.len], fun j k a c c' h1 h2 => ?_, fun a ha q => ?_, S.hid, fun j t' q => ?_⟩, ⟨fun _ _ => rfl, g⟩⟩
  · rcases lk j _ h1 with ⟨_, z⟩ | ⟨_, q1⟩
    · cases z
    · rcases lk k _ h2 with ⟨_, z⟩ | ⟨_, q2⟩
      · cases z
      · exact S.inj j k a c c' q1 q2
  · obtain ⟨j, c, q⟩ := q
    rcases lk j _ q with ⟨_, z⟩ | ⟨_, q⟩
    · cases z
    · exact S.dis a ha ⟨j, c, q⟩
  · rcases lk j t' q with ⟨rfl, rfl⟩ | ⟨ne, q⟩
    · exact ⟨none, by rw [List.getElem?_set, if_pos rfl, if_pos (by rw [S.len]; exact hi)], trivial⟩
    · obtain ⟨w, h1, h2⟩ := S.slot j t' q
      refine ⟨w, by rw [List.getElem?_set, if_neg fun z => ne z.symm]; exact h1, ?_⟩
      cases t' with
      | un => trivial
      | dat s' =>
        obtain ⟨x, e1, e2⟩ := h2
        exact ⟨x, e1, s'.up g e2⟩
      | own p c => exact ⟨h2.1, h2.2.to g rfl⟩
section
variable {X : Cx} {Γ : Ga} {D : Ks} {suite : List Stmt} {b₀ : Stmt} {cls cl : Value} {p p1 np pos pos' pos1 pos2 : Pos} {x y xn nm f : Str} {k n i j : Nat} {ps : List Str} {C : List Sem → WdT → Prop} {s : Sem} {iv : Int}
theorem s_tryAs (F : FnX X.prog X.w X.K X.mg X.base x k ps (spR C cls X.K)) (hr : Room n X.A) (hn : k ≤ n) (hs : X.stack = X.env :: X.outer) (hf : X.env.frame = some X.env.locals) (hgx : Gl X x) (hcl : Names X xn cl) (hexm : PySem.W.exmOne X.K cls cl = some true)
    (hΓ : (frz Γ)[i]? = some (some s)) (hc : C [s] (WdF f iv)) (hN : X.N[i]? = some y) (hv : Vis X.env.scope y) (hnd : X.N.Nodup) (hj : X.N[j]? = some nm) (hjl : j < Γ.length) (hln : X.env.kindOf nm = some .local)
    (hsu : ∀ (a : Addr) (oe : Obj) (d : Option Addr) (pn : List (Addr × Obj)), L2N.Zn cls d oe → (∃ vs, oe.data = .fields vs) → WS (X.suite a ((a, oe) :: pn)) (Γ.set j (.dat (xcS a d f (.int iv)))) (b₀ :: suite) { nx := fun Γ' => (∃ t, Γ'[j]? = some (.dat t)) ∧ D.nx (Γ'.set j .un) })
    (hdx : (x == ("__debug__" : Str)) = false := by decide) (hd : (y == ("__debug__" : Str)) = false := by decide) (hcd : (y == ("__classdict__" : Str)) = false := by decide)
    (he : starEach [.Name y p1] X.env = (false, eval (.Name y p1) X.env) :: starEach [] X.env := by rfl) (hpl : (backTo pos1 (starEach [] X.env)).any (·.1) = false := by rfl) (hsw : swapsWith (.Call (.Name x p) [.Name y p1] [] pos1) none pos2.line X.env = pure false := by rfl) :
    WS1 X Γ (.Try [.Expr (.Call (.Name x p) [.Name y p1] [] pos1) pos2] [.ExceptHandler (some (.Name xn np)) (some nm) (b₀ :: suite) pos'] [] [] pos) D := fun H0 O σ H E S eo => by
  obtain ⟨g, fd, G, hm, hk, hb⟩ := F.ex
  obtain ⟨v, hσ, hsv⟩ := S.sl.2 i s hΓ
  have ht := L2N.ps_try_as (X := X) (body := [.Expr (.Call (.Name x p) [.Name y p1] [] pos1) pos2]) (b₀ := b₀) (suite := suite) (pos := pos) (pos' := pos') (np := np)
    (ts := fun a cls d => fun D σ H => ∀ oe pn, L2N.Zn cls d oe → (∃ vs, oe.data = .fields vs) → Wn (X.suite a ((a, oe) :: pn)) (b₀ :: suite) D σ H)
    (Wout := fun _ _ _ _ => False) (tb := fun W => fun D σ H => tCallS (spR C cls X.K) (WE W) (tCons (tVar i) tNil) σ H fun _ H' => D.nx σ H') hs hf hnd hj hln hcl takes_no
    (fun W pn xe tk hp => pss_one (ps_expr (X := X.tr pn xe) (pe_callS (X := X.tr pn xe) G (hr.mono hn) hgx hm hk hb (E := WE W) (L2N.passAt tk) (pa_cons (pe_var (X := X.tr pn xe) hN hv hd hcd) pa_nil he) hdx he hpl) hsw))
    (fun a oe cls d pn hz hfl => ⟨fun pins s0 σ H D I h => h oe pn hz hfl pins s0 I⟩)
  refine wS ht ?_
  refine ⟨v, hσ, [s], _, .cons hsv .nil, hc, fun d H' x2 hw => ⟨true, hexm, fun _ a ha oe pn hz hfl => ?_, fun z => by cases z⟩⟩
  obtain ⟨S1, u1⟩ := S.ex x2
  obtain ⟨dd, fs, rfl, hdd, hlk⟩ := hw
  have hdb : Bs H' O Γ dd = some (.xd fs) := by
    show cut H' (Hid O Γ) dd = _
    rw [cut_no fun q => by
      rcases S1.mutb dd q with ⟨xs, z⟩ | ⟨ks, z⟩ <;> (rw [hdd] at z; cases z)]
    exact hdd
  obtain ⟨S2, u2⟩ := S1.put hjl (s := xcS a (some dd) f (.int iv)) (v := .ref a) ⟨rfl, dd, fs, _, rfl, hdb, hlk, Dp.int iv⟩
  refine hsu a oe (some dd) pn hz hfl H0 O _ H' _ S2 ⟨?_, ?_, ?_, ?_, ?_⟩
  · rintro σ' H3 Γ' ⟨⟨t, ht⟩, d⟩ S3 u3
    obtain ⟨S4, u4⟩ := S3.unput ht
    exact eo.nx _ H3 _ d S4 ((u1.tr u2).tr (u3.tr u4))
  · intro _ _ _ d; exact d.elim
  · intro _ _ _ d; exact d.elim
  · intro _ _ _ _ _ d; exact d.elim
  · intro _ _ _ _ _ d; exact d.elim
/-- n.f, in the suite -/
theorem px_xf {Γ : Sv} {Cc : Addr} {a : Addr} {oe : Obj} {d : Option Addr} {pn : List (Addr × Obj)} {v : PyData} {e : Expr} (T : XfC X.K Cc) (hno : PySem.W.findIn X.K (.ref Cc) f = some none) (hz : L2N.Zn (.ref Cc) d oe) (hfl : ∃ vs, oe.data = .fields vs) (he : PX (X.suite a ((a, oe) :: pn)) Γ e (xcS a d f v))
    (hb : attributeBase e f X.env (eval e X.env) = eval e X.env := by rfl) : PX (X.suite a ((a, oe) :: pn)) Γ (.Attribute e f pos) (dt v) := px_of (pe_xf T hno hz.zc hfl pe_W hb) fun σ H Q s q => he σ H _ s fun u H1 x1 h1 => by
  obtain ⟨rfl, dd, fs, u', rfl, h3, h4, h5⟩ := h1
  exact ⟨rfl, rfl, dd, fs, u', rfl, h3, h4, q u' H1 x1 h5⟩
end
end Dw
set_option Elab.async false
set_option linter.all false
set_option maxRecDepth 100000
set_option maxHeartbeats 2000000
/-! raise C(e), C's __init__ storing one int; constants of classes. -/
namespace Dw
open PySem PySem.Spec PyProof.Rows L2
/-- the promise of such an __init__ -/
def spInit (C : Addr) (fld : Str) : Sp := fun vs H Q _ => ∃ a k, vs = [.ref a, .int k] ∧ k.natAbs.log2 < 1920 ∧ H a = some (exo a C none) ∧ ∀ dx, H dx = none → dx ≠ a → Q .non (upd (upd H dx (exd dx [(fld, .int k)])) a (exo a C (some dx)))
structure FnI (P : Program) (w : World) (K : PySem.W.Frag) (mg : Str → Option Value) (base : Heap) (x : Str) (C : Addr) (fld : Str) (k : Nat) : Prop where
  oex : OexC K C
  ex : ∃ fI fd ps, FnOk P w K mg base CX0 k fI fd ps (spInit C fld) ∧ Binds K fd ps [] ∧ PySem.W.findIn K (.ref C) "__init__" = some (some (.ref fI)) ∧ PySem.W.typeIn K (.ref fI) = some (.type "function")
  mgx : mg x = some (.ref C)
theorem Ex.xd {H : Hp} {d a : Addr} {fs : List (Str × V)} (hd : H d = none) (ha : H a = none) : Ex H (upd (del (upd (upd (upd H a (exo a a none)) d (exd d fs)) a (exo a a (some d))) a) d (.xd fs)) := fun b o h => by
  have nd : b ≠ d := fun e => by rw [e, hd] at h; cases h
  have na : b ≠ a := fun e => by rw [e, ha] at h; cases h
  rw [upd_ne nd, del_ne na, upd_ne na, upd_ne nd, upd_ne na]
  exact h
section
variable {X : Cx} {Γ : Ga} {D : Ks} {H0 : Hp} {e : Expr} {pos p : Pos} {x fld : Str} {C : Addr} {k : Nat} {i : Int}
theorem wx_raise1 {n : Nat} (F : FnI X.prog X.w X.K X.mg X.base x C fld k) (lt : Lets X H0 (.ref C) (WdF fld i)) (hc : X.calm = true) (hr : Room n X.A) (hn : k + 1 ≤ n) (hi : i.natAbs.log2 < 1920) (he : PX X (frz Γ) e (dt (.int i))) (hg : Gl X x := by rfl)
    (hdb : (x == ("__debug__" : Str)) = false := by decide) (hst : starEach [e] X.env = (false, eval e X.env) :: starEach [] X.env := by rfl) (hpl : (backTo p (starEach [] X.env)).any (·.1) = false := by rfl) {p2 : Pos} : WX1 X H0 Γ (.Raise (some (.Call (.Name x p2) [e] [] p)) none pos) D := fun O σ H E S eo => by
  obtain ⟨EX, tk, hE⟩ := lt
  obtain ⟨fI, fd, ps, G, hb, iC, tI⟩ := F.ex
  refine wS (L2N.ps_raise hc tk (pmk_sup F.oex iC tI G (hr.mono hn) hb pass0 hg F.mgx pa_W hdb hst hpl)) (pxs_cons he pxs_nil hst σ H _ S.sl fun vs H1 x1 h1 => ?_)
  cases h1 with
  | @cons v _ _ _ h1 h2 =>
    cases h2
    have ev := Dp.int_ h1
    subst ev
    refine ⟨by show 1 ≤ 1000; decide, fun a ha => ⟨a, i, rfl, hi, upd_same, fun dx hd hne => ?_⟩⟩
    have hd1 : H1 dx = none := by rw [upd_ne hne] at hd; exact hd
    refine ⟨rfl, dx, _, upd_same, by rw [upd_ne hne]; exact upd_same, hd1, hE (some dx) _ ?_ ⟨dx, _, rfl, upd_same, by simp [List.lookup]⟩⟩
    refine (S.all x1).trans fun b o h => ?_
    have nd : b ≠ dx := fun e => by rw [e, hd1] at h; cases h
    have na : b ≠ a := fun e => by rw [e, ha] at h; cases h
    rw [upd_ne nd, del_ne na, upd_ne na, upd_ne nd, upd_ne na]
    exact h
end
/-- an __init__(self, value): super().__init__(f'a{value}b'); self.value = value -/
theorem init_ok {P : Program} {w : World} {K : PySem.W.Frag} {mg : Str → Option Value} {base : Heap} {name qual : Str} {params : Arguments} {body : List Stmt} {scope : Scope} {C fI cc cda : Addr} {fld : Str} {t1 t2 : Str} {p0 p1 p2 p3 p4 q1 q2 q3 q4 q5 q6 q7 q8 q9 : Pos} {j1 j2 : Nat} {x : Str}
    (hbd : body = [.Expr (.Call (.Attribute (.Call (.Name "super" p0) [] [] p1) "__init__" p2) [.JoinedStr [.Constant (.str t1) j1 q1, .FormattedValue (.Name "value" q2) (-1) none q3, .Constant (.str t2) j2 q4] q5] [] p3) p4, .Assign [.Attribute (.Name "self" q6) fld q7] (.Name "value" q8) q9])
    (F : SupC P K C fI cc cda name qual params body scope) (S : SupScope ["self", "value"] ["self", "value"] scope) (har : ∃ ar, (params.posonlyargs ++ params.args).head? = some ar ∧ ar.arg = ("self" : Str)) (hms : mg "super" = none) (hl1 : t1.length ≤ 500) (hl2 : t2.length ≤ 500) (hno : PySem.W.findIn K (.ref C) fld = some none) (hm : mg x = some (.ref C))
    {pl : Addr → _root_.PySem.Sem Bool} (hev : ∀ L : Addr, eval (.Call (.Attribute (.Call (.Name "super" p0) [] [] p1) "__init__" p2) [.JoinedStr [.Constant (.str t1) j1 q1, .FormattedValue (.Name "value" q2) (-1) none q3, .Constant (.str t2) j2 q4] q5] [] p3) (PySem.W.ksEnv qual scope L fI (.ref cda) cc) = (do
      let ov ← attributeBase (.Call (.Name "super" p0) [] [] p1) "__init__" (PySem.W.ksEnv qual scope L fI (.ref cda) cc) (eval (.Call (.Name "super" p0) [] [] p1) (PySem.W.ksEnv qual scope L fI (.ref cda) cc))
      standAt p2.atName
      let (f, first) ← holding [ov] (getMethod ov "__init__" (pl L))
      callWith p3 f first (backTo p3 (starEach [.JoinedStr [.Constant (.str t1) j1 q1, .FormattedValue (.Name "value" q2) (-1) none q3, .Constant (.str t2) j2 q4] q5] (PySem.W.ksEnv qual scope L fI (.ref cda) cc))) []))
    (hbind : ∀ (kV doc pm : Value) (an : Option Addr) (ct : Value) (us : List Value), us.length = 2 → bindArgs (PySem.W.ksFn name qual params body scope .none kV doc pm an (.ref cda) ct cc) ⟨us, []⟩ = pure ((["self", "value"] : List Str).zip us)) : FnI P w K mg base x C fld 1 := by
  obtain ⟨ar, har, ha⟩ := har
  refine ⟨F.oex, ?_, hm⟩
  obtain ⟨fd, ⟨kV, doc, pm, an, ct, hfd⟩, G⟩ := fn_sup (w := w) (mg := mg) (base := base) (CX := CX0) (N := ["self", "value"]) (sp := spInit C fld) (k := 0) hbd F S har (by rw [ha]; rfl) (by rw [ha]; simp) hms (fun vs H Q E ⟨a, k, h, _⟩ => by rw [h]; rfl) (fun L => rfl) (fun L => rfl) hev (fun L => by unfold interactive; rw [show (PySem.W.ksEnv qual scope L fI (.ref cda) cc).scope.kind = .function from S.kind]; rfl)
    (fun A outer s H vs Q E hr ⟨a, k, hv, hk, hH, hq⟩ => by
      subst hv
      refine ⟨a, _, _, rfl, hH, pa_cons (pe_joined (.cons pe_str (.cons (pe_fmt (pe_var (i := 1) rfl (.inl (S.par _ (by simp))))) (.cons pe_str .nil)))) pa_nil rfl, pss_one (ps_ost (pe_var (i := 0) rfl (.inl (S.par _ (by simp)))) (pe_var (i := 1) rfl (.inl (S.par _ (by simp)))) rfl), ?_⟩
      refine ⟨t1, rfl, ?_, _, rfl, .inr ⟨k, rfl, hk, _, rfl, ?_, t2, rfl, ?_, ?_⟩⟩
      · rw [strLen_append, show Str.empty.length = 0 from rfl, sizeLine_eq]; omega
      · rw [strLen_append, strLen_append, show Str.empty.length = 0 from rfl, sizeLine_eq]; have := int_text_length_le (a := k) (by decide) hk; rw [PySem.ofString_length]; omega
      · rw [strLen_append, strLen_append, strLen_append, show Str.empty.length = 0 from rfl, sizeLine_eq]; have := int_text_length_le (a := k) (by decide) hk; rw [PySem.ofString_length]; omega
      · refine ⟨by show 1 ≤ 1000; decide, hH, ?_⟩
        exact ⟨_, rfl, _, rfl, a, C, rfl, F.oex, hno, .inl ⟨hH, fun dx h1 h2 => hq dx h1 h2⟩⟩)
  exact ⟨fI, fd, _, G, Binds.all (fun us hl => by rw [hfd]; exact hbind kV doc pm an ct us hl), F.ini, F.typ⟩
theorem px_cval {X : Cx} {Γ : Sv} {x f : Str} {C : Addr} {mc u : Value} {i : Int} {p pos : Pos} (hm : X.mg x = some (.ref C)) (r : ClX.CRead X.K C mc) (k : ClX.CVal X.K C mc f (.int i) u) (hg : Gl X x := by rfl) (hd : (x == ("__debug__" : Str)) = false := by decide) (hb : attributeBase (.Name x p) f X.env (eval (.Name x p) X.env) = eval (.Name x p) X.env := by rfl) : PX X Γ (.Attribute (.Name x p) f pos) (dt (.int i)) :=
  px_of (ClX.pe_cval (pe_glob (v := .ref C) hg hm rfl hd) hb) fun σ H Q s q => ⟨C, mc, .int i, u, rfl, r, k, q _ H Ex.rfl' (Dp.int i)⟩
end Dw
set_option Elab.async false
set_option linter.all false
set_option maxRecDepth 100000
set_option maxHeartbeats 1000000
namespace Dw
open PySem PySem.Spec PyProof.Rows L2
section
variable {X : Cx} {Γ : Ga}
theorem pgt (i j : Nat) {x y : Str} {kk : Nat} {pos p1 p2 : Pos} (hN : X.N.Nodup) (hc : X.calm = true := by rfl) (hi : X.N[i]? = some x := by rfl) (hx : Loc X.env.scope x := by first | exact Or.inl rfl | exact Or.inr rfl) (hj : X.N[j]? = some y := by rfl) (hy : Loc X.env.scope y := by first | exact Or.inl rfl | exact Or.inr rfl)
    (hf : X.fn x = true ∨ X.env.scope.names.lookup x = some .local := by first | exact .inl rfl | exact .inr rfl) (hf2 : X.fn y = true ∨ X.env.scope.names.lookup y = some .local := by first | exact .inl rfl | exact .inr rfl)
    (hs : (assignEach [.Name x p1, .Name y p2] X.env).map (·.2) = assign (.Name x p1) X.env :: (assignEach [.Name y p2] X.env).map (·.2) := by rfl) (hs2 : (assignEach [.Name y p2] X.env).map (·.2) = assign (.Name y p2) X.env :: (assignEach [] X.env).map (·.2) := by rfl)
    (hn : (assignEach [.Name x p1, .Name y p2] X.env).length = 2 := by rfl) (hst : (assignEach [.Name x p1, .Name y p2] X.env).findIdx? (·.1) = none := by rfl) : PG X (.Tuple [.Name x p1, .Name y p2] kk pos) (gTup X.K 2 (gCons (gName i) (gCons (gName j) gNil))) :=
  pg_tup hc (pgs_cons (pg_name hN hi hx hf) (pgs_cons (pg_name hN hj hy hf2) pgs_nil hs2) hs) hn hst
theorem g2 (i j : Nat) {x y : Str} {kk : Nat} {pos p1 p2 : Pos} {d1 d2 : PyData} {k : Ga → Prop} (hN : X.N.Nodup) (h : k ((Γ.set i (.dat (dt d1))).set j (.dat (dt d2)))) (hc : X.calm = true := by rfl) (hi : X.N[i]? = some x := by rfl) (hx : Loc X.env.scope x := by first | exact Or.inl rfl | exact Or.inr rfl) (hil : i < Γ.length := by exact Nat.le_of_ble_eq_true rfl) (hj : X.N[j]? = some y := by rfl) (hy : Loc X.env.scope y := by first | exact Or.inl rfl | exact Or.inr rfl) (hjl : j < Γ.length := by exact Nat.le_of_ble_eq_true rfl)
    (hf : X.fn x = true ∨ X.env.scope.names.lookup x = some .local := by first | exact .inl rfl | exact .inr rfl) (hf2 : X.fn y = true ∨ X.env.scope.names.lookup y = some .local := by first | exact .inl rfl | exact .inr rfl)
    (hs : (assignEach [.Name x p1, .Name y p2] X.env).map (·.2) = assign (.Name x p1) X.env :: (assignEach [.Name y p2] X.env).map (·.2) := by rfl) (hs2 : (assignEach [.Name y p2] X.env).map (·.2) = assign (.Name y p2) X.env :: (assignEach [] X.env).map (·.2) := by rfl)
    (hn : (assignEach [.Name x p1, .Name y p2] X.env).length = 2 := by rfl) (hst : (assignEach [.Name x p1, .Name y p2] X.env).findIdx? (·.1) = none := by rfl) :
    GX X (.Tuple [.Name x p1, .Name y p2] kk pos) (dt (.tuple [d1, d2])) Γ (gTup X.K 2 (gCons (gName i) (gCons (gName j) gNil))) k := g_two hc h hN hi hx hil hj hy hjl hf hf2 hs hs2 hn hst
end
section
variable {X : Cx} {Γ : Sv} {a b c d e : Expr} {pos p : Pos}
/-- a call with one, two, three arguments -/
theorem c1 {C : List Sem → Sem → Prop} {x : Str} {k n : Nat} {ps : List Str} {s r : Sem} (F : Fn X.prog X.w X.K X.mg X.base x k ps (spP C X.K)) (hr : Room n X.A) (ha : PX X Γ a s) (hc : C [s] r) (hn : k ≤ n := by decide) (hg : Gl X x := by rfl) (hdb : (x == ("__debug__" : Str)) = false := by decide)
    (he : starEach [a] X.env = (false, eval a X.env) :: starEach [] X.env := by rfl) (hpl : (backTo pos (starEach [] X.env)).any (·.1) = false := by rfl) : PX X Γ (.Call (.Name x p) [a] [] pos) r := px_call F hr hn hg (pxs_cons ha pxs_nil he) hc hdb he hpl
theorem c2 {C : List Sem → Sem → Prop} {x : Str} {k n : Nat} {ps : List Str} {s t r : Sem} (F : Fn X.prog X.w X.K X.mg X.base x k ps (spP C X.K)) (hr : Room n X.A) (ha : PX X Γ a s) (hb : PX X Γ b t) (hc : C [s, t] r) (hn : k ≤ n := by decide) (hg : Gl X x := by rfl) (hdb : (x == ("__debug__" : Str)) = false := by decide)
    (he : starEach [a, b] X.env = (false, eval a X.env) :: starEach [b] X.env := by rfl) (he2 : starEach [b] X.env = (false, eval b X.env) :: starEach [] X.env := by rfl) (hpl : (backTo pos (starEach [b] X.env)).any (·.1) = false := by rfl) : PX X Γ (.Call (.Name x p) [a, b] [] pos) r := px_call F hr hn hg (pxs_cons ha (pxs_cons hb pxs_nil he2) he) hc hdb he hpl
theorem c3 {C : List Sem → Sem → Prop} {x : Str} {k n : Nat} {ps : List Str} {s t u r : Sem} (F : Fn X.prog X.w X.K X.mg X.base x k ps (spP C X.K)) (hr : Room n X.A) (ha : PX X Γ a s) (hb : PX X Γ b t) (hcc : PX X Γ c u) (hc : C [s, t, u] r) (hn : k ≤ n := by decide) (hg : Gl X x := by rfl) (hdb : (x == ("__debug__" : Str)) = false := by decide)
    (he : starEach [a, b, c] X.env = (false, eval a X.env) :: starEach [b, c] X.env := by rfl) (he2 : starEach [b, c] X.env = (false, eval b X.env) :: starEach [c] X.env := by rfl) (he3 : starEach [c] X.env = (false, eval c X.env) :: starEach [] X.env := by rfl) (hpl : (backTo pos (starEach [b, c] X.env)).any (·.1) = false := by rfl) : PX X Γ (.Call (.Name x p) [a, b, c] [] pos) r := px_call F hr hn hg (pxs_cons ha (pxs_cons hb (pxs_cons hcc pxs_nil he3) he2) he) hc hdb he hpl
theorem l1 {C : List Sem → List PyData → Prop} {x : Str} {k n : Nat} {ps : List Str} {s : Sem} {r : List PyData} (F : Fn X.prog X.w X.K X.mg X.base x k ps (spL C X.K)) (hr : Room n X.A) (ha : PX X Γ a s) (hc : C [s] r) (hn : k ≤ n := by decide) (hg : Gl X x := by rfl) (hdb : (x == ("__debug__" : Str)) = false := by decide)
    (he : starEach [a] X.env = (false, eval a X.env) :: starEach [] X.env := by rfl) (hpl : (backTo pos (starEach [] X.env)).any (·.1) = false := by rfl) : PXL X Γ (.Call (.Name x p) [a] [] pos) r := pxl_call F hr hn hg (pxs_cons ha pxs_nil he) hc hdb he hpl
theorem l2 {C : List Sem → List PyData → Prop} {x : Str} {k n : Nat} {ps : List Str} {s t : Sem} {r : List PyData} (F : Fn X.prog X.w X.K X.mg X.base x k ps (spL C X.K)) (hr : Room n X.A) (ha : PX X Γ a s) (hb : PX X Γ b t) (hc : C [s, t] r) (hn : k ≤ n := by decide) (hg : Gl X x := by rfl) (hdb : (x == ("__debug__" : Str)) = false := by decide)
    (he : starEach [a, b] X.env = (false, eval a X.env) :: starEach [b] X.env := by rfl) (he2 : starEach [b] X.env = (false, eval b X.env) :: starEach [] X.env := by rfl) (hpl : (backTo pos (starEach [b] X.env)).any (·.1) = false := by rfl) : PXL X Γ (.Call (.Name x p) [a, b] [] pos) r := pxl_call F hr hn hg (pxs_cons ha (pxs_cons hb pxs_nil he2) he) hc hdb he hpl
theorem l3 {C : List Sem → List PyData → Prop} {x : Str} {k n : Nat} {ps : List Str} {s t u : Sem} {r : List PyData} (F : Fn X.prog X.w X.K X.mg X.base x k ps (spL C X.K)) (hr : Room n X.A) (ha : PX X Γ a s) (hb : PX X Γ b t) (hcc : PX X Γ c u) (hc : C [s, t, u] r) (hn : k ≤ n := by decide) (hg : Gl X x := by rfl) (hdb : (x == ("__debug__" : Str)) = false := by decide)
    (he : starEach [a, b, c] X.env = (false, eval a X.env) :: starEach [b, c] X.env := by rfl) (he2 : starEach [b, c] X.env = (false, eval b X.env) :: starEach [c] X.env := by rfl) (he3 : starEach [c] X.env = (false, eval c X.env) :: starEach [] X.env := by rfl) (hpl : (backTo pos (starEach [b, c] X.env)).any (·.1) = false := by rfl) : PXL X Γ (.Call (.Name x p) [a, b, c] [] pos) r := pxl_call F hr hn hg (pxs_cons ha (pxs_cons hb (pxs_cons hcc pxs_nil he3) he2) he) hc hdb he hpl
theorem pt4 {k : Nat} {d1 d2 d3 d4 : PyData} (h1 : PX X Γ a (dt d1)) (h2 : PX X Γ b (dt d2)) (h3 : PX X Γ c (dt d3)) (h4 : PX X Γ d (dt d4)) (e1 : starEach [a, b, c, d] X.env = (false, eval a X.env) :: starEach [b, c, d] X.env := by rfl) (e2 : starEach [b, c, d] X.env = (false, eval b X.env) :: starEach [c, d] X.env := by rfl) (e3 : starEach [c, d] X.env = (false, eval c X.env) :: starEach [d] X.env := by rfl) (e4 : starEach [d] X.env = (false, eval d X.env) :: starEach [] X.env := by rfl) :
    PX X Γ (.Tuple [a, b, c, d] k pos) (dt (.tuple [d1, d2, d3, d4])) := px_tup (ds := [d1, d2, d3, d4]) (pxs_cons h1 (pxs_cons h2 (pxs_cons h3 (pxs_cons h4 pxs_nil e4) e3) e2) e1) (Nat.le_of_ble_eq_true rfl)
end
section
variable {X : Cx} {Γ : Ga} {D : Ks} {e : Expr} {rest : List Stmt} {s : Sem} {pos : Pos}
/-- an expression for nothing -/
theorem w_expr (he : PX X (frz Γ) e s) (k : WS X Γ rest D) (hs : swapsWith e none pos.line X.env = pure false := by rfl) : WS X Γ (.Expr e pos :: rest) D := ws_cons (s_expr he k hs)
theorem w_ifelse {c : Expr} {ss ts : List Stmt} {b : Bool} (hc : PB X (frz Γ) c b) (h1 : b = true → WS X Γ ss { D with nx := fun Γ' => WS X Γ' rest D }) (h2 : b = false → WS X Γ ts { D with nx := fun Γ' => WS X Γ' rest D }) : WS X Γ (.If c ss ts pos :: rest) D := w_if hc h1 h2
end
section
variable {X : Cx} {Γ : Ga}
/-- four names -/
theorem g4 (i j l m : Nat) {x y z u : Str} {kk : Nat} {pos p1 p2 p3 p4 : Pos} {d1 d2 d3 d4 : PyData} {k : Ga → Prop} (hN : X.N.Nodup) (h : k ((((Γ.set i (.dat (dt d1))).set j (.dat (dt d2))).set l (.dat (dt d3))).set m (.dat (dt d4)))) (hc : X.calm = true := by rfl)
    (hi : X.N[i]? = some x := by rfl) (hx : Loc X.env.scope x := by first | exact Or.inl rfl | exact Or.inr rfl) (hil : i < Γ.length := by exact Nat.le_of_ble_eq_true rfl) (hj : X.N[j]? = some y := by rfl) (hy : Loc X.env.scope y := by first | exact Or.inl rfl | exact Or.inr rfl) (hjl : j < Γ.length := by exact Nat.le_of_ble_eq_true rfl)
    (hl : X.N[l]? = some z := by rfl) (hz : Loc X.env.scope z := by first | exact Or.inl rfl | exact Or.inr rfl) (hll : l < Γ.length := by exact Nat.le_of_ble_eq_true rfl) (hm : X.N[m]? = some u := by rfl) (hu : Loc X.env.scope u := by first | exact Or.inl rfl | exact Or.inr rfl) (hml : m < Γ.length := by exact Nat.le_of_ble_eq_true rfl)
    (f1 : X.fn x = true ∨ X.env.scope.names.lookup x = some .local := by first | exact .inl rfl | exact .inr rfl) (f2 : X.fn y = true ∨ X.env.scope.names.lookup y = some .local := by first | exact .inl rfl | exact .inr rfl) (f3 : X.fn z = true ∨ X.env.scope.names.lookup z = some .local := by first | exact .inl rfl | exact .inr rfl) (f4 : X.fn u = true ∨ X.env.scope.names.lookup u = some .local := by first | exact .inl rfl | exact .inr rfl)
    (s1 : (assignEach [.Name x p1, .Name y p2, .Name z p3, .Name u p4] X.env).map (·.2) = assign (.Name x p1) X.env :: (assignEach [.Name y p2, .Name z p3, .Name u p4] X.env).map (·.2) := by rfl) (s2 : (assignEach [.Name y p2, .Name z p3, .Name u p4] X.env).map (·.2) = assign (.Name y p2) X.env :: (assignEach [.Name z p3, .Name u p4] X.env).map (·.2) := by rfl)
    (s3 : (assignEach [.Name z p3, .Name u p4] X.env).map (·.2) = assign (.Name z p3) X.env :: (assignEach [.Name u p4] X.env).map (·.2) := by rfl) (s4 : (assignEach [.Name u p4] X.env).map (·.2) = assign (.Name u p4) X.env :: (assignEach [] X.env).map (·.2) := by rfl)
    (hn : (assignEach [.Name x p1, .Name y p2, .Name z p3, .Name u p4] X.env).length = 4 := by rfl) (hst : (assignEach [.Name x p1, .Name y p2, .Name z p3, .Name u p4] X.env).findIdx? (·.1) = none := by rfl) :
    GX X (.Tuple [.Name x p1, .Name y p2, .Name z p3, .Name u p4] kk pos) (dt (.tuple [d1, d2, d3, d4])) Γ (gTup X.K 4 (gCons (gName i) (gCons (gName j) (gCons (gName l) (gCons (gName m) gNil))))) k :=
  g_tup hc (g_cons (pgs_cons (pg_name hN hj hy f2) (pgs_cons (pg_name hN hl hz f3) (pgs_cons (pg_name hN hm hu f4) pgs_nil s4) s3) s2)
    (g_name (g_cons (pgs_cons (pg_name hN hl hz f3) (pgs_cons (pg_name hN hm hu f4) pgs_nil s4) s3)
      (g_name (g_cons (pgs_cons (pg_name hN hm hu f4) pgs_nil s4)
        (g_name (g_cons pgs_nil (g_name (g_nil h) hN hm hu (by simpa using hml) f4) s4) hN hl hz (by simpa using hll) f3) s3) hN hj hy (by simpa using hjl) f2) s2) hN hi hx hil f1) s1) rfl hn hst
end
theorem wk_r {s : Sem} : Wk s s := fun h => h
section
variable {X : Cx} {Γ : Sv} {pos : Pos} {α : Type}
theorem lcx_eq {e : Expr} {ds ds2 : List PyData} (h : LCX X Γ e ds) (z : ds = ds2) : LCX X Γ e ds2 := z ▸ h
/-- [elt for x in iter] -/
theorem lx1 (j : Nat) {x : Str} {p1 : Pos} {L : List α} {f : α → PyData} {val : α → PyData} {elt iter : Expr} {scope : Scope} (hN : X.N.Nodup) (hi : PIt X Γ (.Name x p1) iter L (fun a => dt (f a))) (he : ∀ a ∈ L, Blk X scope fun Y => PX Y ((wipeE Γ [j]).set j (some (dt (f a)))) elt (dt (val a))) (hv : ∀ a ∈ L, tupd (val a) = true) (hl : L.length < 100000) (hg : ∀ (s : Shared) (H : Hp) (C : Addr) (cl : List (Str × Addr)) (fp : List Addr), PG (X.blk s H scope (compEnvC scope cl C X.env) fp) (.Name x p1) (gName j))
    (hc : X.calm = true := by rfl) (ok : BlkOk X.N X.env.scope scope [(x, j)] := by exact blkOk_by rfl) (hs : ∀ x, foldedSetIterable iter X.env x = pure x := by intro _; rfl) : LCX X Γ (.ListComp elt [⟨.Name x p1, iter, [], 0⟩] scope pos) (L.map val) :=
  lcx_eq (lcx_lc (own := [(x, j)]) (bnd := fun a => (wipeE Γ [j]).set j (some (dt (f a)))) (test := fun _ => true) hc hN hi ok hg .nil (fun a _ => gp_name (by simp)) (fun a _ => rfl) (fun a ha _ => he a ha) (fun a ha _ => hv a ha) hl hs) (by rw [List.filter_eq_self.mpr (fun _ _ => rfl)])
theorem lc1 (j : Nat) {x : Str} {p1 : Pos} {L : List α} {f : α → PyData} {val : α → PyData} {elt iter : Expr} {scope : Scope} (hN : X.N.Nodup) (hi : PIt X Γ (.Name x p1) iter L (fun a => dt (f a))) (he : ∀ a ∈ L, Blk X scope fun Y => PX Y ((wipeE Γ [j]).set j (some (dt (f a)))) elt (dt (val a))) (hv : ∀ a ∈ L, tupd (val a) = true) (hl : L.length < 100000) (hg : ∀ (s : Shared) (H : Hp) (C : Addr) (cl : List (Str × Addr)) (fp : List Addr), PG (X.blk s H scope (compEnvC scope cl C X.env) fp) (.Name x p1) (gName j))
    (hc : X.calm = true := by rfl) (ok : BlkOk X.N X.env.scope scope [(x, j)] := by exact blkOk_by rfl) (hs : ∀ x, foldedSetIterable iter X.env x = pure x := by intro _; rfl) : PXL X Γ (.ListComp elt [⟨.Name x p1, iter, [], 0⟩] scope pos) (L.map val) := (lx1 j hN hi he hv hl hg hc ok hs).pxl
/-- .. if c -/
theorem lx1f (j : Nat) {x : Str} {p1 : Pos} {L : List α} {f : α → PyData} {test : α → Bool} {val : α → PyData} {elt iter c : Expr} {scope : Scope} (hN : X.N.Nodup) (hi : PIt X Γ (.Name x p1) iter L (fun a => dt (f a))) (ht : ∀ a ∈ L, Blk X scope fun Y => PB Y ((wipeE Γ [j]).set j (some (dt (f a)))) c (test a)) (he : ∀ a ∈ L, test a = true → Blk X scope fun Y => PX Y ((wipeE Γ [j]).set j (some (dt (f a)))) elt (dt (val a))) (hv : ∀ a ∈ L, tupd (val a) = true) (hl : L.length < 100000) (hg : ∀ (s : Shared) (H : Hp) (C : Addr) (cl : List (Str × Addr)) (fp : List Addr), PG (X.blk s H scope (compEnvC scope cl C X.env) fp) (.Name x p1) (gName j))
    (hc : X.calm = true := by rfl) (ok : BlkOk X.N X.env.scope scope [(x, j)] := by exact blkOk_by rfl) (hs : ∀ x, foldedSetIterable iter X.env x = pure x := by intro _; rfl) : LCX X Γ (.ListComp elt [⟨.Name x p1, iter, [c], 0⟩] scope pos) ((L.filter test).map val) :=
  lcx_lc (own := [(x, j)]) (bnd := fun a => (wipeE Γ [j]).set j (some (dt (f a)))) hc hN hi ok hg .one (fun a _ => gp_name (by simp)) (fun a ha => ht a ha) he (fun a ha _ => hv a ha) hl hs
theorem lc1f (j : Nat) {x : Str} {p1 : Pos} {L : List α} {f : α → PyData} {test : α → Bool} {val : α → PyData} {elt iter c : Expr} {scope : Scope} (hN : X.N.Nodup) (hi : PIt X Γ (.Name x p1) iter L (fun a => dt (f a))) (ht : ∀ a ∈ L, Blk X scope fun Y => PB Y ((wipeE Γ [j]).set j (some (dt (f a)))) c (test a)) (he : ∀ a ∈ L, test a = true → Blk X scope fun Y => PX Y ((wipeE Γ [j]).set j (some (dt (f a)))) elt (dt (val a))) (hv : ∀ a ∈ L, tupd (val a) = true) (hl : L.length < 100000) (hg : ∀ (s : Shared) (H : Hp) (C : Addr) (cl : List (Str × Addr)) (fp : List Addr), PG (X.blk s H scope (compEnvC scope cl C X.env) fp) (.Name x p1) (gName j))
    (hc : X.calm = true := by rfl) (ok : BlkOk X.N X.env.scope scope [(x, j)] := by exact blkOk_by rfl) (hs : ∀ x, foldedSetIterable iter X.env x = pure x := by intro _; rfl) : PXL X Γ (.ListComp elt [⟨.Name x p1, iter, [c], 0⟩] scope pos) ((L.filter test).map val) := (lx1f j hN hi ht he hv hl hg hc ok hs).pxl
/-- [elt for x, y in iter] -/
theorem lx2 (i j : Nat) {x y : Str} {kk : Nat} {p1 p2 p3 : Pos} {L : List α} {f g : α → PyData} {val : α → PyData} {elt iter : Expr} {scope : Scope} (hN : X.N.Nodup) (hi : PIt X Γ (.Tuple [.Name x p1, .Name y p2] kk p3) iter L (fun a => dt (.tuple [f a, g a]))) (he : ∀ a ∈ L, Blk X scope fun Y => PX Y (((wipeE Γ [i, j]).set i (some (dt (f a)))).set j (some (dt (g a)))) elt (dt (val a))) (hv : ∀ a ∈ L, tupd (val a) = true) (hl : L.length < 100000)
    (hg : ∀ (s : Shared) (H : Hp) (C : Addr) (cl : List (Str × Addr)) (fp : List Addr), PG (X.blk s H scope (compEnvC scope cl C X.env) fp) (.Tuple [.Name x p1, .Name y p2] kk p3) (gTup X.K 2 (gCons (gName i) (gCons (gName j) gNil))))
    (hc : X.calm = true := by rfl) (ok : BlkOk X.N X.env.scope scope [(x, i), (y, j)] := by exact blkOk_by rfl) (hs : ∀ x, foldedSetIterable iter X.env x = pure x := by intro _; rfl) : LCX X Γ (.ListComp elt [⟨.Tuple [.Name x p1, .Name y p2] kk p3, iter, [], 0⟩] scope pos) (L.map val) :=
  lcx_eq (lcx_lc (own := [(x, i), (y, j)]) (bnd := fun a => ((wipeE Γ [i, j]).set i (some (dt (f a)))).set j (some (dt (g a)))) (test := fun _ => true) hc hN hi ok hg .nil (fun a _ => gp_two (by simp) (by simp)) (fun a _ => rfl) (fun a ha _ => he a ha) (fun a ha _ => hv a ha) hl hs) (by rw [List.filter_eq_self.mpr (fun _ _ => rfl)])
theorem lc2 (i j : Nat) {x y : Str} {kk : Nat} {p1 p2 p3 : Pos} {L : List α} {f g : α → PyData} {val : α → PyData} {elt iter : Expr} {scope : Scope} (hN : X.N.Nodup) (hi : PIt X Γ (.Tuple [.Name x p1, .Name y p2] kk p3) iter L (fun a => dt (.tuple [f a, g a]))) (he : ∀ a ∈ L, Blk X scope fun Y => PX Y (((wipeE Γ [i, j]).set i (some (dt (f a)))).set j (some (dt (g a)))) elt (dt (val a))) (hv : ∀ a ∈ L, tupd (val a) = true) (hl : L.length < 100000)
    (hg : ∀ (s : Shared) (H : Hp) (C : Addr) (cl : List (Str × Addr)) (fp : List Addr), PG (X.blk s H scope (compEnvC scope cl C X.env) fp) (.Tuple [.Name x p1, .Name y p2] kk p3) (gTup X.K 2 (gCons (gName i) (gCons (gName j) gNil))))
    (hc : X.calm = true := by rfl) (ok : BlkOk X.N X.env.scope scope [(x, i), (y, j)] := by exact blkOk_by rfl) (hs : ∀ x, foldedSetIterable iter X.env x = pure x := by intro _; rfl) : PXL X Γ (.ListComp elt [⟨.Tuple [.Name x p1, .Name y p2] kk p3, iter, [], 0⟩] scope pos) (L.map val) := (lx2 i j hN hi he hv hl hg hc ok hs).pxl
theorem lx2f (i j : Nat) {x y : Str} {kk : Nat} {p1 p2 p3 : Pos} {L : List α} {f g : α → PyData} {test : α → Bool} {val : α → PyData} {elt iter c : Expr} {scope : Scope} (hN : X.N.Nodup) (hi : PIt X Γ (.Tuple [.Name x p1, .Name y p2] kk p3) iter L (fun a => dt (.tuple [f a, g a]))) (ht : ∀ a ∈ L, Blk X scope fun Y => PB Y (((wipeE Γ [i, j]).set i (some (dt (f a)))).set j (some (dt (g a)))) c (test a)) (he : ∀ a ∈ L, test a = true → Blk X scope fun Y => PX Y (((wipeE Γ [i, j]).set i (some (dt (f a)))).set j (some (dt (g a)))) elt (dt (val a))) (hv : ∀ a ∈ L, tupd (val a) = true) (hl : L.length < 100000)
    (hg : ∀ (s : Shared) (H : Hp) (C : Addr) (cl : List (Str × Addr)) (fp : List Addr), PG (X.blk s H scope (compEnvC scope cl C X.env) fp) (.Tuple [.Name x p1, .Name y p2] kk p3) (gTup X.K 2 (gCons (gName i) (gCons (gName j) gNil))))
    (hc : X.calm = true := by rfl) (ok : BlkOk X.N X.env.scope scope [(x, i), (y, j)] := by exact blkOk_by rfl) (hs : ∀ x, foldedSetIterable iter X.env x = pure x := by intro _; rfl) : LCX X Γ (.ListComp elt [⟨.Tuple [.Name x p1, .Name y p2] kk p3, iter, [c], 0⟩] scope pos) ((L.filter test).map val) :=
  lcx_lc (own := [(x, i), (y, j)]) (bnd := fun a => ((wipeE Γ [i, j]).set i (some (dt (f a)))).set j (some (dt (g a)))) hc hN hi ok hg .one (fun a _ => gp_two (by simp) (by simp)) (fun a ha => ht a ha) he (fun a ha _ => hv a ha) hl hs
theorem lc2f (i j : Nat) {x y : Str} {kk : Nat} {p1 p2 p3 : Pos} {L : List α} {f g : α → PyData} {test : α → Bool} {val : α → PyData} {elt iter c : Expr} {scope : Scope} (hN : X.N.Nodup) (hi : PIt X Γ (.Tuple [.Name x p1, .Name y p2] kk p3) iter L (fun a => dt (.tuple [f a, g a]))) (ht : ∀ a ∈ L, Blk X scope fun Y => PB Y (((wipeE Γ [i, j]).set i (some (dt (f a)))).set j (some (dt (g a)))) c (test a)) (he : ∀ a ∈ L, test a = true → Blk X scope fun Y => PX Y (((wipeE Γ [i, j]).set i (some (dt (f a)))).set j (some (dt (g a)))) elt (dt (val a))) (hv : ∀ a ∈ L, tupd (val a) = true) (hl : L.length < 100000)
    (hg : ∀ (s : Shared) (H : Hp) (C : Addr) (cl : List (Str × Addr)) (fp : List Addr), PG (X.blk s H scope (compEnvC scope cl C X.env) fp) (.Tuple [.Name x p1, .Name y p2] kk p3) (gTup X.K 2 (gCons (gName i) (gCons (gName j) gNil))))
    (hc : X.calm = true := by rfl) (ok : BlkOk X.N X.env.scope scope [(x, i), (y, j)] := by exact blkOk_by rfl) (hs : ∀ x, foldedSetIterable iter X.env x = pure x := by intro _; rfl) : PXL X Γ (.ListComp elt [⟨.Tuple [.Name x p1, .Name y p2] kk p3, iter, [c], 0⟩] scope pos) ((L.filter test).map val) := (lx2f i j hN hi ht he hv hl hg hc ok hs).pxl
end
section
variable {X : Cx} {Γ : Ga} {D : Ks} {e b : Expr} {rest : List Stmt} {ds : List PyData} {d : PyData} {pos : Pos}
/-- x[b] = e, x a list of ours -/
theorem w_seti (i : Nat) {x : Str} {p : Addr} {k : Int} {j : Nat} {p1 p2 : Pos} (he : PX X (frz Γ) e (dt d)) (fr : tupd d = true) (hb : PX X (frz Γ) b (dt (.int k))) (hj : ixN ds.length k = some j) (kk : WS X (Γ.set i (.own p (.lst (ds.set j d)))) rest D)
    (h : Γ[i]? = some (.own p (.lst ds)) := by rfl) (hN : X.N[i]? = some x := by rfl) (hv : Vis X.env.scope x := by first | exact Or.inl rfl | exact Or.inr (Or.inl rfl) | exact Or.inr (Or.inr rfl)) (hd : (x == ("__debug__" : Str)) = false := by decide) (hcd : (x == ("__classdict__" : Str)) = false := by decide)
    (ha : ∀ v, assign (.Subscript (.Name x p1) b p2) X.env v = (do
      let ov ← holding [v] (eval (.Name x p1) X.env)
      let iv ← holding [v, ov] (eval b X.env)
      standAt p2
      holding [v, ov, iv] (setItem ov iv v)
      release [v, ov, iv] []) := by intro _; rfl)
    (hs : swapsWithSole [.Subscript (.Name x p1) b p2] e pos.line X.env = pure false := by rfl) (hw : swappedStores [.Subscript (.Name x p1) b p2] e X.env = pure none := by rfl) (h1 : (assignEach [.Subscript (.Name x p1) b p2] X.env).map (·.2) = [assign (.Subscript (.Name x p1) b p2) X.env] := by rfl) : WS X Γ (.Assign [.Subscript (.Name x p1) b p2] e pos :: rest) D :=
  w_setitem i (pg_sub (pe_var hN hv hd hcd) pe_W set_list ha) he fr hb hj kk h hs hw h1
end
theorem ix_nat {n i : Nat} (h : i < n) : ixN n (i : Int) = some i := by
  unfold ixN
  rw [if_pos (by omega), if_pos (by omega)]
  rfl
/-- a name that bears a list which is not ours, as an iterable -/
theorem wv {X : Cx} {Γ : Ga} {tg : Expr} {pos : Pos} {α : Type} {L : List α} {f : α → PyData} (i : Nat) {x : Str} {s : Sem} (w : Wk s (dt (.list (L.map f)))) (h : Γ[i]? = some (.dat s) := by rfl) (hN : X.N[i]? = some x := by rfl) (hv : Vis X.env.scope x := by first | exact Or.inl rfl | exact Or.inr (Or.inl rfl) | exact Or.inr (Or.inr rfl)) (hd : (x == ("__debug__" : Str)) = false := by decide) (hcd : (x == ("__classdict__" : Str)) = false := by decide) : WI X Γ tg (.Name x pos) L (fun a => dt (f a)) := wi_var h w hN hv hd hcd
theorem wr {X : Cx} {Γ : Ga} {tg a : Expr} {p pos : Pos} {n : Nat} (hm : X.mg "range" = none) (ha : PX X (frz Γ) a (dt (.int (n : Int)))) (hn : n ≤ 100000) (hg : Gl X "range" := by rfl) (hs : starEach [a] X.env = [(false, eval a X.env)] := by rfl) : WI X Γ tg (.Call (.Name "range" p) [a] [] pos) (List.range n) (fun i => dt (.int (i : Nat))) := wi_range hg hm ha hn hs
theorem pr {X : Cx} {Γ : Sv} {tg a : Expr} {p pos : Pos} {n : Nat} (hm : X.mg "range" = none) (ha : PX X Γ a (dt (.int (n : Int)))) (hn : n ≤ 100000) (hg : Gl X "range" := by rfl) (hs : starEach [a] X.env = [(false, eval a X.env)] := by rfl) : PIt X Γ tg (.Call (.Name "range" p) [a] [] pos) (List.range n) (fun i => dt (.int (i : Nat))) := pit_range hg hm ha hn hs
/-- .. that is ours: it stays as it is meanwhile -/
theorem pl_l {X : Cx} {Γ : Sv} {a : Expr} {p pos : Pos} {d : PyData} {ds : List PyData} (hm : X.mg "list" = none) (ha : PX X Γ a (dt d)) (hd : d = .list ds ∨ d = .tuple ds) (hg : Gl X "list" := by rfl) (hs : starEach [a] X.env = (false, eval a X.env) :: starEach [] X.env := by rfl) (hp : (backTo pos (starEach [] X.env)).any (·.1) = false := by rfl) : PXL X Γ (.Call (.Name "list" p) [a] [] pos) ds := pxl_list hg hm ha hd hs hp
theorem p_tup {X : Cx} {Γ : Sv} {a : Expr} {p pos : Pos} {ds : List PyData} (hm : X.mg "tuple" = none) (ha : PX X Γ a (dt (.list ds))) (hg : Gl X "tuple" := by rfl) (hs : starEach [a] X.env = (false, eval a X.env) :: starEach [] X.env := by rfl) (hp : (backTo pos (starEach [] X.env)).any (·.1) = false := by rfl) : PX X Γ (.Call (.Name "tuple" p) [a] [] pos) (dt (.tuple ds)) := px_tuple hg hm ha hs hp
section
variable {X : Cx} {Γ : Ga} {D : Ks} {e b : Expr} {rest : List Stmt} {ds : List PyData} {d : PyData} {pos : Pos}
theorem w_app {ds' : List PyData} (i : Nat) {x : Str} {p : Addr} {p1 p2 p3 : Pos} (he : PX X (frz Γ) e (dt d)) (fr : tupd d = true) (hl : ds.length < 100000) (eqn : ds ++ [d] = ds') (k : WS X (Γ.set i (.own p (.lst ds'))) rest D) (h : Γ[i]? = some (.own p (.lst ds)) := by rfl) (hN : X.N[i]? = some x := by rfl)
    (hv : Vis X.env.scope x := by first | exact Or.inl rfl | exact Or.inr (Or.inl rfl) | exact Or.inr (Or.inr rfl))
    (q1 : attributeBase (.Name x p1) ("append" : Str) X.env (eval (.Name x p1) X.env) = eval (.Name x p1) X.env := by rfl)
    (q2 : ((backTo p3 (starEach [e] X.env)).all (fun x => !x.1) && (backToKw p3 (keywordEach [] X.env)).all (fun x => x.1.isSome) && decide ([e].length + ([] : List Keyword).length + (if ([] : List Keyword).isEmpty then 0 else 1) < 30)) = true := by rfl)
    (q3 : (p2.endLine == p3.line) = true := by rfl) (q4 : starEach [e] X.env = (false, eval e X.env) :: starEach [] X.env := by rfl) (q5 : (backTo p3 (starEach [] X.env)).any (·.1) = false := by rfl)
    (hs : swapsWith (.Call (.Attribute (.Name x p1) ("append" : Str) p2) [e] [] p3) none pos.line X.env = pure false := by rfl)
    (hd : (x == ("__debug__" : Str)) = false := by decide) (hcd : (x == ("__classdict__" : Str)) = false := by decide) :
    WS X Γ (.Expr (.Call (.Attribute (.Name x p1) ("append" : Str) p2) [e] [] p3) pos :: rest) D := w_append i he fr hl (eqn ▸ k) h hN hv q1 q2 q3 q4 q5 hs hd hcd
/-- x[b] = e, x a list of ours -/
theorem w_set {ds' : List PyData} (i : Nat) {x : Str} {p : Addr} {k : Int} {j : Nat} {p1 p2 : Pos} (he : PX X (frz Γ) e (dt d)) (fr : tupd d = true) (hb : PX X (frz Γ) b (dt (.int k))) (hj : ixN ds.length k = some j) (eqn : ds.set j d = ds') (kk : WS X (Γ.set i (.own p (.lst ds'))) rest D)
    (h : Γ[i]? = some (.own p (.lst ds)) := by rfl) (hN : X.N[i]? = some x := by rfl) (hv : Vis X.env.scope x := by first | exact Or.inl rfl | exact Or.inr (Or.inl rfl) | exact Or.inr (Or.inr rfl)) (hd : (x == ("__debug__" : Str)) = false := by decide) (hcd : (x == ("__classdict__" : Str)) = false := by decide)
    (ha : ∀ v, assign (.Subscript (.Name x p1) b p2) X.env v = (do
      let ov ← holding [v] (eval (.Name x p1) X.env)
      let iv ← holding [v, ov] (eval b X.env)
      standAt p2
      holding [v, ov, iv] (setItem ov iv v)
      release [v, ov, iv] []) := by intro _; rfl)
    (hs : swapsWithSole [.Subscript (.Name x p1) b p2] e pos.line X.env = pure false := by rfl) (hw : swappedStores [.Subscript (.Name x p1) b p2] e X.env = pure none := by rfl) (h1 : (assignEach [.Subscript (.Name x p1) b p2] X.env).map (·.2) = [assign (.Subscript (.Name x p1) b p2) X.env] := by rfl) : WS X Γ (.Assign [.Subscript (.Name x p1) b p2] e pos :: rest) D := w_seti i he fr hb hj (eqn ▸ kk) h hN hv hd hcd ha hs hw h1
end
section
variable {X : Cx} {Γ : Ga}
/-- x, (y, z) -/
theorem pgt12 (i j l : Nat) {x y z : Str} {kk k2 : Nat} {pos pos2 p1 p2 p3 : Pos} (hN : X.N.Nodup) (hc : X.calm = true := by rfl) (hi : X.N[i]? = some x := by rfl) (hx : Loc X.env.scope x := by first | exact Or.inl rfl | exact Or.inr rfl) (hj : X.N[j]? = some y := by rfl) (hy : Loc X.env.scope y := by first | exact Or.inl rfl | exact Or.inr rfl) (hl : X.N[l]? = some z := by rfl) (hz : Loc X.env.scope z := by first | exact Or.inl rfl | exact Or.inr rfl)
    (f1 : X.fn x = true ∨ X.env.scope.names.lookup x = some .local := by first | exact .inl rfl | exact .inr rfl) (f2 : X.fn y = true ∨ X.env.scope.names.lookup y = some .local := by first | exact .inl rfl | exact .inr rfl) (f3 : X.fn z = true ∨ X.env.scope.names.lookup z = some .local := by first | exact .inl rfl | exact .inr rfl)
    (s1 : (assignEach [.Name y p2, .Name z p3] X.env).map (·.2) = assign (.Name y p2) X.env :: (assignEach [.Name z p3] X.env).map (·.2) := by rfl) (s2 : (assignEach [.Name z p3] X.env).map (·.2) = assign (.Name z p3) X.env :: (assignEach [] X.env).map (·.2) := by rfl)
    (n1 : (assignEach [.Name y p2, .Name z p3] X.env).length = 2 := by rfl) (t1 : (assignEach [.Name y p2, .Name z p3] X.env).findIdx? (·.1) = none := by rfl)
    (s3 : (assignEach [.Name x p1, .Tuple [.Name y p2, .Name z p3] k2 pos2] X.env).map (·.2) = assign (.Name x p1) X.env :: (assignEach [.Tuple [.Name y p2, .Name z p3] k2 pos2] X.env).map (·.2) := by rfl) (s4 : (assignEach [.Tuple [.Name y p2, .Name z p3] k2 pos2] X.env).map (·.2) = assign (.Tuple [.Name y p2, .Name z p3] k2 pos2) X.env :: (assignEach [] X.env).map (·.2) := by rfl)
    (n2 : (assignEach [.Name x p1, .Tuple [.Name y p2, .Name z p3] k2 pos2] X.env).length = 2 := by rfl) (t2 : (assignEach [.Name x p1, .Tuple [.Name y p2, .Name z p3] k2 pos2] X.env).findIdx? (·.1) = none := by rfl) :
    PG X (.Tuple [.Name x p1, .Tuple [.Name y p2, .Name z p3] k2 pos2] kk pos) (gTup X.K 2 (gCons (gName i) (gCons (gTup X.K 2 (gCons (gName j) (gCons (gName l) gNil))) gNil))) :=
  pg_tup hc (pgs_cons (pg_name hN hi hx f1) (pgs_cons (pg_tup hc (pgs_cons (pg_name hN hj hy f2) (pgs_cons (pg_name hN hl hz f3) pgs_nil s2) s1) n1 t1) pgs_nil s4) s3) n2 t2
theorem g12 (i j l : Nat) {x y z : Str} {kk k2 : Nat} {pos pos2 p1 p2 p3 : Pos} {d1 d2 d3 : PyData} {k : Ga → Prop} (hN : X.N.Nodup) (h : k (((Γ.set i (.dat (dt d1))).set j (.dat (dt d2))).set l (.dat (dt d3)))) (hc : X.calm = true := by rfl) (hi : X.N[i]? = some x := by rfl) (hx : Loc X.env.scope x := by first | exact Or.inl rfl | exact Or.inr rfl) (hil : i < Γ.length := by exact Nat.le_of_ble_eq_true rfl)
    (hj : X.N[j]? = some y := by rfl) (hy : Loc X.env.scope y := by first | exact Or.inl rfl | exact Or.inr rfl) (hjl : j < Γ.length := by exact Nat.le_of_ble_eq_true rfl) (hl : X.N[l]? = some z := by rfl) (hz : Loc X.env.scope z := by first | exact Or.inl rfl | exact Or.inr rfl) (hll : l < Γ.length := by exact Nat.le_of_ble_eq_true rfl)
    (f1 : X.fn x = true ∨ X.env.scope.names.lookup x = some .local := by first | exact .inl rfl | exact .inr rfl) (f2 : X.fn y = true ∨ X.env.scope.names.lookup y = some .local := by first | exact .inl rfl | exact .inr rfl) (f3 : X.fn z = true ∨ X.env.scope.names.lookup z = some .local := by first | exact .inl rfl | exact .inr rfl)
    (s1 : (assignEach [.Name y p2, .Name z p3] X.env).map (·.2) = assign (.Name y p2) X.env :: (assignEach [.Name z p3] X.env).map (·.2) := by rfl) (s2 : (assignEach [.Name z p3] X.env).map (·.2) = assign (.Name z p3) X.env :: (assignEach [] X.env).map (·.2) := by rfl)
    (n1 : (assignEach [.Name y p2, .Name z p3] X.env).length = 2 := by rfl) (t1 : (assignEach [.Name y p2, .Name z p3] X.env).findIdx? (·.1) = none := by rfl)
    (s3 : (assignEach [.Name x p1, .Tuple [.Name y p2, .Name z p3] k2 pos2] X.env).map (·.2) = assign (.Name x p1) X.env :: (assignEach [.Tuple [.Name y p2, .Name z p3] k2 pos2] X.env).map (·.2) := by rfl) (s4 : (assignEach [.Tuple [.Name y p2, .Name z p3] k2 pos2] X.env).map (·.2) = assign (.Tuple [.Name y p2, .Name z p3] k2 pos2) X.env :: (assignEach [] X.env).map (·.2) := by rfl)
    (n2 : (assignEach [.Name x p1, .Tuple [.Name y p2, .Name z p3] k2 pos2] X.env).length = 2 := by rfl) (t2 : (assignEach [.Name x p1, .Tuple [.Name y p2, .Name z p3] k2 pos2] X.env).findIdx? (·.1) = none := by rfl) :
    GX X (.Tuple [.Name x p1, .Tuple [.Name y p2, .Name z p3] k2 pos2] kk pos) (dt (.tuple [d1, .tuple [d2, d3]])) Γ (gTup X.K 2 (gCons (gName i) (gCons (gTup X.K 2 (gCons (gName j) (gCons (gName l) gNil))) gNil))) k :=
  g_tup hc (g_cons (pgs_cons (pg_tup hc (pgs_cons (pg_name hN hj hy f2) (pgs_cons (pg_name hN hl hz f3) pgs_nil s2) s1) n1 t1) pgs_nil s4)
    (g_name (g_cons pgs_nil (g_tup hc (g_cons (pgs_cons (pg_name hN hl hz f3) pgs_nil s2) (g_name (g_cons pgs_nil (g_name (g_nil (g_nil h)) hN hl hz (by simpa using hll) f3) s2) hN hj hy (by simpa using hjl) f2) s1) rfl n1 t1) s4) hN hi hx hil f1) s3) rfl n2 t2
end
end Dw
namespace Dw
open PySem PySem.Spec PyProof.Rows L2
/-! ### defs that give one thing or a new list -/
def spU (C1 : List Sem → Sem → Prop) (C2 : List Sem → List PyData → Prop) (K : PySem.W.Frag) : Sp := fun vs H Q E => spP C1 K vs H Q E ∨ spL C2 K vs H Q E
section
variable {P : Program} {w : World} {K : PySem.W.Frag} {mg : Str → Option Value} {base : Heap} {x qual : Str} {params : Arguments} {body : List Stmt} {scope : Scope} {f : Addr} {fd : FuncData}
theorem fn_un (F : FunD K x qual params body scope [] [] f fd) {N ps : List Str} (S : FnScope N ps scope) {C1 : List Sem → Sem → Prop} {C2 : List Sem → List PyData → Prop} {k : Nat} (hl : ∀ ss s, C1 ss s → ss.length = ps.length) (hl2 : ∀ ss s, C2 ss s → ss.length = ps.length)
    (hb : ∀ (cdv : Value) (A : Around) (outer : List Env) (s : Shared) (H : Hp) (E : XK), Room k (A.deeper (envOfC qual scope s.heap.objs.size f cdv)) → (∀ ss r, C1 ss r →
      WS (cxD P w K mg base N qual scope f cdv A outer s H E) (ini N ss) body { nx := fun _ => r = dt .none, rt := fun s' _ => s' = r }) ∧ ∀ ss ds, C2 ss ds → WS (cxD P w K mg base N qual scope f cdv A outer s H E) (ini N ss) body { rl := fun c _ => c = .lst ds }) : FnOk P w K mg base CX0 (k + 1) f fd ps (spU C1 C2 K) := by
  have A1 := fn_pure (P := P) (w := w) (mg := mg) (base := base) F S hl (fun cdv A outer s H E hr ss r h => (hb cdv A outer s H E hr).1 ss r h)
  have A2 := fn_list (P := P) (w := w) (mg := mg) (base := base) F S hl2 (fun cdv A outer s H E hr ss r h => (hb cdv A outer s H E hr).2 ss r h)
  refine ⟨fun vs H Q E h => ?_, fun A outer s H args us vs Q E hr e0 hbd r h => ?_⟩
  · rcases h with h | h
    · exact A1.len vs H Q E h
    · exact A2.len vs H Q E h
  · rcases h with h | h
    · exact A1.run A outer s H args us vs Q E hr e0 hbd r h
    · exact A2.run A outer s H args us vs Q E hr e0 hbd r h
theorem Fn.one {k : Nat} {ps : List Str} {C1 : List Sem → Sem → Prop} {C2 : List Sem → List PyData → Prop} (F : Fn P w K mg base x k ps (spU C1 C2 K)) : Fn P w K mg base x k ps (spP C1 K) := by
  obtain ⟨f, fd, G, r⟩ := F.ex
  exact ⟨f, fd, ⟨fun vs H Q E h => G.len vs H Q E (.inl h), fun A outer s H args us vs Q E hr e0 hb r h => G.run A outer s H args us vs Q E hr e0 hb r (.inl h)⟩, r⟩
theorem Fn.lst {k : Nat} {ps : List Str} {C1 : List Sem → Sem → Prop} {C2 : List Sem → List PyData → Prop} (F : Fn P w K mg base x k ps (spU C1 C2 K)) : Fn P w K mg base x k ps (spL C2 K) := by
  obtain ⟨f, fd, G, r⟩ := F.ex
  exact ⟨f, fd, ⟨fun vs H Q E h => G.len vs H Q E (.inr h), fun A outer s H args us vs Q E hr e0 hb r h => G.run A outer s H args us vs Q E hr e0 hb r (.inr h)⟩, r⟩
end
end Dw

namespace Dw
open PySem PySem.Spec PyProof.Rows L2
section
variable {X : Cx} {Γ : Ga} {D : Ks} {e : Expr} {rest : List Stmt} {ds es ds' : List PyData} {pos : Pos}
theorem w_ext (i : Nat) {x : Str} {p : Addr} {p1 p2 p3 : Pos} (he : PXL X (frz Γ) e es) (fr : tupds es = true) (hl : ds.length + es.length ≤ 100000) (eqn : ds ++ es = ds') (kk : WS X (Γ.set i (.own p (.lst ds'))) rest D) (h : Γ[i]? = some (.own p (.lst ds)) := by rfl) (hN : X.N[i]? = some x := by rfl) (hv : Vis X.env.scope x := by first | exact Or.inl rfl | exact Or.inr (Or.inl rfl) | exact Or.inr (Or.inr rfl)) (hd : (x == ("__debug__" : Str)) = false := by decide) (hcd : (x == ("__classdict__" : Str)) = false := by decide)
    (q1 : attributeBase (.Name x p1) ("extend" : Str) X.env (eval (.Name x p1) X.env) = eval (.Name x p1) X.env := by rfl)
    (q2 : ((backTo p3 (starEach [e] X.env)).all (fun x => !x.1) && (backToKw p3 (keywordEach [] X.env)).all (fun x => x.1.isSome) && decide ([e].length + ([] : List Keyword).length + (if ([] : List Keyword).isEmpty then 0 else 1) < 30)) = true := by rfl)
    (q3 : (p2.endLine == p3.line) = true := by rfl) (q4 : starEach [e] X.env = (false, eval e X.env) :: starEach [] X.env := by rfl) (q5 : (backTo p3 (starEach [] X.env)).any (·.1) = false := by rfl)
    (hs : swapsWith (.Call (.Attribute (.Name x p1) ("extend" : Str) p2) [e] [] p3) none pos.line X.env = pure false := by rfl) : WS X Γ (.Expr (.Call (.Attribute (.Name x p1) ("extend" : Str) p2) [e] [] p3) pos :: rest) D :=
  w_extend i (pe_bm PySem.F.plainAttrs_list PySem.F.slot_list_extend PySem.F.type_list_extend mt_extend (pe_var hN hv hd hcd) pa_W q1 q2 q3 q4 q5) he fr hl (eqn ▸ kk) h hs q4
theorem w_rem (i : Nat) {x : Str} {p : Addr} {ns : List Int} {k : Int} {j : Nat} {p1 p2 p3 : Pos} (he : PX X (frz Γ) e (dt (.int k))) (hj : ns[j]? = some k) (hno : ∀ m, m < j → ns[m]? ≠ some k) (eq0 : ds = dI ns) (eqn : dI (ns.eraseIdx j) = ds') (kk : WS X (Γ.set i (.own p (.lst ds'))) rest D) (h : Γ[i]? = some (.own p (.lst ds)) := by rfl) (hN : X.N[i]? = some x := by rfl) (hv : Vis X.env.scope x := by first | exact Or.inl rfl | exact Or.inr (Or.inl rfl) | exact Or.inr (Or.inr rfl)) (hd : (x == ("__debug__" : Str)) = false := by decide) (hcd : (x == ("__classdict__" : Str)) = false := by decide)
    (q1 : attributeBase (.Name x p1) ("remove" : Str) X.env (eval (.Name x p1) X.env) = eval (.Name x p1) X.env := by rfl)
    (q2 : ((backTo p3 (starEach [e] X.env)).all (fun x => !x.1) && (backToKw p3 (keywordEach [] X.env)).all (fun x => x.1.isSome) && decide ([e].length + ([] : List Keyword).length + (if ([] : List Keyword).isEmpty then 0 else 1) < 30)) = true := by rfl)
    (q3 : (p2.endLine == p3.line) = true := by rfl) (q4 : starEach [e] X.env = (false, eval e X.env) :: starEach [] X.env := by rfl) (q5 : (backTo p3 (starEach [] X.env)).any (·.1) = false := by rfl)
    (hs : swapsWith (.Call (.Attribute (.Name x p1) ("remove" : Str) p2) [e] [] p3) none pos.line X.env = pure false := by rfl) : WS X Γ (.Expr (.Call (.Attribute (.Name x p1) ("remove" : Str) p2) [e] [] p3) pos :: rest) D :=
  w_remove i (pe_bm PySem.F.plainAttrs_list PySem.F.slot_list_remove PySem.F.type_list_remove mt_remove (pe_var hN hv hd hcd) pa_W q1 q2 q3 q4 q5) he hj hno (eqn ▸ kk) (eq0 ▸ h) hs q4
end
section
variable {X : Cx} {Γ : Sv} {a e : Expr}
theorem p_lcnt {ns : List Int} {k : Int} {p2 p3 : Pos} (ha : PX X Γ a (dt (.list (dI ns)))) (hb : PX X Γ e (dt (.int k)))
    (q1 : attributeBase a ("count" : Str) X.env (eval a X.env) = eval a X.env := by rfl)
    (q2 : ((backTo p3 (starEach [e] X.env)).all (fun x => !x.1) && (backToKw p3 (keywordEach [] X.env)).all (fun x => x.1.isSome) && decide ([e].length + ([] : List Keyword).length + (if ([] : List Keyword).isEmpty then 0 else 1) < 30)) = true := by rfl)
    (q3 : (p2.endLine == p3.line) = true := by rfl) (q4 : starEach [e] X.env = (false, eval e X.env) :: starEach [] X.env := by rfl) (q5 : (backTo p3 (starEach [] X.env)).any (·.1) = false := by rfl) : PX X Γ (.Call (.Attribute a ("count" : Str) p2) [e] [] p3) (dt (.int (ns.count k : Nat))) :=
  px_lcount (pe_bm PySem.F.plainAttrs_list PySem.F.slot_list_count PySem.F.type_list_count mt_lcount pe_W pa_W q1 q2 q3 q4 q5) ha hb q4
theorem p_lidx {ns : List Int} {k : Int} {j : Nat} {p2 p3 : Pos} (ha : PX X Γ a (dt (.list (dI ns)))) (hb : PX X Γ e (dt (.int k))) (hj : ns[j]? = some k) (hno : ∀ m, m < j → ns[m]? ≠ some k)
    (q1 : attributeBase a ("index" : Str) X.env (eval a X.env) = eval a X.env := by rfl)
    (q2 : ((backTo p3 (starEach [e] X.env)).all (fun x => !x.1) && (backToKw p3 (keywordEach [] X.env)).all (fun x => x.1.isSome) && decide ([e].length + ([] : List Keyword).length + (if ([] : List Keyword).isEmpty then 0 else 1) < 30)) = true := by rfl)
    (q3 : (p2.endLine == p3.line) = true := by rfl) (q4 : starEach [e] X.env = (false, eval e X.env) :: starEach [] X.env := by rfl) (q5 : (backTo p3 (starEach [] X.env)).any (·.1) = false := by rfl) : PX X Γ (.Call (.Attribute a ("index" : Str) p2) [e] [] p3) (dt (.int (j : Nat))) :=
  px_lindex (pe_bm PySem.F.plainAttrs_list PySem.F.slot_list_index PySem.F.type_list_index mt_index pe_W pa_W q1 q2 q3 q4 q5) ha hb hj hno q4
end
end Dw
namespace Dw
open PySem PySem.Spec PyProof.Rows L2
section
variable {X : Cx} {Γ : Sv} {a b c d : Expr} {ds : List PyData} {pos : Pos}
theorem pxl_if {k : Bool} (hc : PB X Γ c k) (ha : k = true → PXL X Γ a ds) (hb : k = false → PXL X Γ b ds) : PXL X Γ (.IfExp c a b pos) ds := pxl_of (pe_ifExp pt_W pe_W pe_W) fun σ H Q z q => hc σ H _ z fun H1 x1 => by
  cases k with
  | true => rw [if_pos rfl]; exact ha rfl σ H1 Q (z.mono x1) fun p H2 xs np x2 h1 h2 => q p H2 xs (Evl.fresh_back x1 np) (x1.trans x2) h1 h2
  | false => rw [if_neg Bool.false_ne_true]; exact hb rfl σ H1 Q (z.mono x1) fun p H2 xs np x2 h1 h2 => q p H2 xs (Evl.fresh_back x1 np) (x1.trans x2) h1 h2
theorem pb_or4 {k m n o : Bool} (ha : PB X Γ a k) (hb : k = false → PB X Γ b m) (hc : k = false → m = false → PB X Γ c n) (hd : k = false → m = false → n = false → PB X Γ d o) : PB X Γ (.BoolOp .Or [a, b, c, d] pos) (k || (m || (n || o))) := pb_w (pbw_or ha fun h => pbw_or (hb h) fun h2 => pbw_or (hc h h2) fun h3 => pbw_or1 (hd h h2 h3))
end
end Dw
set_option Elab.async false
set_option linter.all false
set_option maxRecDepth 100000
set_option maxHeartbeats 1000000
/-! Lists of lists. -/
namespace Dw
open PySem PySem.Spec PyProof.Rows L2
/-- no object within -/
def flatD : PyData → Bool
  | .none => true
  | .bool _ => true
  | .int _ => true
  | .str _ => true
  | _ => false
theorem flat_dp {K : PySem.W.Frag} {H H' : Hp} {v : V} {d : PyData} (f : flatD d = true) (h : Dp K H v d) : Dp K H' v d := by
  cases h with
  | non => exact .non
  | bl b => exact .bl b
  | int i => exact .int i
  | str x => exact .str x
  | lst h a => simp [flatD] at f
  | tup h a => simp [flatD] at f
theorem flat_all {K : PySem.W.Frag} {H H' : Hp} : ∀ {vs : List V} {ds : List PyData}, (∀ d ∈ ds, flatD d = true) → DpAll K H vs ds → DpAll K H' vs ds
  | _, _, _, .nil => .nil
  | _, _, f, .cons h a => .cons (flat_dp (f _ List.mem_cons_self) h) (flat_all (fun d hd => f d (List.mem_cons_of_mem _ hd)) a)
section
variable {X : Cx} {Γ : Ga} {D : Ks} {e b : Expr} {rest : List Stmt} {ds : List PyData} {d : PyData} {pos : Pos}
/-- x = [e], e a new flat list -/
theorem w_asgLL (i : Nat) {x : Str} {pos' p2 : Pos} (hN : X.N.Nodup) (he : PXL X (frz Γ) e ds) (fl : ∀ d ∈ ds, flatD d = true) (k : ∀ p, WS X (Γ.set i (.own p (.lst [.list ds]))) rest D) (hi : X.N[i]? = some x := by rfl) (hx : Loc X.env.scope x := by first | exact Or.inl rfl | exact Or.inr rfl) (hil : i < Γ.length := by exact Nat.le_of_ble_eq_true rfl) (hs : swapsWith (.List [e] p2) (some (.Name x pos')) pos.line X.env = pure false := by rfl)
    (hf : X.fn x = true ∨ X.env.scope.names.lookup x = some .local := by first | exact .inl rfl | exact .inr rfl) (q4 : starEach [e] X.env = (false, eval e X.env) :: starEach [] X.env := by rfl) : WS X Γ (.Assign [.Name x pos'] (.List [e] p2) pos :: rest) D := ws_cons fun H0 O σ H E S eo =>
  wS (ps_set hN hi hx (pe_lst (pa_cons pe_W pa_nil q4)) hs hf) (he σ H _ S.sl fun r H1 xs nr x1 hr h1 => by
    refine ⟨by show 1 ≤ sizeLine; decide, fun p hp => ?_⟩
    have hpH : H p = none := Evl.fresh_back x1 hp
    have x2 : Ex H (upd H1 p (.lst [.ref r])) := x1.trans (Evl.Ex.new hp)
    have rp : r ≠ p := fun z => by rw [z, hp] at hr; cases hr
    obtain ⟨S1, nO, k1, g1⟩ := S.hide hpH x2 (.inl ⟨_, upd_same⟩)
    have rn : ¬ Hid (p :: O) Γ r := fun z => by
      rcases z with z | z
      · rcases List.mem_cons.mp z with z | z
        · exact rp z
        · exact S.fresh nr (.inl z)
      · exact S.fresh nr (.inr z)
    have hrb : Bs (upd H1 p (.lst [.ref r])) (p :: O) Γ r = some (.lst xs) := by
      show cut _ (Hid (p :: O) Γ) r = _
      rw [cut_no rn, upd_ne rp]
      exact hr
    obtain ⟨S2, g2⟩ := S1.own' nO hil (c := .lst [.list ds]) ⟨_, upd_same, .cons (.lst (SqL.of hrb) (flat_all fl h1)) .nil⟩
    exact eo.nx _ _ _ (k p) S2 ⟨k1, g1.trans g2⟩)
/-- x.append(y), y a name whose value is not ours -/
theorem w_appV {ds' : List PyData} (i j : Nat) {x y : Str} {s : Sem} {p : Addr} {p1 p2 p3 p4 : Pos} (hy : Γ[j]? = some (.dat s)) (w : Wk s (dt d)) (hl : ds.length < 100000) (eqn : ds ++ [d] = ds') (k : WS X (Γ.set i (.own p (.lst ds'))) rest D) (h : Γ[i]? = some (.own p (.lst ds)) := by rfl) (hN : X.N[i]? = some x := by rfl) (hNy : X.N[j]? = some y := by rfl)
    (hv : Vis X.env.scope x := by first | exact Or.inl rfl | exact Or.inr (Or.inl rfl) | exact Or.inr (Or.inr rfl)) (hvy : Vis X.env.scope y := by first | exact Or.inl rfl | exact Or.inr (Or.inl rfl) | exact Or.inr (Or.inr rfl))
    (q1 : attributeBase (.Name x p1) ("append" : Str) X.env (eval (.Name x p1) X.env) = eval (.Name x p1) X.env := by rfl)
    (q2 : ((backTo p3 (starEach [.Name y p4] X.env)).all (fun x => !x.1) && (backToKw p3 (keywordEach [] X.env)).all (fun x => x.1.isSome) && decide (([.Name y p4] : List Expr).length + ([] : List Keyword).length + (if ([] : List Keyword).isEmpty then 0 else 1) < 30)) = true := by rfl)
    (q3 : (p2.endLine == p3.line) = true := by rfl) (q4 : starEach [.Name y p4] X.env = (false, eval (.Name y p4) X.env) :: starEach [] X.env := by rfl) (q5 : (backTo p3 (starEach [] X.env)).any (·.1) = false := by rfl)
    (hs : swapsWith (.Call (.Attribute (.Name x p1) ("append" : Str) p2) [.Name y p4] [] p3) none pos.line X.env = pure false := by rfl)
    (hd : (x == ("__debug__" : Str)) = false := by decide) (hcd : (x == ("__classdict__" : Str)) = false := by decide) (hd2 : (y == ("__debug__" : Str)) = false := by decide) (hcd2 : (y == ("__classdict__" : Str)) = false := by decide) :
    WS X Γ (.Expr (.Call (.Attribute (.Name x p1) ("append" : Str) p2) [.Name y p4] [] p3) pos :: rest) D := ws_cons fun H0 O σ H E S eo => by
  subst eqn
  obtain ⟨hσ, xs, hp, ha⟩ := slot_own S h
  obtain ⟨v, hσy, z, rfl, hz⟩ := S.slot j _ hy
  refine wS (ps_expr (pe_bm PySem.F.plainAttrs_list PySem.F.slot_list_append PySem.F.type_list_append mt_append (pe_var hN hv hd hcd) (pa_cons (pe_var hNy hvy hd2 hcd2) pa_nil q4) q1 q2 q3 q4 q5) hs) ⟨_, hσ, .inl ⟨rfl, xs, SqL.of hp⟩, z, hσy, ?_⟩
  refine ⟨p, xs, z, rfl, rfl, hp, by rw [DpAll.len ha]; exact Evl.sz_lt hl, ?_⟩
  obtain ⟨S2, u2⟩ := S.mut (c' := .lst (ds ++ [d])) (o := .lst (xs ++ [z])) h ⟨_, upd_same, ha.app (.cons (w hz) .nil)⟩
  exact eo.nx σ _ _ k S2 u2
/-- x = y[b], y ours, the item of any kind -/
theorem w_item (i j : Nat) {x y : Str} {p : Addr} {k : Int} {pos' p1 p2 : Pos} (hN : X.N.Nodup) (hb : PX X (frz Γ) b (dt (.int k))) (hat : atI ds k = some d) (kk : WS X (Γ.set i (.dat (dt d))) rest D) (h : Γ[j]? = some (.own p (.lst ds)) := by rfl) (hi : X.N[i]? = some x := by rfl) (hNy : X.N[j]? = some y := by rfl)
    (hx : Loc X.env.scope x := by first | exact Or.inl rfl | exact Or.inr rfl) (hvy : Vis X.env.scope y := by first | exact Or.inl rfl | exact Or.inr (Or.inl rfl) | exact Or.inr (Or.inr rfl)) (hil : i < Γ.length := by exact Nat.le_of_ble_eq_true rfl) (hs : swapsWith (.Subscript (.Name y p1) b p2) (some (.Name x pos')) pos.line X.env = pure false := by rfl)
    (hf : X.fn x = true ∨ X.env.scope.names.lookup x = some .local := by first | exact .inl rfl | exact .inr rfl) (hpl : PlainIx b := by exact fun _ _ => rfl) (hd : (y == ("__debug__" : Str)) = false := by decide) (hcd : (y == ("__classdict__" : Str)) = false := by decide) : WS X Γ (.Assign [.Name x pos'] (.Subscript (.Name y p1) b p2) pos :: rest) D := ws_cons fun H0 O σ H E S eo => by
  obtain ⟨hσ, xs, hp, ha⟩ := slot_own S h
  obtain ⟨z, z1, z2⟩ := atI_dp ha hat
  refine wS (ps_set hN hi hx (pe_ix ix_list (pe_var hNy hvy hd hcd) pe_W hpl) hs hf) ⟨_, hσ, hb σ H _ S.sl fun w H1 x1 h1 => ?_⟩
  obtain ⟨S1, u1⟩ := S.ex x1
  refine ⟨p, xs, k, z, rfl, Dp.int_ h1, SqL.of (x1 p _ hp), z1, ?_⟩
  obtain ⟨S2, u2⟩ := S1.put hil (s := dt d) (v := z) (Dp.mono u1.grow z2)
  exact eo.nx _ H1 _ kk S2 (u1.tr u2)
/-- x = y[::-1], y a name whose list is not ours; so is x's -/
theorem w_revV (i j : Nat) {x y : Str} {s : Sem} {pos' p1 q1 q2 q3 q4 : Pos} {kk : Nat} (hN : X.N.Nodup) (hy : Γ[j]? = some (.dat s)) (w : Wk s (dt (.list ds))) (k : WS X (Γ.set i (.dat (dt (.list ds.reverse)))) rest D) (hi : X.N[i]? = some x := by rfl) (hNy : X.N[j]? = some y := by rfl)
    (hx : Loc X.env.scope x := by first | exact Or.inl rfl | exact Or.inr rfl) (hvy : Vis X.env.scope y := by first | exact Or.inl rfl | exact Or.inr (Or.inl rfl) | exact Or.inr (Or.inr rfl)) (hil : i < Γ.length := by exact Nat.le_of_ble_eq_true rfl)
    (hs : swapsWith (.Subscript (.Name y p1) (.Slice none none (some (.UnaryOp .USub (.Constant (.int 1) kk q1) q2)) q3) q4) (some (.Name x pos')) pos.line X.env = pure false := by rfl)
    (hf : X.fn x = true ∨ X.env.scope.names.lookup x = some .local := by first | exact .inl rfl | exact .inr rfl) (hd : (y == ("__debug__" : Str)) = false := by decide) (hcd : (y == ("__classdict__" : Str)) = false := by decide) :
    WS X Γ (.Assign [.Name x pos'] (.Subscript (.Name y p1) (.Slice none none (some (.UnaryOp .USub (.Constant (.int 1) kk q1) q2)) q3) q4) pos :: rest) D := ws_cons fun H0 O σ H E S eo => by
  obtain ⟨v, hσ, z, rfl, hz⟩ := S.slot j _ hy
  obtain ⟨a, xs, rfl, ha, had⟩ := Dp.lst_ (w hz)
  refine wS (ps_set hN hi hx (pe_revL (pe_var hNy hvy hd hcd)) hs hf) ⟨_, hσ, a, xs, rfl, dex_l cut_ex ha, fun p hp => ?_⟩
  obtain ⟨S1, u1⟩ := S.ex (Evl.Ex.new (o := .lst xs.reverse) hp)
  have hpb : Bs (upd H p (.lst xs.reverse)) O Γ p = some (.lst xs.reverse) := by
    show cut _ (Hid O Γ) p = _
    rw [cut_no (S.fresh hp)]
    exact upd_same
  obtain ⟨S2, u2⟩ := S1.put hil (s := dt (.list ds.reverse)) (v := .ref p) (.lst (SqL.of hpb) (DpAll.mono u1.grow had.rev))
  exact eo.nx _ _ _ k S2 (u1.tr u2)
end
end Dw
set_option Elab.async false
set_option linter.all false
set_option maxRecDepth 100000
set_option maxHeartbeats 2000000
namespace L2
open PySem PySem.Spec PyProof.Rows L2H HotX
section
variable {X : Cx}
theorem ps_setLcH {i : Nat} {y : Str} {py : Pos} {elt tg iter : Expr} {ifs : List Expr} {scope : Scope} {own : List (Str × Nat)} {pos spos : Pos} {wi : TI} {g : TG} {tt : TT} {te : TE} (hc : HotC X) (hN : X.N.Nodup) (hy : X.N[i]? = some y) (hyl : X.env.scope.names.lookup y = some .local)
    (hsw : swapsWith (.ListComp elt [⟨tg, iter, ifs, 0⟩] scope pos) (some (.Name y py)) spos.line X.env = pure true) (hi : PIG X tg iter wi) (ok : BlkOk X.N X.env.scope scope own)
    (hg : ∀ (s : Shared) (H : Hp) (C : Addr) (cl : List (Str × Addr)) (fp : List Addr), PG (X.blk s H scope (compEnvC scope cl C X.env) fp) tg g) (ht : ∀ (s : Shared) (H : Hp) (C : Addr) (cl : List (Str × Addr)) (fp : List Addr), PTs (X.blk s H scope (compEnvC scope cl C X.env) fp) ifs tt)
    (he : ∀ (s : Shared) (H : Hp) (C : Addr) (cl : List (Str × Addr)) (fp : List Addr), PE (X.blk s H scope (compEnvC scope cl C X.env) fp) elt te) (hs : ∀ x, foldedSetIterable iter X.env x = pure x := by intro _; rfl) :
    PS X (.Assign [.Name y py] (.ListComp elt [⟨tg, iter, ifs, 0⟩] scope pos) spos) (tAsg (tLc wi g tt te (own.map (·.2))) (gName i)) := by
  refine ⟨fun pins s σ H D I h => ?_⟩
  rw [exec_Assign_Name_used _ _ _ _ hsw]
  refine wpAny_bind (wpAny_standAt (wpAny_bind ?_))
  show wpAny _ X.A (do let _ ← comprehension (.ListComp elt [⟨tg, iter, ifs, 0⟩] scope pos) scope X.env (firstIterPos [⟨tg, iter, ifs, 0⟩] pos) (newList []) false (eval iter X.env) (some (assign (.Name y py) X.env))) _ _ s
  have h : tLc wi g tt te (own.map (·.2)) σ H (fun x H1 => gName i x σ H1 D.nx) := h
  refine wpAny_bind (thn (lcH_core (Qf := fun _ s' => SP X pins D .next s') hc hN I hi ok hg ht he hs h fun L C s' m H' I' q hn f => ?_) fun _ s' hq => wpAny_pure (wpAny_pure hq))
  show wpAny _ _ (assign (.Name y py) X.env (.ref L)) _ _ _
  refine wpAny_assign_Name (store_ok2 (v := V.ref L) I' hN hy (.inl hyl) rfl (fun s2 I2 ⟨a, sb, ha⟩ => ?_) (.inr hyl))
  obtain ⟨f0, f1, f2, f3, f4, f5⟩ := f
  have haC : C ≠ a := by
    rcases ha with z | z
    · rw [z]; exact f1
    · exact fun e => f4 y a z e.symm
  refine ⟨m, hn.sameBut sb haC, fun h3 sb3 => ?_⟩
  exact ⟨_, H', I2.turned (t' := s2.toks) (fun b o hb e => (sb3.2 b hb).trans e) f0 f1 f3 f4 f5, q⟩
end
end L2
namespace Dw
open PySem PySem.Spec PyProof.Rows L2 L2H HotX
section
variable {X : Cx} {Γ : Sv} {pos : Pos} {α : Type}
theorem lcx_lcH {L : List α} {item : α → Sem} {test : α → Bool} {val : α → PyData} {bnd : α → Sv} {g : TG} {elt tg iter : Expr} {ifs : List Expr} {scope : Scope} {own : List (Str × Nat)} {tt : TT}
    (hc : HotC X) (hN : X.N.Nodup) (hi : PItG X Γ tg iter L item) (ok : BlkOk X.N X.env.scope scope own) (hg : Blk X scope fun Y => PG Y tg g) (hifs : Ifs X scope ifs tt) (hb : ∀ a ∈ L, GP X.K g (own.map (·.2)) (item a) (wipeE Γ (own.map (·.2))) (bnd a))
    (ht : ∀ a ∈ L, ifsOk X scope ifs (bnd a) (test a)) (he : ∀ a ∈ L, test a = true → Blk X scope fun Y => PX Y (bnd a) elt (dt (val a))) (hv : ∀ a ∈ L, test a = true → tupd (val a) = true) (hl : L.length < 100000)
    (hs : ∀ x, foldedSetIterable iter X.env x = pure x := by intro _; rfl) : LCX X Γ (.ListComp elt [⟨tg, iter, ifs, 0⟩] scope pos) ((L.filter test).map val) := by
  obtain ⟨wi, pi, ri⟩ := hi
  have pts : Blk X scope fun Y => PTs Y ifs tt := fun s H C cl fp => by
    cases hifs with
    | nil => exact pts_nil
    | one => exact pts_one ⟨fun pins s1 σ H1 Q I h => h s H C cl fp pins s1 I⟩
  refine ⟨_, ?_, pe_lcH (te := fun σ H Q => ∀ (s : Shared) (H' : Hp) (C : Addr) (cl : List (Str × Addr)) (fp : List Addr), W (X.blk s H' scope (compEnvC scope cl C X.env) fp) elt σ H Q) hc hN pi ok hg pts (fun s H C cl fp => ⟨fun pins s1 σ H1 Q I h => h s H C cl fp pins s1 I⟩) hs, fun i y py spos hy hyl hsw => ps_setLcH (te := fun σ H Q => ∀ (s : Shared) (H' : Hp) (C : Addr) (cl : List (Str × Addr)) (fp : List Addr), W (X.blk s H' scope (compEnvC scope cl C X.env) fp) elt σ H Q) hc hN hy hyl hsw pi ok hg pts (fun s H C cl fp => ⟨fun pins s1 σ H1 Q I h => h s H C cl fp pins s1 I⟩) hs⟩
  intro σ H Q sl q
  refine ri σ H _ sl fun J H1 n G Y x1 hlen wk per its => ?_
  intro Dl hD
  have ftk : ∀ n, tupds (((L.take n).filter test).map val) = true := fun n => tupds_iff.mpr fun d h => by
    obtain ⟨a, ha, rfl⟩ := List.mem_map.mp h
    have := List.mem_filter.mp ha
    exact hv a (List.mem_of_mem_take this.1) this.2
  have lent : ∀ n, (((L.take n).filter test).map val).length ≤ L.length := fun n => by
    rw [List.length_map]
    refine Nat.le_trans (List.length_filter_le _ _) ?_
    rw [List.length_take]
    omega
  have kt : ∀ {H2 : Hp} {acc acc' : List V}, H2 Dl = some (.lst acc) → ∀ a xs, SqT X.K H2 a xs → SqT X.K (upd H2 Dl (.lst acc')) a xs := fun {H2 acc acc'} h a xs z => by
    rcases z with z | z
    · refine .inl ?_
      have n : a ≠ Dl := fun e => by
        subst e
        rcases z with z | ⟨o, z⟩ <;> (rw [h] at z; cases z)
      rcases z with z | ⟨o, z⟩
      · exact .inl (by rw [upd_ne n]; exact z)
      · exact .inr ⟨o, by rw [upd_ne n]; exact z⟩
    · exact .inr z
  refine lc_it (g := g) (tt := tt) (te := (fun σ H Q => ∀ (s : Shared) (H' : Hp) (C : Addr) (cl : List (Str × Addr)) (fp : List Addr), W (X.blk s H' scope (compEnvC scope cl C X.env) fp) elt σ H Q)) (vs := own.map (·.2)) (σ := σ) wk (fun i H' => Ex H1 H' ∧ ∃ acc, H' Dl = some (.lst acc) ∧ DpAll X.K H' acc (((L.take i).filter test).map val)) ⟨Evl.Ex.new hD, [], upd_same, by simp; exact .nil⟩ (fun i H' _ p => per H' p.1) (fun i x H' H'' hi p y => ?_) (fun H' ⟨e, acc, h1, h2⟩ => q Dl H' acc (Evl.fresh_back x1 hD) (x1.trans e) h1 (by rw [hlen, List.take_length] at h2; exact h2))
  obtain ⟨e1, acc, h1, h2⟩ := p
  have hi' : i < L.length := hlen ▸ hi
  obtain ⟨f0, f2⟩ := its i L[i] H' x H'' (List.getElem?_eq_getElem hi') e1 y
  replace e1 := e1.trans f0
  replace h2 := DpAll.mono f0 h2
  replace h1 := f0 Dl _ h1
  have mem : L[i] ∈ L := List.getElem_mem hi'
  have tk : L.take (i + 1) = L.take i ++ [L[i]] := by rw [List.take_add_one, List.getElem?_eq_getElem hi']; rfl
  have slw : Sl X.K H'' (L2.wipe σ (own.map (·.2))) (wipeE Γ (own.map (·.2))) := (sl.mono (x1.trans e1)).wipe _
  refine hb L[i] mem x H'' _ _ slw f2 fun σ2 w2 sl2 => ⟨by rw [w2, wipe_wipe], ?_⟩
  -- the test
  have tst : ∀ (Q' : Bool → Hp → Prop), (∀ H3, Ex H'' H3 → Q' (test L[i]) H3) → tt σ2 H'' Q' := fun Q' q' => by
    have t0 := ht L[i] mem
    cases hifs with
    | nil =>
      have t1 : test L[i] = true := t0
      have := q' H'' Ex.rfl'
      rw [t1] at this
      exact this
    | one => exact fun s H' C cl fp => t0 s H' C cl fp σ2 H'' Q' sl2 q'
  refine tst _ fun H3 e3 => ?_
  have a3 := e3 Dl _ h1
  have d3 := DpAll.mono e3 h2
  cases q3 : test L[i] with
  | false =>
    rw [if_neg Bool.false_ne_true]
    refine ⟨e1.trans e3, acc, a3, ?_⟩
    rw [tk, List.filter_append, List.filter_cons, q3, if_neg Bool.false_ne_true]
    simpa using d3
  | true =>
    rw [if_pos rfl]
    intro s H' C cl fp
    refine he L[i] mem q3 s H' C cl fp σ2 H3 _ (sl2.mono e3) fun y H4 e4 h4 => ?_
    have a4 := e4 Dl _ a3
    have d4 := DpAll.mono e4 d3
    have ln : acc.length < 100000 := by
      rw [DpAll.len h2]
      exact Nat.lt_of_le_of_lt (lent i) hl
    refine ⟨acc, a4, Evl.sz_lt ln, Evl.Ex.mut ((e1.trans e3).trans e4) hD, acc ++ [y], upd_same, ?_⟩
    have ex : ((L.take (i + 1)).filter test).map val = ((L.take i).filter test).map val ++ [val L[i]] := by
      rw [tk, List.filter_append, List.filter_cons, q3, if_pos rfl]
      simp
    rw [ex]
    exact DpAll.tk (kt a4) (by rw [← ex]; exact ftk (i + 1)) (d4.app (.cons h4 .nil))
end
end Dw
set_option Elab.async false
set_option linter.all false
set_option maxRecDepth 100000
set_option maxHeartbeats 2000000
/-! Expressions that change lists of ours: draws from a box. -/
namespace Dw
open PySem PySem.Spec PyProof.Rows L2
/-- e gives a flat value and leaves a state, as k says -/
def ZV (X : Cx) (Γ : Ga) (e : Expr) (k : V → Ga → Prop) : Prop := ∀ H0 O σ H Q, Sta X.K H0 H O σ Γ → (∀ v Γ' H', k v Γ' → Sta X.K H0 H' O σ Γ' → Up H H' O Γ Γ' → Q v H') → W X e σ H Q
def ZB (X : Cx) (Γ : Ga) (e : Expr) (k : Bool → Ga → Prop) : Prop := ∀ H0 O σ H Q, Sta X.K H0 H O σ Γ → (∀ b Γ' H', k b Γ' → Sta X.K H0 H' O σ Γ' → Up H H' O Γ Γ' → Q b H') → WT X e σ H Q
/-- e gives an s -/
def ZX (X : Cx) (Γ : Ga) (e : Expr) (k : Sem → Ga → Prop) : Prop := ∀ H0 O σ H Q, Sta X.K H0 H O σ Γ → (∀ s v Γ' H', k s Γ' → Sta X.K H0 H' O σ Γ' → Up H H' O Γ Γ' → s.P X.K (Bs H' O Γ') v → Q v H') → W X e σ H Q
/-- e gives a new list, also where it is stored at once -/
def ZLS (X : Cx) (Γ : Ga) (te : TE) (k : List PyData → Ga → Prop) : Prop := ∀ H0 O σ H Q, Sta X.K H0 H O σ Γ → (∀ p H' xs ds Γ', k ds Γ' → H p = none → p ∉ O → Sta X.K H0 H' (p :: O) σ Γ' → (∀ a ∈ O, H' a = H a) → Ex (Bs H O Γ) (Bs H' (p :: O) Γ') → H' p = some (.lst xs) → DpAll X.K (Bs H' (p :: O) Γ') xs ds → Q (.ref p) H') → te σ H Q
def ZLX (X : Cx) (Γ : Ga) (e : Expr) (k : List PyData → Ga → Prop) : Prop := ∃ te : TE, ZLS X Γ te k ∧ PE X e te ∧
  ∀ (i : Nat) (y : Str) (py spos : Pos), X.N[i]? = some y → X.env.scope.names.lookup y = some .local → swapsWith e (some (.Name y py)) spos.line X.env = pure true → PS X (.Assign [.Name y py] e spos) (tAsg te (gName i))
section
variable {X : Cx} {Γ : Ga} {e a b c : Expr} {es : List Expr} {pos p : Pos} {k : V → Ga → Prop}
theorem zv_mono {k' : V → Ga → Prop} (h : ZV X Γ e k) (w : ∀ v Γ', k v Γ' → k' v Γ') : ZV X Γ e k' := fun H0 O σ H Q S q => h H0 O σ H Q S fun v Γ' H' hk => q v Γ' H' (w v Γ' hk)
theorem zv_int {i : Int} (h : PX X (frz Γ) e (dt (.int i))) (hk : k (.int i) Γ) : ZV X Γ e k := fun H0 O σ H Q S q => h σ H Q S.sl fun v H1 x1 h1 => by
  obtain ⟨S1, u1⟩ := S.ex x1
  rw [Dp.int_ h1]
  exact q _ Γ H1 hk S1 u1
theorem zv_bl {i : Bool} (h : PX X (frz Γ) e (dt (.bool i))) (hk : k (.bl i) Γ) : ZV X Γ e k := fun H0 O σ H Q S q => h σ H Q S.sl fun v H1 x1 h1 => by
  obtain ⟨S1, u1⟩ := S.ex x1
  rw [Dp.bl_ h1]
  exact q _ Γ H1 hk S1 u1
theorem zv_two {r : R2} {k1 : V → Ga → Prop} (ha : ZV X Γ a k1) (hb : ∀ v Γ1, k1 v Γ1 → ZV X Γ1 b fun w Γ2 => ∀ (H : Hp) (Q : VK), (∀ u, k u Γ2 → Q u H) → r v w H Q) : ∀ H0 O σ H Q, Sta X.K H0 H O σ Γ → (∀ v Γ' H', k v Γ' → Sta X.K H0 H' O σ Γ' → Up H H' O Γ Γ' → Q v H') → tOp r (W X a) (W X b) σ H Q := fun H0 O σ H Q S q =>
  ha H0 O σ H _ S fun v Γ1 H1 k1 S1 u1 => hb v Γ1 k1 H0 O σ H1 _ S1 fun w Γ2 H2 k2 S2 u2 => k2 H2 Q fun u hk => q u Γ2 H2 hk S2 (u1.tr u2)
theorem zv_bin {op : Operator} {r : R2} {k1 : V → Ga → Prop} (ho : OpR X (binaryOp op) r) (ha : ZV X Γ a k1) (hb : ∀ v Γ1, k1 v Γ1 → ZV X Γ1 b fun w Γ2 => ∀ (H : Hp) (Q : VK), (∀ u, k u Γ2 → Q u H) → r v w H Q) : ZV X Γ (.BinOp a op b pos) k := fun H0 O σ H Q S q =>
  wE (pe_op ho pe_W pe_W) (zv_two ha hb H0 O σ H Q S q)
theorem zv_add {k1 : V → Ga → Prop} (ha : ZV X Γ a k1) (hb : ∀ v Γ1, k1 v Γ1 → ∃ i, v = .int i ∧ ZV X Γ1 b fun w Γ2 => ∃ j, w = .int j ∧ k (.int (i + j)) Γ2) : ZV X Γ (.BinOp a .Add b pos) k := zv_bin op_add ha fun v Γ1 h => by
  obtain ⟨i, rfl, hz⟩ := hb v Γ1 h
  exact zv_mono hz fun w Γ2 ⟨j, hj, hk⟩ H Q q => ⟨i, j, rfl, hj, q _ hk⟩
theorem zv_mod {k1 : V → Ga → Prop} (ha : ZV X Γ a k1) (hb : ∀ v Γ1, k1 v Γ1 → ∃ i, v = .int i ∧ ZV X Γ1 b fun w Γ2 => ∃ j, w = .int j ∧ 0 < j ∧ k (.int (i % j)) Γ2) : ZV X Γ (.BinOp a .Mod b pos) k := zv_bin op_mod ha fun v Γ1 h => by
  obtain ⟨i, rfl, hz⟩ := hb v Γ1 h
  exact zv_mono hz fun w Γ2 ⟨j, hj, h0, hk⟩ H Q q => ⟨i, j, rfl, hj, h0, q _ hk⟩
/-- a == b of ints -/
theorem zv_eqI {k1 : V → Ga → Prop} (ha : ZV X Γ a k1) (hb : ∀ v Γ1, k1 v Γ1 → ∃ i, v = .int i ∧ ZV X Γ1 b fun w Γ2 => ∃ j, w = .int j ∧ k (.bl (decide (i = j))) Γ2) : ZV X Γ (.Compare a [.Eq] [b] pos) k := fun H0 O σ H Q S q =>
  wE (pe_cmpR op_eq pe_W pe_W (nomark _)) (zv_two ha (fun v Γ1 h => by
    obtain ⟨i, rfl, hz⟩ := hb v Γ1 h
    refine zv_mono hz fun w Γ2 ⟨j, hj, hk⟩ H Q q => ?_
    subst hj
    refine ⟨rfl, ?_⟩
    rw [show decide (V.int i = V.int j) = decide (i = j) by simp]
    exact q _ hk) H0 O σ H Q S q)
theorem zb_gt {kb : Bool → Ga → Prop} {k1 : V → Ga → Prop} (ha : ZV X Γ a k1) (hb : ∀ v Γ1, k1 v Γ1 → ∃ i, v = .int i ∧ ZV X Γ1 b fun w Γ2 => ∃ j, w = .int j ∧ kb (decide (j < i)) Γ2) : ZB X Γ (.Compare a [.Gt] [b] pos) kb := fun H0 O σ H Q S q =>
  wT (pt_cmpR op_gt pe_W pe_W (nomark _)) (ha H0 O σ H _ S fun v Γ1 H1 k1 S1 u1 => by
    obtain ⟨i, rfl, hz⟩ := hb v Γ1 k1
    refine hz H0 O σ H1 _ S1 fun w Γ2 H2 ⟨j, hj, hk⟩ S2 u2 => ?_
    subst hj
    exact ⟨i, j, rfl, rfl, _, rfl, q _ Γ2 H2 hk S2 (u1.tr u2)⟩)
theorem zv_if {kk : Bool} (hc : PB X (frz Γ) c kk) (ha : kk = true → ZV X Γ a k) (hb : kk = false → ZV X Γ b k) : ZV X Γ (.IfExp c a b pos) k := fun H0 O σ H Q S q => wE (pe_ifExp pt_W pe_W pe_W) (hc σ H _ S.sl fun H1 x1 => by
  obtain ⟨S1, u1⟩ := S.ex x1
  cases kk with
  | true => rw [if_pos rfl]; exact ha rfl H0 O σ H1 Q S1 fun v Γ' H' hk S' u' => q v Γ' H' hk S' (u1.tr u')
  | false => rw [if_neg Bool.false_ne_true]; exact hb rfl H0 O σ H1 Q S1 fun v Γ' H' hk S' u' => q v Γ' H' hk S' (u1.tr u'))
/-- x[e], x a list of ours -/
theorem zv_ix (i : Nat) {x : Str} {p1 : Pos} (pa : Addr) (he : ZV X Γ e fun w Γ2 => ∃ ds j v d, w = .int j ∧ Γ2[i]? = some (.own pa (.lst ds)) ∧ atI ds j = some d ∧ (∀ K H x, Dp K H x d → x = v) ∧ k v Γ2) (h : ∃ c, Γ[i]? = some (.own pa c)) (hN : X.N[i]? = some x := by rfl) (hv : Vis X.env.scope x := by first | exact Or.inl rfl | exact Or.inr (Or.inl rfl) | exact Or.inr (Or.inr rfl)) (hpl : PlainIx e := by exact fun _ _ => rfl) (hd : (x == ("__debug__" : Str)) = false := by decide) (hcd : (x == ("__classdict__" : Str)) = false := by decide) : ZV X Γ (.Subscript (.Name x p1) e pos) k := fun H0 O σ H Q S q => by
  obtain ⟨c, h⟩ := h
  obtain ⟨v0, hσ, h2, _⟩ := S.slot i _ h
  subst h2
  refine wE (pe_ix ix_list (pe_var hN hv hd hcd) pe_W hpl) ⟨_, hσ, he H0 O σ H _ S fun w Γ2 H2 ⟨ds, j, v, d, hw, ho, hat, hd, hk⟩ S2 u2 => ?_⟩
  obtain ⟨_, xs, hp, ha⟩ := slot_own S2 ho
  obtain ⟨z, z1, z2⟩ := atI_dp ha hat
  have ez := hd _ _ _ z2
  subst ez
  exact ⟨pa, xs, j, z, rfl, hw, SqL.of hp, z1, q z Γ2 H2 hk S2 u2⟩
/-- int(e), e an int -/
theorem zv_intc (hg : X.mg "int" = none) (he : ZV X Γ e fun w Γ2 => ∃ i, w = .int i ∧ k (.int i) Γ2) (hgl : Gl X "int" := by rfl) (hs : starEach [e] X.env = (false, eval e X.env) :: starEach [] X.env := by rfl) (hp : (backTo pos (starEach [] X.env)).any (·.1) = false := by rfl) : ZV X Γ (.Call (.Name "int" p) [e] [] pos) k := fun H0 O σ H Q S q =>
  wE (pe_callTy call_int1 hgl hg (by decide +kernel) (pa_cons pe_W pa_nil hs) (he := hs) (hpl := hp)) (he H0 O σ H _ S fun w Γ2 H2 ⟨i, hw, hk⟩ S2 u2 => .inl ⟨i, by rw [hw], q _ Γ2 H2 hk S2 u2⟩)
/-- min(a, b) -/
theorem zv_min {k1 : V → Ga → Prop} (hc : X.calm = true) (hg : X.mg "min" = none) (ha : ZV X Γ a k1) (hb : ∀ v Γ1, k1 v Γ1 → ∃ i, v = .int i ∧ ZV X Γ1 b fun w Γ2 => ∃ j, w = .int j ∧ k (.int (if j < i then j else i)) Γ2) (hgl : Gl X "min" := by rfl) (hs : starEach [a, b] X.env = (false, eval a X.env) :: starEach [b] X.env := by rfl) (hs2 : starEach [b] X.env = (false, eval b X.env) :: starEach [] X.env := by rfl) (hp : (backTo pos (starEach [b] X.env)).any (·.1) = false := by rfl) : ZV X Γ (.Call (.Name "min" p) [a, b] [] pos) k := fun H0 O σ H Q S q =>
  wE (pe_callB (call_min2 hc) hgl hg (by decide +kernel) (pa_cons pe_W (pa_cons pe_W pa_nil hs2) hs) (he := hs) (hpl := hp)) (ha H0 O σ H _ S fun v Γ1 H1 h1 S1 u1 => by
    obtain ⟨i, rfl, hz⟩ := hb v Γ1 h1
    exact hz H0 O σ H1 _ S1 fun w Γ2 H2 ⟨j, hw, hk⟩ S2 u2 => ⟨i, j, by rw [hw], q _ Γ2 H2 hk S2 (u1.tr u2)⟩)
/-- x.pop(e), x a list of ours of flat items -/
theorem zv_pop (i : Nat) {x : Str} {p1 p2 p3 : Pos} (pa : Addr) (he : ZV X Γ e fun w Γ2 => ∃ ds j v d, w = .int (j : Nat) ∧ j < 100000 ∧ Γ2[i]? = some (.own pa (.lst ds)) ∧ ds[j]? = some d ∧ (∀ K H x, Dp K H x d → x = v) ∧ k v (Γ2.set i (.own pa (.lst (ds.eraseIdx j))))) {ds0 : List PyData} (h : Γ[i]? = some (.own pa (.lst ds0))) (hN : X.N[i]? = some x := by rfl) (hv : Vis X.env.scope x := by first | exact Or.inl rfl | exact Or.inr (Or.inl rfl) | exact Or.inr (Or.inr rfl)) (hd : (x == ("__debug__" : Str)) = false := by decide) (hcd : (x == ("__classdict__" : Str)) = false := by decide)
    (q1 : attributeBase (.Name x p1) ("pop" : Str) X.env (eval (.Name x p1) X.env) = eval (.Name x p1) X.env := by rfl)
    (q2 : ((backTo p3 (starEach [e] X.env)).all (fun x => !x.1) && (backToKw p3 (keywordEach [] X.env)).all (fun x => x.1.isSome) && decide ([e].length + ([] : List Keyword).length + (if ([] : List Keyword).isEmpty then 0 else 1) < 30)) = true := by rfl)
    (q3 : (p2.endLine == p3.line) = true := by rfl) (q4 : starEach [e] X.env = (false, eval e X.env) :: starEach [] X.env := by rfl) (q5 : (backTo p3 (starEach [] X.env)).any (·.1) = false := by rfl) : ZV X Γ (.Call (.Attribute (.Name x p1) ("pop" : Str) p2) [e] [] p3) k := fun H0 O σ H Q S q => by
  obtain ⟨hσ, xs0, hp0, _⟩ := slot_own S h
  refine wE (pe_bm PySem.F.plainAttrs_list PySem.F.slot_list_pop PySem.F.type_list_pop mt_popAt (pe_var hN hv hd hcd) (pa_cons pe_W pa_nil q4) q1 q2 q3 q4 q5) ⟨_, hσ, .inl ⟨rfl, xs0, SqL.of hp0⟩, he H0 O σ H _ S fun w Γ2 H2 ⟨ds, j, v, d, hw, hj, ho, hat, hd, hk⟩ S2 u2 => ?_⟩
  obtain ⟨_, xs, hp, ha⟩ := slot_own S2 ho
  obtain ⟨z, z1, z2⟩ := DpAll.at ha hat
  have ez := hd _ _ _ z2
  subst ez
  have hjl : j < xs.length := (List.getElem?_eq_some_iff.mp z1).1
  obtain ⟨S3, u3⟩ := S2.mut (c' := .lst (ds.eraseIdx j)) (o := .lst (xs.eraseIdx j)) ho ⟨_, upd_same, ha.erase j⟩
  refine ⟨pa, xs, (j : Int), j, z, rfl, by rw [hw], hp, by omega, by omega, ?_, z1, q z _ _ hk S3 (u2.tr u3)⟩
  unfold seqIndex?
  simp
  omega
end
end Dw
set_option Elab.async false
set_option linter.all false
set_option maxRecDepth 100000
set_option maxHeartbeats 2000000
/-! Defs that draw from a box (a list of ours that stays the caller's), statements and comprehensions over such expressions. -/
namespace Dw
open PySem PySem.Spec PyProof.Rows L2
/-- what a box holds: numbers, and four numbers of its own -/
def BoxD (ds : List PyData) : Prop := ∃ (cs : List Int) (i m n s : Int), ds = [.list (dI cs), .int i, .int m, .int n, .int s] ∧ 0 ≤ i ∧ cs.length ≤ 100000
/-- the hidden ones and b -/
def HB (O : List Addr) (b : Addr) (a : Addr) : Prop := a ∈ O ∨ a = b
/-- f(box, ..): C tells what is given; the box stays a box -/
def spM (C : List Sem → (Sem → Prop) → Prop) (K : PySem.W.Frag) : Sp := fun vs H Q _ => ∃ (O : List Addr) (b : Addr) (xs : List V) (ds : List PyData) (ws : List V) (ss : List Sem) (kk : Sem → Prop), vs = .ref b :: ws ∧ b ∉ O ∧ (∀ a ∈ O, Mutb (H a)) ∧ H b = some (.lst xs) ∧ DpAll K (cut H (HB O b)) xs ds ∧ BoxD ds ∧
  SAll K (cut H (HB O b)) ws ss ∧ C ss kk ∧ ∀ v H' xs' ds' s, kk s → (∀ a ∈ O, H' a = H a) → Ex (cut H (HB O b)) (cut H' (HB O b)) → H' b = some (.lst xs') → DpAll K (cut H' (HB O b)) xs' ds' → BoxD ds' → s.P K (cut H' (HB O b)) v → Q v H'
def iniB (N : List Str) (b : Addr) (ds : List PyData) (ss : List Sem) : Ga := .own b (.lst ds) :: (ss.map .dat ++ List.replicate (N.length - (ss.length + 1)) .un)
theorem iniB_own {N : List Str} {b a : Addr} {ds : List PyData} {ss : List Sem} {i : Nat} {c : Con} (h : (iniB N b ds ss)[i]? = some (.own a c)) : i = 0 ∧ a = b ∧ c = .lst ds := by
  cases i with
  | zero =>
    have : Ty.own b (.lst ds) = .own a c := by simpa [iniB] using h
    cases this
    exact ⟨rfl, rfl, rfl⟩
  | succ i =>
    exfalso
    have h : (ss.map Ty.dat ++ List.replicate (N.length - (ss.length + 1)) .un)[i]? = some (.own a c) := by simpa [iniB] using h
    rw [List.getElem?_append] at h
    split at h
    · rw [List.getElem?_map] at h
      cases z : ss[i]? with
      | none => rw [z] at h; cases h
      | some t => rw [z] at h; cases h
    · rw [List.getElem?_replicate] at h
      split at h <;> cases h
theorem iniB_sta {K : PySem.W.Frag} {H : Hp} {O : List Addr} {b : Addr} {xs : List V} {ds : List PyData} {N : List Str} {ws : List V} {ss : List Sem} (hO : b ∉ O) (m : ∀ a ∈ O, Mutb (H a)) (hb : H b = some (.lst xs)) (hd : DpAll K (cut H (HB O b)) xs ds) (h : SAll K (cut H (HB O b)) ws ss) (hN : ss.length + 1 ≤ N.length) :
    Sta K (cut H (HB O b)) H O (L2.start N (.ref b :: ws)) (iniB N b ds ss) := by
  have hl := SAll.len h
  have own : ∀ a, Own (iniB N b ds ss) a ↔ a = b := fun a => ⟨fun ⟨i, c, q⟩ => (iniB_own q).2.1, fun e => ⟨0, .lst ds, by rw [e]; rfl⟩⟩
  have e : Bs H O (iniB N b ds ss) = cut H (HB O b) := by
    funext a
    show cut H (Hid O (iniB N b ds ss)) a = _
    by_cases q : HB O b a
    · rw [cut_yes q, cut_yes (show Hid O _ a from q.imp id fun z => (own a).mpr z)]
    · rw [cut_no q, cut_no fun z => q (z.imp id fun y => (own a).mp y)]
  refine ⟨by rw [e]; exact Ex.rfl', by simp [L2.start, iniB, hl], fun i j a c c' q1 q2 => by rw [(iniB_own q1).1, (iniB_own q2).1], fun a ha q => hO (by rw [← (own a).mp q]; exact ha), m, fun i t q => ?_⟩
  rw [e]
  cases i with
  | zero =>
    have : Ty.own b (.lst ds) = t := by simpa [iniB] using q
    subst this
    exact ⟨some (.ref b), by simp [L2.start], rfl, xs, hb, hd⟩
  | succ i =>
    have q : (ss.map Ty.dat ++ List.replicate (N.length - (ss.length + 1)) .un)[i]? = some t := by simpa [iniB] using q
    have st : (L2.start N (.ref b :: ws))[i + 1]? = (ws.map some ++ List.replicate (N.length - (ws.length + 1)) none)[i]? := by simp [L2.start]
    rw [st]
    by_cases hi : i < ss.length
    · rw [List.getElem?_append_left (by simpa using hi), List.getElem?_map] at q
      rw [List.getElem?_append_left (by simp; omega), List.getElem?_map]
      cases z : ss[i]? with
      | none => rw [z] at q; cases q
      | some s =>
        rw [z] at q
        have et : Ty.dat s = t := by simpa using q
        subst et
        obtain ⟨v, h1, h2⟩ := SAll.at h z
        exact ⟨some v, by rw [h1]; rfl, v, rfl, h2⟩
    · rw [List.getElem?_append_right (by simp; omega), List.getElem?_replicate] at q
      split at q
      · cases q
        refine ⟨none, ?_, trivial⟩
        rw [List.getElem?_append_right (by simp; omega), List.getElem?_replicate, if_pos]
        simp at *
        omega
      · cases q
section
variable {P : Program} {w : World} {K : PySem.W.Frag} {mg : Str → Option Value} {base : Heap} {x qual : Str} {params : Arguments} {body : List Stmt} {scope : Scope} {f : Addr} {fd : FuncData}
/-- THE RULE for a def that draws -/
theorem fn_mut (F : FunD K x qual params body scope [] [] f fd) {N ps : List Str} (S : FnScope N ps scope) {C : List Sem → (Sem → Prop) → Prop} {k : Nat} (hl : ∀ ss s, C ss s → ss.length + 1 = ps.length) (hpN : ps.length ≤ N.length)
    (hb : ∀ (cdv : Value) (A : Around) (outer : List Env) (s : Shared) (H : Hp) (E : XK), Room k (A.deeper (envOfC qual scope s.heap.objs.size f cdv)) → ∀ b ds ss kk, BoxD ds → C ss kk →
      WS (cxD P w K mg base N qual scope f cdv A outer s H E) (iniB N b ds ss) body { rt := fun s' Γ' => kk s' ∧ ∃ ds', BoxD ds' ∧ Γ'[0]? = some (.own b (.lst ds')) }) : FnOk P w K mg base CX0 (k + 1) f fd ps (spM C K) := by
  refine F.ok S (fun vs H Q E ⟨O, b, xs, ds, ws, ss, kk, e, _, _, _, _, _, h1, h2, _⟩ => by rw [e, List.length_cons, SAll.len h1]; exact hl ss kk h2) (fun cdv A outer s H vs Q E hr h => ?_)
  obtain ⟨O, b, xs, ds, ws, ss, kk, e, hO, hm, hbx, hd, hB, h1, h2, h3⟩ := h
  subst e
  refine ⟨_, PSs.nox pss_W, hb cdv A outer s H E hr b ds ss kk hB h2 _ O _ H _ (iniB_sta hO hm hbx hd h1 (by rw [hl ss kk h2]; exact hpN)) ⟨?_, ?_, ?_, ?_, ?_⟩⟩
  · intro _ _ _ d; exact d.elim
  · intro _ _ _ d; exact d.elim
  · intro _ _ _ d; exact d.elim
  · rintro v σ' H' Γ' t ⟨hk, ds', hB', ho⟩ S' u pv
    obtain ⟨_, xs', hp, ha⟩ := slot_own S' ho
    have g : Ex (Bs H' O Γ') (cut H' (HB O b)) := cut_grow fun a o q n => ⟨q, fun z => n (z.imp id fun (y : a = b) => (by subst y; exact ⟨0, _, ho⟩ : Own Γ' a))⟩
    exact h3 v H' xs' ds' t hk u.keep (S'.ent.trans g) hp (DpAll.mono g ha) hB' (t.up g pv)
  · intro _ _ _ _ _ d; exact d.elim
end
/-! ### a call of such a def -/
def ownL : Ga → List Addr
  | [] => []
  | .own p _ :: Γ => p :: ownL Γ
  | _ :: Γ => ownL Γ
theorem mem_ownL {a : Addr} : ∀ {Γ : Ga}, a ∈ ownL Γ ↔ Own Γ a
  | [] => ⟨fun h => (nomatch h), fun ⟨i, c, h⟩ => by simp at h⟩
  | t :: Γ => by
    have ih := mem_ownL (a := a) (Γ := Γ)
    have up : Own Γ a → Own (t :: Γ) a := fun ⟨i, c, h⟩ => ⟨i + 1, c, by simpa using h⟩
    have dn : Own (t :: Γ) a → (∃ c, t = .own a c) ∨ Own Γ a := fun ⟨i, c, h⟩ => by
      cases i with
      | zero => exact .inl ⟨c, by simpa using h⟩
      | succ i => exact .inr ⟨i, c, by simpa using h⟩
    cases t with
    | un =>
      show a ∈ ownL Γ ↔ _
      rw [ih]
      exact ⟨up, fun h => (dn h).resolve_left fun ⟨c, z⟩ => by cases z⟩
    | dat s =>
      show a ∈ ownL Γ ↔ _
      rw [ih]
      exact ⟨up, fun h => (dn h).resolve_left fun ⟨c, z⟩ => by cases z⟩
    | own p c =>
      show a ∈ p :: ownL Γ ↔ _
      rw [List.mem_cons, ih]
      constructor
      · rintro (rfl | h)
        · exact ⟨0, c, rfl⟩
        · exact up h
      · intro h
        rcases dn h with ⟨c', z⟩ | h
        · cases z; exact .inl rfl
        · exact .inr h
section
variable {X : Cx} {Γ : Ga} {e a : Expr} {es : List Expr} {pos p : Pos}
theorem zx_call (i : Nat) {C : List Sem → (Sem → Prop) → Prop} {x y : Str} {k n : Nat} {ps : List Str} {ss : List Sem} {kk : Sem → Prop} {b : Addr} {ds : List PyData} {kq : Sem → Ga → Prop} {p2 : Pos} (F : Fn X.prog X.w X.K X.mg X.base x k ps (spM C X.K)) (hr : Room n X.A) (ha : PXs X (frz Γ) es ss) (fr : ∀ s ∈ ss, Fr s) (hC : C ss kk) (hB : BoxD ds) (hq : ∀ s ds', kk s → BoxD ds' → kq s (Γ.set i (.own b (.lst ds')))) (h : Γ[i]? = some (.own b (.lst ds)) := by rfl)
    (hn : k ≤ n := by decide) (hg : Gl X x := by rfl) (hN : X.N[i]? = some y := by rfl) (hv : Vis X.env.scope y := by first | exact Or.inl rfl | exact Or.inr (Or.inl rfl) | exact Or.inr (Or.inr rfl)) (hd : (y == ("__debug__" : Str)) = false := by decide) (hcd : (y == ("__classdict__" : Str)) = false := by decide)
    (hdb : (x == ("__debug__" : Str)) = false := by decide) (he : starEach (.Name y p2 :: es) X.env = (false, eval (.Name y p2) X.env) :: starEach es X.env := by rfl) (hpl : (backTo pos (starEach es X.env)).any (·.1) = false := by rfl) : ZX X Γ (.Call (.Name x p) (.Name y p2 :: es) [] pos) kq := fun H0 O σ H Q S q => by
  obtain ⟨f, fd, G, hm, hk, hb⟩ := F.ex
  obtain ⟨hσ, xs0, hp0, hd0⟩ := slot_own S h
  refine wE (pe_call G (hr.mono hn) hg hm hk hb .nil pass0 (pa_cons (pe_var hN hv hd hcd) pa_W he) hdb he hpl) ⟨_, hσ, ha σ H _ S.sl fun ws H1 x1 h1 => ?_⟩
  show spM C X.K ((.ref b :: ws) ++ []) H1 Q E0
  rw [List.append_nil]
  obtain ⟨S1, u1⟩ := S.ex x1
  have hp1 : H1 b = some (.lst xs0) := x1 b _ hp0
  have hd1 := DpAll.mono u1.grow hd0
  have hid : ∀ c, HB ((O ++ ownL Γ).filter fun c => !decide (c = b)) b c ↔ Hid O Γ c := fun c => by
    unfold HB
    rw [List.mem_filter, List.mem_append, mem_ownL]
    constructor
    · rintro (⟨z, _⟩ | rfl)
      · exact z
      · exact .inr ⟨i, _, h⟩
    · intro z
      by_cases e : c = b
      · exact .inr e
      · exact .inl ⟨z, by simpa using e⟩
  have eB : ∀ H', cut H' (HB ((O ++ ownL Γ).filter fun c => !decide (c = b)) b) = Bs H' O Γ := fun H' => by
    funext c
    by_cases z : Hid O Γ c
    · rw [cut_yes ((hid c).mpr z)]; exact (cut_yes z).symm
    · rw [cut_no fun y => z ((hid c).mp y)]; exact (cut_no z).symm
  have frz_ : SAll X.K (Bs H1 O Γ) ws ss := by
    have : ∀ {ws : List V} {ss : List Sem}, SAll X.K H1 ws ss → (∀ s ∈ ss, Fr s) → SAll X.K (Bs H1 O Γ) ws ss := by
      intro ws ss h
      induction h with
      | nil => intro _; exact .nil
      | cons a r ih => intro f; exact .cons (f _ List.mem_cons_self S1.mutb a) (ih fun s hs => f s (List.mem_cons_of_mem _ hs))
    exact this h1 fr
  refine ⟨(O ++ ownL Γ).filter (fun c => !decide (c = b)), b, xs0, ds, ws, ss, kk, rfl, fun z => by simpa using (List.mem_filter.mp z).2, fun c hc => S1.mutb c ((hid c).mp (.inl hc)), hp1, by rw [eB]; exact hd1, hB, by rw [eB]; exact frz_, hC, fun v H' xs' ds' s hks keep g hp' hd' hB' hs' => ?_⟩
  rw [eB, eB] at g
  rw [eB] at hd' hs'
  have hi : i < Γ.length := (List.getElem?_eq_some_iff.mp h).1
  have lk : ∀ j t, (Γ.set i (.own b (.lst ds')))[j]? = some t → (j = i ∧ t = .own b (.lst ds')) ∨ (j ≠ i ∧ Γ[j]? = some t) := fun j t z => by
    rw [List.getElem?_set] at z
    by_cases e : i = j
    · subst e
      rw [if_pos rfl, if_pos hi] at z
      exact .inl ⟨rfl, (Option.some.inj z).symm⟩
    · rw [if_neg e] at z
      exact .inr ⟨fun y => e y.symm, z⟩
  have own_ : ∀ c, Own (Γ.set i (.own b (.lst ds'))) c ↔ Own Γ c := fun c => by
    constructor
    · rintro ⟨j, t, z⟩
      rcases lk j _ z with ⟨_, y⟩ | ⟨_, y⟩
      · cases y; exact ⟨i, _, h⟩
      · exact ⟨j, t, y⟩
    · rintro ⟨j, t, z⟩
      by_cases e : i = j
      · subst e
        rw [h] at z
        cases z
        exact ⟨i, .lst ds', by rw [List.getElem?_set, if_pos rfl, if_pos hi]⟩
      · exact ⟨j, t, by rw [List.getElem?_set, if_neg e]; exact z⟩
  have eB2 : Bs H' O (Γ.set i (.own b (.lst ds'))) = Bs H' O Γ := by
    funext c
    by_cases z : Hid O Γ c
    · exact (cut_yes (show Hid O (Γ.set i (.own b (.lst ds'))) c from z.imp id (own_ c).mpr)).trans (cut_yes z).symm
    · exact (cut_no fun (y : Hid O (Γ.set i (.own b (.lst ds'))) c) => z (y.imp id (own_ c).mp)).trans (cut_no z).symm
  have kp : ∀ c, c ∈ O ∨ (Own Γ c ∧ c ≠ b) → H' c = H1 c := fun c hc => keep c (List.mem_filter.mpr ⟨List.mem_append.mpr (hc.imp id fun z => mem_ownL.mpr z.1), by
    rcases hc with z | z
    · have : c ≠ b := fun e => S.dis c z (by rw [e]; exact ⟨i, _, h⟩)
      simpa using this
    · simpa using z.2⟩)
  have S2 : Sta X.K H0 H' O σ (Γ.set i (.own b (.lst ds'))) := by
    refine ⟨by rw [eB2]; exact S1.ent.trans g, by simp [S.len], fun j m c c1 c2 z1 z2 => ?_, fun c hc z => S.dis c hc ((own_ c).mp z), fun c hc => by rw [kp c (.inl hc)]; exact S1.hid c hc, fun j t z => ?_⟩
    · rcases lk j _ z1 with ⟨e1, y1⟩ | ⟨n1, y1⟩
      · cases y1
        rcases lk m _ z2 with ⟨e2, y2⟩ | ⟨n2, y2⟩
        · rw [e1, e2]
        · exact absurd (S.inj m i b _ _ y2 h) n2
      · rcases lk m _ z2 with ⟨e2, y2⟩ | ⟨n2, y2⟩
        · cases y2
          exact absurd (S.inj j i b _ _ y1 h) n1
        · exact S.inj j m c c1 c2 y1 y2
    · rw [eB2]
      rcases lk j t z with ⟨rfl, rfl⟩ | ⟨ne, z⟩
      · exact ⟨_, hσ, rfl, xs', hp', hd'⟩
      · obtain ⟨u, z1, z2⟩ := S1.slot j t z
        refine ⟨u, z1, ?_⟩
        cases t with
        | un => trivial
        | dat s' =>
          obtain ⟨y, e1, e2⟩ := z2
          exact ⟨y, e1, s'.up g e2⟩
        | own p' c1 =>
          have np : p' ≠ b := fun y => ne (S.inj j i b _ _ (y ▸ z) h)
          exact ⟨z2.1, z2.2.to g (kp p' (.inr ⟨⟨j, c1, z⟩, np⟩))⟩
  refine q s v _ H' (hq s ds' hks hB') S2 ⟨fun c hc => (kp c (.inl hc)).trans (u1.keep c hc), ?_⟩ (by rw [eB2]; exact hs')
  rw [eB2]
  exact u1.grow.trans g
/-- .. that gives a number -/
theorem zv_call (i : Nat) {C : List Sem → (Sem → Prop) → Prop} {x y : Str} {k n : Nat} {ps : List Str} {ss : List Sem} {kk : Sem → Prop} {b : Addr} {ds : List PyData} {kq : V → Ga → Prop} {p2 : Pos} (F : Fn X.prog X.w X.K X.mg X.base x k ps (spM C X.K)) (hr : Room n X.A) (ha : PXs X (frz Γ) es ss) (fr : ∀ s ∈ ss, Fr s) (hC : C ss kk) (hB : BoxD ds) (hq : ∀ s ds', kk s → BoxD ds' → ∃ m : Int, s = dt (.int m) ∧ kq (.int m) (Γ.set i (.own b (.lst ds')))) (h : Γ[i]? = some (.own b (.lst ds)) := by rfl)
    (hn : k ≤ n := by decide) (hg : Gl X x := by rfl) (hN : X.N[i]? = some y := by rfl) (hv : Vis X.env.scope y := by first | exact Or.inl rfl | exact Or.inr (Or.inl rfl) | exact Or.inr (Or.inr rfl)) (hd : (y == ("__debug__" : Str)) = false := by decide) (hcd : (y == ("__classdict__" : Str)) = false := by decide)
    (hdb : (x == ("__debug__" : Str)) = false := by decide) (he : starEach (.Name y p2 :: es) X.env = (false, eval (.Name y p2) X.env) :: starEach es X.env := by rfl) (hpl : (backTo pos (starEach es X.env)).any (·.1) = false := by rfl) : ZV X Γ (.Call (.Name x p) (.Name y p2 :: es) [] pos) kq := fun H0 O σ H Q S q =>
  zx_call (kq := fun s Γ' => ∃ m : Int, s = dt (.int m) ∧ kq (.int m) Γ') i F hr ha fr hC hB hq h hn hg hN hv hd hcd hdb he hpl H0 O σ H Q S fun s v Γ' H' ⟨m, es, hk⟩ S' u' pv => by
    subst es
    rw [Dp.int_ pv]
    exact q _ Γ' H' hk S' u'
end
end Dw
set_option Elab.async false
set_option linter.all false
set_option maxRecDepth 100000
set_option maxHeartbeats 2000000
/-! Statements and comprehensions over expressions that draw. -/
namespace Dw
open PySem PySem.Spec PyProof.Rows L2
section
variable {X : Cx} {Γ : Ga} {D : Ks} {e b c : Expr} {ss rest : List Stmt} {pos : Pos}
/-- x = e, an int -/
theorem w_asgZ (i : Nat) {x : Str} {pos' : Pos} (hN : X.N.Nodup) (he : ZV X Γ e fun v Γ' => ∃ m : Int, v = .int m ∧ WS X (Γ'.set i (.dat (dt (.int m)))) rest D) (hi : X.N[i]? = some x := by rfl) (hx : Loc X.env.scope x := by first | exact Or.inl rfl | exact Or.inr rfl) (hil : i < Γ.length := by exact Nat.le_of_ble_eq_true rfl) (hs : swapsWith e (some (.Name x pos')) pos.line X.env = pure false := by rfl)
    (hf : X.fn x = true ∨ X.env.scope.names.lookup x = some .local := by first | exact .inl rfl | exact .inr rfl) : WS X Γ (.Assign [.Name x pos'] e pos :: rest) D := ws_cons fun H0 O σ H E S eo =>
  wS (ps_set hN hi hx pe_W hs hf) (he H0 O σ H _ S fun v Γ1 H1 ⟨m, hv, k⟩ S1 u1 => by
    subst hv
    obtain ⟨S2, u2⟩ := S1.put (i := i) (by rw [← S1.len, S.len]; exact hil) (s := dt (.int m)) (v := .int m) (Dp.int m)
    exact eo.nx _ H1 _ k S2 (u1.tr u2))
theorem w_whenZ {kb : Bool → Ga → Prop} (hc : ZB X Γ c kb) (h : ∀ b Γ', kb b Γ' → (b = true → WS X Γ' ss { D with nx := fun Γ' => WS X Γ' rest D }) ∧ (b = false → WS X Γ' rest D)) : WS X Γ (.If c ss [] pos :: rest) D := ws_cons fun H0 O σ H E S eo =>
  wS (ps_if pt_W pss_W pss_nil) (hc H0 O σ H _ S fun b Γ1 H1 k S1 u1 => by
    obtain ⟨h1, h2⟩ := h b Γ1 k
    cases b with
    | true => rw [if_pos rfl]; exact h1 rfl H0 O σ H1 E S1 (eo.up u1)
    | false => rw [if_neg Bool.false_ne_true]; exact eo.nx σ H1 Γ1 (h2 rfl) S1 u1)
/-- x[b] = e, x a list of ours, flat values -/
theorem w_setZ (i : Nat) {x : Str} {pa : Addr} {p1 p2 : Pos} (he : ZV X Γ e fun v Γ1 => (∃ c, Γ1[i]? = some (.own pa c)) ∧ ZV X Γ1 b fun w Γ2 => ∃ ds kx j d, w = .int kx ∧ Γ2[i]? = some (.own pa (.lst ds)) ∧ ixN ds.length kx = some j ∧ (∀ K H, Dp K H v d) ∧ WS X (Γ2.set i (.own pa (.lst (ds.set j d)))) rest D)
    (hN : X.N[i]? = some x := by rfl) (hv : Vis X.env.scope x := by first | exact Or.inl rfl | exact Or.inr (Or.inl rfl) | exact Or.inr (Or.inr rfl)) (hd : (x == ("__debug__" : Str)) = false := by decide) (hcd : (x == ("__classdict__" : Str)) = false := by decide)
    (ha : ∀ v, assign (.Subscript (.Name x p1) b p2) X.env v = (do
      let ov ← holding [v] (eval (.Name x p1) X.env)
      let iv ← holding [v, ov] (eval b X.env)
      standAt p2
      holding [v, ov, iv] (setItem ov iv v)
      release [v, ov, iv] []) := by intro _; rfl)
    (hs : swapsWithSole [.Subscript (.Name x p1) b p2] e pos.line X.env = pure false := by rfl) (hw : swappedStores [.Subscript (.Name x p1) b p2] e X.env = pure none := by rfl) (h1 : (assignEach [.Subscript (.Name x p1) b p2] X.env).map (·.2) = [assign (.Subscript (.Name x p1) b p2) X.env] := by rfl) : WS X Γ (.Assign [.Subscript (.Name x p1) b p2] e pos :: rest) D := ws_cons fun H0 O σ H E S eo => by
  refine wS (ps_asg pe_W (pg_sub (pe_var hN hv hd hcd) pe_W set_list ha) hs hw h1) (he H0 O σ H _ S fun v Γ1 H1 ⟨⟨c, ho⟩, hb⟩ S1 u1 => ?_)
  obtain ⟨v0, hσ, h2, _⟩ := S1.slot i _ ho
  subst h2
  refine ⟨_, hσ, hb H0 O σ H1 _ S1 fun w Γ2 H2 ⟨ds, kx, j, d, hw, ho2, hj, hd, k⟩ S2 u2 => ?_⟩
  obtain ⟨_, xs, hp, hda⟩ := slot_own S2 ho2
  obtain ⟨S3, u3⟩ := S2.mut (c' := .lst (ds.set j d)) (o := .lst (xs.set j v)) ho2 ⟨_, upd_same, hda.set (hd _ _)⟩
  exact ⟨pa, xs, kx, j, rfl, hw, hp, by rw [DpAll.len hda]; exact hj, eo.nx σ _ _ k S3 ((u1.tr u2).tr u3)⟩
/-- x = [comprehension that draws], on one line, x local -/
theorem w_asgZC (i : Nat) {x : Str} {pos' : Pos} {k : List PyData → Ga → Prop} (he : ZLX X Γ e k) (kk : ∀ p ds Γ', k ds Γ' → WS X (Γ'.set i (.own p (.lst ds))) rest D) (hi : X.N[i]? = some x := by rfl) (hx : X.env.scope.names.lookup x = some .local := by rfl) (hil : i < Γ.length := by exact Nat.le_of_ble_eq_true rfl) (hs : swapsWith e (some (.Name x pos')) pos.line X.env = pure true := by rfl) : WS X Γ (.Assign [.Name x pos'] e pos :: rest) D := ws_cons fun H0 O σ H E S eo => by
  obtain ⟨te, h1, _, h3⟩ := he
  refine wS (h3 i x pos' pos hi hx hs) (h1 H0 O σ H _ S fun p H1 xs ds Γ1 hk np nO S1 k1 g1 hp hd => ?_)
  obtain ⟨S2, g2⟩ := S1.own' nO (i := i) (by rw [← S1.len, S.len]; exact hil) (c := .lst ds) ⟨xs, hp, hd⟩
  exact eo.nx _ H1 _ (kk p ds Γ1 hk) S2 ⟨k1, g1.trans g2⟩
/-- .. x a cell -/
theorem w_asgZP (i : Nat) {x : Str} {pos' : Pos} {k : List PyData → Ga → Prop} (hN : X.N.Nodup) (he : ZLX X Γ e k) (kk : ∀ p ds Γ', k ds Γ' → WS X (Γ'.set i (.own p (.lst ds))) rest D) (hi : X.N[i]? = some x := by rfl) (hx : Loc X.env.scope x := by first | exact Or.inl rfl | exact Or.inr rfl) (hil : i < Γ.length := by exact Nat.le_of_ble_eq_true rfl) (hs : swapsWith e (some (.Name x pos')) pos.line X.env = pure false := by rfl)
    (hf : X.fn x = true ∨ X.env.scope.names.lookup x = some .local := by first | exact .inl rfl | exact .inr rfl) : WS X Γ (.Assign [.Name x pos'] e pos :: rest) D := ws_cons fun H0 O σ H E S eo => by
  obtain ⟨te, h1, h2, _⟩ := he
  refine wS (ps_set hN hi hx h2 hs hf) (h1 H0 O σ H _ S fun p H1 xs ds Γ1 hk np nO S1 k1 g1 hp hd => ?_)
  obtain ⟨S2, g2⟩ := S1.own' nO (i := i) (by rw [← S1.len, S.len]; exact hil) (c := .lst ds) ⟨xs, hp, hd⟩
  exact eo.nx _ H1 _ (kk p ds Γ1 hk) S2 ⟨k1, g1.trans g2⟩
/-- return e -/
theorem w_retZ {k : Sem → Ga → Prop} (he : ZX X Γ e k) (kk : ∀ s Γ', k s Γ' → D.rt s Γ') : WS X Γ (.Return (some e) pos :: rest) D := ws_cons fun H0 O σ H E S eo =>
  wS (ps_ret pe_W) (he H0 O σ H _ S fun s v Γ1 H1 hk S1 u1 pv => eo.rt v σ H1 Γ1 s (kk s Γ1 hk) S1 u1 pv)
/-- return, an int -/
theorem w_retZV {k : V → Ga → Prop} (he : ZV X Γ e k) (kk : ∀ v Γ', k v Γ' → ∃ m : Int, v = .int m ∧ D.rt (dt (.int m)) Γ') : WS X Γ (.Return (some e) pos :: rest) D := ws_cons fun H0 O σ H E S eo =>
  wS (ps_ret pe_W) (he H0 O σ H _ S fun v Γ1 H1 hk S1 u1 => by
    obtain ⟨m, rfl, hr⟩ := kk v Γ1 hk
    exact eo.rt _ σ H1 Γ1 _ hr S1 u1 (Dp.int m))
/-- return tuple([comprehension that draws]) -/
theorem zx_tupX {k : List PyData → Ga → Prop} {kq : Sem → Ga → Prop} {p pos2 : Pos} (hm : X.mg "tuple" = none) (he : ZLX X Γ e k) (kk : ∀ ds Γ', k ds Γ' → kq (xt ds) Γ') (hg : Gl X "tuple" := by rfl) (hs : starEach [e] X.env = (false, eval e X.env) :: starEach [] X.env := by rfl) (hp : (backTo pos2 (starEach [] X.env)).any (·.1) = false := by rfl) : ZX X Γ (.Call (.Name "tuple" p) [e] [] pos2) kq := fun H0 O σ H Q S q => by
  obtain ⟨te, h1, h2, _⟩ := he
  refine wE (pe_callTy call_tuple_frz hg hm (by decide +kernel) (pa_cons h2 pa_nil hs) (he := hs) (hpl := hp)) (h1 H0 O σ H _ S fun p1 H1 xs ds Γ1 hk np nO S1 k1 g1 hp1 hd => ?_)
  refine ⟨p1, xs, rfl, SqL.of hp1, fun l o to hl => ?_⟩
  have x2 : Ex H1 (upd H1 l (.frz o (.tup xs))) := Evl.Ex.new hl
  -- p1 is let go
  have S1' : Sta X.K H0 H1 O σ Γ1 := ⟨S1.ent.trans (cut_grow fun a o h n => ⟨h, fun z => n (z.imp (List.mem_cons_of_mem _) id)⟩), S1.len, S1.inj, fun a ha => S1.dis a (List.mem_cons_of_mem _ ha), fun a ha => S1.hid a (List.mem_cons_of_mem _ ha), fun i t h => by
    obtain ⟨v, z1, z2⟩ := S1.slot i t h
    have g : Ex (Bs H1 (p1 :: O) Γ1) (Bs H1 O Γ1) := cut_grow fun a o h n => ⟨h, fun z => n (z.imp (List.mem_cons_of_mem _) id)⟩
    refine ⟨v, z1, ?_⟩
    cases t with
    | un => trivial
    | dat s => obtain ⟨y, e1, e2⟩ := z2; exact ⟨y, e1, s.up g e2⟩
    | own p' c => exact ⟨z2.1, z2.2.to g rfl⟩⟩
  have g0 : Ex (Bs H1 (p1 :: O) Γ1) (Bs H1 O Γ1) := cut_grow fun a o h n => ⟨h, fun z => n (z.imp (List.mem_cons_of_mem _) id)⟩
  obtain ⟨S2, u2⟩ := S1'.ex x2
  have hlB : Bs (upd H1 l (.frz o (.tup xs))) O Γ1 l = some (.frz o (.tup xs)) := by
    show cut _ (Hid O Γ1) l = _
    rw [cut_no fun z => S1'.fresh hl z]
    exact upd_same
  exact q _ _ Γ1 _ (kk ds Γ1 hk) S2 ⟨fun a ha => (u2.keep a ha).trans (k1 a ha), (g1.trans g0).trans u2.grow⟩ ⟨l, o, xs, rfl, hlB, to, DpAll.mono (g0.trans u2.grow) hd⟩
end
/-! ### slots -/
section
variable {K : PySem.W.Frag} {H0 H : Hp} {O : List Addr} {σ σ' : St} {Γ : Ga}
theorem Sta.sig {j : Nat} (S : Sta K H0 H O σ Γ) (h : Γ[j]? = some .un) (hl : σ'.length = σ.length) (hσ : ∀ i, i ≠ j → σ'[i]? = σ[i]?) : Sta K H0 H O σ' Γ := ⟨S.ent, hl.trans S.len, S.inj, S.dis, S.hid, fun i t hi => by
  by_cases e : i = j
  · subst e
    rw [h] at hi
    cases hi
    have hj : i < σ'.length := by rw [hl, S.len]; exact (List.getElem?_eq_some_iff.mp h).1
    exact ⟨_, List.getElem?_eq_getElem hj, trivial⟩
  · rw [hσ i e]
    exact S.slot i t hi⟩
/-- a hidden object is changed -/
theorem Sta.mutO {p : Addr} {o : HO} (S : Sta K H0 H O σ Γ) (h : p ∈ O) (m : Mutb (some o)) : Sta K H0 (upd H p o) O σ Γ ∧ Bs (upd H p o) O Γ = Bs H O Γ := by
  have eq : Bs (upd H p o) O Γ = Bs H O Γ := by
    funext a
    show cut (upd H p o) (Hid O Γ) a = cut H (Hid O Γ) a
    by_cases q : Hid O Γ a
    · rw [cut_yes q, cut_yes q]
    · rw [cut_no q, cut_no q, upd_ne fun z => q (by rw [z]; exact .inl h)]
  refine ⟨⟨by rw [eq]; exact S.ent, S.len, S.inj, S.dis, fun a ha => ?_, fun i t hi => ?_⟩, eq⟩
  · by_cases e : a = p
    · subst e
      rw [upd_same]
      exact m
    · rw [upd_ne e]
      exact S.hid a ha
  · obtain ⟨v, z1, z2⟩ := S.slot i t hi
    refine ⟨v, z1, ?_⟩
    rw [eq]
    cases t with
    | un => trivial
    | dat s => exact z2
    | own p' c =>
      have ne : p' ≠ p := fun z => S.dis p h ⟨i, c, z ▸ hi⟩
      exact ⟨z2.1, z2.2.to Ex.rfl' (upd_ne ne)⟩
/-- what a slot says is forgotten -/
theorem Sta.drop {j : Nat} {s : Sem} (S : Sta K H0 H O σ Γ) (h : Γ[j]? = some (.dat s)) : Sta K H0 H O σ (Γ.set j .un) ∧ Up H H O Γ (Γ.set j .un) := by
  obtain ⟨S1, u1⟩ := S.unput h
  have hj : j < Γ.length := (List.getElem?_eq_some_iff.mp h).1
  exact ⟨S1.sig (j := j) (by rw [List.getElem?_set, if_pos rfl, if_pos hj]) (by simp) (fun i hi => by rw [List.getElem?_set_ne fun z => hi z.symm]), u1⟩
end
theorem ws_drop {X : Cx} {Γ : Ga} {D : Ks} {ss : List Stmt} (j : Nat) {s : Sem} (k : WS X (Γ.set j .un) ss D) (h : Γ[j]? = some (.dat s) := by rfl) : WS X Γ ss D := fun H0 O σ H E S eo => by
  obtain ⟨S1, u1⟩ := S.drop h
  exact k H0 O σ H E S1 (eo.up u1)
/-! ### [elt for x in range(a)], elt draws -/
section
variable {X : Cx} {Γ : Ga} {pos p pos2 : Pos}
theorem zlx (j : Nat) {x : Str} {p1 : Pos} {n : Nat} {elt a : Expr} {scope : Scope} (hN : X.N.Nodup) (hg : X.mg "range" = none) (ha : PX X (frz Γ) a (dt (.int (n : Nat)))) (hn : n < 100000) (hgt : ∀ (s : Shared) (H : Hp) (C : Addr) (cl : List (Str × Addr)) (fp : List Addr), PG (X.blk s H scope (compEnvC scope cl C X.env) fp) (.Name x p1) (gName j))
    (Iv : Nat → List PyData → Ga → Prop) (h0 : Iv 0 [] Γ) (hj : ∀ i acc Γ', Iv i acc Γ' → Γ'[j]? = some .un)
    (hs : ∀ i acc Γ', i < n → Iv i acc Γ' → Blk X scope fun Y => ZV Y (Γ'.set j (.dat (dt (.int (i : Nat))))) elt fun v Γ2 => ∃ d, (∀ K H, Dp K H v d) ∧ (∃ t, Γ2[j]? = some (.dat t)) ∧ Iv (i + 1) (acc ++ [d]) (Γ2.set j .un))
    (hc : X.calm = true := by rfl) (ok : BlkOk X.N X.env.scope scope [(x, j)] := by exact blkOk_by rfl) (hgl : Gl X "range" := by rfl) (hst : starEach [a] X.env = [(false, eval a X.env)] := by rfl) (hfs : ∀ y, foldedSetIterable (.Call (.Name "range" p) [a] [] pos2) X.env y = pure y := by intro _; rfl) :
    ZLX X Γ (.ListComp elt [⟨.Name x p1, .Call (.Name "range" p) [a] [] pos2, [], 0⟩] scope pos) (fun acc Γ' => Iv n acc Γ') := by
  refine ⟨tLc (iRng1 (WA X [a])) (gName j) tYes (fun σ H Q => ∀ (s : Shared) (H' : Hp) (C : Addr) (cl : List (Str × Addr)) (fp : List Addr), W (X.blk s H' scope (compEnvC scope cl C X.env) fp) elt σ H Q) [j], ?_,
    pe_lc (te := fun σ H Q => ∀ (s : Shared) (H' : Hp) (C : Addr) (cl : List (Str × Addr)) (fp : List Addr), W (X.blk s H' scope (compEnvC scope cl C X.env) fp) elt σ H Q) hc hN (pi_range1 hgl hg pa_W hst) ok hgt (fun _ _ _ _ _ => pts_nil) (fun s H C cl fp => ⟨fun pins s1 σ H1 Q I h => h s H C cl fp pins s1 I⟩) hfs,
    fun i y py spos hy hyl hsw => ps_setLc (te := fun σ H Q => ∀ (s : Shared) (H' : Hp) (C : Addr) (cl : List (Str × Addr)) (fp : List Addr), W (X.blk s H' scope (compEnvC scope cl C X.env) fp) elt σ H Q) hc hN hy hyl hsw (pi_range1 hgl hg pa_W hst) ok hgt (fun _ _ _ _ _ => pts_nil) (fun s H C cl fp => ⟨fun pins s1 σ H1 Q I h => h s H C cl fp pins s1 I⟩) hfs⟩
  intro H0 O σ H Q S q
  refine pxs_cons ha pxs_nil hst σ H _ S.sl fun vs H1 x1 h1 => ?_
  cases h1 with
  | cons h1 h2 =>
    cases h2
    rw [Dp.int_ h1]
    refine ⟨(n : Int), rfl, by omega, by omega, ?_⟩
    rw [show ((n : Int)).toNat = n by omega]
    intro Dl hD
    obtain ⟨S1, u1⟩ := S.ex x1
    obtain ⟨S2, nO, k2, g2⟩ := S1.hide hD (Evl.Ex.new hD) (.inl ⟨[], upd_same⟩)
    refine lc_it (J := Itr 0 n) (n := n) (G := fun _ => True) (Y := YFn fun i => .int (0 + i)) (g := gName j) (tt := tYes) (te := (fun σ H Q => ∀ (s : Shared) (H' : Hp) (C : Addr) (cl : List (Str × Addr)) (fp : List Addr), W (X.blk s H' scope (compEnvC scope cl C X.env) fp) elt σ H Q)) (vs := [j]) (σ := σ) walk_range
      (fun i H' => ∃ acc accd Γ', Iv i accd Γ' ∧ accd.length = i ∧ Sta X.K H0 H' (Dl :: O) σ Γ' ∧ (∀ a ∈ O, H' a = H a) ∧ Ex (Bs H O Γ) (Bs H' (Dl :: O) Γ') ∧ H' Dl = some (.lst acc) ∧ ∀ K H, DpAll K H acc accd)
      ⟨[], [], Γ, h0, rfl, S2, fun a ha => (k2 a ha).trans (u1.keep a ha), u1.grow.trans g2, upd_same, fun _ _ => .nil⟩ (fun _ _ _ _ => trivial) (fun i y H' H'' hi pv yy => ?_) (fun H' ⟨acc, accd, Γ', iv, hl, S', kp, gr, hd, hda⟩ => q Dl H' acc accd Γ' iv (Evl.fresh_back x1 hD) nO S' kp gr hd (hda _ _))
    obtain ⟨acc, accd, Γ', iv, hl, S', kp, gr, hd, hda⟩ := pv
    obtain ⟨eH, ey⟩ := yy
    have eH : H'' = H' := eH
    have ey : y = .int (0 + (i : Nat)) := ey
    subst eH
    rw [show (0 : Int) + (i : Nat) = (i : Nat) by omega] at ey
    subst ey
    have hun := hj i accd Γ' iv
    have hjl : j < Γ'.length := (List.getElem?_eq_some_iff.mp hun).1
    have Sw : Sta X.K H0 H'' (Dl :: O) (L2.wipe σ [j]) Γ' := S'.sig hun (by rw [wipe_length]) fun m hm => by
      show (List.set σ j none)[m]? = _
      rw [List.getElem?_set_ne fun z => hm z.symm]
    obtain ⟨S3, u3⟩ := Sw.put hjl (s := dt (.int (i : Nat))) (v := .int (i : Nat)) (Dp.int _)
    refine ⟨by rw [wipe_set (List.mem_singleton.mpr rfl), wipe_wipe], ?_⟩
    unfold tYes
    dsimp only
    rw [if_pos rfl]
    intro s0 H0' C cl fp
    refine hs i accd Γ' hi iv s0 H0' C cl fp H0 (Dl :: O) _ H'' _ S3 fun v Γ2 H4 ⟨d, hfd, ⟨t, ht⟩, iv2⟩ S4 u4 => ?_
    have hd4 : H4 Dl = some (.lst acc) := (u4.keep Dl List.mem_cons_self).trans hd
    obtain ⟨S5, u5⟩ := S4.drop ht
    have hj2 : j < Γ2.length := (List.getElem?_eq_some_iff.mp ht).1
    obtain ⟨S6, e6⟩ := S5.mutO (p := Dl) (o := .lst (acc ++ [v])) List.mem_cons_self (.inl ⟨_, rfl⟩)
    have S7 : Sta X.K H0 (upd H4 Dl (.lst (acc ++ [v]))) (Dl :: O) σ (Γ2.set j .un) := S6.sig (j := j) (by rw [List.getElem?_set, if_pos rfl, if_pos hj2]) (by rw [List.length_set, wipe_length]) fun m hm => by
      rw [List.getElem?_set_ne fun z => hm z.symm]
      show _ = (List.set σ j none)[m]?
      rw [List.getElem?_set_ne fun z => hm z.symm]
    have la : acc.length = i := by rw [DpAll.len (hda X.K H4), hl]
    refine ⟨acc, hd4, Evl.sz_lt (by omega), acc ++ [v], accd ++ [d], Γ2.set j .un, iv2, by rw [List.length_append, hl]; rfl, S7, fun a ha => ?_, ?_, upd_same, fun K H => (hda K H).app (.cons (hfd K H) .nil)⟩
    · have ne : a ≠ Dl := fun z => nO (z ▸ ha)
      rw [upd_ne ne, u4.keep a (List.mem_cons_of_mem _ ha)]
      exact kp a ha
    · rw [e6]
      exact gr.trans (((u3.tr u4).tr u5).grow)
end
/-! ### for x in range(e), e draws -/
section
variable {X : Cx} {Γ : Ga} {D : Ks} {e : Expr} {rest body : List Stmt} {pos p pos2 : Pos}
theorem w_forZ (j : Nat) {x : Str} {p1 : Pos} (hN : X.N.Nodup) (hg : X.mg "range" = none) (he : ZV X Γ e fun v Γ1 => ∃ n : Nat, v = .int (n : Nat) ∧ n < 100000 ∧ ∃ Iv : Nat → Ga → Prop, Iv 0 Γ1 ∧ (∀ i Γ', i < n → Iv i Γ' → j < Γ'.length ∧ WS X (Γ'.set j (.dat (dt (.int (i : Nat))))) body { D with nx := Iv (i + 1), ct := Iv (i + 1), bk := fun Γ' => WS X Γ' rest D }) ∧ ∀ Γ', Iv n Γ' → WS X Γ' rest D)
    (hi : X.N[j]? = some x := by rfl) (hx : Loc X.env.scope x := by first | exact Or.inl rfl | exact Or.inr rfl) (hf : X.fn x = true ∨ X.env.scope.names.lookup x = some .local := by first | exact .inl rfl | exact .inr rfl) (hc : X.calm = true := by rfl) (hp : PassesOwn (model X.prog X.w) X.A X.env X.xe := by exact PassesOwn.never) (hgl : Gl X "range" := by rfl) (hst : starEach [e] X.env = [(false, eval e X.env)] := by rfl) (hfs : ∀ y, foldedSetIterable (.Call (.Name "range" p) [e] [] pos2) X.env y = pure y := by intro _; rfl) :
    WS X Γ (.For (.Name x p1) (.Call (.Name "range" p) [e] [] pos2) body [] pos :: rest) D := ws_cons fun H0 O σ H E S eo => by
  refine wS (ps_for hp hc (pi_range1 hgl hg (pa_cons pe_W pa_nil hst) hst) (pg_name hN hi hx hf) pss_W hfs) (he H0 O σ H _ S fun v Γ1 H1 ⟨n, hv, hn, Iv, i0, step, hd⟩ S1 u1 => ?_)
  subst hv
  refine ⟨(n : Int), rfl, by omega, by omega, ?_⟩
  rw [show ((n : Int)).toNat = n by omega]
  refine for_it (J := Itr 0 n) (n := n) (G := fun _ => True) (Y := YFn fun i => .int (0 + i)) walk_range (fun i σ' H' => ∃ Γ', Iv i Γ' ∧ Sta X.K H0 H' O σ' Γ' ∧ Up H1 H' O Γ1 Γ') ⟨Γ1, i0, S1, Up.rfl'⟩ (fun _ _ _ _ _ => trivial) (fun i y σ' H' H'' hi ⟨Γ', iv, S', u'⟩ yy => ?_) (fun σ' H' ⟨Γ', iv, S', u'⟩ => eo.nx σ' H' Γ' (hd Γ' iv) S' (u1.tr u'))
  obtain ⟨eH, ey⟩ := yy
  have eH : H'' = H' := eH
  have ey : y = .int (0 + (i : Nat)) := ey
  subst eH
  rw [show (0 : Int) + (i : Nat) = (i : Nat) by omega] at ey
  subst ey
  obtain ⟨hjl, ws⟩ := step i Γ' hi iv
  obtain ⟨S2, u2⟩ := S'.put hjl (s := dt (.int (i : Nat))) (v := .int (i : Nat)) (Dp.int _)
  refine ws H0 O _ H'' _ S2 ?_
  have eo2 := eo.up (u1.tr (u'.tr u2))
  exact ⟨fun σ3 H3 Γ3 d s3 u3 => ⟨Γ3, d, s3, u'.tr (u2.tr u3)⟩, fun σ3 H3 Γ3 d s3 u3 => eo2.nx σ3 H3 Γ3 d s3 u3, fun σ3 H3 Γ3 d s3 u3 => ⟨Γ3, d, s3, u'.tr (u2.tr u3)⟩, eo2.rt, eo2.rl⟩
end
end Dw
set_option Elab.async false
set_option linter.all false
set_option maxRecDepth 100000
set_option maxHeartbeats 1000000
namespace H77
open PySem PySem.Spec PyProof.Rows L2 Dw R77
/-- the builtins are not shadowed; the module's numbers -/
structure G (mg : Str → Option Value) : Prop where
  len : mg "len" = none
  range : mg "range" = none
  enum : mg "enumerate" = none
  tuple : mg "tuple" = none
  list : mg "list" = none
  isi : mg "isinstance" = none
  sorted : mg "sorted" = none
  set : mg "set" = none
  min : mg "min" = none
  abs : mg "abs" = none
  sum : mg "sum" = none
  int : mg "int" = none
  bool : mg "bool" = none
  str : mg "str" = none
  empty : ∃ t, mg "EMPTY" = some (.int (-1) t)
  blocks : ∃ t, mg "MOST_BLOCKS" = some (.int 12 t)
  value : ∃ t, mg "MOST_VALUE" = some (.int 999 t)
  lines : ∃ t, mg "MOST_LINES" = some (.int 60 t)
abbrev FnQ (K : PySem.W.Frag) (x : Str) (st : Stmt) (f : Addr) (fd : FuncData) : Prop := FunD K x x (defArgs st) (defBody st) (defScope st) [] [] f fd
def prD (p : Pr) : PyData := .tuple [.int p.1, .int p.2]
def cpD (p : Pr) : PyData := .tuple [.str "copy", .int p.1, .int p.2, .str ""]
theorem tup_pr (p : Pr) : tupd (prD p) = true := rfl
theorem tup_cp (p : Pr) : tupd (cpD p) = true := rfl
section
variable {X : Cx} {Γ : Sv} {a b : Expr} {pos p : Pos}
theorem p_isi {d : PyData} {x : Str} {n : String} {k : Bool} {p2 : Pos} (g : G X.mg) (ha : PX X Γ a (dt d)) (hm : X.mg x = none) (hv : bootBuiltins x = some (.type n) := by decide +kernel) (hk : kitB (tyD d) n = some k := by first | rfl | decide) (hg : Gl X "isinstance" := by rfl) (hg2 : Gl X x := by rfl) (hn : x ≠ "__name__" := by decide) (hd : (x == ("__debug__" : Str)) = false := by decide)
    (hs : starEach [a, .Name x p2] X.env = (false, eval a X.env) :: starEach [.Name x p2] X.env := by rfl) (hs2 : starEach [.Name x p2] X.env = (false, eval (.Name x p2) X.env) :: starEach [] X.env := by rfl)
    (hp : (backTo pos (starEach [.Name x p2] X.env)).any (·.1) = false := by rfl) : PX X Γ (.Call (.Name "isinstance" p) [a, .Name x p2] [] pos) (dt (.bool k)) := px_isi g.isi ha (px_tyn hm hv hg2 hn hd) hk hg hs hs2 hp
theorem i_int {d : PyData} (k : Bool) {p2 : Pos} (g : G X.mg) (ha : PX X Γ a (dt d)) (hk : kitB (tyD d) "int" = some k := by first | rfl | decide) (hg : Gl X "isinstance" := by rfl) (hg2 : Gl X "int" := by rfl)
    (hs : starEach [a, .Name "int" p2] X.env = (false, eval a X.env) :: starEach [.Name "int" p2] X.env := by rfl) (hs2 : starEach [.Name "int" p2] X.env = (false, eval (.Name "int" p2) X.env) :: starEach [] X.env := by rfl)
    (hp : (backTo pos (starEach [.Name "int" p2] X.env)).any (·.1) = false := by rfl) : PX X Γ (.Call (.Name "isinstance" p) [a, .Name "int" p2] [] pos) (dt (.bool k)) := p_isi (n := "int") (k := k) g ha g.int (by decide +kernel) hk hg hg2 (by decide) (by decide) hs hs2 hp
theorem i_str {d : PyData} (k : Bool) {p2 : Pos} (g : G X.mg) (ha : PX X Γ a (dt d)) (hk : kitB (tyD d) "str" = some k := by first | rfl | decide) (hg : Gl X "isinstance" := by rfl) (hg2 : Gl X "str" := by rfl)
    (hs : starEach [a, .Name "str" p2] X.env = (false, eval a X.env) :: starEach [.Name "str" p2] X.env := by rfl) (hs2 : starEach [.Name "str" p2] X.env = (false, eval (.Name "str" p2) X.env) :: starEach [] X.env := by rfl)
    (hp : (backTo pos (starEach [.Name "str" p2] X.env)).any (·.1) = false := by rfl) : PX X Γ (.Call (.Name "isinstance" p) [a, .Name "str" p2] [] pos) (dt (.bool k)) := p_isi (n := "str") (k := k) g ha g.str (by decide +kernel) hk hg hg2 (by decide) (by decide) hs hs2 hp
theorem i_tuple {d : PyData} (k : Bool) {p2 : Pos} (g : G X.mg) (ha : PX X Γ a (dt d)) (hk : kitB (tyD d) "tuple" = some k := by first | rfl | decide) (hg : Gl X "isinstance" := by rfl) (hg2 : Gl X "tuple" := by rfl)
    (hs : starEach [a, .Name "tuple" p2] X.env = (false, eval a X.env) :: starEach [.Name "tuple" p2] X.env := by rfl) (hs2 : starEach [.Name "tuple" p2] X.env = (false, eval (.Name "tuple" p2) X.env) :: starEach [] X.env := by rfl)
    (hp : (backTo pos (starEach [.Name "tuple" p2] X.env)).any (·.1) = false := by rfl) : PX X Γ (.Call (.Name "isinstance" p) [a, .Name "tuple" p2] [] pos) (dt (.bool k)) := p_isi (n := "tuple") (k := k) g ha g.tuple (by decide +kernel) hk hg hg2 (by decide) (by decide) hs hs2 hp
theorem i_list {d : PyData} (k : Bool) {p2 : Pos} (g : G X.mg) (ha : PX X Γ a (dt d)) (hk : kitB (tyD d) "list" = some k := by first | rfl | decide) (hg : Gl X "isinstance" := by rfl) (hg2 : Gl X "list" := by rfl)
    (hs : starEach [a, .Name "list" p2] X.env = (false, eval a X.env) :: starEach [.Name "list" p2] X.env := by rfl) (hs2 : starEach [.Name "list" p2] X.env = (false, eval (.Name "list" p2) X.env) :: starEach [] X.env := by rfl)
    (hp : (backTo pos (starEach [.Name "list" p2] X.env)).any (·.1) = false := by rfl) : PX X Γ (.Call (.Name "isinstance" p) [a, .Name "list" p2] [] pos) (dt (.bool k)) := p_isi (n := "list") (k := k) g ha g.list (by decide +kernel) hk hg hg2 (by decide) (by decide) hs hs2 hp
theorem i_bool {d : PyData} (k : Bool) {p2 : Pos} (g : G X.mg) (ha : PX X Γ a (dt d)) (hk : kitB (tyD d) "bool" = some k := by first | rfl | decide) (hg : Gl X "isinstance" := by rfl) (hg2 : Gl X "bool" := by rfl)
    (hs : starEach [a, .Name "bool" p2] X.env = (false, eval a X.env) :: starEach [.Name "bool" p2] X.env := by rfl) (hs2 : starEach [.Name "bool" p2] X.env = (false, eval (.Name "bool" p2) X.env) :: starEach [] X.env := by rfl)
    (hp : (backTo pos (starEach [.Name "bool" p2] X.env)).any (·.1) = false := by rfl) : PX X Γ (.Call (.Name "isinstance" p) [a, .Name "bool" p2] [] pos) (dt (.bool k)) := p_isi (n := "bool") (k := k) g ha g.bool (by decide +kernel) hk hg hg2 (by decide) (by decide) hs hs2 hp
end
section
variable {P : Program} {w : World} {K : PySem.W.Frag} {mg : Str → Option Value} {base : Heap} {f : Addr} {fd : FuncData}
/-! home -/
theorem sc_home : FnScope ["blocks"] ["blocks"] (defScope s_home) := ⟨rfl, rfl, rfl, by decide +kernel, rfl, by decide +kernel, by decide +kernel⟩
inductive C_home : List Sem → Sem → Prop
  | mk (n : Nat) : n ≤ 12 → C_home [dt (.int n)] (dt (.tuple (nI (home n))))
theorem ok_home (g : G mg) (F : FnQ K "home" s_home f fd) : FnOk P w K mg base CX0 1 f fd ["blocks"] (spP C_home K) := by
  refine fn_pure F sc_home (fun ss s h => by cases h; rfl) (fun cdv A outer s H E hr ss r h => ?_)
  obtain ⟨n, hn⟩ := h
  exact w_ret (px_tuprg rfl g.tuple g.range (pn 0) (by omega)) (fr_tup (tupds_nI _)) rfl
/-! is_index -/
theorem sc_is_index : FnScope ["number", "blocks"] ["number", "blocks"] (defScope s_is_index) := ⟨rfl, rfl, rfl, by decide +kernel, rfl, by decide +kernel, by decide +kernel⟩
inductive C_is_index : List Sem → Sem → Prop
  | mk (i n : Int) : C_is_index [dt (.int i), dt (.int n)] (dt (.bool (decide (0 ≤ i) && decide (i < n))))
theorem ok_is_index (g : G mg) (F : FnQ K "is_index" s_is_index f fd) : FnOk P w K mg base CX0 1 f fd ["number", "blocks"] (spP C_is_index K) := by
  refine fn_pure F sc_is_index (fun ss s h => by cases h; rfl) (fun cdv A outer s H E hr ss r h => ?_)
  obtain ⟨i, n⟩ := h
  exact w_ret (px_eqd (px_and2 (i_int true g (pn 0)) fun _ => px_chain op_le op_lt px_int (pn 0) (pn 1)) rfl) fr_bool rfl
/-! is_guard -/
theorem sc_is_guard : FnScope ["guard", "blocks"] ["guard", "blocks"] (defScope s_is_guard) := ⟨rfl, rfl, rfl, by decide +kernel, rfl, by decide +kernel, by decide +kernel⟩
inductive C_is_guard : List Sem → Sem → Prop
  | mk (n : Int) : C_is_guard [dt (.str ""), dt (.int n)] (dt (.bool true))
theorem ok_is_guard (g : G mg) (F : FnQ K "is_guard" s_is_guard f fd) : FnOk P w K mg base CX0 1 f fd ["guard", "blocks"] (spP C_is_guard K) := by
  refine fn_pure F sc_is_guard (fun ss s h => by cases h; rfl) (fun cdv A outer s H E hr ss r h => ?_)
  obtain ⟨n⟩ := h
  refine w_when (pb_not (pb_val (i_str true g (pn 0)))) (fun h => by cases h) fun _ => ?_
  exact w_when (pb_eqS (pn 0) px_str) (fun _ => w_ret px_bl fr_bool rfl) (fun h => by simp at h)
/-! check_image -/
theorem sc_check_image : FnScope ["image", "block", "entry"] ["image"] (defScope s_check_image) := ⟨rfl, rfl, rfl, by decide +kernel, rfl, by decide +kernel, by decide +kernel⟩
inductive C_check_image : List Sem → Sem → Prop
  | mk (h : List Nat) : 1 ≤ h.length → h.length ≤ 12 → (∀ v ∈ h, v < 12) → C_check_image [dt (.tuple (nI h))] (dt .none)
theorem ok_check_image (g : G mg) (F : FnQ K "check_image" s_check_image f fd) : FnOk P w K mg base CX0 1 f fd ["image"] (spP C_check_image K) := by
  have nd := sc_check_image.nd
  refine fn_pure F sc_check_image (fun ss s h => by cases h; rfl) (fun cdv A outer s H E hr ss r h => ?_)
  obtain ⟨h, h1, h2, h3⟩ := h
  refine w_when (pb_or2 (pb_not (pb_val (i_tuple true g (pn 0)))) fun _ => pb_not (pb_chain op_le op_le px_int (cr_lenT g.len (pn 0) (n := h.length) (by simp)) (px_glob rfl g.blocks))) (fun z => ?_) fun _ => ?_
  · exfalso
    simp at z
    omega
  · refine w_for (fun _ Γ => ∃ t1 t2, Γ = [.dat (dt (.tuple (nI h))), t1, t2]) (wi_enT (L := h) (f := fun n => .int (n : Nat)) g.enum (pn 0) fun _ _ => rfl) ⟨_, _, rfl⟩ (pgt 1 2 nd) (fun i a Γ' ha iv => ?_) (fun Γ' iv => ws_nil rfl)
    obtain ⟨t1, t2, rfl⟩ := iv
    refine g2 1 2 nd ?_
    have hm : a.1 ∈ h := by
      have := List.mem_of_getElem? ha
      exact (List.mem_zipIdx this).2.2 ▸ List.getElem_mem _
    have := h3 _ hm
    refine w_when (pb_or2 (pb_not (pb_val (i_int true g (pn 2)))) fun _ => pb_not (pb_chain op_le op_le (px_glob rfl g.empty) (pn 2) (px_glob rfl g.value))) (fun z => ?_) fun _ => ws_nil ⟨_, _, rfl⟩
    exfalso
    simp at z
    omega
end
end H77
set_option Elab.async false
set_option linter.all false
set_option maxRecDepth 100000
set_option maxHeartbeats 1000000
namespace H77
open PySem PySem.Spec PyProof.Rows L2 Dw R77
section
variable {P : Program} {w : World} {K : PySem.W.Frag} {mg : Str → Option Value} {base : Heap} {f : Addr} {fd : FuncData}
/-! check_line -/
theorem sc_check_line : FnScope ["line", "blocks", "op", "target", "source", "guard"] ["line", "blocks"] (defScope s_check_line) := ⟨rfl, rfl, rfl, by decide +kernel, rfl, by decide +kernel, by decide +kernel⟩
inductive C_check_line : List Sem → Sem → Prop
  | mk (p : Pr) (n : Nat) : Okp n p → C_check_line [dt (cpD p), dt (.int n)] (dt (.bool true))
theorem ok_check_line (g : G mg) (F1 : Fn P w K mg base "is_index" 1 ["number", "blocks"] (spP C_is_index K)) (F2 : Fn P w K mg base "is_guard" 1 ["guard", "blocks"] (spP C_is_guard K)) (F : FnQ K "check_line" s_check_line f fd) : FnOk P w K mg base CX0 2 f fd ["line", "blocks"] (spP C_check_line K) := by
  have nd := sc_check_line.nd
  refine fn_pure F sc_check_line (fun ss s h => by cases h; rfl) (fun cdv A outer s H E hr ss r h => ?_)
  obtain ⟨p, n, o1, o2, o3⟩ := h
  refine w_when (pb_or2 (pb_not (pb_val (i_tuple true g (pn 0)))) fun _ => pb_neI (cr_lenT g.len (pn 0) (n := 4) rfl) px_int) (fun z => by simp at z) fun _ => ?_
  refine w_tgt (pn 0) (fr_dt rfl) (g4 2 3 4 5 nd ?_)
  refine w_when (pb_or2 (pb_not (pb_val (c2 F1 hr (pn 3) (pn 1) (.mk _ _)))) fun _ => pb_not (pb_val (c2 F2 hr (pn 5) (pn 1) (.mk _)))) (fun z => ?_) fun _ => ?_
  · exfalso
    simp at z
    omega
  refine w_when (pb_eqS (pn 2) px_str) (fun z => ?_) fun _ => ?_
  · exact absurd z (by decide)
  refine w_when (pb_or2 (pb_eqS (pn 2) px_str) fun _ => pb_eqS (pn 2) px_str) (fun _ => ?_) fun z => ?_
  · refine w_ret (px_eqd (px_and2 (c2 F1 hr (pn 4) (pn 1) (.mk _ _)) fun _ => px_neI (pn 4) (pn 3)) ?_) fr_bool rfl
    simp
    omega
  · exact absurd z (by decide)
/-! check_script -/
theorem sc_check_script : FnScope ["script", "image", "at", "line"] ["script", "image"] (defScope s_check_script) := ⟨rfl, rfl, rfl, by decide +kernel, rfl, by decide +kernel, by decide +kernel⟩
inductive C_check_script : List Sem → Sem → Prop
  | mk (log : List Pr) (n : Nat) : 1 ≤ n → n ≤ 12 → log.length ≤ 60 → OkL n log → C_check_script [dt (.list (log.map cpD)), dt (.tuple (nI (home n)))] (dt .none)
theorem ok_check_script (g : G mg) (F1 : Fn P w K mg base "check_image" 1 ["image"] (spP C_check_image K)) (F2 : Fn P w K mg base "check_line" 2 ["line", "blocks"] (spP C_check_line K)) (F : FnQ K "check_script" s_check_script f fd) : FnOk P w K mg base CX0 3 f fd ["script", "image"] (spP C_check_script K) := by
  have nd := sc_check_script.nd
  refine fn_pure F sc_check_script (fun ss s h => by cases h; rfl) (fun cdv A outer s H E hr ss r h => ?_)
  obtain ⟨log, n, h1, h2, h3, h4⟩ := h
  refine w_expr (c1 F1 hr (pn 1) (.mk (home n) (by simpa using h1) (by simpa using h2) (fun v hv => by have := lt_home n v hv; omega))) ?_
  refine w_when (pb_or2 (pb_not (pb_val (i_list true g (pn 0)))) fun _ => pb_gt (cr_len g.len (pn 0) (n := log.length) (by simp)) (px_glob rfl g.lines)) (fun z => ?_) fun _ => ?_
  · exfalso
    simp at z
    omega
  refine w_for (fun _ Γ => ∃ t1 t2, Γ = [.dat (dt (.list (log.map cpD))), .dat (dt (.tuple (nI (home n)))), t1, t2]) (wi_enV (i := 0) g.enum rfl wk_r) ⟨_, _, rfl⟩ (pgt 2 3 nd) (fun i a Γ' ha iv => ?_) (fun Γ' iv => ws_nil rfl)
  obtain ⟨t1, t2, rfl⟩ := iv
  have hm : a.1 ∈ log := by
    have := List.mem_of_getElem? ha
    exact (List.mem_zipIdx this).2.2 ▸ List.getElem_mem _
  refine g2 2 3 nd ?_
  refine w_when (pb_not (pb_val (c2 F2 hr (pn 3) (cr_lenT g.len (pn 1) (n := n) (by simp)) (.mk a.1 n (h4 _ hm))))) (fun z => by simp at z) fun _ => ws_nil ⟨_, _, rfl⟩
/-! copies -/
theorem sc_copies : FnScope ["entries", "target", "source"] ["entries"] (defScope s_copies) := ⟨rfl, rfl, rfl, by decide +kernel, rfl, by decide +kernel, by decide +kernel⟩
inductive C_copies : List PyData → List PyData → Prop
  | mk (log : List Pr) : log.length ≤ 60 → C_copies (log.map prD) (log.map cpD)
theorem ok_copies (g : G mg) (hm : mg "copies" = some (.ref f)) (F : FnQ K "copies" s_copies f fd) : FnS P w K mg base "copies" 1 C_copies := by
  have nd := sc_copies.nd
  refine fn_star1 F sc_copies (fun kV doc pm an cdv ct rest => by cases rest <;> rfl) hm (fun cdv A outer s H E hr ds es ht h => ?_)
  obtain ⟨log, hl⟩ := h
  exact w_retL (lc2 1 2 nd (pit_tup (L := log) (f := prD) (pn 0)) (fun a _ _ _ _ _ _ => pt4 px_str (pn 1) (pn 2) px_str) (fun a _ => rfl) (by omega) (fun _ _ _ _ _ => pgt 1 2 nd)) (tupds_map fun _ _ => rfl) rfl
end
end H77
set_option Elab.async false
set_option linter.all false
set_option maxRecDepth 100000
set_option maxHeartbeats 1000000
namespace H77
open PySem PySem.Spec PyProof.Rows L2 Dw R77
theorem take_map {α β : Type} {f : α → β} {L : List α} {i : Nat} {a : α} (h : L[i]? = some a) : (L.take i).map f ++ [f a] = (L.take (i + 1)).map f := by
  rw [List.take_add_one, h]; simp
theorem zip_at {α : Type} {L : List α} {i : Nat} {a : α × Nat} (h : L.zipIdx[i]? = some a) : L[i]? = some a.1 ∧ a.2 = i := by
  rw [List.getElem?_zipIdx] at h
  cases q : L[i]? with
  | none => rw [q] at h; cases h
  | some b =>
    rw [q] at h
    have e : (b, 0 + i) = a := by simpa using h
    exact ⟨by rw [← e], by rw [← e]; simp⟩
theorem img_next {log : List Pr} {n i : Nat} {a : Pr} (h : log[i]? = some a) : img log n (i + 1) = stp (img log n i) a := by
  obtain ⟨hi, rfl⟩ := List.getElem?_eq_some_iff.mp h
  exact img_succ hi
section
variable {P : Program} {w : World} {K : PySem.W.Frag} {mg : Str → Option Value} {base : Heap} {f : Addr} {fd : FuncData}
/-! pairs -/
theorem sc_pairs : FnScope ["script", "found", "at", "line", "op", "target", "source", "guard"] ["script"] (defScope s_pairs) := ⟨rfl, rfl, rfl, by decide +kernel, rfl, by decide +kernel, by decide +kernel⟩
inductive C_pairs : List Sem → List PyData → Prop
  | mk (log : List Pr) : log.length ≤ 60 → C_pairs [dt (.list (log.map cpD))] (log.map prD)
theorem ok_pairs (g : G mg) (F : FnQ K "pairs" s_pairs f fd) : FnOk P w K mg base CX0 1 f fd ["script"] (spL C_pairs K) := by
  have nd := sc_pairs.nd
  refine fn_list F sc_pairs (fun ss s h => by cases h; rfl) (fun cdv A outer s H E hr ss r h => ?_)
  obtain ⟨log, hl⟩ := h
  refine w_asgL 1 nd pl0 rfl fun p => ?_
  refine w_for (fun i Γ => ∃ t1 t2 t3 t4 t5 t6, Γ = [.dat (dt (.list (log.map cpD))), .own p (.lst ((log.take i).map prD)), t1, t2, t3, t4, t5, t6]) (wi_enV (i := 0) g.enum rfl wk_r) ⟨_, _, _, _, _, _, rfl⟩ (pgt 2 3 nd) (fun i a Γ' ha iv => ?_) (fun Γ' iv => ?_)
  · obtain ⟨t1, t2, t3, t4, t5, t6, rfl⟩ := iv
    obtain ⟨h1, h2⟩ := zip_at ha
    refine g2 2 3 nd ?_
    refine w_tgt (pn 3) (fr_dt rfl) (g4 4 5 6 7 nd ?_)
    refine w_when (pb_or2 (pb_neS (pn 4) px_str) fun _ => pb_neS (pn 7) px_str) (fun z => absurd z (by decide)) fun _ => ?_
    refine w_app 1 (pt2 (pn 5) (pn 6)) rfl ?_ (take_map (f := prD) h1) (ws_nil ⟨_, _, _, _, _, _, rfl⟩)
    simp; omega
  · obtain ⟨t1, t2, t3, t4, t5, t6, rfl⟩ := iv
    refine w_retO 1 ?_
    show Con.lst _ = Con.lst _
    rw [List.length_zipIdx, List.take_length]
/-! check_log -/
theorem sc_check_log : FnScope ["script", "blocks"] ["script", "blocks"] (defScope s_check_log) := ⟨rfl, rfl, rfl, by decide +kernel, rfl, by decide +kernel, by decide +kernel⟩
structure LogOk (log : List Pr) (n : Nat) : Prop where
  n1 : 1 ≤ n
  n12 : n ≤ 12
  len : log.length ≤ 60
  ok : OkL n log
inductive C_check_log : List Sem → List PyData → Prop
  | mk (log : List Pr) (n : Nat) : LogOk log n → C_check_log [dt (.list (log.map cpD)), dt (.int n)] (log.map prD)
theorem ok_check_log (g : G mg) (F1 : Fn P w K mg base "check_script" 3 ["script", "image"] (spP C_check_script K)) (F2 : Fn P w K mg base "home" 1 ["blocks"] (spP C_home K)) (F3 : Fn P w K mg base "pairs" 1 ["script"] (spL C_pairs K)) (F : FnQ K "check_log" s_check_log f fd) : FnOk P w K mg base CX0 4 f fd ["script", "blocks"] (spL C_check_log K) := by
  refine fn_list F sc_check_log (fun ss s h => by cases h; rfl) (fun cdv A outer s H E hr ss r h => ?_)
  obtain ⟨log, n, h⟩ := h
  refine w_expr (c2 F1 hr (pn 0) (c1 F2 hr (pn 1) (.mk n h.n12)) (.mk log n h.n1 h.n12 h.len h.ok)) ?_
  exact w_retL (l1 F3 hr (pn 0) (.mk log h.len)) (tupds_map fun _ _ => rfl) rfl
/-! origin_rows -/
theorem sc_origin_rows : FnScope ["log", "blocks", "held", "rows", "target", "source"] ["log", "blocks"] (defScope s_origin_rows) := ⟨rfl, rfl, rfl, by decide +kernel, rfl, by decide +kernel, by decide +kernel⟩
def rowsD (log : List Pr) (n m : Nat) : List PyData := (List.range m).map fun k => .tuple (nI (img log n k))
theorem tup_rows {log : List Pr} {n m : Nat} : tupds (rowsD log n m) = true := tupds_map fun k _ => tupds_nI _
theorem rows_next (log : List Pr) (n i : Nat) : rowsD log n (i + 1) ++ [.tuple (nI (img log n (i + 1)))] = rowsD log n (i + 1 + 1) := by
  unfold rowsD
  rw [List.range_succ (n := i + 1), List.map_append]
  rfl
theorem img_set {log : List Pr} {n i : Nat} {a : Pr} (h : log[i]? = some a) : (nI (img log n i)).set a.1 (.int ((img log n i).getD a.2 0 : Nat)) = nI (img log n (i + 1)) := by
  rw [img_next h, stp]
  exact (List.map_set ..).symm
inductive C_origin_rows : List Sem → List PyData → Prop
  | mk (log : List Pr) (n : Nat) : n ≤ 12 → log.length ≤ 60 → OkL n log → C_origin_rows [dt (.list (log.map prD)), dt (.int n)] (rowsD log n (log.length + 1))
theorem ok_origin_rows (g : G mg) (F1 : Fn P w K mg base "home" 1 ["blocks"] (spP C_home K)) (F : FnQ K "origin_rows" s_origin_rows f fd) : FnOk P w K mg base CX0 2 f fd ["log", "blocks"] (spL C_origin_rows K) := by
  have nd := sc_origin_rows.nd
  refine fn_list F sc_origin_rows (fun ss s h => by cases h; rfl) (fun cdv A outer s H E hr ss r h => ?_)
  obtain ⟨log, n, h1, h2, h3⟩ := h
  refine w_asgL 2 nd (pl_l g.list (c1 F1 hr (pn 1) (.mk n h1)) (.inr rfl)) (tupds_nI _) fun p => ?_
  refine w_asgL 3 nd (pl1 (p_tup g.tuple (pnl 2))) (tupds_map (L := [home n]) (f := fun h => .tuple (nI h)) fun _ _ => tupds_nI _) fun q => ?_
  refine w_for (fun i Γ => ∃ t1 t2, Γ = [.dat (dt (.list (log.map prD))), .dat (dt (.int n)), .own p (.lst (nI (img log n i))), .own q (.lst (rowsD log n (i + 1))), t1, t2]) (wv 0 wk_r) ⟨_, _, rfl⟩ (pgt 4 5 nd) (fun i a Γ' ha iv => ?_) (fun Γ' iv => ?_)
  · obtain ⟨t1, t2, rfl⟩ := iv
    have ho := h3 a (List.mem_of_getElem? ha)
    refine g2 4 5 nd ?_
    refine w_set 2 (px_ixL (pnl 2) (pn 5) (at_nI (r := img log n i) (i := a.2) (by rw [img_len]; exact ho.2.1))) rfl (pn 4) (ix_nat (i := a.1) ?_) (img_set ha) ?_
    · rw [List.length_map, img_len]; exact ho.1
    refine w_app 3 (p_tup g.tuple (pnl 2)) (by show tupds _ = true; exact tupds_nI _) ?_ (rows_next log n i) (ws_nil ⟨_, _, rfl⟩)
    have := (List.getElem?_eq_some_iff.mp ha).1
    simp [rowsD]; omega
  · obtain ⟨t1, t2, rfl⟩ := iv
    refine w_retO 3 ?_
    rfl
end
end H77
set_option Elab.async false
set_option linter.all false
set_option maxRecDepth 100000
set_option maxHeartbeats 1000000
namespace H77
open PySem PySem.Spec PyProof.Rows L2 Dw R77
abbrev iN (g : List Nat) : List Int := g.map fun (n : Nat) => (n : Int)
theorem dec_nat (a b : Nat) : decide ((a : Int) = (b : Int)) = decide (a = b) := by
  by_cases e : a = b
  · subst e; simp
  · have : ¬ ((a : Int) = (b : Int)) := by omega
    simp [e, this]
theorem mem_nI (v : Nat) (g : List Nat) : decide ((v : Int) ∈ iN g) = g.contains v := by
  rw [Bool.eq_iff_iff, decide_eq_true_eq, List.contains_iff_mem, List.mem_map]
  constructor
  · rintro ⟨a, h, e⟩
    have e : a = v := by omega
    subst e
    exact h
  · exact fun h => ⟨v, h, rfl⟩
theorem dI_nI (g : List Nat) : dI (iN g) = nI g := by simp [Function.comp_def]
theorem ris_range (n : Nat) (t : Nat → Bool) : (iN ((List.range n).filter t)).Pairwise (· < ·) := by
  rw [List.pairwise_map]
  exact (List.Pairwise.filter _ List.pairwise_lt_range).imp fun h => by omega
theorem nI_snoc (g : List Nat) (v : Nat) : nI g ++ [.int (v : Nat)] = nI (g ++ [v]) := by simp
theorem filt_yes {t : Nat → Bool} {j : Nat} (h : t j = true) : (List.range (j + 1)).filter t = (List.range j).filter t ++ [j] := by
  rw [List.range_succ, List.filter_append, List.filter_cons, h, if_pos rfl, List.filter_nil]
theorem filt_no {t : Nat → Bool} {j : Nat} (h : t j = false) : (List.range (j + 1)).filter t = (List.range j).filter t := by
  rw [List.range_succ, List.filter_append, List.filter_cons, h, if_neg Bool.false_ne_true, List.filter_nil, List.append_nil]
section
variable {P : Program} {w : World} {K : PySem.W.Frag} {mg : Str → Option Value} {base : Heap} {f : Addr} {fd : FuncData}
/-! last_writes -/
theorem sc_last_writes : FnScope ["log", "blocks", "writes", "at", "target", "_"] ["log", "blocks"] (defScope s_last_writes) := ⟨rfl, rfl, rfl, by decide +kernel, rfl, by decide +kernel, by decide +kernel⟩
inductive C_last_writes : List Sem → List PyData → Prop
  | mk (log : List Pr) (n : Nat) : n ≤ 12 → log.length ≤ 60 → OkL n log → C_last_writes [dt (.list (log.map prD)), dt (.int n)] (dI (lastW log n))
theorem rep_one (n : Nat) : (List.replicate n [PyData.int (-1)]).flatten = dI (lastW [] n) := by
  rw [lastW_nil]
  induction n with
  | zero => rfl
  | succ n ih => rw [List.replicate_succ, List.flatten_cons, ih, List.replicate_succ]; rfl
theorem last_next {log : List Pr} {n i : Nat} {a : Pr} (h : log[i]? = some a) : (dI (lastW (log.take i) n)).set a.1 (.int (i : Nat)) = dI (lastW (log.take (i + 1)) n) := by
  have hi := (List.getElem?_eq_some_iff.mp h).1
  rw [List.take_add_one, h]
  show _ = dI (lastW (log.take i ++ [a]) n)
  rw [lastW_snoc, List.length_take, Nat.min_eq_left (by omega)]
  exact (List.map_set ..).symm
theorem tupds_dI (ns : List Int) : tupds (dI ns) = true := tupds_I ns
theorem ok_last_writes (g : G mg) (F : FnQ K "last_writes" s_last_writes f fd) : FnOk P w K mg base CX0 1 f fd ["log", "blocks"] (spL C_last_writes K) := by
  have nd := sc_last_writes.nd
  refine fn_list F sc_last_writes (fun ss s h => by cases h; rfl) (fun cdv A outer s H E hr ss r h => ?_)
  obtain ⟨log, n, h1, h2, h3⟩ := h
  refine w_asgL 2 nd (pxl_eq (pxl_rep (px_lt (pl1 (px_neg px_int))) (pn 1) (by simp; omega) (by omega)) (rep_one n)) (tupds_dI _) fun p => ?_
  refine w_for (fun i Γ => ∃ t1 t2 t3, Γ = [.dat (dt (.list (log.map prD))), .dat (dt (.int n)), .own p (.lst (dI (lastW (log.take i) n))), t1, t2, t3]) (wi_enV (i := 0) g.enum rfl wk_r) ⟨_, _, _, rfl⟩ (pgt12 3 4 5 nd) (fun i a Γ' ha iv => ?_) (fun Γ' iv => ?_)
  · obtain ⟨t1, t2, t3, rfl⟩ := iv
    obtain ⟨a, j⟩ := a
    obtain ⟨h4, rfl⟩ := zip_at ha
    have ho := h3 _ (List.mem_of_getElem? h4)
    refine g12 3 4 5 nd ?_
    refine w_set 2 (pn 3) rfl (pn 4) (ix_nat (i := a.1) ?_) (last_next h4) (ws_nil ⟨_, _, _, rfl⟩)
    rw [List.length_map, lastW_len]; exact ho.1
  · obtain ⟨t1, t2, t3, rfl⟩ := iv
    refine w_retO 2 ?_
    show Con.lst _ = Con.lst _
    rw [List.length_zipIdx, List.take_length]
/-! mattering -/
theorem sc_mattering : FnScope ["log", "blocks", "position", "rows"] ["log", "blocks", "position"] (defScope s_mattering) := ⟨rfl, rfl, rfl, by decide +kernel, rfl, by decide +kernel, by decide +kernel⟩
inductive C_mattering : List Sem → Sem → Prop
  | mk (log : List Pr) (n p : Nat) : n ≤ 12 → log.length ≤ 60 → OkL n log → p ≤ log.length → C_mattering [dt (.list (log.map prD)), dt (.int n), dt (.int p)] (dt (.tuple (nI (mattr log n p))))
theorem cut_from {log : List Pr} {p : Nat} (h : p ≤ log.length) : Dw.cutD (log.map prD) (some (p : Int)) none = (log.drop p).map prD := by
  unfold Dw.cutD
  rw [show HT.sIx (log.map prD).length 0 (some (p : Int)) = p by simp [HT.sIx]; split <;> omega, show HT.sIx (log.map prD).length (log.map prD).length none = log.length by simp [HT.sIx]]
  rw [List.map_drop, List.take_of_length_le (by simp)]
theorem ok_mattering (g : G mg) (F1 : Fn P w K mg base "origin_rows" 2 ["log", "blocks"] (spL C_origin_rows K)) (F : FnQ K "mattering" s_mattering f fd) : FnOk P w K mg base CX0 3 f fd ["log", "blocks", "position"] (spP C_mattering K) := by
  have nd := sc_mattering.nd
  refine fn_pure F sc_mattering (fun ss s h => by cases h; rfl) (fun cdv A outer s H E hr ss r h => ?_)
  obtain ⟨log, n, p, h1, h2, h3, h4⟩ := h
  refine w_asgL 3 nd (l2 F1 hr (px_eqd (px_new (pxl_sl (pn 0) (.some (pn 2)) .none)) (by rw [cut_from h4])) (pn 1) (.mk (log.drop p) n h1 (by simp; omega) (h3.drop p))) tup_rows fun q => ?_
  refine w_ret (p_tup g.tuple (px_new (pxl_eq (pxl_sortedS (ns := iN (flw log n p)) (ms := iN (mattr log n p)) rfl g.sorted (px_setT rfl g.set (px_eqd (px_ixL (pnl 3) (px_neg px_int) (d := .tuple (nI (flw log n p))) ?_) ?_) ?_) ?_ ?_ ?_) (dI_nI _)))) (fr_tup (tupds_nI _)) rfl
  · refine at_last ?_
    unfold rowsD
    rw [List.length_map, List.length_range, List.getElem?_map, List.getElem?_range (by omega)]
    rw [Nat.add_sub_cancel]
    show some (PyData.tuple (nI (img (List.drop p log) n (List.drop p log).length))) = _
    rw [img_end]
    rfl
  · rw [dI_nI]
  · rw [List.length_map, flw_len]; omega
  · rw [List.length_map, flw_len]; omega
  · exact ris_range _ _
  · intro k
    rw [List.mem_map, List.mem_map]
    constructor
    · rintro ⟨b, hb, rfl⟩
      exact ⟨b, (mem_mattr.mp hb).2, rfl⟩
    · rintro ⟨b, hb, rfl⟩
      exact ⟨b, mem_mattr.mpr ⟨lt_run _ _ (lt_home n) (fun p hp => by simpa using (h3.drop _ p hp).2.1) b hb, hb⟩, rfl⟩
/-! idle_indexes -/
theorem sc_idle_indexes : FnScope ["log", "blocks", "rows", "found", "at", "target", "source", "held"] ["log", "blocks"] (defScope s_idle_indexes) := ⟨rfl, rfl, rfl, by decide +kernel, rfl, by decide +kernel, by decide +kernel⟩
inductive C_idle : List Sem → List PyData → Prop
  | mk (log : List Pr) (n : Nat) : n ≤ 12 → log.length ≤ 60 → OkL n log → C_idle [dt (.list (log.map prD)), dt (.int n)] (nI (idle log n))
def idleT (log : List Pr) (n k : Nat) : Bool := (img log n k).getD (tgt log k) 0 == (img log n k).getD (src log k) 0
def idleI (log : List Pr) (n i : Nat) : List Nat := (List.range i).filter (idleT log n)
theorem row_at {log : List Pr} {n m k : Nat} (h : k < m) : atI (rowsD log n m) (k : Int) = some (.tuple (nI (img log n k))) := at_map (L := List.range m) (by simp [h])
theorem ok_idle_indexes (g : G mg) (F1 : Fn P w K mg base "origin_rows" 2 ["log", "blocks"] (spL C_origin_rows K)) (F : FnQ K "idle_indexes" s_idle_indexes f fd) : FnOk P w K mg base CX0 3 f fd ["log", "blocks"] (spL C_idle K) := by
  have nd := sc_idle_indexes.nd
  refine fn_list F sc_idle_indexes (fun ss s h => by cases h; rfl) (fun cdv A outer s H E hr ss r h => ?_)
  obtain ⟨log, n, h1, h2, h3⟩ := h
  refine w_asgL 2 nd (l2 F1 hr (pn 0) (pn 1) (.mk log n h1 h2 h3)) tup_rows fun q => ?_
  refine w_asgL 3 nd pl0 rfl fun p => ?_
  refine w_for (fun i Γ => ∃ t1 t2 t3 t4, Γ = [.dat (dt (.list (log.map prD))), .dat (dt (.int n)), .own q (.lst (rowsD log n (log.length + 1))), .own p (.lst (nI (idleI log n i))), t1, t2, t3, t4]) (wi_enV (i := 0) g.enum rfl wk_r) ⟨_, _, _, _, rfl⟩ (pgt12 4 5 6 nd) (fun i a Γ' ha iv => ?_) (fun Γ' iv => ?_)
  · obtain ⟨t1, t2, t3, t4, rfl⟩ := iv
    obtain ⟨a, j⟩ := a
    obtain ⟨h4, rfl⟩ := zip_at ha
    have hj := (List.getElem?_eq_some_iff.mp h4).1
    have ho := h3 _ (List.mem_of_getElem? h4)
    have et : tgt log j = a.1 := by unfold tgt; rw [List.getD_eq_getElem?_getD, h4]; rfl
    have es : src log j = a.2 := by unfold src; rw [List.getD_eq_getElem?_getD, h4]; rfl
    refine g12 4 5 6 nd ?_
    refine w_asg 7 nd (px_ixL (pnl 2) (pn 4) (row_at (by omega))) (fr_tup (tupds_nI _)) ?_
    refine w_when (b := idleT log n j) (pb_eq (pb_eqI (px_ixT (pn 7) (pn 5) (at_nI (r := img log n j) (i := a.1) ?_)) (px_ixT (pn 7) (pn 6) (at_nI (r := img log n j) (i := a.2) ?_))) ?_) (fun z => ?_) fun z => ws_nil ?_
    · rw [img_len]; exact ho.1
    · rw [img_len]; exact ho.2.1
    · rw [dec_nat]; unfold idleT; rw [et, es, Bool.eq_iff_iff]; simp
    · refine w_app 3 (pn 4) rfl ?_ (ds' := nI (idleI log n (j + 1))) ?_ (ws_nil (ws_nil ⟨_, _, _, _, rfl⟩))
      · have : (idleI log n j).length ≤ j := by unfold idleI; exact Nat.le_trans (List.length_filter_le _ _) (by simp)
        show (nI (idleI log n j)).length < 100000
        rw [List.length_map]; omega
      · show nI (idleI log n j) ++ [_] = _
        unfold idleI
        rw [filt_yes z]
        exact nI_snoc _ _
    · dsimp only
      rw [show idleI log n (j + 1) = idleI log n j by unfold idleI; exact filt_no z]
      exact ⟨_, _, _, _, rfl⟩
  · obtain ⟨t1, t2, t3, t4, rfl⟩ := iv
    refine w_retO 3 ?_
    show Con.lst _ = Con.lst _
    rw [List.length_zipIdx]
    rfl
end
end H77
set_option Elab.async false
set_option linter.all false
set_option maxRecDepth 100000
set_option maxHeartbeats 1000000
namespace R77
theorem fs_hit {β : Type} {f : Nat → Option β} {i : Nat} {a : β} (h0 : (List.range i).findSome? f = none) (h1 : f i = some a) : ∀ {L : Nat}, i < L → (List.range L).findSome? f = some a
  | 0, h => absurd h (Nat.not_lt_zero _)
  | L + 1, h => by
    rw [List.range_succ, List.findSome?_append]
    by_cases e : i = L
    · subst e
      rw [h0, List.findSome?_cons, h1]
      rfl
    · rw [fs_hit h0 h1 (L := L) (by omega)]
      rfl
theorem fs_step {β : Type} {f : Nat → Option β} {i : Nat} (h0 : (List.range i).findSome? f = none) (h1 : f i = none) : (List.range (i + 1)).findSome? f = none := by
  rw [List.range_succ, List.findSome?_append, h0, List.findSome?_cons, h1]
  rfl
theorem fd_hit {f : Nat → Bool} {i : Nat} (h0 : (List.range i).find? f = none) (h1 : f i = true) : ∀ {L : Nat}, i < L → (List.range L).find? f = some i
  | 0, h => absurd h (Nat.not_lt_zero _)
  | L + 1, h => by
    rw [List.range_succ, List.find?_append]
    by_cases e : i = L
    · subst e
      rw [h0, List.find?_cons, h1]
      rfl
    · rw [fd_hit h0 h1 (L := L) (by omega)]
      rfl
theorem fd_step {f : Nat → Bool} {i : Nat} (h0 : (List.range i).find? f = none) (h1 : f i = false) : (List.range (i + 1)).find? f = none := by
  rw [List.range_succ, List.find?_append, h0, List.find?_cons, h1]
  rfl
end R77
namespace H77
open PySem PySem.Spec PyProof.Rows L2 Dw R77
def o2D : Option (Nat × Nat) → PyData
  | none => .none
  | some p => .tuple [.int p.1, .int p.2]
def o1D : Option Nat → PyData
  | none => .none
  | some p => .int p
def stpD (s : Stp) : PyData := .tuple [.int s.1, .tuple [.int s.2]]
section
variable {P : Program} {w : World} {K : PySem.W.Frag} {mg : Str → Option Value} {base : Heap} {f : Addr} {fd : FuncData}
/-! undisturbed -/
theorem sc_undisturbed : FnScope ["length", "line"] ["length"] (defScope s_undisturbed) := ⟨rfl, rfl, rfl, by decide +kernel, rfl, by decide +kernel, by decide +kernel⟩
inductive C_undisturbed : List Sem → List PyData → Prop
  | mk (n : Nat) : n ≤ 60 → C_undisturbed [dt (.int n)] ((whole n).map stpD)
theorem ok_undisturbed (g : G mg) (F : FnQ K "undisturbed" s_undisturbed f fd) : FnOk P w K mg base CX0 1 f fd ["length"] (spL C_undisturbed K) := by
  have nd := sc_undisturbed.nd
  refine fn_list F sc_undisturbed (fun ss s h => by cases h; rfl) (fun cdv A outer s H E hr ss r h => ?_)
  obtain ⟨n, h1⟩ := h
  refine w_retL (pxl_eq (lc1 (val := fun (i : Nat) => stpD ((i : Int), i + 1)) 1 nd (pr g.range (pn 0) (by omega)) (fun i _ _ _ _ _ _ => pt2 (pn 1) (pt1 (px_eqd (px_add (pn 1) px_int) ?_))) (fun _ _ => rfl) (by simp; omega) (fun _ _ _ _ _ => gpn 1 nd)) ?_) (tupds_map fun _ _ => rfl) rfl
  · show PyData.int _ = PyData.int _
    congr 1
  · unfold whole
    rw [List.map_map]
    rfl
/-! _top_of -/
theorem sc_top_of : FnScope ["log", "blocks", "rows", "final", "position", "held", "block"] ["log", "blocks"] (defScope s_top_of) := ⟨rfl, rfl, rfl, by decide +kernel, rfl, by decide +kernel, by decide +kernel⟩
inductive C_top_of : List Sem → Sem → Prop
  | mk (log : List Pr) (n : Nat) : n ≤ 12 → log.length ≤ 60 → OkL n log → C_top_of [dt (.list (log.map prD)), dt (.int n)] (dt (o2D (topOf log n)))
theorem row_last (log : List Pr) (n : Nat) : atI (rowsD log n (log.length + 1)) (-1) = some (.tuple (nI (fin log n))) := by
  refine at_last ?_
  unfold rowsD
  rw [List.length_map, List.length_range, List.getElem?_map, List.getElem?_range (by omega), Nat.add_sub_cancel]
  show some (PyData.tuple (nI (img log n log.length))) = _
  rw [img_end]
theorem range_at {n i a : Nat} (h : (List.range n)[i]? = some a) : a = i ∧ i < n := by
  have hi := (List.getElem?_eq_some_iff.mp h).1
  rw [List.length_range] at hi
  rw [List.getElem?_range hi] at h
  exact ⟨(Option.some.inj h).symm, hi⟩
def topF (log : List Pr) (n p : Nat) : Option (Nat × Nat) := ((List.range n).find? fun b => topTest log n p b).map fun b => (p, b)
theorem ok_top_of (g : G mg) (F1 : Fn P w K mg base "origin_rows" 2 ["log", "blocks"] (spL C_origin_rows K)) (F : FnQ K "_top_of" s_top_of f fd) : FnOk P w K mg base CX0 3 f fd ["log", "blocks"] (spP C_top_of K) := by
  have nd := sc_top_of.nd
  refine fn_pure F sc_top_of (fun ss s h => by cases h; rfl) (fun cdv A outer s H E hr ss r h => ?_)
  obtain ⟨log, n, h1, h2, h3⟩ := h
  refine w_asgL 2 nd (l2 F1 hr (pn 0) (pn 1) (.mk log n h1 h2 h3)) tup_rows fun q => ?_
  refine w_asg 3 nd (px_ixL (pnl 2) (px_neg px_int) (row_last log n)) (fr_tup (tupds_nI _)) ?_
  refine ws_freeze (i := 2) rfl ?_
  refine w_for (fun i Γ => (List.range i).findSome? (topF log n) = none ∧ ∃ t1 t2 t3, Γ = [.dat (dt (.list (log.map prD))), .dat (dt (.int n)), .dat (lt (rowsD log n (log.length + 1))), .dat (dt (.tuple (nI (fin log n)))), t1, t2, t3]) (wi_enV (L := List.range (log.length + 1)) (f := fun k => .tuple (nI (img log n k))) (i := 2) g.enum rfl wk_l) ⟨rfl, _, _, _, rfl⟩ (pgt 4 5 nd) (fun i a Γ' ha iv => ?_) (fun Γ' iv => ?_)
  · obtain ⟨hn, t1, t2, t3, rfl⟩ := iv
    obtain ⟨a, j⟩ := a
    obtain ⟨h4, e4⟩ := zip_at ha
    have e4 : j = i := e4
    subst e4
    obtain ⟨e5, hj⟩ := range_at h4
    have e5 : j = a := e5.symm
    subst e5
    refine g2 4 5 nd ?_
    refine w_for (fun i Γ => (List.range i).find? (fun b => topTest log n j b) = none ∧ ∃ t3, Γ = [.dat (dt (.list (log.map prD))), .dat (dt (.int n)), .dat (lt (rowsD log n (log.length + 1))), .dat (dt (.tuple (nI (fin log n)))), .dat (dt (.int (j : Nat))), .dat (dt (.tuple (nI (img log n j)))), t3]) (wr g.range (pn 1) (by omega)) ⟨rfl, _, rfl⟩ (gpn 6 nd) (fun b a Γ' ha iv => ?_) (fun Γ' iv => ?_)
    · obtain ⟨hb, t3, rfl⟩ := iv
      obtain ⟨rfl, hbn⟩ := range_at ha
      refine gn 6 nd ?_
      refine w_when (b := topTest log n j a) (pb_eq (pb_and2 (pb_neI (px_ixT (pn 5) (pn 6) (at_nI (r := img log n j) (i := a) ?_)) (pn 6)) fun _ => pb_inT (ns := iN (fin log n)) (pn 6) (px_eqd (pn 3) ?_)) ?_) (fun z => ?_) fun z => ws_nil ⟨fd_step hb z, _, rfl⟩
      · rw [img_len]; exact hbn
      · rw [dI_nI]
      · rw [mem_nI, dec_nat]; unfold topTest; congr 1
      · refine w_ret (pt2 (pn 4) (pn 6)) (fr_dt rfl) ?_
        have e : topOf log n = some (j, a) := fs_hit (f := topF log n) hn (by unfold topF; rw [fd_hit hb z hbn]; rfl) hj
        show dt _ = dt (o2D _)
        rw [e]
        rfl
    · obtain ⟨hb, t3, rfl⟩ := iv
      rw [List.length_range] at hb
      exact ws_nil ⟨fs_step hn (by unfold topF; rw [hb]; rfl), _, _, _, rfl⟩
  · obtain ⟨hn, t1, t2, t3, rfl⟩ := iv
    rw [List.length_zipIdx, List.length_range] at hn
    refine w_ret px_non fr_none ?_
    have e : topOf log n = none := hn
    show dt _ = dt (o2D _)
    rw [e]
    rfl
/-! _late_of -/
theorem sc_late_of : FnScope ["log", "blocks", "rows", "final", "writes", "at", "target", "source"] ["log", "blocks"] (defScope s_late_of) := ⟨rfl, rfl, rfl, by decide +kernel, rfl, by decide +kernel, by decide +kernel⟩
inductive C_late_of : List Sem → Sem → Prop
  | mk (log : List Pr) (n : Nat) : n ≤ 12 → log.length ≤ 60 → OkL n log → C_late_of [dt (.list (log.map prD)), dt (.int n)] (dt (o1D (lateOf log n)))
theorem at_dI {r : List Int} {i : Nat} (h : i < r.length) : atI (dI r) (i : Int) = some (.int (r.getD i 0)) := atI_nat (by rw [List.getElem?_map, List.getElem?_eq_getElem h]; simp [List.getD_eq_getElem?_getD, h])
theorem ok_late_of (g : G mg) (F1 : Fn P w K mg base "origin_rows" 2 ["log", "blocks"] (spL C_origin_rows K)) (F2 : Fn P w K mg base "last_writes" 1 ["log", "blocks"] (spL C_last_writes K)) (F : FnQ K "_late_of" s_late_of f fd) : FnOk P w K mg base CX0 3 f fd ["log", "blocks"] (spP C_late_of K) := by
  have nd := sc_late_of.nd
  refine fn_pure F sc_late_of (fun ss s h => by cases h; rfl) (fun cdv A outer s H E hr ss r h => ?_)
  obtain ⟨log, n, h1, h2, h3⟩ := h
  refine w_asgL 2 nd (l2 F1 hr (pn 0) (pn 1) (.mk log n h1 h2 h3)) tup_rows fun q => ?_
  refine w_asg 3 nd (px_ixL (pnl 2) (px_neg px_int) (row_last log n)) (fr_tup (tupds_nI _)) ?_
  refine w_asgL 4 nd (l2 F2 hr (pn 0) (pn 1) (.mk log n h1 h2 h3)) (tupds_dI _) fun q2 => ?_
  refine w_for (fun i Γ => (List.range i).find? (lateTest log n) = none ∧ ∃ t1 t2 t3, Γ = [.dat (dt (.list (log.map prD))), .dat (dt (.int n)), .own q (.lst (rowsD log n (log.length + 1))), .dat (dt (.tuple (nI (fin log n)))), .own q2 (.lst (dI (lastW log n))), t1, t2, t3]) (wi_enV (i := 0) g.enum rfl wk_r) ⟨rfl, _, _, _, rfl⟩ (pgt12 5 6 7 nd) (fun i a Γ' ha iv => ?_) (fun Γ' iv => ?_)
  · obtain ⟨hn, t1, t2, t3, rfl⟩ := iv
    obtain ⟨a, j⟩ := a
    obtain ⟨h4, rfl⟩ := zip_at ha
    have hj := (List.getElem?_eq_some_iff.mp h4).1
    have ho := h3 _ (List.mem_of_getElem? h4)
    have et : tgt log j = a.1 := by unfold tgt; rw [List.getD_eq_getElem?_getD, h4]; rfl
    have es : src log j = a.2 := by unfold src; rw [List.getD_eq_getElem?_getD, h4]; rfl
    refine g12 5 6 7 nd ?_
    refine w_when (b := lateTest log n j) (pb_eq (pb_or2 (pb_ge (px_ixL (pnl 4) (pn 7) (at_dI (r := lastW log n) (i := a.2) ?_)) (px_ixL (pnl 4) (pn 6) (at_dI (r := lastW log n) (i := a.1) ?_))) fun _ => pb_neI (px_ixT (pn 3) (pn 7) (at_nI (r := fin log n) (i := a.2) ?_)) (px_ixT (pn 3) (pn 6) (at_nI (r := fin log n) (i := a.1) ?_))) ?_) (fun z => ?_) fun z => ws_nil ⟨fd_step hn z, _, _, _, rfl⟩
    · rw [lastW_len]; exact ho.2.1
    · rw [lastW_len]; exact ho.1
    · rw [fin_len]; exact ho.2.1
    · rw [fin_len]; exact ho.1
    · rw [dec_nat]; unfold lateTest; rw [et, es]; congr 1
    · refine w_ret (pn 5) fr_int ?_
      have e : lateOf log n = some j := fd_hit hn z hj
      show dt _ = dt (o1D _)
      rw [e]
      rfl
  · obtain ⟨hn, t1, t2, t3, rfl⟩ := iv
    rw [List.length_zipIdx] at hn
    refine w_ret px_non fr_none ?_
    have e : lateOf log n = none := hn
    show dt _ = dt (o1D _)
    rw [e]
    rfl
end
end H77
set_option Elab.async false
set_option linter.all false
set_option maxRecDepth 100000
set_option maxHeartbeats 1000000
namespace H77
open PySem PySem.Spec PyProof.Rows L2 Dw R77
/-! the dict of _mark_of -/
def putB (j : Nat) (d : List (Key × PyData)) (b : Nat) : List (Key × PyData) := dset d (.inl (b : Nat)) (.int (j : Nat))
def firstF (log : List Pr) (n : Nat) : Nat → List (Key × PyData)
  | 0 => []
  | i + 1 => (mattr log n i).foldl (putB i) (firstF log n i)
theorem dlook_app {k k' : Key} {v : PyData} : ∀ (d : List (Key × PyData)), dlook (d ++ [(k, v)]) k' = match dlook d k' with | some x => some x | none => if k = k' then some v else none
  | [] => by simp [dlook]
  | (j, x) :: d => by
    simp only [List.cons_append, dlook]
    by_cases e : j = k'
    · simp [e]
    · rw [if_neg e, if_neg e, dlook_app d]
theorem dlook_put {j : Nat} {d : List (Key × PyData)} {b c : Nat} : dlook (putB j d b) (.inl (c : Nat)) = match dlook d (.inl (c : Nat)) with | some x => some x | none => if b = c then some (.int (j : Nat)) else none := by
  unfold putB dset
  cases h : dlook d (Sum.inl ((b : Nat) : Int)) with
  | some x =>
    show dlook d _ = _
    by_cases e : b = c
    · subst e
      rw [h]
    · cases h2 : dlook d (Sum.inl ((c : Nat) : Int)) with
      | some y => rfl
      | none => rw [if_neg e]
  | none =>
    show dlook (d ++ _) _ = _
    rw [dlook_app]
    cases h2 : dlook d (Sum.inl ((c : Nat) : Int)) with
    | some y => rfl
    | none =>
      show (if _ then _ else _) = (if _ then _ else _)
      by_cases e : b = c
      · subst e; simp
      · have e2 : ¬ (Sum.inl ((b : Nat) : Int) : Key) = Sum.inl ((c : Nat) : Int) := fun z => e (by have := Sum.inl.inj z; omega)
        rw [if_neg e, if_neg e2]
theorem dlook_fold {j c : Nat} : ∀ (bs : List Nat) (d : List (Key × PyData)), dlook (bs.foldl (putB j) d) (.inl (c : Nat)) = match dlook d (.inl (c : Nat)) with | some x => some x | none => if bs.contains c then some (.int (j : Nat)) else none
  | [], d => by
    rw [List.foldl_nil]
    cases h : dlook d (Sum.inl ((c : Nat) : Int)) with
    | none => simp
    | some x => rfl
  | b :: bs, d => by
    rw [List.foldl_cons, dlook_fold bs, dlook_put]
    cases dlook d (Sum.inl ((c : Nat) : Int)) with
    | some x => rfl
    | none =>
      by_cases e : b = c
      · subst e; simp
      · have e2 : ¬ c = b := fun z => e z.symm
        simp [e, e2]
theorem dlook_first (log : List Pr) (n c : Nat) : ∀ i, dlook (firstF log n i) (.inl (c : Nat)) = ((List.range i).find? fun p => (mattr log n p).contains c).map fun p => PyData.int (p : Nat)
  | 0 => rfl
  | i + 1 => by
    rw [firstF, dlook_fold, dlook_first log n c i, List.range_succ, List.find?_append, List.find?_cons]
    cases (List.range i).find? fun p => (mattr log n p).contains c with
    | some p => rfl
    | none =>
      cases (mattr log n i).contains c <;> rfl
theorem put_len (j : Nat) (d : List (Key × PyData)) (b : Nat) : (putB j d b).length ≤ d.length + 1 := by
  unfold putB dset
  split <;> simp
theorem fold_len (j : Nat) : ∀ (bs : List Nat) (d : List (Key × PyData)), (bs.foldl (putB j) d).length ≤ d.length + bs.length
  | [], d => by simp
  | b :: bs, d => by
    rw [List.foldl_cons]
    have h1 := fold_len j bs (putB j d b)
    have h2 := put_len j d b
    simp only [List.length_cons]
    omega
theorem mattr_len (log : List Pr) (n p : Nat) : (mattr log n p).length ≤ n := by
  unfold mattr
  exact Nat.le_trans (List.length_filter_le _ _) (by simp)
theorem first_len (log : List Pr) (n : Nat) : ∀ i, (firstF log n i).length ≤ i * n
  | 0 => by simp [firstF]
  | i + 1 => by
    rw [firstF]
    have h1 := fold_len i (mattr log n i) (firstF log n i)
    have h2 := first_len log n i
    have h3 := mattr_len log n i
    rw [Nat.succ_mul]
    omega
section
variable {P : Program} {w : World} {K : PySem.W.Frag} {mg : Str → Option Value} {base : Heap} {f : Addr} {fd : FuncData}
theorem room_u {n : Nat} {A : Around} (hr : Room n A) : A.units + 64 < cLine := by have := hr.un; omega
theorem room_1 {n : Nat} {A : Around} (hr : Room n A) : A.units + 1 < cLine := by have := hr.un; omega
theorem sc_mark_of : FnScope ["log", "blocks", "first", "at", "target", "_", "block"] ["log", "blocks"] (defScope s_mark_of) := ⟨rfl, rfl, rfl, by decide +kernel, rfl, by decide +kernel, by decide +kernel⟩
inductive C_mark_of : List Sem → Sem → Prop
  | mk (log : List Pr) (n : Nat) : n ≤ 12 → log.length ≤ 60 → OkL n log → C_mark_of [dt (.list (log.map prD)), dt (.int n)] (dt (o2D (markOf log n)))
def markF (log : List Pr) (n k : Nat) : Option (Nat × Nat) := ((List.range (k + 1)).find? fun p => (mattr log n p).contains (tgt log k)).map fun p => (p, k)
theorem ok_mark_of (g : G mg) (F1 : Fn P w K mg base "mattering" 3 ["log", "blocks", "position"] (spP C_mattering K)) (F : FnQ K "_mark_of" s_mark_of f fd) : FnOk P w K mg base CX0 4 f fd ["log", "blocks"] (spP C_mark_of K) := by
  have nd := sc_mark_of.nd
  refine fn_pure F sc_mark_of (fun ss s h => by cases h; rfl) (fun cdv A outer s H E hr ss r h => ?_)
  obtain ⟨log, n, h1, h2, h3⟩ := h
  refine w_asgD 2 nd fun q => ?_
  refine w_for (fun i Γ => (List.range i).findSome? (markF log n) = none ∧ ∃ t1 t2 t3 t4, Γ = [.dat (dt (.list (log.map prD))), .dat (dt (.int n)), .own q (.dic (firstF log n i)), t1, t2, t3, t4]) (wi_enV (i := 0) g.enum rfl wk_r) ⟨rfl, _, _, _, _, rfl⟩ (pgt12 3 4 5 nd) (fun i a Γ' ha iv => ?_) (fun Γ' iv => ?_)
  · obtain ⟨hn, t1, t2, t3, t4, rfl⟩ := iv
    obtain ⟨a, j⟩ := a
    obtain ⟨h4, e4⟩ := zip_at ha
    have e4 : j = i := e4
    subst e4
    have hj := (List.getElem?_eq_some_iff.mp h4).1
    have ho := h3 _ (List.mem_of_getElem? h4)
    have et : tgt log j = a.1 := by unfold tgt; rw [List.getD_eq_getElem?_getD, h4]; rfl
    refine g12 3 4 5 nd ?_
    refine w_for (fun m Γ => ∃ t4, Γ = [.dat (dt (.list (log.map prD))), .dat (dt (.int n)), .own q (.dic (((mattr log n j).take m).foldl (putB j) (firstF log n j))), .dat (dt (.int (j : Nat))), .dat (dt (.int a.1)), .dat (dt (.int a.2)), t4]) (wi_tup (L := mattr log n j) (f := fun b => .int (b : Nat)) (c3 F1 hr (pn 0) (pn 1) (pn 3) (.mk log n j h1 h2 h3 (by omega))) fun _ _ => rfl) ⟨_, rfl⟩ (gpn 6 nd) (fun m b Γ' hb iv => ?_) (fun Γ' iv => ?_)
    · obtain ⟨t4, rfl⟩ := iv
      refine gn 6 nd ?_
      refine w_setdef 2 (pn 6) (pn 3) rfl ?_ (ws_nil ?_)
      · have e1 := fold_len j ((mattr log n j).take m) (firstF log n j)
        have e2 := first_len log n j
        have e3 := mattr_len log n j
        have e4 : ((mattr log n j).take m).length ≤ n := by rw [List.length_take]; omega
        have e5 : j * n ≤ 60 * 12 := Nat.mul_le_mul (by omega) h1
        omega
      · dsimp only
        rw [show ((mattr log n j).take (m + 1)).foldl (putB j) (firstF log n j) = putB j (((mattr log n j).take m).foldl (putB j) (firstF log n j)) b by rw [List.take_add_one, hb, List.foldl_append]; rfl]
        exact ⟨_, rfl⟩
    · obtain ⟨t4, rfl⟩ := iv
      rw [List.take_length]
      have ld := dlook_first log n a.1 (j + 1)
      have ef : (mattr log n j).foldl (putB j) (firstF log n j) = firstF log n (j + 1) := rfl
      rw [ef]
      refine w_when (pb_din (k := (a.1 : Int)) (room_1 hr) (pn 4) (pn 2)) (fun z => ?_) fun z => ws_nil ⟨?_, _, _, _, _, rfl⟩
      · rw [ld] at z
        cases hf : (List.range (j + 1)).find? fun p => (mattr log n p).contains a.1 with
        | none => rw [hf] at z; cases z
        | some p =>
          rw [hf] at ld
          refine w_ret (pt2 (px_dget (room_1 hr) (pn 2) (pn 4) ld) (pn 3)) (fr_dt rfl) ?_
          have e : markOf log n = some (p, j) := fs_hit (f := markF log n) hn (by unfold markF; rw [et, hf]; rfl) hj
          show dt _ = dt (o2D _)
          rw [e]
          rfl
      · rw [ld] at z
        refine fs_step hn ?_
        unfold markF
        rw [et]
        cases hf : (List.range (j + 1)).find? fun p => (mattr log n p).contains a.1 with
        | none => rfl
        | some p => rw [hf] at z; cases z
  · obtain ⟨hn, t1, t2, t3, t4, rfl⟩ := iv
    rw [List.length_zipIdx] at hn
    refine w_ret px_non fr_none ?_
    have e : markOf log n = none := hn
    show dt _ = dt (o2D _)
    rw [e]
    rfl
/-! the spoilers -/
theorem sc_spoiler_t : FnScope ["script", "blocks"] ["script", "blocks"] (defScope s_top_spoiler) := ⟨rfl, rfl, rfl, by decide +kernel, rfl, by decide +kernel, by decide +kernel⟩
theorem sc_spoiler_m : FnScope ["script", "blocks"] ["script", "blocks"] (defScope s_mark_spoiler) := ⟨rfl, rfl, rfl, by decide +kernel, rfl, by decide +kernel, by decide +kernel⟩
theorem sc_spoiler_l : FnScope ["script", "blocks"] ["script", "blocks"] (defScope s_late_spoiler) := ⟨rfl, rfl, rfl, by decide +kernel, rfl, by decide +kernel, by decide +kernel⟩
inductive C_top_sp : List Sem → Sem → Prop
  | mk (log : List Pr) (n : Nat) : LogOk log n → C_top_sp [dt (.list (log.map cpD)), dt (.int n)] (dt (o2D (topOf log n)))
inductive C_mark_sp : List Sem → Sem → Prop
  | mk (log : List Pr) (n : Nat) : LogOk log n → C_mark_sp [dt (.list (log.map cpD)), dt (.int n)] (dt (o2D (markOf log n)))
inductive C_late_sp : List Sem → Sem → Prop
  | mk (log : List Pr) (n : Nat) : LogOk log n → C_late_sp [dt (.list (log.map cpD)), dt (.int n)] (dt (o1D (lateOf log n)))
theorem tup_o2 (o : Option (Nat × Nat)) : tupd (o2D o) = true := by cases o <;> rfl
theorem tup_o1 (o : Option Nat) : tupd (o1D o) = true := by cases o <;> rfl
theorem ok_top_sp (g : G mg) (F1 : Fn P w K mg base "check_log" 4 ["script", "blocks"] (spL C_check_log K)) (F2 : Fn P w K mg base "_top_of" 3 ["log", "blocks"] (spP C_top_of K)) (F : FnQ K "top_spoiler" s_top_spoiler f fd) : FnOk P w K mg base CX0 5 f fd ["script", "blocks"] (spP C_top_sp K) := by
  refine fn_pure F sc_spoiler_t (fun ss s h => by cases h; rfl) (fun cdv A outer s H E hr ss r h => ?_)
  obtain ⟨log, n, h⟩ := h
  exact w_ret (c2 F2 hr (px_new (l2 F1 hr (pn 0) (pn 1) (.mk log n h))) (pn 1) (.mk log n h.n12 h.len h.ok)) (fr_dt (tup_o2 _)) rfl
theorem ok_mark_sp (g : G mg) (F1 : Fn P w K mg base "check_log" 4 ["script", "blocks"] (spL C_check_log K)) (F2 : Fn P w K mg base "_mark_of" 4 ["log", "blocks"] (spP C_mark_of K)) (F : FnQ K "mark_spoiler" s_mark_spoiler f fd) : FnOk P w K mg base CX0 5 f fd ["script", "blocks"] (spP C_mark_sp K) := by
  refine fn_pure F sc_spoiler_m (fun ss s h => by cases h; rfl) (fun cdv A outer s H E hr ss r h => ?_)
  obtain ⟨log, n, h⟩ := h
  exact w_ret (c2 F2 hr (px_new (l2 F1 hr (pn 0) (pn 1) (.mk log n h))) (pn 1) (.mk log n h.n12 h.len h.ok)) (fr_dt (tup_o2 _)) rfl
theorem ok_late_sp (g : G mg) (F1 : Fn P w K mg base "check_log" 4 ["script", "blocks"] (spL C_check_log K)) (F2 : Fn P w K mg base "_late_of" 3 ["log", "blocks"] (spP C_late_of K)) (F : FnQ K "late_spoiler" s_late_spoiler f fd) : FnOk P w K mg base CX0 5 f fd ["script", "blocks"] (spP C_late_sp K) := by
  refine fn_pure F sc_spoiler_l (fun ss s h => by cases h; rfl) (fun cdv A outer s H E hr ss r h => ?_)
  obtain ⟨log, n, h⟩ := h
  exact w_ret (c2 F2 hr (px_new (l2 F1 hr (pn 0) (pn 1) (.mk log n h))) (pn 1) (.mk log n h.n12 h.len h.ok)) (fr_dt (tup_o1 _)) rfl
end
end H77
set_option Elab.async false
set_option linter.all false
set_option maxRecDepth 100000
set_option maxHeartbeats 1000000
namespace H77
open PySem PySem.Spec PyProof.Rows L2 Dw R77
abbrev runD (run : List Stp) : List PyData := run.map stpD
structure RuleOk (K : PySem.W.Frag) (mg : Str → Option Value) : Prop where
  ex : ∃ C mc u, mg "Rule" = some (.ref C) ∧ ClX.CRead K C mc ∧ ClX.CVal K C mc "RESTART" (.int (-1)) u
theorem px_restart {X : Cx} {Γ : Sv} {p pos : Pos} (R : RuleOk X.K X.mg) (hg : Gl X "Rule" := by rfl) (hb : attributeBase (.Name "Rule" p) "RESTART" X.env (eval (.Name "Rule" p) X.env) = eval (.Name "Rule" p) X.env := by rfl) : PX X Γ (.Attribute (.Name "Rule" p) "RESTART" pos) (dt (.int (-1))) := by
  obtain ⟨C, mc, u, h1, h2, h3⟩ := R.ex
  exact px_cval h1 h2 h3 hg (by decide) hb
theorem runD_len (W : List Stp) : (runD W).length = W.length := by simp
theorem runD_take (W : List Stp) (p : Nat) : (runD W).take p = runD (W.take p) := by simp
theorem runD_drop (W : List Stp) (p : Nat) : (runD W).drop p = runD (W.drop p) := by simp
theorem cut_to {W : List Stp} {p : Nat} : Dw.cutD (runD W) none (some (p : Int)) = runD (W.take p) := by
  unfold Dw.cutD
  rw [runD_len, show HT.sIx W.length 0 none = 0 by simp [HT.sIx], List.drop_zero, Nat.sub_zero]
  by_cases h : p ≤ W.length
  · rw [show HT.sIx W.length W.length (some (p : Int)) = p by simp [HT.sIx]; split <;> omega, runD_take]
  · rw [show HT.sIx W.length W.length (some (p : Int)) = W.length by simp [HT.sIx]; split <;> omega, runD_take, List.take_of_length_le (Nat.le_refl _), List.take_of_length_le (by omega)]
theorem cut_fr {W : List Stp} {p : Nat} : Dw.cutD (runD W) (some (p : Int)) none = runD (W.drop p) := by
  unfold Dw.cutD
  rw [runD_len, show HT.sIx W.length W.length none = W.length by simp [HT.sIx]]
  by_cases h : p ≤ W.length
  · rw [show HT.sIx W.length 0 (some (p : Int)) = p by simp [HT.sIx]; split <;> omega, runD_drop, List.take_of_length_le (by simp)]
  · rw [show HT.sIx W.length 0 (some (p : Int)) = W.length by simp [HT.sIx]; split <;> omega, Nat.sub_self, List.take_zero, List.drop_of_length_le (by omega)]
    rfl
section
variable {P : Program} {w : World} {K : PySem.W.Frag} {mg : Str → Option Value} {base : Heap} {f : Addr} {fd : FuncData}
/-! _top_run -/
theorem sc_top_run : FnScope ["log", "blocks", "spoiler", "position", "_", "whole"] ["log", "blocks"] (defScope s_top_run) := ⟨rfl, rfl, rfl, by decide +kernel, rfl, by decide +kernel, by decide +kernel⟩
structure LgOk (log : List Pr) (n : Nat) : Prop where
  n12 : n ≤ 12
  len : log.length ≤ 60
  ok : OkL n log
inductive C_run1 (r : List Pr → Nat → Option (List Stp)) : List Sem → Sem → Prop
  | mk (log : List Pr) (n : Nat) : LgOk log n → r log n = none → C_run1 r [dt (.list (log.map prD)), dt (.int n)] (dt .none)
inductive C_run2 (r : List Pr → Nat → Option (List Stp)) : List Sem → List PyData → Prop
  | mk (log : List Pr) (n : Nat) (run : List Stp) : LgOk log n → r log n = some run → C_run2 r [dt (.list (log.map prD)), dt (.int n)] (runD run)
theorem ok_top_run (g : G mg) (R : RuleOk K mg) (F1 : Fn P w K mg base "_top_of" 3 ["log", "blocks"] (spP C_top_of K)) (F2 : Fn P w K mg base "undisturbed" 1 ["length"] (spL C_undisturbed K)) (F : FnQ K "_top_run" s_top_run f fd) : FnOk P w K mg base CX0 4 f fd ["log", "blocks"] (spU (C_run1 topRun) (C_run2 topRun) K) := by
  have nd := sc_top_run.nd
  refine fn_un F sc_top_run (fun ss s h => by cases h; rfl) (fun ss s h => by cases h; rfl) (fun cdv A outer s H E hr => ⟨fun ss r h => ?_, fun ss r h => ?_⟩)
  · obtain ⟨log, n, h, hn⟩ := h
    have e : topOf log n = none := by
      unfold topRun at hn
      exact Option.map_eq_none_iff.mp hn
    refine w_asg 2 nd (c2 F1 hr (pn 0) (pn 1) (.mk log n h.n12 h.len h.ok)) (fr_dt (tup_o2 _)) ?_
    refine w_when (pb_isN (pn 2)) (fun _ => w_ret px_non fr_none rfl) fun z => ?_
    rw [e] at z
    cases z
  · obtain ⟨log, n, run, h, hn⟩ := h
    unfold topRun at hn
    obtain ⟨q, e, rfl⟩ := Option.map_eq_some_iff.mp hn
    refine w_asg 2 nd (px_eq (c2 F1 hr (pn 0) (pn 1) (.mk log n h.n12 h.len h.ok)) (by rw [e])) (fr_dt (tup_o2 (some q))) ?_
    refine w_when (pb_isN (pn 2)) (fun z => by cases z) fun z => ?_
    have hw := whole_len log.length
    refine w_tgt (pn 2) (fr_dt rfl) (g2 3 4 nd ?_)
    refine w_asgL 5 nd (l1 F2 hr (cr_len g.len (pn 0) (n := log.length) (by simp)) (.mk _ h.len)) (tupds_map fun _ _ => rfl) fun p => ?_
    refine w_retL (pxl_eq (pxl_cat (px_lt (pxl_cat (px_lt (pxl_eq (pxl_sl (pnl 5) .none (.some (pn 3))) cut_to)) (px_lt (pl1 (pt2 (px_restart R) (pt1 px_int)))) ?_)) (pn 5) ?_) ?_) (tupds_map fun _ _ => rfl) rfl
    · have := h.len; simp; omega
    · have := h.len; simp; omega
    · simp [stpD]
/-! _mark_run -/
theorem sc_mark_run : FnScope ["log", "blocks", "spoiler", "position", "at", "whole"] ["log", "blocks"] (defScope s_mark_run) := ⟨rfl, rfl, rfl, by decide +kernel, rfl, by decide +kernel, by decide +kernel⟩
theorem ok_mark_run (g : G mg) (R : RuleOk K mg) (F1 : Fn P w K mg base "_mark_of" 4 ["log", "blocks"] (spP C_mark_of K)) (F2 : Fn P w K mg base "undisturbed" 1 ["length"] (spL C_undisturbed K)) (F : FnQ K "_mark_run" s_mark_run f fd) : FnOk P w K mg base CX0 5 f fd ["log", "blocks"] (spU (C_run1 markRun) (C_run2 markRun) K) := by
  have nd := sc_mark_run.nd
  refine fn_un F sc_mark_run (fun ss s h => by cases h; rfl) (fun ss s h => by cases h; rfl) (fun cdv A outer s H E hr => ⟨fun ss r h => ?_, fun ss r h => ?_⟩)
  · obtain ⟨log, n, h, hn⟩ := h
    have e : markOf log n = none := by
      unfold markRun at hn
      exact Option.map_eq_none_iff.mp hn
    refine w_asg 2 nd (c2 F1 hr (pn 0) (pn 1) (.mk log n h.n12 h.len h.ok)) (fr_dt (tup_o2 _)) ?_
    refine w_when (pb_isN (pn 2)) (fun _ => w_ret px_non fr_none rfl) fun z => ?_
    rw [e] at z
    cases z
  · obtain ⟨log, n, run, h, hn⟩ := h
    unfold markRun at hn
    obtain ⟨q, e, rfl⟩ := Option.map_eq_some_iff.mp hn
    refine w_asg 2 nd (px_eq (c2 F1 hr (pn 0) (pn 1) (.mk log n h.n12 h.len h.ok)) (by rw [e])) (fr_dt (tup_o2 (some q))) ?_
    refine w_when (pb_isN (pn 2)) (fun z => by cases z) fun z => ?_
    have hw := whole_len log.length
    refine w_tgt (pn 2) (fr_dt rfl) (g2 3 4 nd ?_)
    refine w_asgL 5 nd (l1 F2 hr (cr_len g.len (pn 0) (n := log.length) (by simp)) (.mk _ h.len)) (tupds_map fun _ _ => rfl) fun p => ?_
    refine w_retL (pxl_eq (pxl_cat (px_lt (pxl_cat (px_lt (pxl_eq (pxl_sl (pnl 5) .none (.some (px_eqd (px_add (pn 4) px_int) (d' := .int ((q.2 + 1 : Nat) : Int)) ?_))) cut_to)) (px_lt (pl1 (pt2 (px_restart R) (pt1 (pn 3))))) ?_)) (px_lt (pxl_eq (pxl_sl (pnl 5) (.some (pn 3)) .none) cut_fr)) ?_) ?_) (tupds_map fun _ _ => rfl) rfl
    · congr 1
    · have := h.len; simp; omega
    · have := h.len; simp; omega
    · simp [stpD]
end
end H77
set_option Elab.async false
set_option linter.all false
set_option maxRecDepth 100000
set_option maxHeartbeats 1000000
namespace R77
theorem late_some {log : List Pr} {n k : Nat} (h : lateOf log n = some k) : k < log.length ∧ lateTest log n k = true := by
  obtain ⟨h1, h2, _⟩ := find_range h
  exact ⟨h1, h2⟩
/-- the place of the line that comes once more is a place of the log -/
theorem late_pos {log : List Pr} {n k : Nat} (o : OkL n log) (h : lateOf log n = some k) (e : (fin log n).getD (src log k) 0 = (fin log n).getD (tgt log k) 0) : ∃ m : Nat, (lastW log n).getD (src log k) 0 = (m : Int) ∧ m ≤ log.length := by
  obtain ⟨hk, ht⟩ := late_some h
  unfold lateTest at ht
  rw [Bool.or_eq_true] at ht
  have ht : (lastW log n).getD (tgt log k) 0 ≤ (lastW log n).getD (src log k) 0 := by
    rcases ht with ht | ht
    · simpa using ht
    · rw [e] at ht
      simp at ht
  have ho := o.at hk
  have l1 := last_is (n := n) (b := tgt log k) (by rw [tgt_eq hk]; exact ho.1) log
  have l2 := last_is (n := n) (b := src log k) (by rw [src_eq hk]; exact ho.2.1) log
  have h1 := l1.1 k hk (tgt_eq hk).symm
  rcases l2.2 with z | ⟨j, hj, _, z⟩
  · omega
  · exact ⟨j, z, Nat.le_of_lt hj⟩
end R77
namespace H77
open PySem PySem.Spec PyProof.Rows L2 Dw R77
section
variable {P : Program} {w : World} {K : PySem.W.Frag} {mg : Str → Option Value} {base : Heap} {f : Addr} {fd : FuncData}
/-! _late_run -/
theorem sc_late_run : FnScope ["log", "blocks", "at", "target", "source", "rows", "final", "position", "writes", "whole"] ["log", "blocks"] (defScope s_late_run) := ⟨rfl, rfl, rfl, by decide +kernel, rfl, by decide +kernel, by decide +kernel⟩
theorem ok_late_run (g : G mg) (F1 : Fn P w K mg base "_late_of" 3 ["log", "blocks"] (spP C_late_of K)) (F2 : Fn P w K mg base "undisturbed" 1 ["length"] (spL C_undisturbed K)) (F3 : Fn P w K mg base "origin_rows" 2 ["log", "blocks"] (spL C_origin_rows K)) (F4 : Fn P w K mg base "last_writes" 1 ["log", "blocks"] (spL C_last_writes K))
    (F : FnQ K "_late_run" s_late_run f fd) : FnOk P w K mg base CX0 4 f fd ["log", "blocks"] (spU (C_run1 lateRun) (C_run2 lateRun) K) := by
  have nd := sc_late_run.nd
  refine fn_un F sc_late_run (fun ss s h => by cases h; rfl) (fun ss s h => by cases h; rfl) (fun cdv A outer s H E hr => ⟨fun ss r h => ?_, fun ss r h => ?_⟩)
  · obtain ⟨log, n, h, hn⟩ := h
    have e : lateOf log n = none := by
      unfold lateRun at hn
      exact Option.map_eq_none_iff.mp hn
    refine w_asg 2 nd (c2 F1 hr (pn 0) (pn 1) (.mk log n h.n12 h.len h.ok)) (fr_dt (tup_o1 _)) ?_
    refine w_when (pb_isN (pn 2)) (fun _ => w_ret px_non fr_none rfl) fun z => ?_
    rw [e] at z
    cases z
  · obtain ⟨log, n, run, h, hn⟩ := h
    unfold lateRun at hn
    obtain ⟨q, e, rfl⟩ := Option.map_eq_some_iff.mp hn
    obtain ⟨hq, _⟩ := late_some e
    have ho := h.ok.at hq
    have hg : log[q]? = some (tgt log q, src log q) := by rw [List.getElem?_eq_getElem hq, tgt_eq hq, src_eq hq]
    have et := tgt_eq hq
    have es := src_eq hq
    refine w_asg 2 nd (px_eq (c2 F1 hr (pn 0) (pn 1) (.mk log n h.n12 h.len h.ok)) (by rw [e])) (fr_dt (tup_o1 (some q))) ?_
    refine w_when (pb_isN (pn 2)) (fun z => by cases z) fun z => ?_
    refine w_tgt (px_ixL (pn 0) (pn 2) (at_map (f := prD) hg)) (fr_dt rfl) (g2 3 4 nd ?_)
    refine w_asgL 5 nd (l2 F3 hr (pn 0) (pn 1) (.mk log n h.n12 h.len h.ok)) tup_rows fun p1 => ?_
    refine w_asg 6 nd (px_ixL (pnl 5) (px_neg px_int) (row_last log n)) (fr_tup (tupds_nI _)) ?_
    refine w_asg 7 nd (cr_len g.len (pn 0) (n := log.length) (by simp)) fr_int ?_
    have hw := whole_len log.length
    have key : ∀ (t8 t9 : Dw.Ty), WS (cxD P w K mg base ["log", "blocks", "at", "target", "source", "rows", "final", "position", "writes", "whole"] "_late_run" (defScope s_late_run) f cdv A outer s H E)
        [.dat (dt (.list (log.map prD))), .dat (dt (.int n)), .dat (dt (.int (q : Nat))), .dat (dt (.int (tgt log q : Nat))), .dat (dt (.int (src log q : Nat))), .own p1 (.lst (rowsD log n (log.length + 1))), .dat (dt (.tuple (nI (fin log n)))), .dat (dt (.int (latePos log n q : Nat))), t8, t9]
        ((defBody s_late_run).drop 7) { rl := fun c _ => c = .lst (runD ((whole log.length).take (latePos log n q) ++ [((q : Int), latePos log n q)] ++ (whole log.length).drop (latePos log n q))) } := fun t8 t9 => by
      refine w_asgL 9 nd (l1 F2 hr (cr_len g.len (pn 0) (n := log.length) (by simp)) (.mk _ h.len)) (tupds_map fun _ _ => rfl) fun p => ?_
      refine w_retL (pxl_eq (pxl_cat (px_lt (pxl_cat (px_lt (pxl_eq (pxl_sl (pnl 9) .none (.some (pn 7))) cut_to)) (px_lt (pl1 (pt2 (pn 2) (pt1 (pn 7))))) ?_)) (px_lt (pxl_eq (pxl_sl (pnl 9) (.some (pn 7)) .none) cut_fr)) ?_) ?_) (tupds_map fun _ _ => rfl) rfl
      · have := h.len; simp; omega
      · have := h.len; simp; omega
      · simp [stpD]
    refine w_when (pb_eqI (px_ixT (pn 6) (pn 4) (at_nI (r := fin log n) (i := src log q) ?_)) (px_ixT (pn 6) (pn 3) (at_nI (r := fin log n) (i := tgt log q) ?_))) (fun z => ?_) fun z => ?_
    · rw [fin_len, es]; exact ho.2.1
    · rw [fin_len, et]; exact ho.1
    · rw [dec_nat, decide_eq_true_eq] at z
      obtain ⟨m, hm, hml⟩ := late_pos h.ok e z
      have hp : latePos log n q = m := by unfold latePos; rw [if_pos z, hm]; rfl
      refine w_asgL 8 nd (l2 F4 hr (pn 0) (pn 1) (.mk log n h.n12 h.len h.ok)) (tupds_dI _) fun p8 => ?_
      refine w_asg 7 nd (px_eqd (px_ixL (pnl 8) (pn 4) (at_dI (r := lastW log n) (i := src log q) (by rw [lastW_len, es]; exact ho.2.1))) (d' := .int (latePos log n q : Nat)) (by rw [hm, hp])) fr_int ?_
      exact ws_nil (key _ _)
    · rw [dec_nat, decide_eq_false_iff_not] at z
      have hp : latePos log n q = log.length := by unfold latePos; rw [if_neg z]
      have k := key .un .un
      rw [hp] at k ⊢
      exact k
/-! spoiling_run -/
def runOf : Str → List Pr → Nat → Option (List Stp) := fun s => if s = ("top" : Str) then topRun else if s = ("mark" : Str) then markRun else lateRun
theorem sc_spoiling_run : FnScope ["script", "blocks", "word", "log", "idle"] ["script", "blocks", "word"] (defScope s_spoiling_run) := ⟨rfl, rfl, rfl, by decide +kernel, rfl, by decide +kernel, by decide +kernel⟩
inductive C_sr1 : List Sem → Sem → Prop
  | mk (log : List Pr) (n : Nat) (wd : Str) : LogOk log n → idle log n = [] → wd ∈ (["top", "mark", "late"] : List Str) → runOf wd log n = none → C_sr1 [dt (.list (log.map cpD)), dt (.int n), dt (.str wd)] (dt .none)
inductive C_sr2 : List Sem → List PyData → Prop
  | mk (log : List Pr) (n : Nat) (wd : Str) (run : List Stp) : LogOk log n → idle log n = [] → wd ∈ (["top", "mark", "late"] : List Str) → runOf wd log n = some run → C_sr2 [dt (.list (log.map cpD)), dt (.int n), dt (.str wd)] (runD run)
theorem ok_spoiling_run (g : G mg) (F1 : Fn P w K mg base "check_log" 4 ["script", "blocks"] (spL C_check_log K)) (F2 : Fn P w K mg base "idle_indexes" 3 ["log", "blocks"] (spL C_idle K)) (T1 : Fn P w K mg base "_top_run" 4 ["log", "blocks"] (spU (C_run1 topRun) (C_run2 topRun) K)) (T2 : Fn P w K mg base "_mark_run" 5 ["log", "blocks"] (spU (C_run1 markRun) (C_run2 markRun) K))
    (T3 : Fn P w K mg base "_late_run" 4 ["log", "blocks"] (spU (C_run1 lateRun) (C_run2 lateRun) K)) (F : FnQ K "spoiling_run" s_spoiling_run f fd) : FnOk P w K mg base CX0 6 f fd ["script", "blocks", "word"] (spU C_sr1 C_sr2 K) := by
  have nd := sc_spoiling_run.nd
  refine fn_un F sc_spoiling_run (fun ss s h => by cases h; rfl) (fun ss s h => by cases h; rfl) (fun cdv A outer s H E hr => ⟨fun ss r h => ?_, fun ss r h => ?_⟩)
  · obtain ⟨log, n, wd, h, hi, hw, hn⟩ := h
    have ho : LgOk log n := ⟨h.n12, h.len, h.ok⟩
    refine w_asgL 3 nd (l2 F1 hr (pn 0) (pn 1) (.mk log n h)) (tupds_map fun _ _ => rfl) fun p => ?_
    refine w_when (pb_eqS (pn 2) px_str) (fun z => ?_) fun z => ?_
    · rw [decide_eq_true_eq] at z
      subst z
      exact w_ret (c2 T1.one hr (pnl 3) (pn 1) (.mk log n ho hn)) fr_none rfl
    rw [decide_eq_false_iff_not] at z
    refine w_asgL 4 nd (pxl_eq (l2 F2 hr (pnl 3) (pn 1) (.mk log n h.n12 h.len h.ok)) (by rw [hi])) rfl fun p2 => ?_
    refine w_when (pb_tru (pnl 4)) (fun z => by cases z) fun _ => ?_
    refine w_when (pb_eqS (pn 2) px_str) (fun z2 => ?_) fun z2 => ?_
    · rw [decide_eq_true_eq] at z2
      subst z2
      exact w_ret (c2 T2.one hr (pnl 3) (pn 1) (.mk log n ho hn)) fr_none rfl
    rw [decide_eq_false_iff_not] at z2
    have hn' : lateRun log n = none := by
      unfold runOf at hn
      rw [if_neg z, if_neg z2] at hn
      exact hn
    exact w_ret (c2 T3.one hr (pnl 3) (pn 1) (.mk log n ho hn')) fr_none rfl
  · obtain ⟨log, n, wd, run, h, hi, hw, hn⟩ := h
    have ho : LgOk log n := ⟨h.n12, h.len, h.ok⟩
    refine w_asgL 3 nd (l2 F1 hr (pn 0) (pn 1) (.mk log n h)) (tupds_map fun _ _ => rfl) fun p => ?_
    refine w_when (pb_eqS (pn 2) px_str) (fun z => ?_) fun z => ?_
    · rw [decide_eq_true_eq] at z
      subst z
      exact w_retL (l2 T1.lst hr (pnl 3) (pn 1) (.mk log n run ho hn)) (tupds_map fun _ _ => rfl) rfl
    rw [decide_eq_false_iff_not] at z
    refine w_asgL 4 nd (pxl_eq (l2 F2 hr (pnl 3) (pn 1) (.mk log n h.n12 h.len h.ok)) (by rw [hi])) rfl fun p2 => ?_
    refine w_when (pb_tru (pnl 4)) (fun z => by cases z) fun _ => ?_
    refine w_when (pb_eqS (pn 2) px_str) (fun z2 => ?_) fun z2 => ?_
    · rw [decide_eq_true_eq] at z2
      subst z2
      exact w_retL (l2 T2.lst hr (pnl 3) (pn 1) (.mk log n run ho hn)) (tupds_map fun _ _ => rfl) rfl
    rw [decide_eq_false_iff_not] at z2
    have hn' : lateRun log n = some run := by
      unfold runOf at hn
      rw [if_neg z, if_neg z2] at hn
      exact hn
    exact w_retL (l2 T3.lst hr (pnl 3) (pn 1) (.mk log n run ho hn')) (tupds_map fun _ _ => rfl) rfl
/-! strength -/
theorem sc_strength : FnScope ["script", "blocks", "log", "has_idle"] ["script", "blocks"] (defScope s_strength) := ⟨rfl, rfl, rfl, by decide +kernel, rfl, by decide +kernel, by decide +kernel⟩
inductive C_strength : List Sem → Sem → Prop
  | none (log : List Pr) (n : Nat) : LogOk log n → topOf log n ≠ none → C_strength [dt (.list (log.map cpD)), dt (.int n)] (dt (.str "none"))
  | late (log : List Pr) (n : Nat) : LogOk log n → topOf log n = none → lateOf log n = none → C_strength [dt (.list (log.map cpD)), dt (.int n)] (dt (.str "late"))
theorem ok_strength (g : G mg) (F1 : Fn P w K mg base "check_log" 4 ["script", "blocks"] (spL C_check_log K)) (F2 : Fn P w K mg base "idle_indexes" 3 ["log", "blocks"] (spL C_idle K)) (T1 : Fn P w K mg base "_top_of" 3 ["log", "blocks"] (spP C_top_of K)) (T2 : Fn P w K mg base "_late_of" 3 ["log", "blocks"] (spP C_late_of K)) (F : FnQ K "strength" s_strength f fd) : FnOk P w K mg base CX0 5 f fd ["script", "blocks"] (spP C_strength K) := by
  have nd := sc_strength.nd
  refine fn_pure F sc_strength (fun ss s h => by cases h <;> rfl) (fun cdv A outer s H E hr ss r h => ?_)
  cases h with
  | none log n h hn =>
    refine w_asgL 2 nd (l2 F1 hr (pn 0) (pn 1) (.mk log n h)) (tupds_map fun _ _ => rfl) fun p => ?_
    refine w_when (pb_notN (c2 T1 hr (pnl 2) (pn 1) (.mk log n h.n12 h.len h.ok))) (fun _ => w_ret px_str fr_str rfl) fun z => ?_
    cases e : topOf log n with
    | none => exact absurd e hn
    | some q => rw [e] at z; cases z
  | late log n h hn hl =>
    refine w_asgL 2 nd (l2 F1 hr (pn 0) (pn 1) (.mk log n h)) (tupds_map fun _ _ => rfl) fun p => ?_
    refine w_when (pb_notN (c2 T1 hr (pnl 2) (pn 1) (.mk log n h.n12 h.len h.ok))) (fun z => by rw [hn] at z; cases z) fun z => ?_
    refine w_asg 3 nd (px_gt (cr_len g.len (px_new (l2 F2 hr (pnl 2) (pn 1) (.mk log n h.n12 h.len h.ok))) rfl) px_int) fr_bool ?_
    refine w_when (pb_isN (c2 T2 hr (pnl 2) (pn 1) (.mk log n h.n12 h.len h.ok))) (fun _ => w_ret px_str fr_str rfl) fun z => ?_
    rw [hl] at z
    cases z
end
end H77
set_option Elab.async false
set_option linter.all false
set_option maxRecDepth 100000
set_option maxHeartbeats 1000000
namespace H77
open PySem PySem.Spec PyProof.Rows L2 Dw R77
abbrev gS (g : List Nat) : Dw.Sem := xt (nI g)
section
variable {P : Program} {w : World} {K : PySem.W.Frag} {mg : Str → Option Value} {base : Heap} {f : Addr} {fd : FuncData}
/-! check_goal -/
theorem sc_check_goal : FnScope ["goal", "at", "number"] ["goal"] (defScope s_check_goal) := ⟨rfl, rfl, rfl, by decide +kernel, rfl, by decide +kernel, by decide +kernel⟩
inductive C_check_goal : List Sem → Sem → Prop
  | mk (g : List Nat) : GoalOk g → C_check_goal [gS g] (dt .none)
theorem ok_check_goal (g : G mg) (F1 : Fn P w K mg base "is_index" 1 ["number", "blocks"] (spP C_is_index K)) (F : FnQ K "check_goal" s_check_goal f fd) : FnOk P w K mg base CX0 2 f fd ["goal"] (spP C_check_goal K) := by
  have nd := sc_check_goal.nd
  refine fn_pure F sc_check_goal (fun ss s h => by cases h; rfl) (fun cdv A outer s H E hr ss r h => ?_)
  obtain ⟨go, h⟩ := h
  refine w_when (pb_or2 (pb_not (pb_val (i_tuple true g (pnx 0)))) fun _ => pb_not (pb_chain op_le op_le px_int (cr_lenT g.len (pnx 0) (n := go.length) (by simp)) (px_glob rfl g.blocks))) (fun z => ?_) fun _ => ?_
  · exfalso
    have := h.n1
    have := h.n12
    simp at z
    omega
  refine w_for (fun _ Γ => ∃ t1 t2, Γ = [.dat (gS go), t1, t2]) (wi_enT (L := go) (f := fun n => .int (n : Nat)) g.enum (pnx 0) fun _ _ => rfl) ⟨_, _, rfl⟩ (pgt 1 2 nd) (fun i a Γ' ha iv => ?_) (fun Γ' iv => ws_nil rfl)
  obtain ⟨t1, t2, rfl⟩ := iv
  have hm : a.1 ∈ go := by
    have := List.mem_of_getElem? ha
    exact (List.mem_zipIdx this).2.2 ▸ List.getElem_mem _
  have := h.lt _ hm
  refine g2 1 2 nd ?_
  refine w_when (pb_not (pb_val (c2 F1 hr (pn 2) (cr_lenT g.len (pnx 0) (n := go.length) (by simp)) (.mk _ _)))) (fun z => ?_) fun _ => ws_nil ⟨_, _, rfl⟩
  exfalso
  simp at z
  omega
/-! changed_blocks -/
theorem sc_changed : FnScope ["goal", "block", "number"] ["goal"] (defScope s_changed_blocks) := ⟨rfl, rfl, rfl, by decide +kernel, rfl, by decide +kernel, by decide +kernel⟩
inductive C_changed : List Sem → List PyData → Prop
  | mk (g : List Nat) : GoalOk g → C_changed [gS g] (nI (chg g))
theorem ok_changed (g : G mg) (F : FnQ K "changed_blocks" s_changed_blocks f fd) : FnOk P w K mg base CX0 1 f fd ["goal"] (spL C_changed K) := by
  have nd := sc_changed.nd
  refine fn_list F sc_changed (fun ss s h => by cases h; rfl) (fun cdv A outer s H E hr ss r h => ?_)
  obtain ⟨go, h⟩ := h
  have h12 := h.n12
  refine w_retL (pxl_eq (lc2f (α := Nat × Nat) (L := go.zipIdx) 1 2 (f := fun a => .int (a.2 : Nat)) (g := fun a => .int (a.1 : Nat)) (test := fun a => !decide (a.1 = a.2)) (val := fun a => .int (a.2 : Nat)) nd (pit_enT (L := go) (f := fun n => .int (n : Nat)) g.enum (pnx 0)) (fun a _ _ _ _ _ _ => pb_eq (pb_neI (pn 2) (pn 1)) (by rw [dec_nat])) (fun a _ _ _ _ _ _ _ => pn 1) (fun _ _ => rfl) (by simp; omega) (fun _ _ _ _ _ => pgt 1 2 nd)) ?_) (tupds_nI _) rfl
  unfold chg
  simp [Function.comp_def]
/-! homeless -/
theorem sc_homeless : FnScope ["goal", "number"] ["goal"] (defScope s_homeless) := ⟨rfl, rfl, rfl, by decide +kernel, rfl, by decide +kernel, by decide +kernel⟩
inductive C_homeless : List Sem → Sem → Prop
  | mk (g : List Nat) : GoalOk g → C_homeless [gS g] (dt (.tuple (nI (awayL g))))
theorem ok_homeless (g : G mg) (F1 : Fn P w K mg base "check_goal" 2 ["goal"] (spP C_check_goal K)) (F : FnQ K "homeless" s_homeless f fd) : FnOk P w K mg base CX0 3 f fd ["goal"] (spP C_homeless K) := by
  have nd := sc_homeless.nd
  refine fn_pure F sc_homeless (fun ss s h => by cases h; rfl) (fun cdv A outer s H E hr ss r h => ?_)
  obtain ⟨go, h⟩ := h
  have h12 := h.n12
  refine w_expr (c1 F1 hr (pn 0) (.mk go h)) ?_
  refine w_ret (p_tup g.tuple (px_new (pxl_eq (pxl_sortedS (ns := (go.filter fun v => !decide (go.getD v 0 = v)).map fun (v : Nat) => (v : Int)) (ms := iN (awayL go)) rfl g.sorted
    (px_sc (own := [("number", 1)]) (L := go) (item := fun v => dt (.int (v : Nat))) (test := fun v => !decide (go.getD v 0 = v)) (val := fun (v : Nat) => (v : Int)) (bnd := fun v => (wipeE [some (gS go), none] [1]).set 1 (some (dt (.int (v : Nat))))) rfl nd (pit_tup (L := go) (f := fun (v : Nat) => .int v) (pnx 0)) (blkOk_by rfl) (fun _ _ _ _ _ => gpn 1 nd) .one (fun v _ => gp_name (by simp)) (fun v hv _ _ _ _ _ => pb_eq (pb_neI (px_ixT (pnx 0) (pn 1) (at_nI (r := go) (i := v) (h.lt v hv))) (pn 1)) (by rw [dec_nat])) (fun v _ _ _ _ _ _ _ => pn 1) (by omega)) ?_ (ris_range _ _) ?_) (dI_nI _)))) (fr_tup (tupds_nI _)) rfl
  · rw [List.length_map]
    exact Nat.lt_of_le_of_lt (List.length_filter_le _ _) (by omega)
  · intro k
    rw [List.mem_map, List.mem_map]
    constructor
    · rintro ⟨v, hv, rfl⟩
      obtain ⟨h1, h2⟩ := (h.mem v).mp hv
      exact ⟨v, List.mem_filter.mpr ⟨h1, by simpa using h2⟩, rfl⟩
    · rintro ⟨v, hv, rfl⟩
      obtain ⟨h1, h2⟩ := List.mem_filter.mp hv
      exact ⟨v, (h.mem v).mpr ⟨h1, by simpa using h2⟩, rfl⟩
/-! _missing -/
theorem sc_missing : FnScope ["goal", "number"] ["goal"] (defScope s_missing) := ⟨rfl, rfl, rfl, by decide +kernel, rfl, by decide +kernel, by decide +kernel⟩
inductive C_missing : List Sem → List PyData → Prop
  | mk (g : List Nat) : GoalOk g → C_missing [gS g] (nI (missL g))
theorem ok_missing (g : G mg) (F : FnQ K "_missing" s_missing f fd) : FnOk P w K mg base CX0 1 f fd ["goal"] (spL C_missing K) := by
  have nd := sc_missing.nd
  refine fn_list F sc_missing (fun ss s h => by cases h; rfl) (fun cdv A outer s H E hr ss r h => ?_)
  obtain ⟨go, h⟩ := h
  have h12 := h.n12
  exact w_retL (lc1f 1 (test := fun v => !go.contains v) (val := fun (v : Nat) => .int v) nd (pr g.range (cr_lenT g.len (pnx 0) (n := go.length) (by simp)) (by omega)) (fun v _ _ _ _ _ _ => pb_eq (pb_niT (ns := iN go) (pn 1) (px_eqd (pnx 0) (by rw [dI_nI]))) (by rw [mem_nI])) (fun v _ _ _ _ _ _ _ => pn 1) (fun _ _ => rfl) (by simp; omega) (fun _ _ _ _ _ => gpn 1 nd)) (tupds_nI _) rfl
/-! check_possible, returning -/
theorem sc_check_possible : FnScope ["goal"] ["goal"] (defScope s_check_possible) := ⟨rfl, rfl, rfl, by decide +kernel, rfl, by decide +kernel, by decide +kernel⟩
inductive C_possible : List Sem → Sem → Prop
  | mk (g : List Nat) : GoalOk g → Poss g → C_possible [gS g] (dt .none)
theorem tru_list (l : List Nat) : truB (.list (nI l)) = !decide (l = []) := by cases l <;> rfl
theorem ok_check_possible (g : G mg) (F1 : Fn P w K mg base "check_goal" 2 ["goal"] (spP C_check_goal K)) (F2 : Fn P w K mg base "changed_blocks" 1 ["goal"] (spL C_changed K)) (F3 : Fn P w K mg base "_missing" 1 ["goal"] (spL C_missing K)) (F : FnQ K "check_possible" s_check_possible f fd) : FnOk P w K mg base CX0 3 f fd ["goal"] (spP C_possible K) := by
  refine fn_pure F sc_check_possible (fun ss s h => by cases h; rfl) (fun cdv A outer s H E hr ss r h => ?_)
  obtain ⟨go, h, hp⟩ := h
  refine w_expr (c1 F1 hr (pn 0) (.mk go h)) ?_
  refine w_when (pb_and2 (pb_tru (px_new (l1 F2 hr (pn 0) (.mk go h)))) fun _ => pb_not (pb_tru (px_new (l1 F3 hr (pn 0) (.mk go h))))) (fun z => ?_) fun _ => ws_nil rfl
  exfalso
  rw [tru_list, tru_list] at z
  simp at z
  rcases hp with hp | hp
  · exact z.1 hp
  · exact hp z.2
end
end H77
set_option Elab.async false
set_option linter.all false
set_option maxRecDepth 100000
set_option maxHeartbeats 1000000
namespace H77
open PySem PySem.Spec PyProof.Rows L2 Dw R77
theorem cnt_iN (g : List Nat) (v : Nat) : (iN g).count (v : Int) = g.count v := by
  induction g with
  | nil => rfl
  | cons a g ih =>
    show ((a : Int) :: iN g).count (v : Int) = _
    rw [List.count_cons, List.count_cons, ih]
    by_cases e : a = v
    · subst e; simp
    · have e2 : ¬ ((a : Int) = (v : Int)) := by omega
      simp [e, e2]
section
variable {X : Cx} {Γ : Sv} {a b : Expr}
theorem p_tcnt {g : List Nat} {v : Nat} {apos cpos : Pos} (ha : PX X Γ a (gS g)) (hb : PX X Γ b (dt (.int (v : Nat)))) (hbase : attributeBase a ("count" : Str) X.env (eval a X.env) = eval a X.env := by rfl)
    (hfew : ((backTo cpos (starEach [b] X.env)).all (fun x => !x.1) && (backToKw cpos (keywordEach [] X.env)).all (fun x => x.1.isSome) && decide (([b] : List Expr).length + ([] : List Keyword).length + (if ([] : List Keyword).isEmpty then 0 else 1) < 30)) = true := by rfl)
    (hline : (apos.endLine == cpos.line) = true := by rfl) (hs : starEach [b] X.env = (false, eval b X.env) :: starEach [] X.env := by rfl) (hplain : (backTo cpos (starEach [] X.env)).any (·.1) = false := by rfl) :
    PX X Γ (.Call (.Attribute a ("count" : Str) apos) [b] [] cpos) (dt (.int (g.count v : Nat))) :=
  px_eqd (px_tcount (ns := iN g) (px_eq ha (by rw [dI_nI])) hb hbase hfew hline hs hplain) (by rw [cnt_iN])
end
section
variable {P : Program} {w : World} {K : PySem.W.Frag} {mg : Str → Option Value} {base : Heap} {f : Addr} {fd : FuncData}
theorem sc_ring_from : FnScope ["goal", "start", "ring", "block"] ["goal", "start"] (defScope s_ring_from) := ⟨rfl, rfl, rfl, by decide +kernel, rfl, by decide +kernel, by decide +kernel⟩
def orD : Option (List Nat) → PyData
  | none => .none
  | some r => .tuple (nI r)
theorem tup_or (o : Option (List Nat)) : tupd (orD o) = true := by
  cases o with
  | none => rfl
  | some r => show tupds _ = true; exact tupds_nI _
inductive C_ring_from : List Sem → Sem → Prop
  | mk (g : List Nat) (start : Nat) : GoalOk g → start < g.length → C_ring_from [gS g, dt (.int (start : Nat))] (dt (orD (ringFrom g start)))
theorem row_next (g : List Nat) (s m : Nat) : nI (ringRow g s m) ++ [.int (ringBl g s m : Nat)] = nI (ringRow g s (m + 1)) := by
  unfold ringRow
  rw [List.range_succ]
  simp
theorem ok_ring_from (g : G mg) (F : FnQ K "_ring_from" s_ring_from f fd) : FnOk P w K mg base CX0 1 f fd ["goal", "start"] (spP C_ring_from K) := by
  have nd := sc_ring_from.nd
  refine fn_pure F sc_ring_from (fun ss s h => by cases h; rfl) (fun cdv A outer s H E hr ss r h => ?_)
  obtain ⟨go, st, h, hs⟩ := h
  obtain ⟨n1, n2, n3⟩ := ringN_is h.lt hs
  have h12 := h.n12
  refine w_asgL 2 nd (pl1 (pn 1)) rfl fun p => ?_
  refine w_asg 3 nd (px_ixT (pnx 0) (pn 1) (at_nI (r := go) (i := st) hs)) fr_int ?_
  refine w_while (fun m Γ => ∃ i, i + m = ringN go st ∧ Γ = [.dat (gS go), .dat (dt (.int (st : Nat))), .own p (.lst (nI (ringRow go st i))), .dat (dt (.int (ringBl go st i : Nat)))]) (ringN go st) ⟨0, by omega, rfl⟩ (fun m Γ' iv => ?_)
  obtain ⟨i, him, rfl⟩ := iv
  refine ⟨ringOn go st i, pb_eq (pb_and2 (pb_gt (pn 3) (pn 1)) fun _ => pb_eqI (p_tcnt (pn 0) (pn 3)) px_int) ?_, fun z => ?_, fun z => ?_⟩
  · unfold ringOn
    congr 1
    · rw [Bool.eq_iff_iff, decide_eq_true_eq, decide_eq_true_eq]; omega
    · rw [Bool.eq_iff_iff, decide_eq_true_eq, decide_eq_true_eq]; omega
  · have hi : i < ringN go st := by
      by_cases e : i < ringN go st
      · exact e
      · have : i = ringN go st := by omega
        subst this
        rw [n2] at z
        cases z
    refine w_app 2 (pn 3) rfl ?_ (row_next go st i) ?_
    · simp [ringRow]; omega
    refine w_asg 3 nd (px_ixT (pnx 0) (pn 3) (at_nI (r := go) (i := ringBl go st i) (bl_lt h.lt hs i))) fr_int ?_
    exact ws_nil ⟨m - 1, by omega, i + 1, by omega, rfl⟩
  · have hi : i = ringN go st := by
      by_cases e : i < ringN go st
      · rw [n3 i e] at z
        cases z
      · omega
    subst hi
    refine w_when (b := decide (ringBl go st (ringN go st) = st ∧ 0 < ringN go st ∧ go.count st = 1)) (pb_eq (pb_and3 (pb_eqI (pn 3) (pn 1)) (fun _ => pb_gt (cr_len g.len (pnl 2) rfl) px_int) fun _ _ => pb_eqI (p_tcnt (pn 0) (pn 1)) px_int) ?_) (fun z2 => ?_) fun z2 => ?_
    · rw [dec_nat, Bool.eq_iff_iff]
      simp [ringRow]
      omega
    · refine w_ret (p_tup g.tuple (pnl 2)) (fr_tup (tupds_nI _)) ?_
      show dt _ = dt (orD (ringFrom go st))
      unfold ringFrom
      rw [if_pos (of_decide_eq_true z2)]
      rfl
    · refine w_ret px_non fr_none ?_
      show dt _ = dt (orD (ringFrom go st))
      unfold ringFrom
      rw [if_neg (of_decide_eq_false z2)]
      rfl
/-! closed_rings -/
theorem sc_closed_rings : FnScope ["goal", "found", "start", "ring"] ["goal"] (defScope s_closed_rings) := ⟨rfl, rfl, rfl, by decide +kernel, rfl, by decide +kernel, by decide +kernel⟩
def rgD (r : List Nat) : PyData := .tuple (nI r)
inductive C_closed_rings : List Sem → List PyData → Prop
  | mk (g : List Nat) : GoalOk g → C_closed_rings [gS g] ((rings g).map rgD)
def ringsI (g : List Nat) (i : Nat) : List (List Nat) := (List.range i).filterMap (ringFrom g)
theorem rings_yes {g : List Nat} {i : Nat} {r : List Nat} (h : ringFrom g i = some r) : (ringsI g i).map rgD ++ [rgD r] = (ringsI g (i + 1)).map rgD := by
  unfold ringsI
  rw [List.range_succ, List.filterMap_append, List.filterMap_cons, h]
  simp
theorem rings_no {g : List Nat} {i : Nat} (h : ringFrom g i = none) : ringsI g (i + 1) = ringsI g i := by
  unfold ringsI
  rw [List.range_succ, List.filterMap_append, List.filterMap_cons, h]
  simp
theorem tup_rg (r : List Nat) : tupd (rgD r) = true := by show tupds _ = true; exact tupds_nI _
theorem ok_closed_rings (g : G mg) (F1 : Fn P w K mg base "check_goal" 2 ["goal"] (spP C_check_goal K)) (F2 : Fn P w K mg base "_ring_from" 1 ["goal", "start"] (spP C_ring_from K)) (F : FnQ K "closed_rings" s_closed_rings f fd) : FnOk P w K mg base CX0 3 f fd ["goal"] (spL C_closed_rings K) := by
  have nd := sc_closed_rings.nd
  refine fn_list F sc_closed_rings (fun ss s h => by cases h; rfl) (fun cdv A outer s H E hr ss r h => ?_)
  obtain ⟨go, h⟩ := h
  have h12 := h.n12
  refine w_expr (c1 F1 hr (pn 0) (.mk go h)) ?_
  refine w_asgL 1 nd pl0 rfl fun p => ?_
  refine w_for (fun i Γ => ∃ t1 t2, Γ = [.dat (gS go), .own p (.lst ((ringsI go i).map rgD)), t1, t2]) (wr g.range (cr_lenT g.len (pnx 0) (n := go.length) (by simp)) (by omega)) ⟨_, _, rfl⟩ (gpn 2 nd) (fun i a Γ' ha iv => ?_) (fun Γ' iv => ?_)
  · obtain ⟨t1, t2, rfl⟩ := iv
    obtain ⟨e, hn⟩ := range_at ha
    have e : i = a := e.symm
    subst e
    refine gn 2 nd ?_
    refine w_asg 3 nd (c2 F2 hr (pn 0) (pn 2) (.mk go i h hn)) (fr_dt (tup_or _)) ?_
    cases q : ringFrom go i with
    | none =>
      refine w_when (pb_notN (pn 3)) (fun z => by cases z) fun _ => ws_nil ?_
      dsimp only
      rw [rings_no q]
      exact ⟨_, _, rfl⟩
    | some r =>
      refine w_when (pb_notN (pn 3)) (fun _ => ?_) fun z => by cases z
      refine w_app 1 (d := rgD r) (pn 3) (tup_rg r) ?_ (rings_yes q) (ws_nil (ws_nil ⟨_, _, rfl⟩))
      have : (ringsI go i).length ≤ i := Nat.le_trans (List.length_filterMap_le _ _) (by simp)
      rw [List.length_map]; omega
  · obtain ⟨t1, t2, rfl⟩ := iv
    refine w_retO 1 ?_
    show Con.lst _ = Con.lst _
    rw [List.length_range]
    rfl
/-! fewest_copies, returning -/
theorem sc_fewest : FnScope ["goal"] ["goal"] (defScope s_fewest_copies) := ⟨rfl, rfl, rfl, by decide +kernel, rfl, by decide +kernel, by decide +kernel⟩
inductive C_fewest : List Sem → Sem → Prop
  | mk (g : List Nat) : GoalOk g → Poss g → C_fewest [gS g] (dt (.int ((chg g).length + (rings g).length : Nat)))
theorem ok_fewest (g : G mg) (F1 : Fn P w K mg base "check_possible" 3 ["goal"] (spP C_possible K)) (F2 : Fn P w K mg base "changed_blocks" 1 ["goal"] (spL C_changed K)) (F3 : Fn P w K mg base "closed_rings" 3 ["goal"] (spL C_closed_rings K)) (F : FnQ K "fewest_copies" s_fewest_copies f fd) : FnOk P w K mg base CX0 4 f fd ["goal"] (spP C_fewest K) := by
  refine fn_pure F sc_fewest (fun ss s h => by cases h; rfl) (fun cdv A outer s H E hr ss r h => ?_)
  obtain ⟨go, h, hp⟩ := h
  refine w_expr (c1 F1 hr (pn 0) (.mk go h hp)) ?_
  refine w_ret (px_eqd (px_add (cr_len g.len (px_new (l1 F2 hr (pn 0) (.mk go h))) rfl) (cr_len g.len (px_new (l1 F3 hr (pn 0) (.mk go h))) rfl)) ?_) fr_int rfl
  congr 1
  simp
end
end H77
set_option Elab.async false
set_option linter.all false
set_option maxRecDepth 100000
set_option maxHeartbeats 1000000
namespace H77
open PySem PySem.Spec PyProof.Rows L2 Dw R77
theorem iN_at {l : List Nat} {v j : Nat} (h : l[j]? = some v) : (iN l)[j]? = some (v : Int) := by rw [List.getElem?_map, h]; rfl
theorem iN_no {l : List Nat} {v j : Nat} (h : l[j]? ≠ some v) : (iN l)[j]? ≠ some (v : Int) := fun z => h (by
  rw [List.getElem?_map] at z
  cases q : l[j]? with
  | none => rw [q] at z; cases z
  | some a =>
    rw [q] at z
    have e : (a : Int) = (v : Int) := by simpa using z
    have e : a = v := by omega
    rw [e])
theorem waitN_le (g : List Nat) : waitN g ≤ g.length := by
  unfold waitN initL
  exact Nat.le_trans (List.length_filter_le _ _) (by simp)
theorem map_erase {f : Nat → Int} : ∀ (l : List Nat) (i : Nat), (l.map f).eraseIdx i = (l.eraseIdx i).map f
  | [], _ => rfl
  | _ :: _, 0 => rfl
  | a :: l, i + 1 => by
    rw [List.map_cons, List.eraseIdx_cons_succ, List.eraseIdx_cons_succ, List.map_cons, map_erase l i]
section
variable {P : Program} {w : World} {K : PySem.W.Frag} {mg : Str → Option Value} {base : Heap} {f : Addr} {fd : FuncData}
/-! _ring_pairs -/
theorem sc_ring_pairs : FnScope ["ring", "spare", "found", "at"] ["ring", "spare"] (defScope s_ring_pairs) := ⟨rfl, rfl, rfl, by decide +kernel, rfl, by decide +kernel, by decide +kernel⟩
inductive C_ring_pairs : List Sem → List PyData → Prop
  | mk (r : List Nat) (s : Nat) : r ≠ [] → r.length ≤ 12 → C_ring_pairs [dt (rgD r), dt (.int (s : Nat))] ((ringPairs r s).map prD)
def rpI (r : List Nat) (s i : Nat) : List Pr := (s, r.getD 0 0) :: (List.range i).map fun i => (r.getD i 0, r.getD (i + 1) 0)
theorem rp_next (r : List Nat) (s i : Nat) : (rpI r s i).map prD ++ [prD (r.getD i 0, r.getD (i + 1) 0)] = (rpI r s (i + 1)).map prD := by
  unfold rpI
  rw [List.range_succ]
  simp
theorem ok_ring_pairs (g : G mg) (F : FnQ K "_ring_pairs" s_ring_pairs f fd) : FnOk P w K mg base CX0 1 f fd ["ring", "spare"] (spL C_ring_pairs K) := by
  have nd := sc_ring_pairs.nd
  refine fn_list F sc_ring_pairs (fun ss s h => by cases h; rfl) (fun cdv A outer s H E hr ss ds h => ?_)
  obtain ⟨r, sp, hne, hl⟩ := h
  have hlen : 0 < r.length := List.length_pos_iff.mpr hne
  refine w_asgL 2 nd (pl1 (pt2 (pn 1) (px_ixT (pn 0) px_int (at_nI (i := 0) hlen)))) rfl fun p => ?_
  refine w_for (fun i Γ => ∃ t, Γ = [.dat (dt (rgD r)), .dat (dt (.int (sp : Nat))), .own p (.lst ((rpI r sp i).map prD)), t]) (wi_range2 (m := 1) (n := r.length) rfl g.range px_int (cr_lenT g.len (pn 0) (by simp)) (by decide) (by omega)) ⟨_, rfl⟩ (gpn 3 nd) (fun i a Γ' ha iv => ?_) (fun Γ' iv => ?_)
  · obtain ⟨e, hi2⟩ := range_at ha
    have e : i = a := e.symm
    subst e
    obtain ⟨t, rfl⟩ := iv
    refine gn 3 nd (w_app 2 (d := prD (r.getD i 0, r.getD (i + 1) 0)) (pt2 (px_ixT (pn 0) (px_sub (pn 3) px_int) (d := .int (r.getD i 0 : Nat)) ?_) (px_ixT (pn 0) (pn 3) (d := .int (r.getD (i + 1) 0 : Nat)) ?_)) rfl ?_ (rp_next r sp i) (ws_nil ⟨_, rfl⟩))
    · rw [show (((1 + i : Nat) : Int) - 1) = (i : Int) by omega]
      exact at_nI (by omega)
    · rw [show ((1 + i : Nat) : Int) = ((i + 1 : Nat) : Int) by omega]
      exact at_nI (by omega)
    · simp [rpI]; omega
  · obtain ⟨t, rfl⟩ := iv
    rw [List.length_range]
    refine w_app 2 (d := prD (r.getD (r.length - 1) 0, sp)) (pt2 (px_ixT (pn 0) (px_neg px_int) (d := .int (r.getD (r.length - 1) 0 : Nat)) ?_) (pn 1)) rfl ?_ (ds' := (ringPairs r sp).map prD) ?_ (w_retO 2 rfl)
    · refine at_last ?_
      rw [List.length_map, List.getElem?_map, List.getElem?_eq_getElem (by omega)]
      simp [List.getD_eq_getElem?_getD, List.getElem?_eq_getElem (show r.length - 1 < r.length by omega)]
    · simp [rpI]; omega
    · simp [ringPairs, rpI]
/-! _free_blocks -/
theorem sc_free : FnScope ["goal", "held", "waiting", "taken", "block"] ["goal", "held", "waiting"] (defScope s_free_blocks) := ⟨rfl, rfl, rfl, by decide +kernel, rfl, by decide +kernel, by decide +kernel⟩
inductive C_free : List Sem → List PyData → Prop
  | mk (g held wt : List Nat) : GoalOk g → (∀ b ∈ wt, b < g.length) → wt.length ≤ 12 → C_free [gS g, dt (.list (nI held)), dt (.list (nI wt))] (nI (freeL g held wt))
theorem ok_free (g : G mg) (F : FnQ K "_free_blocks" s_free_blocks f fd) : FnOk P w K mg base CX0 1 f fd ["goal", "held", "waiting"] (spL C_free K) := by
  have nd := sc_free.nd
  refine fn_list F sc_free (fun ss s h => by cases h; rfl) (fun cdv A outer s H E hr ss ds h => ?_)
  obtain ⟨go, held, wt, h, hw, hl⟩ := h
  refine w_asgL 3 nd (pxl_eq (lc1 4 (L := wt) (f := fun (b : Nat) => .int b) (val := fun (b : Nat) => .int (go.getD b 0 : Nat)) nd (pit_lst (L := wt) (f := fun (b : Nat) => .int b) (pn 2)) (fun b hb _ _ _ _ _ => px_ixT (pnx 0) (pn 4) (at_nI (r := go) (i := b) (hw b hb))) (fun _ _ => rfl) (by omega) (fun _ _ _ _ _ => gpn 4 nd)) (show _ = nI (wt.map fun c => go.getD c 0) by simp)) (tupds_nI _) fun p => ?_
  refine w_retL (lc1f 4 (L := wt) (f := fun (b : Nat) => .int b) (test := fun b => !(wt.map fun c => go.getD c 0).contains b || decide (1 < held.count b)) (val := fun (b : Nat) => .int b) nd (pit_lst (L := wt) (f := fun (b : Nat) => .int b) (pn 2)) (fun b hb _ _ _ _ _ => pb_eq (pb_or2 (pb_niL (ns := iN (wt.map fun c => go.getD c 0)) (pn 4) (px_eqd (pnl 3) (by rw [dI_nI]))) fun _ => pb_gt (p_lcnt (ns := iN held) (px_eqd (pn 1) (by rw [dI_nI])) (pn 4)) px_int) ?_) (fun b _ _ _ _ _ _ _ => pn 4) (fun _ _ => rfl) (by omega) (fun _ _ _ _ _ => gpn 4 nd)) (tupds_nI _) rfl
  rw [mem_nI, cnt_iN]
  congr 1
  rw [Bool.eq_iff_iff, decide_eq_true_eq, decide_eq_true_eq]
  omega
/-! least_log, returning -/
theorem sc_least : FnScope ["goal", "missing", "entries", "ring", "held", "waiting", "block"] ["goal"] (defScope s_least_log) := ⟨rfl, rfl, rfl, by decide +kernel, rfl, by decide +kernel, by decide +kernel⟩
inductive C_least : List Sem → List PyData → Prop
  | mk (g : List Nat) : GoalOk g → Poss g → Facts g → C_least [gS g] ((leastLog g).map cpD)
def entI (g : List Nat) (i : Nat) : List Pr := ((rings g).take i).flatMap fun r => ringPairs r (spare g)
theorem ent_next {g : List Nat} {i : Nat} {r : List Nat} (h : (rings g)[i]? = some r) : (entI g i).map prD ++ (ringPairs r (spare g)).map prD = (entI g (i + 1)).map prD := by
  unfold entI
  rw [List.take_add_one, h, List.flatMap_append, ← List.map_append]
  simp
theorem miss_eq (g : List Nat) : spare.missL' g = missL g := rfl
theorem ok_least (g : G mg) (F1 : Fn P w K mg base "check_possible" 3 ["goal"] (spP C_possible K)) (F2 : Fn P w K mg base "_missing" 1 ["goal"] (spL C_missing K)) (F3 : Fn P w K mg base "closed_rings" 3 ["goal"] (spL C_closed_rings K)) (F4 : Fn P w K mg base "_ring_pairs" 1 ["ring", "spare"] (spL C_ring_pairs K)) (F5 : Fn P w K mg base "origin_rows" 2 ["log", "blocks"] (spL C_origin_rows K))
    (F6 : Fn P w K mg base "_free_blocks" 1 ["goal", "held", "waiting"] (spL C_free K)) (F7 : FnS P w K mg base "copies" 1 C_copies) (F : FnQ K "least_log" s_least_log f fd) : FnOk P w K mg base CX0 4 f fd ["goal"] (spL C_least K) := by
  have nd := sc_least.nd
  refine fn_list F sc_least (fun ss s h => by cases h; rfl) (fun cdv A outer s H E hr ss ds h => ?_)
  obtain ⟨go, h, hp, fc⟩ := h
  have h12 := h.n12
  have hlen := fc.len
  refine w_expr (c1 F1 hr (pn 0) (.mk go h hp)) ?_
  refine w_asgL 1 nd (l1 F2 hr (pn 0) (.mk go h)) (tupds_nI _) fun p1 => ?_
  refine w_asgL 2 nd pl0 rfl fun p2 => ?_
  refine w_for (fun i Γ => ∃ t3 t4 t5 t6, Γ = [.dat (gS go), .own p1 (.lst (nI (missL go))), .own p2 (.lst ((entI go i).map prD)), t3, t4, t5, t6]) (wi_new (L := rings go) (f := rgD) (l1 F3 hr (pn 0) (.mk go h)) fun r _ => tup_rg r) ⟨_, _, _, _, rfl⟩ (gpn 3 nd) (fun i r Γ' ha iv => ?_) (fun Γ' iv => ?_)
  · obtain ⟨t3, t4, t5, t6, rfl⟩ := iv
    have hm := List.mem_of_getElem? ha
    obtain ⟨hr1, hr2⟩ := fc.rne r hm
    have hms : missL go ≠ [] := fc.miss (List.ne_nil_of_mem hm)
    refine gn 3 nd ?_
    refine w_ext 2 (l2 F4 hr (pn 3) (px_ixL (pnl 1) px_int (at_nI (r := missL go) (i := 0) (List.length_pos_iff.mpr hms))) (.mk r (spare go) hr1 hr2)) (tupds_map fun _ _ => rfl) ?_ (ent_next ha) (ws_nil ⟨_, _, _, _, rfl⟩)
    have e1 : (entI go (i + 1)).length ≤ (ringEnt go).length := by
      have e : ringEnt go = entI go (i + 1) ++ ((rings go).drop (i + 1)).flatMap fun r => ringPairs r (spare go) := by
        unfold entI ringEnt
        rw [← List.flatMap_append, List.take_append_drop]
      rw [e, List.length_append]
      omega
    have e2 := congrArg List.length (ent_next ha)
    rw [List.length_append, List.length_map, List.length_map, List.length_map] at e2
    rw [List.length_map, List.length_map]
    omega
  · obtain ⟨t3, t4, t5, t6, rfl⟩ := iv
    have e : entI go (rings go).length = ringEnt go := by unfold entI ringEnt; rw [List.take_length]
    rw [e]
    refine w_asgL 4 nd (pl_l g.list (px_ixL (px_new (l2 F5 hr (pnl 2) (cr_lenT g.len (pnx 0) (n := go.length) (by simp)) (.mk (ringEnt go) go.length h12 (by omega) fc.okE))) (px_neg px_int) (row_last _ _)) (.inr rfl)) (tupds_nI _) fun p4 => ?_
    refine w_asgC 5 nd (lx1f 6 (test := fun b => !decide ((fin (ringEnt go) go.length).getD b 0 = go.getD b 0)) (val := fun (b : Nat) => .int b) nd (pr g.range (cr_lenT g.len (pnx 0) (n := go.length) (by simp)) (by omega)) (fun b hb _ _ _ _ _ => pb_eq (pb_neI (px_ixL (pnl 4) (pn 6) (at_nI (r := fin (ringEnt go) go.length) (i := b) (by rw [fin_len]; exact List.mem_range.mp hb))) (px_ixT (pnx 0) (pn 6) (at_nI (r := go) (i := b) (List.mem_range.mp hb)))) (by rw [dec_nat])) (fun b _ _ _ _ _ _ _ => pn 6) (fun _ _ => rfl) (by simp; omega) (fun _ _ _ _ _ => gpn 6 nd)) (tupds_nI _) fun p5 => ?_
    refine w_while (fun m Γ => ∃ k t3 t6, k + m = waitN go ∧ Γ = [.dat (gS go), .own p1 (.lst (nI (missL go))), .own p2 (.lst ((itL go k).ent.map prD)), t3, .own p4 (.lst (nI (itL go k).held)), .own p5 (.lst (nI (itL go k).wt)), t6]) (waitN go) ⟨0, _, _, by omega, rfl⟩ (fun m Γ' iv => ?_)
    obtain ⟨k, t3, t6, hk, rfl⟩ := iv
    obtain ⟨w1, w2, w3, w4⟩ := it_wt fc k (by omega)
    have hwn := waitN_le go
    refine ⟨!decide ((itL go k).wt = []), pb_eq (pb_tru (pnl 5)) (tru_list _), fun z => ?_, fun z => ?_⟩
    · have hne : (itL go k).wt ≠ [] := by simpa using z
      have hkn : k < waitN go := by
        have := List.length_pos_iff.mpr hne
        omega
      have hf := fc.free k hkn
      have hs := fc.src k hkn
      have hmem := pick_mem hf
      have hb := w2 _ hmem
      obtain ⟨i1, i2⟩ := idx_facts hs
      obtain ⟨j1, j2⟩ := idx_facts hmem
      refine w_asg 6 nd (px_ixL (px_new (l3 F6 hr (pn 0) (pnl 4) (pnl 5) (.mk go _ _ h w2 (by omega)))) px_int (at_nI (r := freeL go (itL go k).held (itL go k).wt) (i := 0) (List.length_pos_iff.mpr hf))) fr_int ?_
      refine w_app 2 (d := prD (pick go (itL go k), (itL go k).held.idxOf (go.getD (pick go (itL go k)) 0))) (pt2 (pn 6) (p_lidx (ns := iN (itL go k).held) (px_eqd (pnl 4) (by rw [dI_nI])) (px_ixT (pnx 0) (pn 6) (at_nI (r := go) (i := pick go (itL go k)) hb)) (iN_at i1) fun m hm => iN_no (i2 m hm))) rfl ?_ (ds' := (itL go (k + 1)).ent.map prD) ?_ ?_
      · rw [List.length_map]; omega
      · show _ = ((itL go k).ent ++ [_]).map prD
        rw [List.map_append]
        rfl
      refine w_set 4 (px_ixT (pnx 0) (pn 6) (at_nI (r := go) (i := pick go (itL go k)) hb)) rfl (pn 6) (ix_nat (i := pick go (itL go k)) ?_) (ds' := nI (itL go (k + 1)).held) ?_ ?_
      · rw [List.length_map, w3]; exact hb
      · show _ = nI ((itL go k).held.set _ _)
        exact (List.map_set ..).symm
      refine w_rem 5 (ns := iN (itL go k).wt) (pn 6) (iN_at j1) (fun m hm => iN_no (j2 m hm)) (dI_nI _).symm (ds' := nI (itL go (k + 1)).wt) ?_ ?_
      · show _ = nI ((itL go k).wt.eraseIdx _)
        rw [map_erase, dI_nI]
      exact ws_nil ⟨m - 1, by omega, k + 1, _, _, by omega, rfl⟩
    · have he : (itL go k).wt = [] := by simpa using z
      have hkn : k = waitN go := by
        rw [he] at w1
        have := w1
        simp at this
        omega
      subst hkn
      refine w_retL (pxl_callS F7 hr (by decide) (pnl 2) (tupds_map fun _ _ => rfl) ?_ (.mk (leastLog go) ?_)) (tupds_map fun _ _ => rfl) rfl
      · rw [List.length_map]
        show (itL go (waitN go)).ent.length ≤ 100000
        omega
      · show (itL go (waitN go)).ent.length ≤ 60
        omega
/-! safe_log, returning -/
theorem sc_safe : FnScope ["goal", "away", "entries", "block"] ["goal"] (defScope s_safe_log) := ⟨rfl, rfl, rfl, by decide +kernel, rfl, by decide +kernel, by decide +kernel⟩
inductive C_safe : List Sem → List PyData → Prop
  | mk (g : List Nat) : GoalOk g → awayL g = [] → C_safe [gS g] ((safeL g).map cpD)
theorem chg_lt {g : List Nat} {b : Nat} (h : b ∈ chg g) : b < g.length := by
  unfold chg at h
  obtain ⟨a, ha, rfl⟩ := List.mem_map.mp h
  have := List.mem_zipIdx (List.mem_filter.mp ha).1
  omega
theorem chg_len (g : List Nat) : (chg g).length ≤ g.length := by
  unfold chg
  rw [List.length_map]
  exact Nat.le_trans (List.length_filter_le _ _) (by simp)
theorem ok_safe (g : G mg) (F1 : Fn P w K mg base "homeless" 3 ["goal"] (spP C_homeless K)) (F2 : Fn P w K mg base "changed_blocks" 1 ["goal"] (spL C_changed K)) (F7 : FnS P w K mg base "copies" 1 C_copies) (F : FnQ K "safe_log" s_safe_log f fd) : FnOk P w K mg base CX0 4 f fd ["goal"] (spL C_safe K) := by
  have nd := sc_safe.nd
  refine fn_list F sc_safe (fun ss s h => by cases h; rfl) (fun cdv A outer s H E hr ss ds h => ?_)
  obtain ⟨go, h, ha⟩ := h
  have h12 := h.n12
  have hcl := chg_len go
  refine w_asg 1 nd (px_eqd (c1 F1 hr (pn 0) (.mk go h)) (by rw [ha])) (fr_tup (ds := nI []) rfl) ?_
  refine w_when (pb_tru (pn 1)) (fun z => by cases z) fun _ => ?_
  refine w_asgC 2 nd (lcx_eq (lx1 3 (L := chg go) (f := fun (b : Nat) => .int b) (val := fun b => prD (b, go.getD b 0)) nd (pit_lst (L := chg go) (f := fun (b : Nat) => .int b) (px_new (l1 F2 hr (pn 0) (.mk go h)))) (fun b hb _ _ _ _ _ => pt2 (pn 3) (px_ixT (pnx 0) (pn 3) (at_nI (r := go) (i := b) (chg_lt hb)))) (fun _ _ => rfl) (by omega) (fun _ _ _ _ _ => gpn 3 nd)) (show _ = (safeL go).map prD by simp [safeL])) (tupds_map fun _ _ => rfl) fun p => ?_
  refine w_retL (pxl_callS F7 hr (by decide) (pnl 2) (tupds_map fun _ _ => rfl) ?_ (.mk (safeL go) ?_)) (tupds_map fun _ _ => rfl) rfl
  · simp [safeL]; omega
  · simp [safeL]; omega
end
end H77
set_option Elab.async false
set_option linter.all false
set_option maxRecDepth 100000
set_option maxHeartbeats 1000000
namespace H77
open PySem PySem.Spec PyProof.Rows L2 Dw R77
/-- NoLog, as it stands in the module -/
structure NoLogOk (K : PySem.W.Frag) (mg : Str → Option Value) (C : Addr) : Prop where
  q : PySem.W.excIn K C [.type "ValueError", .type "Exception", .type "BaseException", .type "object"] "ValueError.__new__" = true
  g : mg "NoLog" = some (.ref C)
  k : PySem.W.keepIn K (.ref C) = true
  sub : PySem.W.subIn K (.ref C) (.type "BaseException") = some true
  ty : PySem.W.typeIn K (.ref C) = some (.type "type")
section
variable {P : Program} {w : World} {K : PySem.W.Frag} {mg : Str → Option Value} {base : Heap} {f : Addr} {fd : FuncData} {C : Addr}
inductive C_possX : List Dw.Sem → WdT → Prop
  | mk (g : List Nat) : GoalOk g → chg g ≠ [] → missL g = [] → C_possX [gS g] (fun _ _ => True)
theorem ok_check_possibleX (g : G mg) (N : NoLogOk K mg C) (F1 : Fn P w K mg base "check_goal" 2 ["goal"] (spP C_check_goal K)) (F2 : Fn P w K mg base "changed_blocks" 1 ["goal"] (spL C_changed K)) (F3 : Fn P w K mg base "_missing" 1 ["goal"] (spL C_missing K)) (F : FnQ K "check_possible" s_check_possible f fd) : FnOk P w K mg base (L2N.CX P w) 3 f fd ["goal"] (spR C_possX (.ref C) K) := by
  refine fn_raise F sc_check_possible (fun ss s h => by cases h; rfl) (fun cdv A outer s H E hr ss Wd h lt => ?_)
  obtain ⟨go, h, h1, h2⟩ := h
  refine wx_cons (wx1_of (s_expr (c1 F1 hr (pn 0) (.mk go h)) ?_))
  refine wx_cons (wx_if (pb_and2 (pb_tru (px_new (l1 F2 hr (pn 0) (.mk go h)))) fun _ => pb_not (pb_tru (px_new (l1 F3 hr (pn 0) (.mk go h))))) (fun _ => ?_) fun z => ?_)
  · exact wx_cons (wx_raise0 lt rfl (pmk_own0 PySem.F.excBase_ValueError N.q N.g N.k (raises_own N.sub N.ty) rfl) fun _ => trivial)
  · exfalso
    rw [tru_list, tru_list] at z
    simp [h1, h2] at z
theorem ok_leastX (g : G mg) (F1 : FnX P w K mg base "check_possible" 3 ["goal"] (spR C_possX (.ref C) K)) (F : FnQ K "least_log" s_least_log f fd) : FnOk P w K mg base (L2N.CX P w) 4 f fd ["goal"] (spR C_possX (.ref C) K) := by
  refine fn_raise F sc_least (fun ss s h => by cases h; rfl) (fun cdv A outer s H E hr ss Wd h lt => ?_)
  obtain ⟨go, h, h1, h2⟩ := h
  exact wx_cons (wx_call F1 lt hr (by decide) rfl (pxs_cons (pn 0) pxs_nil rfl) (.mk go h h1 h2))
theorem ok_fewestX (g : G mg) (F1 : FnX P w K mg base "check_possible" 3 ["goal"] (spR C_possX (.ref C) K)) (F : FnQ K "fewest_copies" s_fewest_copies f fd) : FnOk P w K mg base (L2N.CX P w) 4 f fd ["goal"] (spR C_possX (.ref C) K) := by
  refine fn_raise F sc_fewest (fun ss s h => by cases h; rfl) (fun cdv A outer s H E hr ss Wd h lt => ?_)
  obtain ⟨go, h, h1, h2⟩ := h
  exact wx_cons (wx_call F1 lt hr (by decide) rfl (pxs_cons (pn 0) pxs_nil rfl) (.mk go h h1 h2))
inductive C_safeX : List Dw.Sem → WdT → Prop
  | mk (g : List Nat) : GoalOk g → awayL g ≠ [] → C_safeX [gS g] (WdF "value" ((awayL g).getD 0 0 : Nat))
theorem ok_safeX (g : G mg) {k : Nat} (I : FnI P w K mg base "NoSafeLog" C "value" 1) (F1 : Fn P w K mg base "homeless" 3 ["goal"] (spP C_homeless K)) (F : FnQ K "safe_log" s_safe_log f fd) : FnOk P w K mg base (L2N.CX P w) 4 f fd ["goal"] (spR C_safeX (.ref C) K) := by
  refine fn_raise F sc_safe (fun ss s h => by cases h; rfl) (fun cdv A outer s H E hr ss Wd h lt => ?_)
  obtain ⟨go, h, h1⟩ := h
  have h0 : 0 < (awayL go).length := List.length_pos_iff.mpr h1
  have hv : (awayL go).getD 0 0 < 12 := by
    have := (h.mem _).mp (getD_mem h0)
    have := h.lt _ this.1
    have := h.n12
    omega
  refine wx_cons (wx1_of (s_asg (i := 1) (c1 F1 hr (pn 0) (.mk go h)) (fr_tup (tupds_nI _)) ?_ sc_safe.nd rfl (.inl rfl) (Nat.le_of_ble_eq_true rfl)))
  refine wx_cons (wx_if (pb_tru (pn 1)) (fun _ => ?_) fun z => ?_)
  · refine wx_cons (wx_raise1 I lt rfl hr (by decide) ?_ (px_ixT (pn 1) px_int (at_nI (r := awayL go) (i := 0) h0)))
    show (((awayL go).getD 0 0 : Nat) : Int).natAbs.log2 < 1920
    rw [Int.natAbs_natCast]
    exact Nat.lt_of_le_of_lt (Nat.log2_le_self _) (by omega)
  · exfalso
    cases e : awayL go with
    | nil => exact h1 e
    | cons a l => rw [e] at z; cases z
end
end H77
set_option Elab.async false
set_option linter.all false
set_option maxRecDepth 100000
set_option maxHeartbeats 1000000
namespace H77
open PySem PySem.Spec PyProof.Rows L2 Dw R77
section
variable {P : Program} {w : World} {K : PySem.W.Frag} {mg : Str → Option Value} {base : Heap} {f : Addr} {fd : FuncData}
/-! _law_whole -/
theorem sc_whole : FnScope ["_law_told"] ["_law_told"] (defScope s_law_whole) := ⟨rfl, rfl, rfl, by decide +kernel, rfl, by decide +kernel, by decide +kernel⟩
inductive C_whole : List Dw.Sem → Dw.Sem → Prop
  | mk (i : Int) : C_whole [dt (.int i)] (dt (.bool true))
theorem ok_whole (g : G mg) (F : FnQ K "_law_whole" s_law_whole f fd) : FnOk P w K mg base CX0 1 f fd ["_law_told"] (spP C_whole K) := by
  refine fn_pure F sc_whole (fun ss s h => by cases h; rfl) (fun cdv A outer s H E hr ss r h => ?_)
  obtain ⟨i⟩ := h
  exact w_ret (px_eqd (px_and2 (i_int true g (pn 0)) fun _ => px_not (i_bool false g (pn 0))) rfl) fr_bool rfl
theorem ok_wholeH (g : G mg) (F : FnQ K "_law_whole" s_law_whole f fd) : L2H.FnH P w K mg base CX0 1 f fd ["_law_told"] (spP C_whole K) := by
  refine fn_pureH F sc_whole (fun ss s h => by cases h; rfl) (fun cdv A outer s H E p hr ss r h => ?_)
  obtain ⟨i⟩ := h
  exact w_ret (px_eqd (px_and2 (i_int true g (pn 0)) fun _ => px_not (i_bool false g (pn 0))) rfl) fr_bool rfl
/-! _law_row -/
theorem sc_row : FnScope ["_law_told", "_law_entry"] ["_law_told"] (defScope s_law_row) := ⟨rfl, rfl, rfl, by decide +kernel, rfl, by decide +kernel, by decide +kernel⟩
inductive C_row : List Dw.Sem → Dw.Sem → Prop
  | mk (ns : List Int) : C_row [dt (.tuple (dI ns))] (dt (.bool true))
theorem ok_row (g : G mg) (F1 : Fn P w K mg base "_law_whole" 1 ["_law_told"] (spP C_whole K)) (F : FnQ K "_law_row" s_law_row f fd) : FnOk P w K mg base CX0 2 f fd ["_law_told"] (spP C_row K) := by
  have nd := sc_row.nd
  refine fn_pure F sc_row (fun ss s h => by cases h; rfl) (fun cdv A outer s H E hr ss r h => ?_)
  obtain ⟨ns⟩ := h
  refine w_when (pb_not (pb_val (i_tuple true g (pn 0)))) (fun z => by cases z) fun _ => ?_
  refine w_for (fun _ Γ => ∃ t, Γ = [.dat (dt (.tuple (dI ns))), t]) (wi_tup (L := ns) (f := .int) (pn 0) fun _ _ => rfl) ⟨_, rfl⟩ (gpn 1 nd) (fun i a Γ' ha iv => ?_) (fun Γ' iv => ?_)
  · obtain ⟨t, rfl⟩ := iv
    refine gn 1 nd ?_
    exact w_when (pb_not (pb_val (c1 F1 hr (pn 1) (.mk a)))) (fun z => by cases z) fun _ => ws_nil ⟨_, rfl⟩
  · obtain ⟨t, rfl⟩ := iv
    exact w_ret px_bl fr_bool rfl
/-! _law_images -/
theorem sc_images : FnScope ["_law_pairs_here", "_law_blocks", "_law_now", "_law_found", "_law_pair"] ["_law_pairs_here", "_law_blocks"] (defScope s_law_images) := ⟨rfl, rfl, rfl, by decide +kernel, rfl, by decide +kernel, by decide +kernel⟩
theorem ok_images (g : G mg) (F : FnQ K "_law_images" s_law_images f fd) : FnOk P w K mg base CX0 1 f fd ["_law_pairs_here", "_law_blocks"] (spL C_origin_rows K) := by
  have nd := sc_images.nd
  refine fn_list F sc_images (fun ss s h => by cases h; rfl) (fun cdv A outer s H E hr ss r h => ?_)
  obtain ⟨log, n, h1, h2, h3⟩ := h
  refine w_asgL 2 nd (pxl_rg rfl g.list g.range (pn 1) (by omega)) (tupds_nI _) fun p => ?_
  refine w_asgL 3 nd (pl1 (p_tup g.tuple (pnl 2))) (tupds_map (L := [home n]) (f := fun h => .tuple (nI h)) fun _ _ => tupds_nI _) fun q => ?_
  refine w_for (fun i Γ => ∃ t1, Γ = [.dat (dt (.list (log.map prD))), .dat (dt (.int n)), .own p (.lst (nI (img log n i))), .own q (.lst (rowsD log n (i + 1))), t1]) (wv 0 wk_r) ⟨_, rfl⟩ (gpn 4 nd) (fun i a Γ' ha iv => ?_) (fun Γ' iv => ?_)
  · obtain ⟨t1, rfl⟩ := iv
    have ho := h3 a (List.mem_of_getElem? ha)
    refine gn 4 nd ?_
    refine w_set 2 (px_ixL (pnl 2) (px_ixT (pn 4) px_int (d := .int (a.2 : Nat)) rfl) (at_nI (r := img log n i) (i := a.2) (by rw [img_len]; exact ho.2.1))) rfl (px_ixT (pn 4) px_int (d := .int (a.1 : Nat)) rfl) (ix_nat (i := a.1) ?_) (img_set ha) ?_
    · rw [List.length_map, img_len]; exact ho.1
    refine w_app 3 (p_tup g.tuple (pnl 2)) (by show tupds _ = true; exact tupds_nI _) ?_ (rows_next log n i) (ws_nil ⟨_, rfl⟩)
    have := (List.getElem?_eq_some_iff.mp ha).1
    simp [rowsD]; omega
  · obtain ⟨t1, rfl⟩ := iv
    exact w_retO 3 rfl
/-! _law_top -/
theorem sc_ltop : FnScope ["_law_pairs_here", "_law_goal_here", "_law_seen", "_law_position", "_law_block"] ["_law_pairs_here", "_law_goal_here"] (defScope s_law_top) := ⟨rfl, rfl, rfl, by decide +kernel, rfl, by decide +kernel, by decide +kernel⟩
inductive C_ltop : List Dw.Sem → Dw.Sem → Prop
  | mk (log : List Pr) (n : Nat) : LgOk log n → C_ltop [dt (.list (log.map prD)), gS (fin log n)] (dt (o2D (topOf log n)))
theorem ok_ltop (g : G mg) (F1 : Fn P w K mg base "_law_images" 1 ["_law_pairs_here", "_law_blocks"] (spL C_origin_rows K)) (F : FnQ K "_law_top" s_law_top f fd) : FnOk P w K mg base CX0 2 f fd ["_law_pairs_here", "_law_goal_here"] (spP C_ltop K) := by
  have nd := sc_ltop.nd
  refine fn_pure F sc_ltop (fun ss s h => by cases h; rfl) (fun cdv A outer s H E hr ss r h => ?_)
  obtain ⟨log, n, h⟩ := h
  have hl := h.len
  have hn := h.n12
  refine w_asgL 2 nd (l2 F1 hr (pn 0) (cr_lenT g.len (pnx 1) (n := n) (by simp [fin_len])) (.mk log n h.n12 h.len h.ok)) tup_rows fun q => ?_
  refine w_for (fun i Γ => (List.range i).findSome? (topF log n) = none ∧ ∃ t1 t2, Γ = [.dat (dt (.list (log.map prD))), .dat (gS (fin log n)), .own q (.lst (rowsD log n (log.length + 1))), t1, t2]) (wr g.range (cr_len g.len (pnl 2) (n := log.length + 1) (by simp [rowsD])) (by omega)) ⟨rfl, _, _, rfl⟩ (gpn 3 nd) (fun i a Γ' ha iv => ?_) (fun Γ' iv => ?_)
  · obtain ⟨e, hj⟩ := range_at ha
    have e : i = a := e.symm
    subst e
    obtain ⟨hno, t1, t2, rfl⟩ := iv
    refine gn 3 nd ?_
    refine w_for (fun b Γ => (List.range b).find? (fun b => topTest log n i b) = none ∧ ∃ t2, Γ = [.dat (dt (.list (log.map prD))), .dat (gS (fin log n)), .own q (.lst (rowsD log n (log.length + 1))), .dat (dt (.int (i : Nat))), t2]) (wr g.range (cr_lenT g.len (pnx 1) (n := n) (by simp [fin_len])) (by omega)) ⟨rfl, _, rfl⟩ (gpn 4 nd) (fun b a Γ' ha iv => ?_) (fun Γ' iv => ?_)
    · obtain ⟨e, hbn⟩ := range_at ha
      have e : b = a := e.symm
      subst e
      obtain ⟨hb, t2, rfl⟩ := iv
      refine gn 4 nd ?_
      refine w_when (b := topTest log n i b) (pb_eq (pb_and2 (pb_inT (ns := iN (fin log n)) (pn 4) (px_eqd (pnx 1) (by rw [dI_nI]))) fun _ => pb_neI (px_ixT (px_ixL (pnl 2) (pn 3) (row_at (by omega))) (pn 4) (at_nI (r := img log n i) (i := b) ?_)) (pn 4)) ?_) (fun z => ?_) fun z => ws_nil ⟨fd_step hb z, _, rfl⟩
      · rw [img_len]; exact hbn
      · rw [mem_nI, dec_nat, Bool.and_comm]; unfold topTest; congr 1
      · refine w_ret (pt2 (pn 3) (pn 4)) (fr_dt rfl) ?_
        have e : topOf log n = some (i, b) := fs_hit (f := topF log n) hno (by unfold topF; rw [fd_hit hb z hbn]; rfl) hj
        show dt _ = dt (o2D _)
        rw [e]
        rfl
    · obtain ⟨hb, t2, rfl⟩ := iv
      rw [List.length_range] at hb
      exact ws_nil ⟨fs_step hno (by unfold topF; rw [hb]; rfl), _, _, rfl⟩
  · obtain ⟨hno, t1, t2, rfl⟩ := iv
    rw [List.length_range] at hno
    refine w_ret px_non fr_none ?_
    have e : topOf log n = none := hno
    show dt _ = dt (o2D _)
    rw [e]
    rfl
/-! _law_late -/
theorem sc_llate : FnScope ["_law_pairs_here", "_law_goal_here", "_law_last", "_law_k", "_law_target", "_law_source"] ["_law_pairs_here", "_law_goal_here"] (defScope s_law_late) := ⟨rfl, rfl, rfl, by decide +kernel, rfl, by decide +kernel, by decide +kernel⟩
inductive C_llate : List Dw.Sem → Dw.Sem → Prop
  | mk (log : List Pr) (n : Nat) : LgOk log n → C_llate [dt (.list (log.map prD)), gS (fin log n)] (dt (o1D (lateOf log n)))
theorem ok_llate (g : G mg) (F : FnQ K "_law_late" s_law_late f fd) : FnOk P w K mg base CX0 1 f fd ["_law_pairs_here", "_law_goal_here"] (spP C_llate K) := by
  have nd := sc_llate.nd
  refine fn_pure F sc_llate (fun ss s h => by cases h; rfl) (fun cdv A outer s H E hr ss r h => ?_)
  obtain ⟨log, n, h⟩ := h
  have hl := h.len
  have hn := h.n12
  refine w_asgL 2 nd (pxl_eq (pxl_rep (px_lt (pl1 (px_neg px_int))) (cr_lenT g.len (pnx 1) (n := n) (by simp [fin_len])) (by simp; omega) (by omega)) (rep_one n)) (tupds_dI _) fun p => ?_
  refine w_for (fun i Γ => ∃ t1 t2 t3, Γ = [.dat (dt (.list (log.map prD))), .dat (gS (fin log n)), .own p (.lst (dI (lastW (log.take i) n))), t1, t2, t3]) (wr g.range (cr_len g.len (pn 0) (n := log.length) (by simp)) (by omega)) ⟨_, _, _, rfl⟩ (gpn 3 nd) (fun i a Γ' ha iv => ?_) (fun Γ' iv => ?_)
  · obtain ⟨e, hj⟩ := range_at ha
    have e : i = a := e.symm
    subst e
    obtain ⟨t1, t2, t3, rfl⟩ := iv
    have hg : log[i]? = some log[i] := List.getElem?_eq_getElem hj
    have ho := h.ok.at hj
    refine gn 3 nd ?_
    refine w_set 2 (pn 3) rfl (px_ixT (px_ixL (pn 0) (pn 3) (at_map (f := prD) hg)) px_int (d := .int (log[i].1 : Nat)) rfl) (ix_nat (i := log[i].1) ?_) (last_next hg) (ws_nil ⟨_, _, _, rfl⟩)
    rw [List.length_map, lastW_len]; exact ho.1
  · obtain ⟨t1, t2, t3, rfl⟩ := iv
    rw [List.length_range, List.take_length]
    refine w_for (fun i Γ => (List.range i).find? (lateTest log n) = none ∧ ∃ t1 t2 t3, Γ = [.dat (dt (.list (log.map prD))), .dat (gS (fin log n)), .own p (.lst (dI (lastW log n))), t1, t2, t3]) (wr g.range (cr_len g.len (pn 0) (n := log.length) (by simp)) (by omega)) ⟨rfl, _, _, _, rfl⟩ (gpn 3 nd) (fun i a Γ' ha iv => ?_) (fun Γ' iv => ?_)
    · obtain ⟨e, hj⟩ := range_at ha
      have e : i = a := e.symm
      subst e
      obtain ⟨hno, t1, t2, t3, rfl⟩ := iv
      have hg : log[i]? = some log[i] := List.getElem?_eq_getElem hj
      have ho := h.ok.at hj
      have et := tgt_eq hj
      have es := src_eq hj
      refine gn 3 nd ?_
      refine w_tgt (px_ixL (pn 0) (pn 3) (at_map (f := prD) hg)) (fr_dt rfl) (g2 4 5 nd ?_)
      refine w_when (b := lateTest log n i) (pb_eq (pb_or2 (pb_ge (px_ixL (pnl 2) (pn 5) (at_dI (r := lastW log n) (i := log[i].2) ?_)) (px_ixL (pnl 2) (pn 4) (at_dI (r := lastW log n) (i := log[i].1) ?_))) fun _ => pb_neI (px_ixT (pnx 1) (pn 5) (at_nI (r := fin log n) (i := log[i].2) ?_)) (px_ixT (pnx 1) (pn 4) (at_nI (r := fin log n) (i := log[i].1) ?_))) ?_) (fun z => ?_) fun z => ws_nil ⟨fd_step hno z, _, _, _, rfl⟩
      · rw [lastW_len]; exact ho.2.1
      · rw [lastW_len]; exact ho.1
      · rw [fin_len]; exact ho.2.1
      · rw [fin_len]; exact ho.1
      · rw [dec_nat]; unfold lateTest; rw [et, es]; congr 1
      · refine w_ret (pn 3) fr_int ?_
        have e : lateOf log n = some i := fd_hit hno z hj
        show dt _ = dt (o1D _)
        rw [e]
        rfl
    · obtain ⟨hno, t1, t2, t3, rfl⟩ := iv
      rw [List.length_range] at hno
      refine w_ret px_non fr_none ?_
      have e : lateOf log n = none := hno
      show dt _ = dt (o1D _)
      rw [e]
      rfl
end
end H77
set_option Elab.async false
set_option linter.all false
set_option maxRecDepth 100000
set_option maxHeartbeats 1000000
namespace R77
theorem okStep_lt {w : Word} {L pos : Nat} {s : Stp} (hp : pos ≤ L) (h : okStep w L pos s) : s.2 ≤ L ∧ (0 ≤ s.1 → s.1.toNat < L) := by
  rcases h with ⟨h1, rfl⟩ | h
  · exact ⟨by show pos + 1 ≤ L; omega, fun _ => by show ((pos : Int)).toNat < L; omega⟩
  · cases w with
    | late =>
      obtain ⟨r, hr, rfl⟩ := List.mem_map.mp h
      have := List.mem_range.mp hr
      exact ⟨hp, fun _ => by show ((r : Int)).toNat < L; omega⟩
    | mark =>
      obtain ⟨r, hr, rfl⟩ := List.mem_map.mp h
      have := List.mem_range.mp hr
      exact ⟨by show r ≤ L; omega, fun z => by have : (0 : Int) ≤ -1 := z; omega⟩
    | top =>
      unfold further at h
      dsimp only at h
      split at h
      · have e : s = ((-1 : Int), 0) := by simpa using h
        subst e
        exact ⟨Nat.zero_le _, fun z => by have : (0 : Int) ≤ -1 := z; omega⟩
      · simp at h
theorem follows_drop {w : Word} {L : Nat} : ∀ {run : List Stp} {p : Nat}, Follows w L p run → ∀ {i : Nat} {s : Stp}, run[i]? = some s → okStep w L (endPos p (run.take i)) s
  | [], _, _, _, _, h => by simp at h
  | t :: r, p, h, 0, s, e => by
    have e' : t = s := by simpa using e
    subst e'
    exact h.1
  | t :: r, p, h, i + 1, s, e => by
    rw [List.take_succ_cons]
    show okStep w L (endPos t.2 (r.take i)) s
    exact follows_drop h.2 (by simpa using e)
theorem endPos_le {w : Word} {L : Nat} : ∀ {run : List Stp} {p : Nat}, p ≤ L → Follows w L p run → endPos p run ≤ L
  | [], _, hp, _ => hp
  | t :: r, p, hp, h => endPos_le (p := t.2) (okStep_lt hp h.1).1 h.2
theorem follows_take {w : Word} {L : Nat} : ∀ {run : List Stp} {p : Nat} (i : Nat), Follows w L p run → Follows w L p (run.take i)
  | _, _, 0, _ => trivial
  | [], _, _ + 1, _ => trivial
  | t :: r, p, i + 1, h => ⟨h.1, follows_take i h.2⟩
end R77
namespace H77
open PySem PySem.Spec PyProof.Rows L2 Dw R77
def wordS : Word → Str
  | .top => "top"
  | .mark => "mark"
  | .late => "late"
theorem eqv_stp (a b : Stp) : PyData.eqv (stpD a) (stpD b) = decide (a = b) := by
  obtain ⟨i, j⟩ := a
  obtain ⟨k, l⟩ := b
  have e : PyData.eqv (stpD (i, j)) (stpD (k, l)) = (i == k && ((((j : Int) == (l : Int)) && true) && true)) := rfl
  rw [e, Bool.eq_iff_iff]
  simp
  omega
theorem sh_stp (a : Stp) : SeqAt.shaped (stpD a) = true := rfl
theorem sh_all : ∀ (ds : List PyData), (∀ d ∈ ds, PyData.canLay0 d = true ∧ d.depth ≤ 60) → PyData.canLayAll0 ds = true ∧ PyData.depthAll ds ≤ 60
  | [], _ => ⟨rfl, Nat.zero_le _⟩
  | d :: ds, h => by
    obtain ⟨h1, h2⟩ := h d List.mem_cons_self
    obtain ⟨h3, h4⟩ := sh_all ds fun x hx => h x (List.mem_cons_of_mem _ hx)
    refine ⟨?_, ?_⟩
    · show (PyData.canLay0 d && PyData.canLayAll0 ds) = true
      rw [h1, h3]; rfl
    · show max d.depth (PyData.depthAll ds) ≤ 60
      omega
theorem sh_list {ds : List PyData} (h : ∀ d ∈ ds, PyData.canLay0 d = true ∧ d.depth ≤ 60) : SeqAt.shaped (.list ds) = true := by
  obtain ⟨h1, h2⟩ := sh_all ds h
  show (PyData.canLayAll0 ds && decide (PyData.depthAll ds + 1 ≤ 64)) = true
  rw [h1]
  simp
  omega
theorem sh_tuple {ds : List PyData} (h : ∀ d ∈ ds, PyData.canLay0 d = true ∧ d.depth ≤ 60) : SeqAt.shaped (.tuple ds) = true := sh_list h
theorem sh_run (r : List Stp) : SeqAt.shaped (.list (runD r)) = true := sh_list fun d hd => by
  obtain ⟨a, _, rfl⟩ := List.mem_map.mp hd
  exact ⟨rfl, Nat.le_of_ble_eq_true rfl⟩
section
variable {P : Program} {w : World} {K : PySem.W.Frag} {mg : Str → Option Value} {base : Heap} {f : Addr} {fd : FuncData}
/-! _law_further -/
theorem sc_further : FnScope ["_law_word", "_law_position", "_law_r", "_law_j"] ["_law_word", "_law_position"] (defScope s_law_further) := ⟨rfl, rfl, rfl, by decide +kernel, rfl, by decide +kernel, by decide +kernel⟩
inductive C_further : List Dw.Sem → List PyData → Prop
  | mk (wd : Word) (p : Nat) : p ≤ 60 → C_further [dt (.str (wordS wd)), dt (.int (p : Nat))] (runD (further wd p))
theorem ok_further (g : G mg) (F : FnQ K "_law_further" s_law_further f fd) : FnOk P w K mg base CX0 1 f fd ["_law_word", "_law_position"] (spL C_further K) := by
  have nd := sc_further.nd
  refine fn_list F sc_further (fun ss s h => by cases h; rfl) (fun cdv A outer s H E hr ss r h => ?_)
  obtain ⟨wd, p, h⟩ := h
  cases wd with
  | late =>
    refine w_when (pb_eqS (pn 0) px_str) (fun _ => ?_) fun z => absurd z (by decide)
    exact w_retL (pxl_eq (lc1 2 (L := List.range p) (val := fun (r : Nat) => stpD ((r : Int), p)) nd (pr g.range (pn 1) (by omega)) (fun i _ _ _ _ _ _ => pt2 (pn 2) (pt1 (pn 1))) (fun _ _ => rfl) (by simp; omega) (fun _ _ _ _ _ => gpn 2 nd)) (by simp [further])) (tupds_map fun _ _ => rfl) rfl
  | mark =>
    refine w_when (pb_eqS (pn 0) px_str) (fun z => absurd z (by decide)) fun _ => ?_
    refine w_when (pb_eqS (pn 0) px_str) (fun _ => ?_) fun z => absurd z (by decide)
    exact w_retL (pxl_eq (lc1 3 (L := List.range p) (val := fun (r : Nat) => stpD ((-1 : Int), r)) nd (pr g.range (pn 1) (by omega)) (fun i _ _ _ _ _ _ => pt2 (px_neg px_int) (pt1 (pn 3))) (fun _ _ => rfl) (by simp; omega) (fun _ _ _ _ _ => gpn 3 nd)) (by simp [further])) (tupds_map fun _ _ => rfl) rfl
  | top =>
    refine w_when (pb_eqS (pn 0) px_str) (fun z => absurd z (by decide)) fun _ => ?_
    refine w_when (pb_eqS (pn 0) px_str) (fun z => absurd z (by decide)) fun _ => ?_
    refine w_retL (pxl_if (pb_gt (pn 1) px_int) (fun z => pxl_eq (pl1 (pt2 (px_neg px_int) (pt1 px_int))) ?_) (fun z => pxl_eq pl0 ?_)) (tupds_map fun _ _ => rfl) rfl
    · have : 0 < p := by have := of_decide_eq_true z; omega
      simp [further, this, stpD]
    · have : ¬ 0 < p := by have := of_decide_eq_false z; omega
      simp [further, this]
/-! _law_played -/
theorem sc_played : FnScope ["_law_pairs_here", "_law_blocks", "_law_word", "_law_run", "_law_now", "_law_position", "_law_step", "_law_is_next"] ["_law_pairs_here", "_law_blocks", "_law_word", "_law_run"] (defScope s_law_played) := ⟨rfl, rfl, rfl, by decide +kernel, rfl, by decide +kernel, by decide +kernel⟩
inductive C_played : List Dw.Sem → Dw.Sem → Prop
  | mk (log : List Pr) (n : Nat) (wd : Word) (run : List Stp) : LgOk log n → Follows wd log.length 0 run → endPos 0 run = log.length → C_played [dt (.list (log.map prD)), dt (.int n), dt (.str (wordS wd)), dt (.list (runD run))] (dt (.tuple (nI (endImg log (home n) run))))
theorem endImg_len (log : List Pr) : ∀ (run : List Stp) (h : List Nat), (endImg log h run).length = h.length
  | [], h => rfl
  | s :: r, h => by
    show (endImg log (doStep log h s) r).length = _
    rw [endImg_len log r]
    unfold doStep
    split
    · exact stp_len _ _
    · rfl
theorem endImg_next {log : List Pr} {h : List Nat} {run : List Stp} {i : Nat} {s : Stp} (e : run[i]? = some s) : endImg log h (run.take (i + 1)) = doStep log (endImg log h (run.take i)) s := by
  rw [List.take_add_one, e, endImg_append]
  rfl
theorem endPos_next {run : List Stp} {i : Nat} {s : Stp} (e : run[i]? = some s) : endPos 0 (run.take (i + 1)) = s.2 := by
  rw [List.take_add_one, e, endPos_append]
  rfl
theorem ok_played (g : G mg) (F1 : Fn P w K mg base "_law_whole" 1 ["_law_told"] (spP C_whole K)) (F2 : Fn P w K mg base "_law_row" 2 ["_law_told"] (spP C_row K)) (F3 : Fn P w K mg base "_law_further" 1 ["_law_word", "_law_position"] (spL C_further K)) (F : FnQ K "_law_played" s_law_played f fd) : FnOk P w K mg base CX0 3 f fd ["_law_pairs_here", "_law_blocks", "_law_word", "_law_run"] (spP C_played K) := by
  have nd := sc_played.nd
  refine fn_pure F sc_played (fun ss s h => by cases h; rfl) (fun cdv A outer s H E hr ss r h => ?_)
  obtain ⟨log, n, wd, run, h, hfo, hen⟩ := h
  have h60 := h.len
  have h12 := h.n12
  have hu := room_u hr
  have hu2 : (A.deeper (envOfC "_law_played" (defScope s_law_played) s.heap.objs.size f cdv)).units + 65 < cLine := by have := hr.un; omega
  refine w_when (pb_not (pb_val (i_list true g (pn 3)))) (fun z => by cases z) fun _ => ?_
  refine w_asgL 4 nd (pxl_rg rfl g.list g.range (pn 1) (by omega)) (tupds_nI _) fun p => ?_
  refine w_asg 5 nd px_int fr_int ?_
  refine w_for (fun i Γ => ∃ t1 t2, Γ = [.dat (dt (.list (log.map prD))), .dat (dt (.int n)), .dat (dt (.str (wordS wd))), .dat (dt (.list (runD run))), .own p (.lst (nI (endImg log (home n) (run.take i)))), .dat (dt (.int (endPos 0 (run.take i) : Nat))), t1, t2]) (wv (L := run) (f := stpD) 3 wk_r) ⟨_, _, rfl⟩ (gpn 6 nd) (fun i a Γ' ha iv => ?_) (fun Γ' iv => ?_)
  · obtain ⟨t1, t2, rfl⟩ := iv
    have hok := follows_drop hfo ha
    have hle : endPos 0 (run.take i) ≤ log.length := endPos_le (Nat.zero_le _) (follows_take i hfo)
    obtain ⟨b1, b2⟩ := okStep_lt hle hok
    have e1 := endImg_next (log := log) (h := home n) ha
    have e2 := endPos_next ha
    generalize hq : endPos 0 (run.take i) = q at hok hle e2
    generalize hI : endImg log (home n) (run.take i) = I at e1
    have hIl : I.length = n := by rw [← hI, endImg_len]; simp
    refine gn 6 nd ?_
    refine w_when (pb_or3 (pb_not (pb_val (i_tuple true g (pn 6)))) (fun _ => pb_neI (cr_lenT g.len (pn 6) (n := 2) rfl) px_int) fun _ _ => pb_not (pb_val (c1 F1 hr (px_ixT (pn 6) px_int (d := .int a.1) rfl) (.mk _)))) (fun z => by simp at z) fun _ => ?_
    refine w_when (pb_or2 (pb_not (pb_val (c1 F2 hr (px_ixT (pn 6) px_int (d := .tuple (dI [(a.2 : Int)])) rfl) (.mk _)))) fun _ => pb_neI (cr_lenT g.len (px_ixT (pn 6) px_int (d := .tuple [.int (a.2 : Nat)]) rfl) (n := 1) rfl) px_int) (fun z => by simp at z) fun _ => ?_
    refine w_asg 7 nd (px_and2 (px_lt' (pn 5) (cr_len g.len (pn 0) (n := log.length) (by simp))) fun _ => px_eqD hu (sh_stp a) (sh_stp ((q : Int), q + 1)) (pn 6) (pt2 (pn 5) (pt1 (px_eqd (px_add (pn 5) px_int) rfl)))) fr_bool ?_
    have eB : ((q : Nat) < log.length ∧ a = ((q : Int), q + 1)) → (decide ((q : Int) < (log.length : Int)) && PyData.eqv (stpD a) (stpD ((q : Int), q + 1))) = true := fun ⟨z1, z2⟩ => by
      rw [eqv_stp, Bool.and_eq_true, decide_eq_true_eq, decide_eq_true_eq]
      exact ⟨by omega, z2⟩
    refine w_when (pb_and2 (pb_not (pb_val (pn 7))) fun _ => pb_niD hu2 rfl (sh_stp a) (sh_run (further wd q)) (pn 6) (px_new (l2 F3 hr (pn 2) (pn 5) (.mk wd q (by omega))))) (fun z => ?_) fun _ => ?_
    · exfalso
      rw [Bool.and_eq_true] at z
      rcases hok with z1 | z1
      · have z2 := z.1
        rw [eB z1] at z2
        cases z2
      · have z2 := z.2
        have z3 : ((runD (further wd q)).any fun x => PyData.eqv x (stpD a)) = true := by
          rw [List.any_eq_true]
          exact ⟨stpD a, List.mem_map_of_mem z1, by rw [eqv_stp]; simp⟩
        rw [z3] at z2
        cases z2
    refine w_when (pb_ge (px_ixT (pn 6) px_int (d := .int a.1) rfl) px_int) (fun z => ?_) fun z => ?_
    · have z : 0 ≤ a.1 := of_decide_eq_true z
      have hm := b2 z
      have ea : (a.1.toNat : Int) = a.1 := Int.toNat_of_nonneg z
      have hg : log[a.1.toNat]? = some log[a.1.toNat] := List.getElem?_eq_getElem hm
      have ho := h.ok.at hm
      have es : (nI I).set log[a.1.toNat].1 (.int (I.getD log[a.1.toNat].2 0 : Nat)) = nI (endImg log (home n) (run.take (i + 1))) := by
        rw [e1]
        unfold doStep
        rw [if_pos z, show log.getD a.1.toNat (0, 0) = log[a.1.toNat] by rw [List.getD_eq_getElem?_getD, hg]; rfl, stp]
        exact (List.map_set ..).symm
      refine w_set 4 (px_ixL (pnl 4) (px_ixT (px_ixL (pn 0) (px_ixT (pn 6) px_int (d := .int (a.1.toNat : Int)) (by rw [ea]; rfl)) (at_map (f := prD) hg)) px_int (d := .int (log[a.1.toNat].2 : Nat)) rfl) (at_nI (r := I) (i := log[a.1.toNat].2) (by rw [hIl]; exact ho.2.1))) rfl (px_ixT (px_ixL (pn 0) (px_ixT (pn 6) px_int (d := .int (a.1.toNat : Int)) (by rw [ea]; rfl)) (at_map (f := prD) hg)) px_int (d := .int (log[a.1.toNat].1 : Nat)) rfl) (ix_nat (i := log[a.1.toNat].1) ?_) es ?_
      · rw [List.length_map, hIl]; exact ho.1
      refine ws_nil (w_asg 5 nd (px_ixT (px_ixT (pn 6) px_int (d := .tuple [.int (a.2 : Nat)]) rfl) px_int (d := .int (a.2 : Nat)) rfl) fr_int (ws_nil ?_))
      dsimp only
      rw [e2]
      exact ⟨_, _, rfl⟩
    · have z : ¬ 0 ≤ a.1 := of_decide_eq_false z
      have es : endImg log (home n) (run.take (i + 1)) = I := by
        rw [e1]
        unfold doStep
        rw [if_neg z]
      refine w_asg 5 nd (px_ixT (px_ixT (pn 6) px_int (d := .tuple [.int (a.2 : Nat)]) rfl) px_int (d := .int (a.2 : Nat)) rfl) fr_int (ws_nil ?_)
      dsimp only
      rw [e2, es]
      exact ⟨_, _, rfl⟩
  · obtain ⟨t1, t2, rfl⟩ := iv
    rw [List.take_length, hen]
    refine w_ret (px_if (b := _) (pb_eqI (pn 5) (cr_len g.len (pn 0) (n := log.length) (by simp))) (fun _ => p_tup g.tuple (pnl 4)) (fun z => by simp at z)) (fr_tup (tupds_nI _)) rfl
end
end H77
set_option Elab.async false
set_option linter.all false
set_option maxRecDepth 100000
set_option maxHeartbeats 1000000
namespace H77
open PySem PySem.Spec PyProof.Rows L2 Dw R77
section
variable {P : Program} {w : World} {K : PySem.W.Frag} {mg : Str → Option Value} {base : Heap} {f : Addr} {fd : FuncData}
/-! _law_pairs -/
theorem sc_lpairs : FnScope ["_law_told", "_law_blocks", "_law_found", "_law_line", "_law_block"] ["_law_told", "_law_blocks"] (defScope s_law_pairs) := ⟨rfl, rfl, rfl, by decide +kernel, rfl, by decide +kernel, by decide +kernel⟩
inductive C_lpairs : List Dw.Sem → List PyData → Prop
  | mk (log : List Pr) (n : Nat) : LgOk log n → C_lpairs [dt (.list (log.map cpD)), dt (.int n)] (log.map prD)
theorem ok_lpairs (g : G mg) (F1 : Fn P w K mg base "_law_whole" 1 ["_law_told"] (spP C_whole K)) (F : FnQ K "_law_pairs" s_law_pairs f fd) : FnOk P w K mg base CX0 2 f fd ["_law_told", "_law_blocks"] (spL C_lpairs K) := by
  have nd := sc_lpairs.nd
  refine fn_list F sc_lpairs (fun ss s h => by cases h; rfl) (fun cdv A outer s H E hr ss r h => ?_)
  obtain ⟨log, n, h⟩ := h
  have h60 := h.len
  refine w_asgL 2 nd pl0 rfl fun p => ?_
  refine w_for (fun i Γ => ∃ t1 t2, Γ = [.dat (dt (.list (log.map cpD))), .dat (dt (.int n)), .own p (.lst ((log.take i).map prD)), t1, t2]) (wv (L := log) (f := cpD) 0 wk_r) ⟨_, _, rfl⟩ (gpn 3 nd) (fun i a Γ' ha iv => ?_) (fun Γ' iv => ?_)
  · obtain ⟨t1, t2, rfl⟩ := iv
    have ho := h.ok a (List.mem_of_getElem? ha)
    obtain ⟨o1, o2, o3⟩ := ho
    have x1 : ∀ {Γ : Sv} {p1 p2 : Pos} {j : Nat}, True := trivial
    refine gn 3 nd ?_
    refine w_when (pb_or4 (pb_not (pb_val (i_tuple true g (pn 3)))) (fun _ => pb_neI (cr_lenT g.len (pn 3) (n := 4) rfl) px_int) (fun _ _ => pb_neS (px_ixT (pn 3) px_int (d := .str "copy") rfl) px_str) fun _ _ _ => pb_neS (px_ixT (pn 3) px_int (d := .str "") rfl) px_str) (fun z => absurd z (by decide)) fun _ => ?_
    refine w_for (fun m Γ => ∃ t2, Γ = [.dat (dt (.list (log.map cpD))), .dat (dt (.int n)), .own p (.lst ((log.take i).map prD)), .dat (dt (cpD a)), t2]) (wi_new (L := [a.1, a.2]) (f := fun (b : Nat) => .int b) (pl_ (ds := [.int (a.1 : Nat), .int (a.2 : Nat)]) (pxs_cons (px_ixT (pn 3) px_int (d := .int (a.1 : Nat)) rfl) (pxs_cons (px_ixT (pn 3) px_int (d := .int (a.2 : Nat)) rfl) pxs_nil rfl) rfl)) fun _ _ => rfl) ⟨_, rfl⟩ (gpn 4 nd) (fun m b Γ' hb iv => ?_) (fun Γ' iv => ?_)
    · obtain ⟨t2, rfl⟩ := iv
      have hbn : b < n := by
        have := List.mem_of_getElem? hb
        have : b = a.1 ∨ b = a.2 := by simpa using this
        rcases this with e | e
        · rw [e]; exact o1
        · rw [e]; exact o2
      refine gn 4 nd ?_
      refine w_when (pb_or3 (pb_not (pb_val (c1 F1 hr (pn 4) (.mk _)))) (fun _ => pb_lt (pn 4) px_int) fun _ _ => pb_ge (pn 4) (pn 1)) (fun z => ?_) fun _ => ws_nil ⟨_, rfl⟩
      exfalso
      simp at z
      omega
    · obtain ⟨t2, rfl⟩ := iv
      refine w_when (pb_eqI (px_ixT (pn 3) px_int (d := .int (a.1 : Nat)) rfl) (px_ixT (pn 3) px_int (d := .int (a.2 : Nat)) rfl)) (fun z => ?_) fun _ => ?_
      · exfalso
        simp at z
        omega
      refine w_app 2 (d := prD a) (pt2 (px_ixT (pn 3) px_int (d := .int (a.1 : Nat)) rfl) (px_ixT (pn 3) px_int (d := .int (a.2 : Nat)) rfl)) rfl ?_ (take_map (f := prD) ha) (ws_nil ⟨_, _, rfl⟩)
      simp; omega
  · obtain ⟨t1, t2, rfl⟩ := iv
    refine w_retO 2 ?_
    show Con.lst _ = Con.lst _
    rw [List.take_length]
/-! _law_closed -/
theorem sc_lclosed : FnScope ["_law_goal_here", "_law_found", "_law_start", "_law_row_here", "_law_turn", "_law_is_ring", "_law_block"] ["_law_goal_here"] (defScope s_law_closed) := ⟨rfl, rfl, rfl, by decide +kernel, rfl, by decide +kernel, by decide +kernel⟩
inductive C_lclosed : List Dw.Sem → List PyData → Prop
  | mk (g : List Nat) : GoalOk g → C_lclosed [gS g] ((lawRings g).map rgD)
def lringsI (g : List Nat) (i : Nat) : List (List Nat) := (List.range i).filterMap (lawRing g)
theorem lrings_yes {g : List Nat} {i : Nat} {r : List Nat} (h : lawRing g i = some r) : (lringsI g i).map rgD ++ [rgD r] = (lringsI g (i + 1)).map rgD := by
  unfold lringsI
  rw [List.range_succ, List.filterMap_append, List.filterMap_cons, h]
  simp
theorem lrings_no {g : List Nat} {i : Nat} (h : lawRing g i = none) : lringsI g (i + 1) = lringsI g i := by
  unfold lringsI
  rw [List.range_succ, List.filterMap_append, List.filterMap_cons, h]
  simp
theorem at_lastN {r : List Nat} (h : r ≠ []) : atI (nI r) (-1) = some (.int (lastN r : Nat)) := by
  have h0 := List.length_pos_iff.mpr h
  refine at_last ?_
  rw [List.length_map, List.getElem?_map, List.getElem?_eq_getElem (by omega)]
  simp [lastN, List.getD_eq_getElem?_getD, List.getElem?_eq_getElem (show r.length - 1 < r.length by omega)]
theorem eqv_nil (l : List Nat) : PyData.eqv (.list (nI l)) (.list []) = decide (l = []) := by cases l <;> rfl
theorem sh_nI (l : List Nat) : SeqAt.shaped (.list (nI l)) = true := sh_list fun d hd => by
  obtain ⟨a, _, rfl⟩ := List.mem_map.mp hd
  exact ⟨rfl, Nat.zero_le _⟩
theorem ok_lclosed (g : G mg) (F : FnQ K "_law_closed" s_law_closed f fd) : FnOk P w K mg base CX0 1 f fd ["_law_goal_here"] (spL C_lclosed K) := by
  have nd := sc_lclosed.nd
  refine fn_list F sc_lclosed (fun ss s h => by cases h; rfl) (fun cdv A outer s H E hr ss r h => ?_)
  obtain ⟨go, h⟩ := h
  have h12 := h.n12
  have hu := room_u hr
  refine w_asgL 1 nd pl0 rfl fun p => ?_
  refine w_for (fun i Γ => ∃ t2 t3 t4 t5 t6, Γ = [.dat (gS go), .own p (.lst ((lringsI go i).map rgD)), t2, t3, t4, t5, t6]) (wr g.range (cr_lenT g.len (pnx 0) (n := go.length) (by simp)) (by omega)) ⟨_, _, _, _, _, rfl⟩ (gpn 2 nd) (fun i a Γ' ha iv => ?_) (fun Γ' iv => ?_)
  · obtain ⟨t2, t3, t4, t5, t6, rfl⟩ := iv
    obtain ⟨e, hn⟩ := range_at ha
    have e : i = a := e.symm
    subst e
    refine gn 2 nd ?_
    refine w_asgL 3 nd (pl1 (pn 2)) rfl fun q => ?_
    refine w_for (fun m Γ => ∃ t4 t5 t6, Γ = [.dat (gS go), .own p (.lst ((lringsI go i).map rgD)), .dat (dt (.int (i : Nat))), .own q (.lst (nI (lawR go i m))), t4, t5, t6]) (wr g.range (cr_lenT g.len (pnx 0) (n := go.length) (by simp)) (by omega)) ⟨_, _, _, rfl⟩ (gpn 4 nd) (fun m b Γ' hb iv => ?_) (fun Γ' iv => ?_)
    · obtain ⟨t4, t5, t6, rfl⟩ := iv
      obtain ⟨e, hm⟩ := range_at hb
      have hne := List.ne_nil_of_mem (lawR_mem go i m)
      have hlt := lawR_lt h.lt hn m _ (lastN_mem hne)
      have hlen := lawR_len go i m
      refine gn 4 nd ?_
      refine w_when (b := !(lawR go i m).contains (go.getD (lastN (lawR go i m)) 0)) (pb_eq (pb_niL (ns := iN (lawR go i m)) (px_ixT (pnx 0) (px_ixL (pnl 3) (px_neg px_int) (at_lastN hne)) (at_nI (r := go) (i := lastN (lawR go i m)) hlt)) (px_eqd (pnl 3) (by rw [dI_nI]))) (by rw [mem_nI])) (fun z => ?_) fun z => ws_nil ?_
      · have z : (lawR go i m).contains (go.getD (lastN (lawR go i m)) 0) = false := by simpa using z
        refine w_app 3 (px_ixT (pnx 0) (px_ixL (pnl 3) (px_neg px_int) (at_lastN hne)) (at_nI (r := go) (i := lastN (lawR go i m)) hlt)) rfl ?_ (ds' := nI (lawR go i (m + 1))) ?_ (ws_nil (ws_nil ⟨_, _, _, rfl⟩))
        · rw [List.length_map]; omega
        · rw [nI_snoc]
          show _ = nI (if _ then _ else _)
          rw [z, if_neg Bool.false_ne_true]
      · have z : (lawR go i m).contains (go.getD (lastN (lawR go i m)) 0) = true := by simpa using z
        dsimp only
        rw [show lawR go i (m + 1) = lawR go i m by show (if _ then _ else _) = _; rw [z, if_pos rfl]]
        exact ⟨_, _, _, rfl⟩
    · obtain ⟨t4, t5, t6, rfl⟩ := iv
      rw [List.length_range]
      have hmem := lawR_mem go i go.length
      have hne := List.ne_nil_of_mem hmem
      have hlt := lawR_lt h.lt hn go.length _ (lastN_mem hne)
      have hlen := lawR_len go i go.length
      obtain ⟨m, m1, m2⟩ := least_of hne
      have hle := m2 i hmem
      refine w_asg 5 nd (px_eqd (px_and3 (px_eqI (px_ixT (pnx 0) (px_ixL (pnl 3) (px_neg px_int) (at_lastN hne)) (at_nI (r := go) (i := lastN (lawR go i go.length)) hlt)) (pn 2)) (fun _ => px_gt (cr_len g.len (pnl 3) rfl) px_int) fun _ _ => px_eqI (pn 2) (px_minL (ns := iN (lawR go i go.length)) (m := (m : Int)) rfl g.min (px_eqd (pnl 3) (by rw [dI_nI])) (List.mem_map_of_mem m1) (fun y hy => by
        obtain ⟨b, hb, rfl⟩ := List.mem_map.mp hy
        have := m2 b hb
        omega))) (d' := .bool (decide (lawA go i (lawR go i go.length)))) ?_) fr_bool ?_
      · congr 1
        rw [dec_nat, dec_nat, Bool.eq_iff_iff]
        unfold lawA
        simp
        intro _
        constructor
        · rintro ⟨h1, rfl⟩
          exact ⟨by omega, m2⟩
        · rintro ⟨h1, h2⟩
          have := h2 m m1
          exact ⟨by omega, by omega⟩
      refine w_when (b := decide (lawA go i (lawR go i go.length) ∧ lawB go (lawR go i go.length) = [])) (pb_eq (pb_and2 (pb_val (pn 5)) fun _ => pb_eqD hu (sh_nI (lawB go (lawR go i go.length))) rfl (px_new (lc1f 6 (L := lawR go i go.length) (f := fun (b : Nat) => .int b) (test := fun b => !decide (go.count b = 1)) (val := fun (b : Nat) => .int b) nd (pit_lst (L := lawR go i go.length) (f := fun (b : Nat) => .int b) (pnl 3)) (fun b _ _ _ _ _ _ => pb_eq (pb_neI (p_tcnt (pn 0) (pn 6)) px_int) (by rw [show (1 : Int) = ((1 : Nat) : Int) from rfl, dec_nat])) (fun b _ _ _ _ _ _ _ => pn 6) (fun _ _ => rfl) (by omega) (fun _ _ _ _ _ => gpn 6 nd))) (px_new pl0)) ?_) (fun z => ?_) fun z => ws_nil ?_
      · rw [eqv_nil, Bool.eq_iff_iff]
        simp
      · have e : lawRing go i = some (lawR go i go.length) := by unfold lawRing; rw [if_pos (of_decide_eq_true z)]
        refine w_app 1 (d := rgD (lawR go i go.length)) (p_tup g.tuple (pnl 3)) (tup_rg _) ?_ (lrings_yes e) (ws_nil (ws_nil ⟨_, _, _, _, _, rfl⟩))
        have : (lringsI go i).length ≤ i := Nat.le_trans (List.length_filterMap_le _ _) (by simp)
        rw [List.length_map]; omega
      · have e : lawRing go i = none := by unfold lawRing; rw [if_neg (of_decide_eq_false z)]
        dsimp only
        rw [lrings_no e]
        exact ⟨_, _, _, _, _, rfl⟩
  · obtain ⟨t2, t3, t4, t5, t6, rfl⟩ := iv
    refine w_retO 1 ?_
    show Con.lst _ = Con.lst _
    rw [List.length_range]
    rfl
end
end H77
set_option Elab.async false
set_option linter.all false
set_option maxRecDepth 100000
set_option maxHeartbeats 1000000
namespace H77
open PySem PySem.Spec PyProof.Rows L2 Dw R77
abbrev bI (bs : List Bool) : List PyData := bs.map PyData.bool
def mrD (bs : List Bool) : PyData := .list (bI bs)
theorem at_bI {r : List Bool} {i : Nat} (h : i < r.length) : atI (bI r) (i : Int) = some (.bool (r.getD i false)) := atI_nat (by rw [List.getElem?_map, List.getElem?_eq_getElem h]; simp [List.getD_eq_getElem?_getD, h])
theorem tupds_bI (bs : List Bool) : tupds (bI bs) = true := tupds_map fun _ _ => rfl
theorem rep_true (n : Nat) : (List.replicate n [PyData.bool true]).flatten = bI (List.replicate n true) := by
  induction n with
  | zero => rfl
  | succ n ih => rw [List.replicate_succ, List.flatten_cons, ih, List.replicate_succ]; rfl
theorem px_or2' {X : Cx} {Γ : Sv} {a b : Expr} {pos : Pos} {k m : Bool} (ha : PX X Γ a (dt (.bool k))) (hb : PX X Γ b (dt (.bool m))) : PX X Γ (.BoolOp .Or [a, b] pos) (dt (.bool (k || m))) := px_or2 ha fun _ => hb
section
variable {P : Program} {w : World} {K : PySem.W.Frag} {mg : Str → Option Value} {base : Heap} {f : Addr} {fd : FuncData}
theorem sc_lmark : FnScope ["_law_pairs_here", "_law_blocks", "_law_rows", "_law_k", "_law_pair", "_law_after", "_law_row_here", "_law_matters", "_law_position", "_law_block"] ["_law_pairs_here", "_law_blocks"] (defScope s_law_mark) := ⟨rfl, rfl, rfl, by decide +kernel, rfl, by decide +kernel, by decide +kernel⟩
inductive C_lmark : List Dw.Sem → Dw.Sem → Prop
  | mk (log : List Pr) (n : Nat) : LgOk log n → C_lmark [dt (.list (log.map prD)), dt (.int n)] (dt (o2D (lmarkOf log n)))
def mrows (log : List Pr) (n i : Nat) : List PyData := (List.range i).map fun k => mrD (mrow log n k)
theorem mrows_next (log : List Pr) (n i : Nat) : mrows log n i ++ [mrD (mrow log n i)] = mrows log n (i + 1) := by
  unfold mrows
  rw [List.range_succ, List.map_append]
  rfl
theorem ok_lmark (g : G mg) (F : FnQ K "_law_mark" s_law_mark f fd) : FnOk P w K mg base CX0 1 f fd ["_law_pairs_here", "_law_blocks"] (spP C_lmark K) := by
  have nd := sc_lmark.nd
  refine fn_pure F sc_lmark (fun ss s h => by cases h; rfl) (fun cdv A outer s H E hr ss r h => ?_)
  obtain ⟨log, n, h⟩ := h
  have h60 := h.len
  have h12 := h.n12
  refine w_asgLL 2 nd (pxl_eq (pxl_rep (px_lt (pl1 px_bl)) (pn 1) (by simp; omega) (by omega)) (rep_true n)) (fun d hd => by
    obtain ⟨b, _, rfl⟩ := List.mem_map.mp hd
    rfl) fun p => ?_
  refine w_for (fun i Γ => ∃ t3 t4 t5 t6 t7 t8 t9, Γ = [.dat (dt (.list (log.map prD))), .dat (dt (.int n)), .own p (.lst (mrows log n (i + 1))), t3, t4, t5, t6, t7, t8, t9]) (wr g.range (cr_len g.len (pn 0) (n := log.length) (by simp)) (by omega)) ⟨_, _, _, _, _, _, _, rfl⟩ (gpn 3 nd) (fun i a Γ' ha iv => ?_) (fun Γ' iv => ?_)
  · obtain ⟨t3, t4, t5, t6, t7, t8, t9, rfl⟩ := iv
    obtain ⟨e, hi⟩ := range_at ha
    have e : i = a := e.symm
    subst e
    have hj : log.length - 1 - i < log.length := by omega
    have hg : log[log.length - 1 - i]? = some log[log.length - 1 - i] := List.getElem?_eq_getElem hj
    have ho := h.ok.at hj
    have hgd : log.getD (log.length - 1 - i) (0, 0) = log[log.length - 1 - i] := by rw [List.getD_eq_getElem?_getD, hg]; rfl
    have hml := mrow_len log n i
    generalize hq : log[log.length - 1 - i] = q at hg ho hgd
    obtain ⟨o1, o2, o3⟩ := ho
    refine gn 3 nd ?_
    refine w_asg 4 nd (px_ixL (pn 0) (px_eqd (px_sub (px_sub (cr_len g.len (pn 0) (n := log.length) (by simp)) px_int) (pn 3)) (d' := .int ((log.length - 1 - i : Nat) : Int)) (by congr 1; omega)) (at_map (f := prD) hg)) (fr_dt rfl) ?_
    refine w_item 5 2 nd (px_neg px_int) (d := mrD (mrow log n i)) ?_ ?_
    · refine at_last ?_
      unfold mrows
      rw [List.length_map, List.length_range, List.getElem?_map, List.getElem?_range (by omega), Nat.add_sub_cancel]
      rfl
    refine w_asgC 6 nd (lcx_eq (lx1 9 (L := List.range n) (f := fun (b : Nat) => .int b) (val := fun b => .bool ((mrow log n i).getD b false && !decide (b = q.1))) nd (pr g.range (pn 1) (by omega)) (fun b hb _ _ _ _ _ => px_and2 (px_ixL (pn 5) (pn 9) (at_bI (r := mrow log n i) (i := b) (by rw [hml]; exact List.mem_range.mp hb))) fun _ => px_eqd (px_neI (pn 9) (px_ixT (pn 4) px_int (d := .int (q.1 : Nat)) rfl)) (by rw [dec_nat])) (fun _ _ => rfl) (by simp; omega) (fun _ _ _ _ _ => gpn 9 nd)) (show _ = bI ((List.range n).map fun b => (mrow log n i).getD b false && !decide (b = q.1)) by simp)) (tupds_bI _) fun p6 => ?_
    have hrl : ((List.range n).map fun b => (mrow log n i).getD b false && !decide (b = q.1)).length = n := by simp
    have hm1 : mrow log n (i + 1) = ((List.range n).map fun b => (mrow log n i).getD b false && !decide (b = q.1)).set q.2 (((List.range n).map fun b => (mrow log n i).getD b false && !decide (b = q.1)).getD q.2 false || (mrow log n i).getD q.1 false) := by
      show List.set _ _ _ = _
      rw [hgd]
    generalize hrr : ((List.range n).map fun b => (mrow log n i).getD b false && !decide (b = q.1)) = rr at hrl hm1
    refine w_set 6 (px_or2' (px_ixL (pnl 6) (px_ixT (pn 4) px_int (d := .int (q.2 : Nat)) rfl) (at_bI (r := rr) (i := q.2) (by rw [hrl]; exact o2))) (px_ixL (pn 5) (px_ixT (pn 4) px_int (d := .int (q.1 : Nat)) rfl) (at_bI (r := mrow log n i) (i := q.1) (by rw [hml]; exact o1)))) rfl (px_ixT (pn 4) px_int (d := .int (q.2 : Nat)) rfl) (ix_nat (i := q.2) ?_) (ds' := bI (mrow log n (i + 1))) ?_ ?_
    · rw [List.length_map, hrl]; exact o2
    · rw [hm1]
      exact (List.map_set ..).symm
    refine ws_freeze (i := 6) rfl ?_
    refine w_appV 2 6 (d := mrD (mrow log n (i + 1))) rfl wk_l ?_ (mrows_next log n (i + 1)) (ws_nil ⟨_, _, _, _, _, _, _, rfl⟩)
    simp [mrows]; omega
  · obtain ⟨t3, t4, t5, t6, t7, t8, t9, rfl⟩ := iv
    rw [List.length_range]
    refine ws_freeze (i := 2) rfl ?_
    refine w_revV 7 2 nd rfl wk_l ?_
    have hrev : ∀ p, p ≤ log.length → atI (mrows log n (log.length + 1)).reverse (p : Int) = some (mrD (mrow log n (log.length - p))) := fun p hp => by
      refine atI_nat ?_
      rw [List.getElem?_reverse (by simp [mrows]; omega)]
      unfold mrows
      rw [List.length_map, List.length_range, List.getElem?_map, List.getElem?_range (by omega)]
      show some (mrD (mrow log n (log.length + 1 - 1 - p))) = _
      rw [Nat.add_sub_cancel]
    refine w_for (fun i Γ => (List.range i).findSome? (lmarkF log n) = none ∧ ∃ t3 t4 t5 t6 t8 t9, Γ = [.dat (dt (.list (log.map prD))), .dat (dt (.int n)), .dat (lt (mrows log n (log.length + 1))), t3, t4, t5, t6, .dat (dt (.list (mrows log n (log.length + 1)).reverse)), t8, t9]) (wr g.range (cr_len g.len (pn 0) (n := log.length) (by simp)) (by omega)) ⟨rfl, _, _, _, _, _, _, rfl⟩ (gpn 3 nd) (fun i a Γ' ha iv => ?_) (fun Γ' iv => ?_)
    · obtain ⟨hno, t3, t4, t5, t6, t8, t9, rfl⟩ := iv
      obtain ⟨e, hi⟩ := range_at ha
      have e : i = a := e.symm
      subst e
      have hg : log[i]? = some log[i] := List.getElem?_eq_getElem hi
      have ho := h.ok.at hi
      have et := tgt_eq hi
      refine gn 3 nd ?_
      refine w_for (fun p Γ => (List.range p).find? (fun p => (mrow log n (log.length - p)).getD (tgt log i) false) = none ∧ ∃ t4 t5 t6 t8 t9, Γ = [.dat (dt (.list (log.map prD))), .dat (dt (.int n)), .dat (lt (mrows log n (log.length + 1))), .dat (dt (.int (i : Nat))), t4, t5, t6, .dat (dt (.list (mrows log n (log.length + 1)).reverse)), t8, t9]) (wr g.range (n := i + 1) (px_eqd (px_add (pn 3) px_int) rfl) (by omega)) ⟨rfl, _, _, _, _, _, rfl⟩ (gpn 8 nd) (fun b a Γ' hb iv => ?_) (fun Γ' iv => ?_)
      · obtain ⟨e, hbn⟩ := range_at hb
        have e : b = a := e.symm
        subst e
        obtain ⟨hb, t4, t5, t6, t8, t9, rfl⟩ := iv
        refine gn 8 nd ?_
        refine w_when (b := (mrow log n (log.length - b)).getD (tgt log i) false) (pb_val (px_eqd (px_ixL (px_ixL (pn 7) (pn 8) (hrev b (by omega))) (px_ixT (px_ixL (pn 0) (pn 3) (at_map (f := prD) hg)) px_int (d := .int (log[i].1 : Nat)) rfl) (at_bI (r := mrow log n (log.length - b)) (i := log[i].1) (by rw [mrow_len]; exact ho.1))) (by rw [et]))) (fun z => ?_) fun z => ws_nil ⟨fd_step hb z, _, _, _, _, _, rfl⟩
        refine w_ret (pt2 (pn 8) (pn 3)) (fr_dt rfl) ?_
        have e : lmarkOf log n = some (b, i) := fs_hit (f := lmarkF log n) hno (by unfold lmarkF; rw [fd_hit hb z hbn]; rfl) hi
        show dt _ = dt (o2D _)
        rw [e]
        rfl
      · obtain ⟨hb, t4, t5, t6, t8, t9, rfl⟩ := iv
        rw [List.length_range] at hb
        exact ws_nil ⟨fs_step hno (by unfold lmarkF; rw [hb]; rfl), _, _, _, _, _, _, rfl⟩
    · obtain ⟨hno, t3, t4, t5, t6, t8, t9, rfl⟩ := iv
      rw [List.length_range] at hno
      refine w_ret px_non fr_none ?_
      have e : lmarkOf log n = none := hno
      show dt _ = dt (o2D _)
      rw [e]
      rfl
end
end H77
set_option Elab.async false
set_option linter.all false
set_option maxRecDepth 100000
set_option maxHeartbeats 1000000
namespace H77
open PySem PySem.Spec PyProof.Rows L2 Dw R77
section
variable {P : Program} {w : World} {K : PySem.W.Frag} {mg : Str → Option Value} {base : Heap} {f : Addr} {fd : FuncData} {C : Addr}
theorem sc_lnone : FnScope ["_law_goal_here", "_law_refused"] ["_law_goal_here"] (defScope s_law_none) := ⟨rfl, rfl, rfl, by decide +kernel, rfl, by decide +kernel, by decide +kernel⟩
inductive C_lnone : List Dw.Sem → Dw.Sem → Prop
  | mk (g : List Nat) : GoalOk g → chg g ≠ [] → missL g = [] → C_lnone [gS g] (dt (.bool true))
theorem ok_lnone (g : G mg) (N : NoLogOk K mg C) (exm : PySem.W.exmOne K (.ref C) (.ref C) = some true) (F1 : FnX P w K mg base "least_log" 4 ["goal"] (spR C_possX (.ref C) K)) (F2 : FnX P w K mg base "fewest_copies" 4 ["goal"] (spR C_possX (.ref C) K)) (F : FnQ K "_law_none" s_law_none f fd) : FnOk P w K mg base CX0 5 f fd ["_law_goal_here"] (spP C_lnone K) := by
  have nd := sc_lnone.nd
  refine fn_pure F sc_lnone (fun ss s h => by cases h; rfl) (fun cdv A outer s H E hr ss r h => ?_)
  obtain ⟨go, h, h1, h2⟩ := h
  refine w_asgL 1 nd pl0 rfl fun p => ?_
  refine ws_cons (s_tryN (i := 0) F1 hr (Nat.le_refl _) rfl rfl rfl ⟨rfl, by decide, .inl N.g⟩ exm rfl (.mk go h h1 h2) rfl (.inl rfl) fun a oe d pn hz hf => ?_)
  refine w_append (ds := []) 1 px_bl rfl (by decide) (ws_nil ?_)
  refine ws_cons (s_tryN (i := 0) F2 hr (Nat.le_refl _) rfl rfl rfl ⟨rfl, by decide, .inl N.g⟩ exm rfl (.mk go h h1 h2) rfl (.inl rfl) fun a oe d pn hz hf => ?_)
  refine w_append (ds := [.bool true]) 1 px_bl rfl (by decide) (ws_nil ?_)
  exact w_ret (px_eqd (px_eqI (cr_len g.len (pnl 1) (n := 2) rfl) px_int) rfl) fr_bool rfl
end
end H77
set_option Elab.async false
set_option linter.all false
set_option maxRecDepth 100000
set_option maxHeartbeats 1000000
namespace H77
open PySem PySem.Spec PyProof.Rows L2 Dw R77
theorem eqv_nI : ∀ (l m : List Nat), PyData.eqv (.tuple (nI l)) (.tuple (nI m)) = decide (l = m)
  | [], [] => rfl
  | [], _ :: _ => rfl
  | _ :: _, [] => rfl
  | a :: l, b :: m => by
    have ih := eqv_nI l m
    have e : PyData.eqv (.tuple (nI (a :: l))) (.tuple (nI (b :: m))) = (((a : Int) == (b : Int)) && PyData.eqv (.tuple (nI l)) (.tuple (nI m))) := rfl
    rw [e, ih, Bool.eq_iff_iff]
    simp
    omega
theorem sh_tI (l : List Nat) : SeqAt.shaped (.tuple (nI l)) = true := sh_nI l
/-- what the law asks of a least log of a safe goal -/
structure SafeFacts (g : List Nat) (log : List Pr) : Prop where
  lo : LogOk log g.length
  idle : idle log g.length = []
  top : topOf log g.length = none
  mark : markOf log g.length = none
  late : lateOf log g.length = none
  away : awayL g = []
  so : LgOk (safeL g) g.length
  sf : fin (safeL g) g.length = g
  sl : (safeL g).length = log.length
theorem runOf_none {g : List Nat} {log : List Pr} (s : SafeFacts g log) (wd : Str) : runOf wd log g.length = none := by
  unfold runOf
  split
  · unfold topRun; rw [s.top]; rfl
  · split
    · unfold markRun; rw [s.mark]; rfl
    · unfold lateRun; rw [s.late]; rfl
section
variable {P : Program} {w : World} {K : PySem.W.Frag} {mg : Str → Option Value} {base : Heap} {f : Addr} {fd : FuncData}
theorem sc_unspoilt : FnScope ["_law_lines", "_law_goal_here", "_law_blocks", "_law_word", "_law_told", "_law_pairs_here"] ["_law_lines", "_law_goal_here"] (defScope s_law_unspoilt) := ⟨rfl, rfl, rfl, by decide +kernel, rfl, by decide +kernel, by decide +kernel⟩
inductive C_unspoilt : List Dw.Sem → Dw.Sem → Prop
  | mk (g : List Nat) (log : List Pr) : GoalOk g → SafeFacts g log → C_unspoilt [dt (.list (log.map cpD)), gS g] (dt (.bool true))
theorem ok_unspoilt (g : G mg) (T1 : Fn P w K mg base "top_spoiler" 5 ["script", "blocks"] (spP C_top_sp K)) (T2 : Fn P w K mg base "mark_spoiler" 5 ["script", "blocks"] (spP C_mark_sp K)) (T3 : Fn P w K mg base "late_spoiler" 5 ["script", "blocks"] (spP C_late_sp K)) (T4 : Fn P w K mg base "strength" 5 ["script", "blocks"] (spP C_strength K))
    (T5 : Fn P w K mg base "spoiling_run" 6 ["script", "blocks", "word"] (spU C_sr1 C_sr2 K)) (T6 : Fn P w K mg base "safe_log" 4 ["goal"] (spL C_safe K)) (T7 : Fn P w K mg base "_law_pairs" 2 ["_law_told", "_law_blocks"] (spL C_lpairs K)) (T8 : Fn P w K mg base "_law_images" 1 ["_law_pairs_here", "_law_blocks"] (spL C_origin_rows K)) (F : FnQ K "_law_unspoilt" s_law_unspoilt f fd) : FnOk P w K mg base CX0 7 f fd ["_law_lines", "_law_goal_here"] (spP C_unspoilt K) := by
  have nd := sc_unspoilt.nd
  refine fn_pure F sc_unspoilt (fun ss s h => by cases h; rfl) (fun cdv A outer s H E hr ss r h => ?_)
  obtain ⟨go, log, h, sf⟩ := h
  have hu := room_u hr
  have hlen := sf.lo.len
  refine w_asg 2 nd (cr_lenT g.len (pnx 1) (n := go.length) (by simp)) fr_int ?_
  refine w_when (pb_or2 (pb_notN (c2 T1 hr (px_new (pl_l g.list (pn 0) (.inl rfl))) (pn 2) (.mk log go.length sf.lo))) fun _ => pb_notN (c2 T2 hr (px_new (pl_l g.list (pn 0) (.inl rfl))) (pn 2) (.mk log go.length sf.lo))) (fun z => by rw [sf.top, sf.mark] at z; cases z) fun _ => ?_
  refine w_when (pb_or2 (pb_notN (c2 T3 hr (px_new (pl_l g.list (pn 0) (.inl rfl))) (pn 2) (.mk log go.length sf.lo))) fun _ => pb_neS (c2 T4 hr (px_new (pl_l g.list (pn 0) (.inl rfl))) (pn 2) (.late log go.length sf.lo sf.top sf.late)) px_str) (fun z => by rw [sf.late] at z; exact absurd z (by decide)) fun _ => ?_
  refine w_for (fun i Γ => ∃ t3 t4 t5, Γ = [.dat (dt (.list (log.map cpD))), .dat (gS go), .dat (dt (.int (go.length : Nat))), t3, t4, t5]) (wi_new (L := (["top", "mark", "late"] : List Str)) (f := fun (x : Str) => .str x) (pl_ (ds := [.str "top", .str "mark", .str "late"]) (pxs_cons px_str (pxs_cons px_str (pxs_cons px_str pxs_nil rfl) rfl) rfl)) fun _ _ => rfl) ⟨_, _, _, rfl⟩ (gpn 3 nd) (fun i wd Γ' ha iv => ?_) (fun Γ' iv => ?_)
  · obtain ⟨t3, t4, t5, rfl⟩ := iv
    refine gn 3 nd ?_
    exact w_when (pb_notN (c3 T5.one hr (px_new (pl_l g.list (pn 0) (.inl rfl))) (pn 2) (pn 3) (.mk log go.length wd sf.lo sf.idle (List.mem_of_getElem? ha) (runOf_none sf wd)))) (fun z => by cases z) fun _ => ws_nil ⟨_, _, _, rfl⟩
  · obtain ⟨t3, t4, t5, rfl⟩ := iv
    refine w_asgL 4 nd (l1 T6 hr (pn 1) (.mk go h sf.away)) (tupds_map fun _ _ => rfl) fun p4 => ?_
    refine w_when (pb_or2 (pb_not (pb_val (i_list true g (pnl 4)))) fun _ => pb_neI (cr_len g.len (pnl 4) (n := log.length) (by simp [sf.sl])) (cr_len g.len (pn 0) (n := log.length) (by simp))) (fun z => by simp at z) fun _ => ?_
    refine w_asgL 5 nd (l2 T7 hr (pnl 4) (pn 2) (.mk (safeL go) go.length sf.so)) (tupds_map fun _ _ => rfl) fun p5 => ?_
    refine w_ret (px_eqd (px_and2 (px_notN (pnl 5)) fun _ => px_eqD hu (sh_tI (fin (safeL go) go.length)) (sh_tI go) (px_ixL (px_new (l2 T8 hr (pnl 5) (pn 2) (.mk (safeL go) go.length sf.so.n12 sf.so.len sf.so.ok))) (px_neg px_int) (row_last _ _)) (pnx 1)) ?_) fr_bool rfl
    rw [eqv_nI, sf.sf]
    simp [Dw.isNon]
end
end H77
set_option Elab.async false
set_option linter.all false
set_option maxRecDepth 100000
set_option maxHeartbeats 1000000
namespace H77
open PySem PySem.Spec PyProof.Rows L2 Dw R77
/-- what the law asks of a least log of a goal that is not safe -/
structure SpoiltFacts (g : List Nat) (log : List Pr) : Prop where
  lo : LogOk log g.length
  idle : idle log g.length = []
  fin : fin log g.length = g
  top : topOf log g.length ≠ none
  mark : markOf log g.length ≠ none
  late : lateOf log g.length ≠ none
  lmark : lmarkOf log g.length = markOf log g.length
  away : awayL g ≠ []
  runs : ∀ wd : Word, ∃ run, runOf (wordS wd) log g.length = some run ∧ Spoils wd log g.length run
theorem eqv_o2 (o : Option (Nat × Nat)) : PyData.eqv (o2D o) (o2D o) = true := by
  cases o with
  | none => rfl
  | some p => show ((p.1 : Int) == (p.1 : Int) && ((p.2 : Int) == (p.2 : Int) && true)) = true; simp
theorem sh_o2 (o : Option (Nat × Nat)) : SeqAt.shaped (o2D o) = true := by cases o <;> rfl
theorem away_of (g : List Nat) : ((List.range g.length).filter fun v => g.contains v && !decide (g.getD v 0 = v)) = awayL g := rfl
section
variable {P : Program} {w : World} {K : PySem.W.Frag} {mg : Str → Option Value} {base : Heap} {f : Addr} {fd : FuncData} {C : Addr}
theorem sc_spoilt : FnScope ["_law_lines", "_law_pairs_here", "_law_goal_here", "_law_blocks", "_law_top_here", "_law_mark_here", "_law_late_here", "_law_word", "_law_end", "_law_refused", "raised", "_law_away", "_law_value"] ["_law_lines", "_law_pairs_here", "_law_goal_here"] (defScope s_law_spoilt) := ⟨rfl, rfl, rfl, by decide +kernel, rfl, by decide +kernel, by decide +kernel⟩
inductive C_spoilt : List Dw.Sem → Dw.Sem → Prop
  | mk (g : List Nat) (log : List Pr) : GoalOk g → SpoiltFacts g log → C_spoilt [dt (.list (log.map cpD)), dt (.list (log.map prD)), gS g] (dt (.bool true))
theorem ok_spoilt (g : G mg) (hm : mg "NoSafeLog" = some (.ref C)) (exm : PySem.W.exmOne K (.ref C) (.ref C) = some true) (xf : XfC K C) (xno : PySem.W.findIn K (.ref C) "value" = some none)
    (T1 : Fn P w K mg base "top_spoiler" 5 ["script", "blocks"] (spP C_top_sp K)) (T2 : Fn P w K mg base "mark_spoiler" 5 ["script", "blocks"] (spP C_mark_sp K)) (T3 : Fn P w K mg base "late_spoiler" 5 ["script", "blocks"] (spP C_late_sp K)) (T4 : Fn P w K mg base "strength" 5 ["script", "blocks"] (spP C_strength K))
    (T5 : Fn P w K mg base "spoiling_run" 6 ["script", "blocks", "word"] (spU C_sr1 C_sr2 K)) (T6 : FnX P w K mg base "safe_log" 4 ["goal"] (spR C_safeX (.ref C) K)) (L1 : Fn P w K mg base "_law_row" 2 ["_law_told"] (spP C_row K)) (L2 : Fn P w K mg base "_law_whole" 1 ["_law_told"] (spP C_whole K)) (L2h : FnP P w K mg base "_law_whole" 1 ["_law_told"] (spP C_whole K))
    (L3 : Fn P w K mg base "_law_top" 2 ["_law_pairs_here", "_law_goal_here"] (spP C_ltop K)) (L4 : Fn P w K mg base "_law_mark" 1 ["_law_pairs_here", "_law_blocks"] (spP C_lmark K)) (L5 : Fn P w K mg base "_law_late" 1 ["_law_pairs_here", "_law_goal_here"] (spP C_llate K)) (L6 : Fn P w K mg base "_law_played" 3 ["_law_pairs_here", "_law_blocks", "_law_word", "_law_run"] (spP C_played K))
    (F : FnQ K "_law_spoilt" s_law_spoilt f fd) : FnOk P w K mg base CX0 7 f fd ["_law_lines", "_law_pairs_here", "_law_goal_here"] (spP C_spoilt K) := by
  have nd := sc_spoilt.nd
  refine fn_pure F sc_spoilt (fun ss s h => by cases h; rfl) (fun cdv A outer s H E hr ss r h => ?_)
  obtain ⟨go, log, h, sf⟩ := h
  have hu := room_u hr
  have hlen := sf.lo.len
  have ho : LgOk log go.length := ⟨sf.lo.n12, sf.lo.len, sf.lo.ok⟩
  have hfg : gS (R77.fin log go.length) = gS go := by rw [sf.fin]
  obtain ⟨tp, etp⟩ := Option.ne_none_iff_exists'.mp sf.top
  obtain ⟨mk, emk⟩ := Option.ne_none_iff_exists'.mp sf.mark
  obtain ⟨lt, elt⟩ := Option.ne_none_iff_exists'.mp sf.late
  refine w_asg 3 nd (cr_lenT g.len (pnx 2) (n := go.length) (by simp)) fr_int ?_
  refine w_asg 4 nd (px_eq (c2 T1 hr (px_new (pl_l g.list (pn 0) (.inl rfl))) (pn 3) (.mk log go.length sf.lo)) (by rw [etp])) (fr_dt (tup_o2 (some tp))) ?_
  refine w_asg 5 nd (px_eq (c2 T2 hr (px_new (pl_l g.list (pn 0) (.inl rfl))) (pn 3) (.mk log go.length sf.lo)) (by rw [emk])) (fr_dt (tup_o2 (some mk))) ?_
  refine w_asg 6 nd (px_eq (c2 T3 hr (px_new (pl_l g.list (pn 0) (.inl rfl))) (pn 3) (.mk log go.length sf.lo)) (by rw [elt])) (fr_dt (tup_o1 (some lt))) ?_
  refine w_when (pb_or2 (pb_not (pb_val (c1 L1 hr (pn 4) (.mk [(tp.1 : Int), (tp.2 : Int)])))) fun _ => pb_neD hu (sh_o2 (some tp)) (sh_o2 (some tp)) (pn 4) (px_eq (c2 L3 hr (pn 1) (px_eq (pn 2) hfg.symm) (.mk log go.length ho)) (by rw [etp]))) (fun z => ?_) fun _ => ?_
  · rw [eqv_o2] at z
    simp at z
  refine w_when (pb_or2 (pb_not (pb_val (c1 L1 hr (pn 5) (.mk [(mk.1 : Int), (mk.2 : Int)])))) fun _ => pb_neD hu (sh_o2 (some mk)) (sh_o2 (some mk)) (pn 5) (px_eq (c2 L4 hr (pn 1) (pn 3) (.mk log go.length ho)) (by rw [sf.lmark, emk]))) (fun z => ?_) fun _ => ?_
  · rw [eqv_o2] at z
    simp at z
  refine w_when (pb_or2 (pb_not (pb_val (c1 L2 hr (pn 6) (.mk (lt : Int))))) fun _ => pb_neI (i := (lt : Int)) (j := (lt : Int)) (pn 6) (px_eq (c2 L5 hr (pn 1) (px_eq (pn 2) hfg.symm) (.mk log go.length ho)) (by rw [elt]; rfl))) (fun z => by simp at z) fun _ => ?_
  refine w_for (fun i Γ => ∃ t7 t8 t9 t10 t11 t12, Γ = [.dat (dt (.list (log.map cpD))), .dat (dt (.list (log.map prD))), .dat (gS go), .dat (dt (.int (go.length : Nat))), .dat (dt (o2D (some tp))), .dat (dt (o2D (some mk))), .dat (dt (o1D (some lt))), t7, t8, t9, t10, t11, t12]) (wi_new (L := ([Word.top, Word.mark, Word.late] : List Word)) (f := fun wd => .str (wordS wd)) (pl_ (ds := [.str "top", .str "mark", .str "late"]) (pxs_cons px_str (pxs_cons px_str (pxs_cons px_str pxs_nil rfl) rfl) rfl)) fun _ _ => rfl) ⟨_, _, _, _, _, _, rfl⟩ (gpn 7 nd) (fun i wd Γ' ha iv => ?_) (fun Γ' iv => ?_)
  · obtain ⟨t7, t8, t9, t10, t11, t12, rfl⟩ := iv
    obtain ⟨run, hrun, sp⟩ := sf.runs wd
    refine gn 7 nd ?_
    have hw : wordS wd ∈ (["top", "mark", "late"] : List Str) := by cases wd <;> decide
    refine w_asg 8 nd (px_call L6 hr (by decide) rfl (pxs_cons (pn 1) (pxs_cons (pn 3) (pxs_cons (pn 7) (pxs_cons (px_new (l3 T5.lst hr (px_new (pl_l g.list (pn 0) (.inl rfl))) (pn 3) (pn 7) (.mk log go.length (wordS wd) run sf.lo sf.idle hw hrun))) pxs_nil)))) (.mk log go.length wd run ho sp.follows sp.ends)) (fr_tup (tupds_nI _)) ?_
    refine w_when (pb_or2 (pb_isN (pn 8)) fun _ => pb_eqD hu (sh_tI _) (sh_tI go) (pn 8) (pnx 2)) (fun z => ?_) fun _ => ws_nil ⟨_, _, _, _, _, _, rfl⟩
    rw [eqv_nI] at z
    have hw2 := sp.wrong
    rw [sf.fin] at hw2
    simp [Dw.isNon, hw2] at z
  obtain ⟨t7, t8, t9, t10, t11, t12, rfl⟩ := iv
  refine w_asg 9 nd px_bl fr_bool ?_
  have h12 := h.n12
  have h0 : 0 < (awayL go).length := List.length_pos_iff.mpr sf.away
  refine ws_cons (s_tryAs (i := 2) (j := 10) (f := "value") T6 hr (Nat.le_of_ble_eq_true rfl) rfl rfl rfl ⟨rfl, by decide, .inl hm⟩ exm rfl (.mk go h sf.away) rfl (.inr (.inl rfl)) nd rfl (by simp) rfl fun a oe d pins hz hf => ?_)
  refine w_asgC 11 nd (lcx_lcH (own := [("_law_value", 12)]) (L := List.range go.length) (test := fun v => go.contains v && !decide (go.getD v 0 = v)) (val := fun (v : Nat) => .int v) (bnd := fun v => (wipeE _ [12]).set 12 (some (dt (.int (v : Nat))))) (hotc_suite hz hf) nd (pit_rangeG g.range (pn 3) (by omega)) (blkOk_by rfl) (fun _ _ _ _ _ => gpn 12 nd) .one (fun v _ => gp_name (by simp)) (fun v hv _ _ _ _ _ => pb_eq (pb_and2 (pb_inT (ns := iN go) (pn 12) (px_eqd (pnx 2) (by rw [dI_nI]))) fun _ => pb_neI (px_ixT (pnx 2) (pn 12) (at_nI (r := go) (i := v) (List.mem_range.mp hv))) (pn 12)) (by rw [mem_nI, dec_nat])) (fun v _ _ _ _ _ _ _ => pn 12) (fun _ _ _ => rfl) (by simp; omega)) (tupds_nI (awayL go)) fun p11 => ?_
  refine w_asg 9 nd (px_eqd (px_and2 (px_callH L2h (L2H.roomH_mark hr _) (hotc_suite hz hf) (Nat.le_of_ble_eq_true rfl : 1 ≤ 6) (pxs_cons (px_xf xf xno hz hf (pn 10)) pxs_nil) (.mk _)) fun _ => px_eqI (px_xf xf xno hz hf (pn 10)) (px_ixL (pnl 11) px_int (at_nI (r := awayL go) (i := 0) h0))) (by simp : (PyData.bool _) = .bool true)) fr_bool (ws_nil ⟨⟨_, rfl⟩, ?_⟩)
  exact w_ret (px_eqd (px_and2 (pn 9) fun _ => px_eqS (c2 T4 hr (px_new (pl_l g.list (pn 0) (.inl rfl))) (pn 3) (.none log go.length sf.lo sf.top)) px_str) (by simp)) fr_bool rfl
end
end H77
set_option Elab.async false
set_option linter.all false
set_option maxRecDepth 100000
set_option maxHeartbeats 2000000
namespace H77
open PySem PySem.Spec PyProof.Rows L2 Dw R77
section
variable {X : Cx} {Γ : Sv} {a b : Expr} {pos p : Pos} {i j : Int}
theorem px_mul (ha : PX X Γ a (dt (.int i))) (hb : PX X Γ b (dt (.int j))) (h : CMul i j) : PX X Γ (.BinOp a .Mult b pos) (dt (.int (i * j))) := px_bin op_mul (od_I h) ha hb
theorem px_mod (ha : PX X Γ a (dt (.int i))) (hb : PX X Γ b (dt (.int j))) (h : 0 < j) : PX X Γ (.BinOp a .Mod b pos) (dt (.int (i % j))) := px_bin op_mod (od_I (C := fun _ j => 0 < j) h) ha hb
theorem px_fdv (ha : PX X Γ a (dt (.int i))) (hb : PX X Γ b (dt (.int j))) (h : CDiv i j) : PX X Γ (.BinOp a .FloorDiv b pos) (dt (.int (i / j))) := px_bin op_fdiv (od_I h) ha hb
theorem px_pow (ha : PX X Γ a (dt (.int i))) (hb : PX X Γ b (dt (.int j))) (h : CPow i j) : PX X Γ (.BinOp a .Pow b pos) (dt (.int (i ^ j.toNat))) := px_bin op_pow (od_I h) ha hb
theorem px_absI (hm : X.mg "abs" = none) (ha : PX X Γ a (dt (.int i))) (hg : Gl X "abs" := by rfl) (hs : starEach [a] X.env = (false, eval a X.env) :: starEach [] X.env := by rfl) (hp : (backTo pos (starEach [] X.env)).any (·.1) = false := by rfl) : PX X Γ (.Call (.Name "abs" p) [a] [] pos) (dt (.int (if i < 0 then -i else i))) :=
  px_of (pe_callB call_abs hg hm (by decide +kernel) pa_W (he := hs) (hpl := hp)) fun σ H Q s q => pxs_cons ha pxs_nil hs σ H _ s fun vs H1 x1 h1 => by
    cases h1 with
    | cons h1 h2 =>
      cases h2
      exact ⟨i, by rw [Dp.int_ h1], q _ H1 x1 (Dp.int _)⟩
theorem px_intI (hm : X.mg "int" = none) (ha : PX X Γ a (dt (.int i))) (hg : Gl X "int" := by rfl) (hs : starEach [a] X.env = (false, eval a X.env) :: starEach [] X.env := by rfl) (hp : (backTo pos (starEach [] X.env)).any (·.1) = false := by rfl) : PX X Γ (.Call (.Name "int" p) [a] [] pos) (dt (.int i)) :=
  px_of (pe_callTy call_int1 hg hm (by decide +kernel) pa_W (he := hs) (hpl := hp)) fun σ H Q s q => pxs_cons ha pxs_nil hs σ H _ s fun vs H1 x1 h1 => by
    cases h1 with
    | cons h1 h2 =>
      cases h2
      exact .inl ⟨i, by rw [Dp.int_ h1], q _ H1 x1 (Dp.int _)⟩
theorem px_sumI {ns : List Int} (hc : X.calm = true) (hm : X.mg "sum" = none) (ha : PX X Γ a (dt (.list (dI ns)))) (hg : Gl X "sum" := by rfl) (hs : starEach [a] X.env = (false, eval a X.env) :: starEach [] X.env := by rfl) (hp : (backTo pos (starEach [] X.env)).any (·.1) = false := by rfl) : PX X Γ (.Call (.Name "sum" p) [a] [] pos) (dt (.int ns.sum)) :=
  px_of (pe_callB (cr_sum hc) hg hm (by decide +kernel) pa_W (he := hs) (hpl := hp)) fun σ H Q s q => pxs_cons ha pxs_nil hs σ H _ s fun vs H1 x1 h1 => by
    cases h1 with
    | cons h1 h2 =>
      cases h2
      obtain ⟨c, xs, rfl, hx, hd⟩ := Dp.lst_ h1
      have e := DpAll.ints hd
      subst e
      exact ⟨c, ns, rfl, hx, q _ H1 x1 (Dp.int _)⟩
end
theorem at_dIi {r : List Int} {i : Int} (h0 : 0 ≤ i) (h : i < r.length) : atI (dI r) i = some (.int (r.getD i.toNat 0)) := by
  have := at_dI (r := r) (i := i.toNat) (by omega)
  rwa [Int.toNat_of_nonneg h0] at this
section
variable {P : Program} {w : World} {K : PySem.W.Frag} {mg : Str → Option Value} {base : Heap} {f : Addr} {fd : FuncData}
/-! _law_take -/
theorem sc_take : FnScope ["_law_box_here", "_law_many", "_law_cells", "_law_digit", "_law_number", "_law_first", "_law_second"] ["_law_box_here", "_law_many"] (defScope s_law_take) := ⟨rfl, rfl, rfl, by decide +kernel, rfl, by decide +kernel, by decide +kernel⟩
inductive C_take : List Dw.Sem → (Dw.Sem → Prop) → Prop
  | mk (m : Nat) : 0 < m → m ≤ 1000 → C_take [dt (.int (m : Nat))] (fun s => ∃ k : Nat, k < m ∧ s = dt (.int (k : Nat)))
theorem modK {i : Int} {m : Nat} (h : 0 < m) : ∃ k : Nat, k < m ∧ dt (.int (i % (m : Int))) = dt (.int (k : Nat)) := by
  have h1 := Int.emod_nonneg i (b := (m : Int)) (by omega)
  have h2 := Int.emod_lt_of_pos i (b := (m : Int)) (by omega)
  exact ⟨(i % (m : Int)).toNat, by omega, by rw [Int.toNat_of_nonneg h1]⟩
theorem ok_take (g : G mg) (F : FnQ K "_law_take" s_law_take f fd) : FnOk P w K mg base CX0 1 f fd ["_law_box_here", "_law_many"] (spM C_take K) := by
  have nd := sc_take.nd
  refine fn_mut F sc_take (fun ss s h => by cases h; rfl) (Nat.le_of_ble_eq_true rfl) (fun cdv A outer s H E hr b ds ss kk hB hC => ?_)
  obtain ⟨cs, i, m, n, sd, rfl, h0, hcl⟩ := hB
  obtain ⟨many, hm, hm2⟩ := hC
  have fin3 : ∀ (i m n nu : Int), 0 ≤ i → ∀ t3, WS (cxD P w K mg base ["_law_box_here", "_law_many", "_law_cells", "_law_digit", "_law_number", "_law_first", "_law_second"] "_law_take" (defScope s_law_take) f cdv A outer s H E) [.own b (.lst [.list (dI cs), .int i, .int m, .int n, .int sd]), .dat (dt (.int (many : Nat))), .dat (dt (.list (dI cs))), t3, .dat (dt (.int nu)), .un, .un] ((defBody s_law_take).drop 6)
      { rt := fun s' Γ' => (∃ k : Nat, k < many ∧ s' = dt (.int (k : Nat))) ∧ ∃ ds', BoxD ds' ∧ Γ'[0]? = some (.own b (.lst ds')) } := fun i m n nu h0 t3 => by
    refine w_asg 5 nd (px_mod (px_intI g.int (px_add (px_add (px_mul (pn 4) px_int (.inr (by decide))) (px_mul (px_ixL (pnl 0) px_int (d := .int n) rfl) px_int (.inr (by decide)))) px_int)) px_int (by decide)) fr_int ?_
    have e1 := Int.emod_nonneg (nu * 48271 + n * 69621 + 7919) (b := 2147483647) (by decide)
    have e2 := Int.emod_lt_of_pos (nu * 48271 + n * 69621 + 7919) (b := 2147483647) (by decide)
    generalize (nu * 48271 + n * 69621 + 7919) % 2147483647 = fi at e1 e2
    refine w_asg 6 nd (px_mod (px_intI g.int (px_add (px_add (px_mul (pn 5) (px_add (px_fdv (pn 5) px_int ⟨by decide, by decide⟩) px_int) (.inl ⟨by omega, by omega⟩)) (px_mul (px_ixL (pnl 0) px_int (d := .int n) rfl) px_int (.inr (by decide)))) (pn 4))) px_int (by decide)) fr_int ?_
    refine w_ret (px_mod (px_intI g.int (px_fdv (pn 6) px_int ⟨by decide, by decide⟩)) (pn 1) (by omega)) fr_int ⟨modK hm, _, ⟨cs, i, m, n, sd, rfl, h0, hcl⟩, rfl⟩
  have fin2 : ∀ (i m n : Int), 0 ≤ i → WS (cxD P w K mg base ["_law_box_here", "_law_many", "_law_cells", "_law_digit", "_law_number", "_law_first", "_law_second"] "_law_take" (defScope s_law_take) f cdv A outer s H E) [.own b (.lst [.list (dI cs), .int i, .int m, .int n, .int sd]), .dat (dt (.int (many : Nat))), .dat (dt (.list (dI cs))), .un, .un, .un, .un] ((defBody s_law_take).drop 3)
      { rt := fun s' Γ' => (∃ k : Nat, k < many ∧ s' = dt (.int (k : Nat))) ∧ ∃ ds', BoxD ds' ∧ Γ'[0]? = some (.own b (.lst ds')) } := fun i m n h0 => by
    refine w_when (pb_gt (px_ixL (pnl 0) px_int (d := .int m) rfl) px_int) (fun z => ?_) fun z => ?_
    · refine w_asg 3 nd (px_mod (px_intI g.int (px_ixL (pnl 0) px_int (d := .int m) rfl)) (pn 1) (by omega)) fr_int ?_
      refine w_set 0 (d := .int (m / (many : Nat))) (px_fdv (px_ixL (pnl 0) px_int (d := .int m) rfl) (pn 1) ⟨by omega, by omega⟩) rfl px_int (j := 2) rfl (ds' := [.list (dI cs), .int i, .int (m / (many : Nat)), .int n, .int sd]) rfl ?_
      exact w_ret (pn 3) fr_int ⟨modK hm, _, ⟨cs, i, _, n, sd, rfl, h0, hcl⟩, rfl⟩
    · refine w_asg 4 nd (px_ixL (pnl 0) px_int (d := .int sd) rfl) fr_int ?_
      refine w_when (b := decide (i < (cs.length : Int))) (pb_lt (px_ixL (pnl 0) px_int (d := .int i) rfl) (cr_len g.len (pn 2) (n := cs.length) (by simp))) (fun z2 => ?_) fun z2 => ?_
      · have z2 : i < (cs.length : Int) := of_decide_eq_true z2
        refine w_asg 4 nd (px_add (pn 4) (px_ixL (pn 2) (px_ixL (pnl 0) px_int (d := .int i) rfl) (at_dIi h0 z2))) fr_int ?_
        refine w_when (pb_eqI (px_mod (px_intI g.int (px_ixL (pnl 0) px_int (d := .int n) rfl)) px_int (by decide)) px_int) (fun z3 => ?_) fun z3 => ws_nil (fin3 i m n _ h0 _)
        refine w_set 0 (d := .int (i + 1)) (px_add (px_ixL (pnl 0) px_int (d := .int i) rfl) px_int) rfl px_int (j := 1) rfl (ds' := [.list (dI cs), .int (i + 1), .int m, .int n, .int sd]) rfl ?_
        exact ws_nil (ws_nil (fin3 (i + 1) m n _ (by omega) _))
      · exact fin3 i m n _ h0 _
  refine w_item 2 0 nd px_int (d := .list (dI cs)) rfl ?_
  refine w_set 0 (d := .int (n + 1)) (px_add (px_ixL (pnl 0) px_int (d := .int n) rfl) px_int) rfl px_int (j := 3) rfl (ds' := [.list (dI cs), .int i, .int m, .int (n + 1), .int sd]) rfl ?_
  refine w_when (pb_and3 (pb_eqI (px_ixL (pnl 0) px_int (d := .int m) rfl) px_int) (fun _ => pb_lt (px_ixL (pnl 0) px_int (d := .int i) rfl) (cr_len g.len (pn 2) (n := cs.length) (by simp))) fun _ z => pb_ge (px_absI g.abs (px_ixL (pn 2) (px_ixL (pnl 0) px_int (d := .int i) rfl) (at_dIi h0 (of_decide_eq_true z)))) (px_pow px_int px_int ⟨by decide, by decide, by decide⟩)) (fun z => ?_) fun z => fin2 i m (n + 1) h0
  have z2 : i < (cs.length : Int) := by
    rw [Bool.and_eq_true, Bool.and_eq_true] at z
    exact of_decide_eq_true z.2.1
  refine w_set 0 (px_absI g.abs (px_ixL (pn 2) (px_ixL (pnl 0) px_int (d := .int i) rfl) (at_dIi h0 z2))) rfl px_int (j := 2) rfl rfl ?_
  refine w_set 0 (d := .int (i + 1)) (px_add (px_ixL (pnl 0) px_int (d := .int i) rfl) px_int) rfl px_int (j := 1) rfl rfl ?_
  exact ws_nil (fin2 (i + 1) _ (n + 1) (by omega))
end
end H77
set_option Elab.async false
set_option linter.all false
set_option maxRecDepth 100000
set_option maxHeartbeats 2000000
namespace H77
open PySem PySem.Spec PyProof.Rows L2 Dw R77
section
variable {X : Cx} {Γ : Ga} {e : Expr} {pos p p2 : Pos}
/-- a draw -/
theorem z_take (i : Nat) {y : Str} {b : Addr} {ds : List PyData} {m n : Nat} {kq : V → Ga → Prop} (F : Fn X.prog X.w X.K X.mg X.base "_law_take" 1 ["_law_box_here", "_law_many"] (spM C_take X.K)) (hr : Room n X.A) (ha : PX X (frz Γ) e (dt (.int (m : Nat)))) (hm : 0 < m) (hm2 : m ≤ 1000) (hB : BoxD ds) (hq : ∀ (k : Nat) ds', k < m → BoxD ds' → kq (.int (k : Nat)) (Γ.set i (.own b (.lst ds')))) (h : Γ[i]? = some (.own b (.lst ds)) := by rfl)
    (hn : 1 ≤ n := by decide) (hg : Gl X "_law_take" := by rfl) (hN : X.N[i]? = some y := by rfl) (hv : Vis X.env.scope y := by first | exact Or.inl rfl | exact Or.inr (Or.inl rfl) | exact Or.inr (Or.inr rfl)) (hd : (y == ("__debug__" : Str)) = false := by decide) (hcd : (y == ("__classdict__" : Str)) = false := by decide)
    (he : starEach [.Name y p2, e] X.env = (false, eval (.Name y p2) X.env) :: starEach [e] X.env := by rfl) (he2 : starEach [e] X.env = (false, eval e X.env) :: starEach [] X.env := by rfl) (hpl : (backTo pos (starEach [e] X.env)).any (·.1) = false := by rfl) : ZV X Γ (.Call (.Name "_law_take" p) [.Name y p2, e] [] pos) kq :=
  zv_call i F hr (pxs_cons ha pxs_nil he2) (fun s hs => by
    have : s = dt (.int (m : Nat)) := by simpa using hs
    rw [this]
    exact @fr_int _) (.mk m hm hm2) hB (fun s ds' ⟨k, hk, e⟩ hB' => ⟨(k : Nat), e, hq k ds' hk hB'⟩) h hn hg hN hv hd hcd (by decide) he hpl
end
theorem ws_un {X : Cx} {Γ : Ga} {D : Ks} {ss : List Stmt} (j : Nat) {t : Ty} (h7 : t = .un ∨ ∃ s, t = .dat s) (k : WS X (Γ.set j .un) ss D) (h : Γ[j]? = some t := by rfl) : WS X Γ ss D := by
  rcases h7 with rfl | ⟨s, rfl⟩
  · have e : Γ.set j .un = Γ := by
      apply List.ext_getElem?
      intro i
      rw [List.getElem?_set]
      by_cases e : j = i
      · subst e
        rw [if_pos rfl, if_pos (List.getElem?_eq_some_iff.mp h).1, h]
      · rw [if_neg e]
    exact e ▸ k
  · exact ws_drop j k h
theorem dp_one {i : Int} : ∀ (K : PySem.W.Frag) (H : Hp) (x : V), Dp K H x (.int i) → x = .int i := fun _ _ _ h => Dp.int_ h
theorem dp_of {i : Int} : ∀ (K : PySem.W.Frag) (H : Hp), Dp K H (.int i) (.int i) := fun _ _ => Dp.int i
theorem nI_erase (l : List Nat) (j : Nat) : (nI l).eraseIdx j = nI (l.eraseIdx j) := by
  induction l generalizing j with
  | nil => rfl
  | cons a l ih =>
    cases j with
    | zero => rfl
    | succ j => show _ :: (nI l).eraseIdx j = _; rw [ih]; rfl
theorem nI_set (l : List Nat) (j v : Nat) : (nI l).set j (.int (v : Nat)) = nI (l.set j v) := (List.map_set ..).symm
theorem nI_at {l : List Nat} {j : Nat} (h : j < l.length) : (nI l)[j]? = some (.int (l.getD j 0 : Nat)) := by
  rw [List.getElem?_map, List.getElem?_eq_getElem h]
  simp [List.getD_eq_getElem?_getD, h]
theorem lt_set {n j v : Nat} {l : List Nat} (h : ∀ x ∈ l, x < n) (hv : v < n) : ∀ x ∈ l.set j v, x < n := fun x hx => by
  rcases List.mem_or_eq_of_mem_set hx with z | rfl
  · exact h x z
  · exact hv
/-- row[k - 1] -/
theorem at_prev {row : List Nat} {n k : Nat} (h : ∀ x ∈ row, x < n) (hk : k < row.length) : ∃ v, v < n ∧ atI (nI row) ((k : Int) - 1) = some (.int (v : Nat)) := by
  cases k with
  | zero =>
    exact ⟨lastN row, h _ (lastN_mem (List.length_pos_iff.mp hk)), at_lastN (List.length_pos_iff.mp hk)⟩
  | succ k =>
    refine ⟨row.getD k 0, h _ (getD_mem (by omega)), ?_⟩
    rw [show ((k + 1 : Nat) : Int) - 1 = (k : Nat) by omega]
    exact at_nI (by omega)
section
variable {P : Program} {w : World} {K : PySem.W.Frag} {mg : Str → Option Value} {base : Heap} {f : Addr} {fd : FuncData}
/-! _law_rings_goal -/
theorem sc_rings_goal : FnScope ["_law_box_here", "_law_blocks", "_law_goal_here", "_law_names", "_law_turn", "_law_size", "_law_row_here", "_law_k"] ["_law_box_here", "_law_blocks"] (defScope s_law_rings_goal) := ⟨rfl, rfl, rfl, by decide +kernel, rfl, by decide +kernel, by decide +kernel⟩
inductive C_rgoal : List Dw.Sem → (Dw.Sem → Prop) → Prop
  | mk (n : Nat) : 1 ≤ n → n ≤ 12 → C_rgoal [dt (.int (n : Nat))] (fun s => ∃ g, GoalOk g ∧ s = gS g)
abbrev RG (b pg pn : Addr) (n : Nat) (ds : List PyData) (goal names : List Nat) (t4 t5 t6 t7 : Ty) : Ga := [.own b (.lst ds), .dat (dt (.int (n : Nat))), .own pg (.lst (nI goal)), .own pn (.lst (nI names)), t4, t5, t6, t7]
theorem ok_rgoal (g : G mg) (F1 : Fn P w K mg base "_law_take" 1 ["_law_box_here", "_law_many"] (spM C_take K)) (F : FnQ K "_law_rings_goal" s_law_rings_goal f fd) : FnOk P w K mg base CX0 2 f fd ["_law_box_here", "_law_blocks"] (spM C_rgoal K) := by
  have nd := sc_rings_goal.nd
  refine fn_mut F sc_rings_goal (fun ss s h => by cases h; rfl) (Nat.le_of_ble_eq_true rfl) (fun cdv A outer s H E hr b ds ss kk hB hC => ?_)
  obtain ⟨n, hn1, hn⟩ := hC
  refine w_asgL 2 nd (pxl_rg rfl g.list g.range (pn 1) (by omega)) (tupds_nI _) fun pg => ?_
  refine w_asgL 3 nd (pxl_rg rfl g.list g.range (pn 1) (by omega)) (tupds_nI _) fun pn_ => ?_
  have hlt : ∀ v ∈ home n, v < n := fun v hv => List.mem_range.mp hv
  refine w_forZ 4 nd g.range (zv_add (zv_int (k := fun v Γ' => v = .int 1 ∧ Γ' = RG b pg pn_ n ds (home n) (home n) .un .un .un .un) px_int ⟨rfl, rfl⟩) fun v Γ1 hv => ?_)
  obtain ⟨rfl, rfl⟩ := hv
  refine ⟨1, rfl, z_take 0 F1 hr px_int (m := 3) (by decide) (by decide) hB fun k ds1 hk hB1 => ?_⟩
  refine ⟨(k : Nat), rfl, 1 + k, by rw [Int.natCast_add]; rfl, by omega, fun i Γ' => ∃ ds goal names t4 t5 t6 t7, Γ' = RG b pg pn_ n ds goal names t4 t5 t6 t7 ∧ (t7 = .un ∨ ∃ s, t7 = .dat s) ∧ BoxD ds ∧ goal.length = n ∧ (∀ v ∈ goal, v < n) ∧ (∀ v ∈ names, v < n) ∧ names.length ≤ 12, ⟨ds1, home n, home n, _, _, _, _, rfl, .inl rfl, hB1, by simp, hlt, hlt, by simp; omega⟩, fun i Γ' hi iv => ?_, fun Γ' iv => ?_⟩
  · obtain ⟨ds2, goal, names, t4, t5, t6, t7, rfl, h7, hB2, hgl, hgv, hnv, hnl⟩ := iv
    refine ⟨Nat.le_of_ble_eq_true rfl, ?_⟩
    refine ws_un 7 h7 ?_
    have turn0 : True := trivial
    generalize hturn : (((i : Nat) : Int)) = turn
    refine w_asgZ 5 nd (zv_min rfl g.min (zv_int (k := fun v Γ' => v = .int (names.length : Nat) ∧ Γ' = RG b pg pn_ n ds2 goal names (.dat (dt (.int turn))) t5 t6 .un) (cr_len g.len (pnl 3) (n := names.length) (by simp)) ⟨rfl, rfl⟩) fun v Γ1 hv => ?_)
    obtain ⟨rfl, rfl⟩ := hv
    refine ⟨_, rfl, zv_add (zv_int (k := fun v Γ' => v = .int 2 ∧ Γ' = RG b pg pn_ n ds2 goal names (.dat (dt (.int turn))) t5 t6 .un) px_int ⟨rfl, rfl⟩) fun v Γ1 hv => ?_⟩
    obtain ⟨rfl, rfl⟩ := hv
    refine ⟨2, rfl, z_take 0 F1 hr px_int (m := 3) (by decide) (by decide) hB2 fun k ds3 hk hB3 => ?_⟩
    refine ⟨_, rfl, _, rfl, _, rfl, ?_⟩
    obtain ⟨sz, esz, hsz, hsz2⟩ : ∃ sz : Nat, (if (2 : Int) + (k : Nat) < (names.length : Nat) then (2 : Int) + (k : Nat) else (names.length : Nat)) = (sz : Nat) ∧ sz ≤ names.length ∧ sz ≤ 4 := by
      by_cases c : (2 : Int) + (k : Nat) < (names.length : Nat)
      · exact ⟨2 + k, by rw [if_pos c]; omega, by omega, by omega⟩
      · exact ⟨names.length, by rw [if_neg c], Nat.le_refl _, by omega⟩
    rw [esz]
    refine w_asgZC 6 (zlx 7 nd g.range (pn 5) (by omega) (fun _ _ _ _ _ => gpn 7 nd) (fun i acc Γ' => ∃ ds names' row, Γ' = RG b pg pn_ n ds goal names' (.dat (dt (.int turn))) (.dat (dt (.int (sz : Nat)))) t6 .un ∧ BoxD ds ∧ acc = nI row ∧ row.length = i ∧ (∀ v ∈ row, v < n) ∧ (∀ v ∈ names', v < n) ∧ names'.length + i = names.length) ⟨ds3, names, [], rfl, hB3, rfl, rfl, (fun v hv => nomatch hv), hnv, rfl⟩ (fun i acc Γ' ⟨_, _, _, e, _⟩ => by rw [e]; rfl) (fun i acc Γ' hi iv => ?_)) fun p6 acc Γ' iv => ?_
    · obtain ⟨ds4, names', row, rfl, hB4, rfl, hrl, hrv, hnv', hnl'⟩ := iv
      intro s0 H0' C0 cl fp
      refine zv_pop 3 pn_ (z_take 0 F1 hr (cr_len g.len (pnl 3) (n := names'.length) (by simp)) (by omega) (by omega) hB4 fun k ds5 hk hB5 => ?_) rfl
      refine ⟨nI names', k, .int (names'.getD k 0 : Nat), .int (names'.getD k 0 : Nat), rfl, by omega, rfl, nI_at hk, dp_one, .int (names'.getD k 0 : Nat), dp_of, ⟨_, rfl⟩, ds5, names'.eraseIdx k, row ++ [names'.getD k 0], ?_, hB5, by simp, by rw [List.length_append, hrl]; rfl, fun v hv => ?_, fun v hv => hnv' v (List.mem_of_mem_eraseIdx hv), ?_⟩
      · rw [nI_erase]; rfl
      · rcases List.mem_append.mp hv with z | z
        · exact hrv v z
        · have : v = names'.getD k 0 := by simpa using z
          rw [this]
          exact hnv' _ (getD_mem hk)
      · rw [List.length_eraseIdx_of_lt hk]; omega
    · obtain ⟨ds4, names', row, rfl, hB4, rfl, hrl, hrv, hnv', hnl'⟩ := iv
      refine w_for (fun i Γ => ∃ goal t7, Γ = RG b pg pn_ n ds4 goal names' (.dat (dt (.int turn))) (.dat (dt (.int (sz : Nat)))) (.own p6 (.lst (nI row))) t7 ∧ (t7 = .un ∨ ∃ s, t7 = .dat s) ∧ goal.length = n ∧ (∀ v ∈ goal, v < n)) (wr g.range (pn 5) (by omega)) ⟨goal, .un, rfl, .inl rfl, hgl, hgv⟩ (gpn 7 nd) (fun i a Γ' ha iv => ?_) (fun Γ' iv => ?_)
      · obtain ⟨goal, t7, rfl, _, hgl, hgv⟩ := iv
        obtain ⟨e, hi⟩ := range_at ha
        have e : i = a := e.symm
        subst e
        obtain ⟨v, hv, hat⟩ := at_prev hrv (k := i) (by omega)
        have hri := hrv _ (getD_mem (j := i) (by omega))
        refine gn 7 nd ?_
        refine w_set 2 (px_ixL (pnl 6) (px_sub (pn 7) px_int) hat) rfl (px_ixL (pnl 6) (pn 7) (at_nI (r := row) (i := i) (by omega))) (ix_nat (i := row.getD i 0) (by rw [List.length_map, hgl]; exact hri)) (nI_set goal _ v) (ws_nil ⟨goal.set (row.getD i 0) v, _, rfl, .inr ⟨_, rfl⟩, by rw [List.length_set, hgl], lt_set hgv hv⟩)
      · obtain ⟨goal, t7, rfl, h7, hgl, hgv⟩ := iv
        exact ws_nil ⟨ds4, goal, names', _, _, _, t7, rfl, h7, hB4, hgl, hgv, hnv', by omega⟩
  · obtain ⟨ds2, goal, names, t4, t5, t6, t7, rfl, h7, hB2, hgl, hgv, hnv, hnl⟩ := iv
    have hret : ∀ (ds3 : List PyData) (goal : List Nat), BoxD ds3 → goal.length = n → (∀ v ∈ goal, v < n) → WS (cxD P w K mg base ["_law_box_here", "_law_blocks", "_law_goal_here", "_law_names", "_law_turn", "_law_size", "_law_row_here", "_law_k"] "_law_rings_goal" (defScope s_law_rings_goal) f cdv A outer s H E) (RG b pg pn_ n ds3 goal names t4 t5 t6 t7) ((defBody s_law_rings_goal).drop 4) { rt := fun s' Γ' => (∃ g, GoalOk g ∧ s' = gS g) ∧ ∃ ds', BoxD ds' ∧ Γ'[0]? = some (.own b (.lst ds')) } := fun ds3 goal hB3 hgl hgv => by
      refine w_ret (px_tupX g.tuple (pnl 2)) (fr_xt (tupds_nI _)) ⟨⟨goal, ⟨by omega, by omega, by rw [hgl]; exact hgv⟩, rfl⟩, ds3, hB3, rfl⟩
    refine w_whenZ (kb := fun _ Γ' => ∃ ds3, BoxD ds3 ∧ Γ' = RG b pg pn_ n ds3 goal names t4 t5 t6 t7) (zb_gt (z_take 0 F1 hr px_int (m := 4) (by decide) (by decide) hB2 (kq := fun v Γ' => ∃ k ds3, v = .int k ∧ BoxD ds3 ∧ Γ' = RG b pg pn_ n ds3 goal names t4 t5 t6 t7) fun k ds3 hk hB3 => ⟨_, ds3, rfl, hB3, rfl⟩) fun v Γ1 hv => ?_) fun bb Γ' hv => ?_
    · obtain ⟨k, ds3, rfl, hB3, rfl⟩ := hv
      exact ⟨k, rfl, zv_int px_int ⟨0, rfl, ds3, hB3, rfl⟩⟩
    · obtain ⟨ds3, hB3, rfl⟩ := hv
      refine ⟨fun _ => ?_, fun _ => hret ds3 goal hB3 hgl hgv⟩
      refine w_setZ 2 (pa := pg) (z_take 0 F1 hr (pn 1) (m := n) (by omega) (by omega) hB3 fun k ds4 hk hB4 => ⟨⟨_, rfl⟩, z_take 0 F1 hr (pn 1) (m := n) (by omega) (by omega) hB4 fun k2 ds5 hk2 hB5 => ⟨nI goal, (k2 : Nat), k2, .int (k : Nat), rfl, rfl, ix_nat (by rw [List.length_map, hgl]; exact hk2), dp_of, ws_nil ?_⟩⟩)
      rw [nI_set]
      exact hret ds5 _ hB5 (by rw [List.length_set, hgl]) (lt_set hgv hk)
end
end H77
set_option Elab.async false
set_option linter.all false
set_option maxRecDepth 100000
set_option maxHeartbeats 2000000
namespace H77
open PySem PySem.Spec PyProof.Rows L2 Dw R77
theorem dp_bl {i : Bool} : ∀ (K : PySem.W.Frag) (H : Hp), Dp K H (.bl i) (.bool i) := fun _ _ => Dp.bl i
theorem bI_set (l : List Bool) (j : Nat) (v : Bool) : (bI l).set j (.bool v) = bI (l.set j v) := (List.map_set ..).symm
section
variable {P : Program} {w : World} {K : PySem.W.Frag} {mg : Str → Option Value} {base : Heap} {f : Addr} {fd : FuncData}
/-! _law_goal -/
theorem sc_goal : FnScope ["_law_box_here", "_law_blocks", "_law_way", "_law_at_home", "_law_homes", "_law_goal_here", "_law_k"] ["_law_box_here"] (defScope s_law_goal) := ⟨rfl, rfl, rfl, by decide +kernel, rfl, by decide +kernel, by decide +kernel⟩
inductive C_goal : List Dw.Sem → (Dw.Sem → Prop) → Prop
  | mk : C_goal [] (fun s => ∃ g, GoalOk g ∧ s = gS g)
abbrev GG (b : Addr) (n : Nat) (way : Int) (ds : List PyData) (t3 t4 t5 t6 : Ty) : Ga := [.own b (.lst ds), .dat (dt (.int (n : Nat))), .dat (dt (.int way)), t3, t4, t5, t6]
theorem ok_goal (g : G mg) (F1 : Fn P w K mg base "_law_take" 1 ["_law_box_here", "_law_many"] (spM C_take K)) (F2 : Fn P w K mg base "_law_rings_goal" 2 ["_law_box_here", "_law_blocks"] (spM C_rgoal K)) (F : FnQ K "_law_goal" s_law_goal f fd) : FnOk P w K mg base CX0 3 f fd ["_law_box_here"] (spM C_goal K) := by
  have nd := sc_goal.nd
  refine fn_mut F sc_goal (fun ss s h => by cases h; rfl) (Nat.le_of_ble_eq_true rfl) (fun cdv A outer s H E hr b ds ss kk hB hC => ?_)
  cases hC
  refine w_asgZ 1 nd (zv_add (zv_int (k := fun v Γ' => v = .int 1 ∧ Γ' = [.own b (.lst ds), .un, .un, .un, .un, .un, .un]) px_int ⟨rfl, rfl⟩) fun v Γ1 hv => ?_)
  obtain ⟨rfl, rfl⟩ := hv
  refine ⟨1, rfl, zv_mod (k1 := fun v Γ' => ∃ k : Nat, v = .int ((k : Nat) + 4) ∧ ∃ ds, BoxD ds ∧ Γ' = [.own b (.lst ds), .un, .un, .un, .un, .un, .un]) (zv_intc g.int (zv_add (z_take 0 F1 hr px_int (m := 12) (by decide) (by decide) hB (kq := fun v Γ' => ∃ k : Nat, v = .int (k : Nat) ∧ ∃ ds, BoxD ds ∧ Γ' = [.own b (.lst ds), .un, .un, .un, .un, .un, .un]) fun k ds1 hk hB1 => ⟨k, rfl, ds1, hB1, rfl⟩) fun v Γ1 hv => ?_)) fun v Γ1 hv => ?_⟩
  · obtain ⟨k, rfl, ds1, hB1, rfl⟩ := hv
    exact ⟨_, rfl, zv_int px_int ⟨_, rfl, _, rfl, k, rfl, ds1, hB1, rfl⟩⟩
  obtain ⟨k, rfl, ds1, hB1, rfl⟩ := hv
  refine ⟨_, rfl, zv_int px_int ⟨12, rfl, by decide, _, rfl, _, rfl, ?_⟩⟩
  obtain ⟨n, en, hn1, hn⟩ : ∃ n : Nat, (1 : Int) + ((k : Nat) + 4) % 12 = (n : Nat) ∧ 1 ≤ n ∧ n ≤ 12 := ⟨1 + (k + 4) % 12, by omega, by omega, by omega⟩
  rw [en]
  refine w_asgZ 2 nd (z_take 0 F1 hr px_int (m := 8) (by decide) (by decide) hB1 fun k ds2 hk hB2 => ⟨_, rfl, ?_⟩)
  generalize ((k : Nat) : Int) = way
  -- way > 5
  refine w_when (b := decide (5 < way)) (pb_gt (pn 2) px_int) (fun _ => ?_) fun _ => ?_
  · refine w_retZ (zx_tupX g.tuple (zlx 6 nd g.range (pn 1) (by omega) (fun _ _ _ _ _ => gpn 6 nd) (fun i acc Γ' => ∃ ds row, Γ' = GG b n way ds .un .un .un .un ∧ BoxD ds ∧ acc = nI row ∧ row.length = i ∧ ∀ v ∈ row, v < n) ⟨ds2, [], rfl, hB2, rfl, rfl, fun v hv => nomatch hv⟩ (fun i acc Γ' ⟨_, _, e, _⟩ => by rw [e]; rfl) (fun i acc Γ' hi iv => ?_)) (kq := fun s Γ' => (∃ g, GoalOk g ∧ s = gS g) ∧ ∃ ds', BoxD ds' ∧ Γ'[0]? = some (.own b (.lst ds'))) fun acc Γ' iv => ?_) fun s Γ' h => h
    · obtain ⟨ds3, row, rfl, hB3, rfl, hrl, hrv⟩ := iv
      intro s0 H0' C0 cl fp
      refine z_take 0 F1 hr (pn 1) (m := n) (by omega) (by omega) hB3 fun k ds4 hk hB4 => ?_
      refine ⟨.int (k : Nat), dp_of, ⟨_, rfl⟩, ds4, row ++ [k], rfl, hB4, by simp, by rw [List.length_append, hrl]; rfl, fun v hv => ?_⟩
      rcases List.mem_append.mp hv with z | z
      · exact hrv v z
      · have : v = k := by simpa using z
        omega
    · obtain ⟨ds3, row, rfl, hB3, rfl, hrl, hrv⟩ := iv
      exact ⟨⟨row, ⟨by omega, by omega, by rw [hrl]; exact hrv⟩, rfl⟩, ds3, hB3, rfl⟩
  -- way > 2
  refine w_when (b := decide (2 < way)) (pb_gt (pn 2) px_int) (fun _ => ?_) fun _ => ?_
  · refine w_retZ (zx_call 0 F2 hr (pxs_cons (pn 1) pxs_nil) (fun s hs => by
      have : s = dt (.int (n : Nat)) := by simpa using hs
      rw [this]
      exact @fr_int _) (.mk n hn1 hn) hB2 (kq := fun s Γ' => (∃ g, GoalOk g ∧ s = gS g) ∧ ∃ ds', BoxD ds' ∧ Γ'[0]? = some (.own b (.lst ds'))) fun s ds' hk hB' => ⟨hk, ds', hB', rfl⟩) fun s Γ' h => h
  -- homes drawn
  refine w_asgZP 3 nd (zlx 6 nd g.range (pn 1) (by omega) (fun _ _ _ _ _ => gpn 6 nd) (fun i acc Γ' => ∃ ds bs, Γ' = GG b n way ds .un .un .un .un ∧ BoxD ds ∧ acc = bI bs ∧ bs.length = i) ⟨ds2, [], rfl, hB2, rfl, rfl⟩ (fun i acc Γ' ⟨_, _, e, _⟩ => by rw [e]; rfl) (fun i acc Γ' hi iv => ?_)) fun p3 acc Γ' iv => ?_
  · obtain ⟨ds3, bs, rfl, hB3, rfl, hbl⟩ := iv
    intro s0 H0' C0 cl fp
    refine zv_eqI (z_take 0 F1 hr px_int (m := 2) (by decide) (by decide) hB3 (kq := fun v Γ' => ∃ k : Nat, v = .int (k : Nat) ∧ ∃ ds, BoxD ds ∧ Γ' = (GG b n way ds .un .un .un .un).set 6 (.dat (dt (.int (i : Nat))))) fun k ds4 hk hB4 => ⟨k, rfl, ds4, hB4, rfl⟩) fun v Γ1 hv => ?_
    obtain ⟨k, rfl, ds4, hB4, rfl⟩ := hv
    exact ⟨_, rfl, zv_int px_int ⟨1, rfl, .bool (decide ((k : Int) = 1)), dp_bl, ⟨_, rfl⟩, ds4, bs ++ [decide ((k : Int) = 1)], rfl, hB4, by simp, by rw [List.length_append, hbl]; rfl⟩⟩
  obtain ⟨ds3, bs, rfl, hB3, rfl, hbl⟩ := iv
  refine w_setZ 3 (pa := p3) (zv_bl px_bl ⟨⟨_, rfl⟩, z_take 0 F1 hr (pn 1) (m := n) (by omega) (by omega) hB3 fun k ds4 hk hB4 => ⟨bI bs, (k : Nat), k, .bool true, rfl, rfl, ix_nat (by rw [List.length_map, hbl]; exact hk), dp_bl, ?_⟩⟩)
  rw [bI_set]
  have hbk : (bs.set k true).getD k false = true := by simp [List.getD_eq_getElem?_getD, hbl, hk]
  have hbl : (bs.set k true).length = n := by rw [List.length_set, hbl]
  generalize bs.set k true = bs at hbk hbl
  have hmem : k ∈ (List.range n).filter fun v => bs.getD v false := List.mem_filter.mpr ⟨List.mem_range.mpr hk, hbk⟩
  have hhl : ∀ v ∈ (List.range n).filter (fun v => bs.getD v false), v < n := fun v hv => List.mem_range.mp (List.mem_filter.mp hv).1
  have hhn : ((List.range n).filter fun v => bs.getD v false).length ≤ n := Nat.le_trans (List.length_filter_le _ _) (by simp)
  refine w_asgL 4 nd (lc1f 6 (L := List.range n) (f := fun (v : Nat) => .int v) (test := fun v => bs.getD v false) (val := fun (v : Nat) => .int v) nd (pr g.range (pn 1) (by omega)) (fun v hv _ _ _ _ _ => pb_val (px_ixL (pnl 3) (pn 6) (at_bI (r := bs) (i := v) (by rw [hbl]; exact List.mem_range.mp hv)))) (fun v _ _ _ _ _ _ _ => pn 6) (fun _ _ => rfl) (by simp; omega) (fun _ _ _ _ _ => gpn 6 nd)) (tupds_nI _) fun p4 => ?_
  generalize (List.range n).filter (fun v => bs.getD v false) = homes at hmem hhl hhn
  have hh0 := List.length_pos_of_mem hmem
  refine w_asgZC 5 (zlx 6 nd g.range (pn 1) (by omega) (fun _ _ _ _ _ => gpn 6 nd) (fun i acc Γ' => ∃ ds row, Γ' = GG b n way ds (.own p3 (.lst (bI bs))) (.own p4 (.lst (nI homes))) .un .un ∧ BoxD ds ∧ acc = nI row ∧ row.length = i ∧ ∀ v ∈ row, v < n) ⟨ds4, [], rfl, hB4, rfl, rfl, fun v hv => nomatch hv⟩ (fun i acc Γ' ⟨_, _, e, _⟩ => by rw [e]; rfl) (fun i acc Γ' hi iv => ?_)) fun p5 acc Γ' iv => ?_
  · obtain ⟨ds5, row, rfl, hB5, rfl, hrl, hrv⟩ := iv
    intro s0 H0' C0 cl fp
    have fin_ : ∀ (v : Nat) ds6, v < n → BoxD ds6 → ∃ d, (∀ K H, Dp K H (.int (v : Nat)) d) ∧ (∃ t, ((GG b n way ds6 (.own p3 (.lst (bI bs))) (.own p4 (.lst (nI homes))) .un .un).set 6 (.dat (dt (.int (i : Nat)))))[6]? = some (.dat t)) ∧ ∃ ds7 row', ((GG b n way ds6 (.own p3 (.lst (bI bs))) (.own p4 (.lst (nI homes))) .un .un).set 6 (.dat (dt (.int (i : Nat))))).set 6 .un = GG b n way ds7 (.own p3 (.lst (bI bs))) (.own p4 (.lst (nI homes))) .un .un ∧ BoxD ds7 ∧ nI row ++ [d] = nI row' ∧ row'.length = i + 1 ∧ ∀ v ∈ row', v < n := fun v ds6 hv hB6 => by
      refine ⟨.int (v : Nat), dp_of, ⟨_, rfl⟩, ds6, row ++ [v], rfl, hB6, by simp, by rw [List.length_append, hrl]; rfl, fun x hx => ?_⟩
      rcases List.mem_append.mp hx with z | z
      · exact hrv x z
      · have : x = v := by simpa using z
        omega
    refine zv_if (kk := bs.getD i false) (pb_val (px_ixL (pnl 3) (pn 6) (at_bI (r := bs) (i := i) (by omega)))) (fun _ => zv_int (pn 6) (fin_ i ds5 hi hB5)) fun _ => ?_
    refine zv_ix 4 p4 (z_take 0 F1 hr (cr_len g.len (pnl 4) (n := homes.length) (by simp)) (by omega) (by omega) hB5 fun k2 ds6 hk2 hB6 => ?_) ⟨_, rfl⟩
    exact ⟨nI homes, (k2 : Nat), .int (homes.getD k2 0 : Nat), .int (homes.getD k2 0 : Nat), rfl, rfl, at_nI hk2, dp_one, fin_ _ ds6 (hhl _ (getD_mem hk2)) hB6⟩
  obtain ⟨ds5, row, rfl, hB5, rfl, hrl, hrv⟩ := iv
  have hret : ∀ (ds3 : List PyData) (goal : List Nat), BoxD ds3 → goal.length = n → (∀ v ∈ goal, v < n) → WS (cxD P w K mg base ["_law_box_here", "_law_blocks", "_law_way", "_law_at_home", "_law_homes", "_law_goal_here", "_law_k"] "_law_goal" (defScope s_law_goal) f cdv A outer s H E) (GG b n way ds3 (.own p3 (.lst (bI bs))) (.own p4 (.lst (nI homes))) (.own p5 (.lst (nI goal))) .un) ((defBody s_law_goal).drop 9) { rt := fun s' Γ' => (∃ g, GoalOk g ∧ s' = gS g) ∧ ∃ ds', BoxD ds' ∧ Γ'[0]? = some (.own b (.lst ds')) } := fun ds3 goal hB3 hgl hgv => by
    exact w_ret (px_tupX g.tuple (pnl 5)) (fr_xt (tupds_nI _)) ⟨⟨goal, ⟨by omega, by omega, by rw [hgl]; exact hgv⟩, rfl⟩, ds3, hB3, rfl⟩
  refine w_when (b := decide (way = 2)) (pb_eqI (pn 2) px_int) (fun _ => ?_) fun _ => hret ds5 row hB5 hrl hrv
  refine w_setZ 5 (pa := p5) (z_take 0 F1 hr (pn 1) (m := n) (by omega) (by omega) hB5 fun k ds6 hk hB6 => ⟨⟨_, rfl⟩, z_take 0 F1 hr (pn 1) (m := n) (by omega) (by omega) hB6 fun k2 ds7 hk2 hB7 => ⟨nI row, (k2 : Nat), k2, .int (k : Nat), rfl, rfl, ix_nat (by rw [List.length_map, hrl]; exact hk2), dp_of, ws_nil ?_⟩⟩)
  rw [nI_set]
  exact hret ds7 _ hB7 (by rw [List.length_set, hrl]) (lt_set hrv hk)
end
end H77
set_option Elab.async false
set_option linter.all false
set_option maxRecDepth 100000
set_option maxHeartbeats 2000000
namespace H77
open PySem PySem.Spec PyProof.Rows L2 Dw R77
/-! _law_box -/
def spBox (K : PySem.W.Frag) : Sp := fun vs H Q _ => ∃ ns : List Int, SAll K H vs [dt (.list (dI ns))] ∧ ns.length ≤ 63 ∧
  ∀ (p a : Addr) (H' : Hp) (cs : List Int) (s : Int), H p = none → H a = none → a ≠ p → Ex H H' → H' p = some (.lst [.ref a, .int 0, .int 0, .int 0, .int s]) → H' a = some (.lst (cs.map V.int)) → cs.length ≤ 63 → Q (.ref p) H'
theorem cut_I (ns : List Int) (lo hi : Option Int) : ∃ cs : List Int, Dw.cutD (dI ns) lo hi = dI cs ∧ cs.length ≤ ns.length := by
  unfold Dw.cutD
  rw [List.length_map]
  refine ⟨(ns.drop (HT.sIx ns.length 0 lo)).take (HT.sIx ns.length ns.length hi - HT.sIx ns.length 0 lo), by show _ = List.map _ _; rw [List.map_take, List.map_drop], ?_⟩
  rw [List.length_take, List.length_drop]
  omega
theorem sall4 {K : PySem.W.Frag} {H : Hp} {ws : List V} {a b c d : Int} (h : SAll K H ws [dt (.int a), dt (.int b), dt (.int c), dt (.int d)]) : ws = [.int a, .int b, .int c, .int d] := by
  cases h with
  | cons h1 h => cases h with
    | cons h2 h => cases h with
      | cons h3 h => cases h with
        | cons h4 h =>
          cases h
          rw [Dp.int_ h1, Dp.int_ h2, Dp.int_ h3, Dp.int_ h4]
section
variable {P : Program} {w : World} {K : PySem.W.Frag} {mg : Str → Option Value} {base : Heap} {f : Addr} {fd : FuncData}
theorem sc_box : FnScope ["_law_script", "_law_cells"] ["_law_script"] (defScope s_law_box) := ⟨rfl, rfl, rfl, by decide +kernel, rfl, by decide +kernel, by decide +kernel⟩
theorem ok_box (g : G mg) (F : FnQ K "_law_box" s_law_box f fd) : FnOk P w K mg base CX0 1 f fd ["_law_script"] (spBox K) := by
  have nd := sc_box.nd
  refine F.ok sc_box (fun vs H Q E ⟨ns, h, _⟩ => SAll.len h) (fun cdv A outer s H vs Q E hr h => ?_)
  obtain ⟨ns, h1, hl, hQ⟩ := h
  refine ⟨_, PSs.nox pss_W, ?_⟩
  obtain ⟨cs, ecs, hcl⟩ := cut_I ns none (some 63)
  have S0 : Sta K H H [] (L2.start ["_law_script", "_law_cells"] vs) (ini ["_law_script", "_law_cells"] [dt (.list (dI ns))]) := ini_sta h1
  refine wSs (pss_cons ps_W pss_W) (s_asgL (X := cxD P w K mg base ["_law_script", "_law_cells"] "_law_box" (defScope s_law_box) f cdv A outer s H E) (i := 1) (ds := dI cs) (D := { nx := fun Γ' => ∃ p, Γ' = [.dat (dt (.list (dI ns))), .own p (.lst (dI cs))] }) (pl_l g.list (px_new (pxl_eq (pxl_sl (pn 0) .none (.some px_int)) ecs)) (.inl rfl)) (tupds_dI _) (fun p => ⟨p, rfl⟩) nd rfl (.inl rfl) (Nat.le_of_ble_eq_true rfl) rfl (.inl rfl) H [] _ H _ S0 ⟨?_, ?_, ?_, ?_, ?_⟩)
  · rintro σ' H' Γ' ⟨p, rfl⟩ S' u
    obtain ⟨hσ, xs, hp, hd⟩ := slot_own (i := 1) (p := p) (ds := dI cs) S' rfl
    have exs := DpAll.ints hd
    subst exs
    have hpn : H p = none := by
      cases q : H p with
      | none => rfl
      | some o =>
        exfalso
        have z : Bs H' [] _ p = some o := S'.ent p o q
        rw [show Bs H' [] _ p = none from cut_yes (.inr ⟨1, _, rfl⟩)] at z
        cases z
    have x01 : Ex H H' := ret_ex S'
    refine wSs (pss_cons ps_W pss_nil) (wS (ps_ret (pe_lst (pa_cons (pe_var (i := 1) rfl (.inl rfl)) pa_W rfl))) ⟨_, hσ, pxs_cons px_int (pxs_cons px_int (pxs_cons px_int (pxs_cons (px_mod (px_intI g.int (px_sumI rfl g.sum (pnl 1))) px_int (by decide)) pxs_nil rfl) rfl) rfl) rfl σ' H' _ S'.sl fun ws H2 x2 hw => ?_⟩)
    have ews := sall4 hw
    subst ews
    refine ⟨by show 5 ≤ sizeLine; decide, fun p2 hp2 => ?_⟩
    have hp' : H2 p = some (.lst (cs.map V.int)) := x2 p _ hp
    have ne : p ≠ p2 := fun z => by rw [z, hp2] at hp'; cases hp'
    exact hQ p2 p _ cs _ (Evl.fresh_back (x01.trans x2) hp2) hpn ne ((x01.trans x2).trans (Evl.Ex.new hp2)) upd_same (by rw [upd_ne ne]; exact hp') (by omega)
  · intro _ _ _ d; exact d.elim
  · intro _ _ _ d; exact d.elim
  · intro _ _ _ _ _ d; exact d.elim
  · intro _ _ _ _ _ d; exact d.elim
end
section
variable {X : Cx} {Γ : Ga} {D : Ks} {e : Expr} {rest : List Stmt} {pos p : Pos}
/-- x = _law_box(e) -/
theorem w_asgBox (i : Nat) {x : Str} {pos' : Pos} {n : Nat} {ns : List Int} (hN : X.N.Nodup) (F : Fn X.prog X.w X.K X.mg X.base "_law_box" 1 ["_law_script"] (spBox X.K)) (hr : Room n X.A) (he : PX X (frz Γ) e (dt (.list (dI ns)))) (hl : ns.length ≤ 63) (k : ∀ b ds, BoxD ds → WS X (Γ.set i (.own b (.lst ds))) rest D) (hn : 1 ≤ n := by decide) (hg : Gl X "_law_box" := by rfl)
    (hi : X.N[i]? = some x := by rfl) (hx : Loc X.env.scope x := by first | exact Or.inl rfl | exact Or.inr rfl) (hil : i < Γ.length := by exact Nat.le_of_ble_eq_true rfl) (hf : X.fn x = true ∨ X.env.scope.names.lookup x = some .local := by first | exact .inl rfl | exact .inr rfl) {pos2 : Pos}
    (hs2 : swapsWith (.Call (.Name "_law_box" p) [e] [] pos) (some (.Name x pos')) pos2.line X.env = pure false := by rfl)
    (he1 : starEach [e] X.env = (false, eval e X.env) :: starEach [] X.env := by rfl) (hpl : (backTo pos (starEach [] X.env)).any (·.1) = false := by rfl) : WS X Γ (.Assign [.Name x pos'] (.Call (.Name "_law_box" p) [e] [] pos) pos2 :: rest) D := ws_cons fun H0 O σ H E S eo => by
  obtain ⟨f, fd, G, hm, hk, hb⟩ := F.ex
  refine wS (ps_set hN hi hx (pe_call G (hr.mono hn) hg hm hk hb .nil pass0 pa_W (by decide) he1 hpl) hs2 hf) (pxs_cons he pxs_nil he1 σ H _ S.sl fun vs H1 x1 h1 => ?_)
  show spBox X.K (vs ++ []) H1 _ E0
  rw [List.append_nil]
  obtain ⟨S1, u1⟩ := S.ex x1
  refine ⟨ns, h1, hl, fun q a H2 cs s hq ha ne x2 hq2 ha2 hcl => ?_⟩
  obtain ⟨S2, nO, k2, g2⟩ := S1.hide hq x2 (.inl ⟨_, hq2⟩)
  have na : ¬ Hid (q :: O) Γ a := fun z => by
    rcases z with z | z
    · rcases List.mem_cons.mp z with z | z
      · exact ne z
      · exact S1.fresh ha (.inl z)
    · exact S1.fresh ha (.inr z)
  have hab : Bs H2 (q :: O) Γ a = some (.lst (cs.map V.int)) := by
    show cut H2 (Hid (q :: O) Γ) a = _
    rw [cut_no na]
    exact ha2
  obtain ⟨S3, g3⟩ := S2.own' nO hil (c := .lst [.list (dI cs), .int 0, .int 0, .int 0, .int s]) ⟨_, hq2, .cons (.lst (SqL.of hab) (DpAll.of_ints cs)) (.cons (.int _) (.cons (.int _) (.cons (.int _) (.cons (.int _) .nil))))⟩
  exact eo.nx _ H2 _ (k q _ ⟨cs, 0, 0, 0, s, rfl, Int.le_refl _, by omega⟩) S3 ⟨fun c hc => (k2 c hc).trans (u1.keep c hc), u1.grow.trans (g2.trans g3)⟩
/-- x = e, e draws and gives an s -/
theorem w_asgZX (i : Nat) {x : Str} {pos' : Pos} {kq : Dw.Sem → Ga → Prop} (hN : X.N.Nodup) (he : ZX X Γ e kq) (k : ∀ s Γ', kq s Γ' → WS X (Γ'.set i (.dat s)) rest D) (hi : X.N[i]? = some x := by rfl) (hx : Loc X.env.scope x := by first | exact Or.inl rfl | exact Or.inr rfl) (hil : i < Γ.length := by exact Nat.le_of_ble_eq_true rfl) (hs : swapsWith e (some (.Name x pos')) pos.line X.env = pure false := by rfl)
    (hf : X.fn x = true ∨ X.env.scope.names.lookup x = some .local := by first | exact .inl rfl | exact .inr rfl) : WS X Γ (.Assign [.Name x pos'] e pos :: rest) D := ws_cons fun H0 O σ H E S eo =>
  wS (ps_set hN hi hx pe_W hs hf) (he H0 O σ H _ S fun s v Γ1 H1 hk S1 u1 pv => by
    obtain ⟨S2, u2⟩ := S1.put (i := i) (by rw [← S1.len, S.len]; exact hil) (s := s) (v := v) pv
    exact eo.nx _ H1 _ (k s Γ1 hk) S2 (u1.tr u2))
end
end H77
set_option Elab.async false
set_option linter.all false
set_option maxRecDepth 100000
set_option maxHeartbeats 2000000
namespace H77
open PySem PySem.Spec PyProof.Rows L2 Dw R77
theorem log_ok {g : List Nat} (o : GoalOk g) (hp : Poss g) : LogOk (leastLog g) g.length := by
  have L := least_of_goal o hp
  have h1 := L.len
  have h2 := rings_len g
  have h3 := chg_le g
  have h4 := o.n12
  exact ⟨o.n1, o.n12, by omega, L.ok⟩
theorem safe_facts {g : List Nat} (o : GoalOk g) (hp : Poss g) (h : awayL g = []) : SafeFacts g (leastLog g) := by
  have L := least_of_goal o hp
  have S := safe_stair o hp h
  have lo := log_ok o hp
  have hl := safe_len o hp h
  exact ⟨lo, idle_of L.busy, stair_top S, stair_mark S, stair_late S, h, ⟨o.n12, by rw [hl]; exact lo.len, safeL_ok o⟩, safe_fin o h, hl⟩
theorem spoilt_facts {g : List Nat} (o : GoalOk g) (hp : Poss g) (h : awayL g ≠ []) : SpoiltFacts g (leastLog g) := by
  have L := least_of_goal o hp
  have lo := log_ok o hp
  have h0 : 0 < (awayL g).length := List.length_pos_iff.mpr h
  have a : Away (R77.fin (leastLog g) g.length) ((awayL g).getD 0 0) := by
    rw [L.fin]
    exact (o.mem _).mp (getD_mem h0)
  have t1 := top_of_away L.ok a
  have t2 := mark_of_away L.ok a
  have t3 := late_of_away L.ok a
  refine ⟨lo, idle_of L.busy, L.fin, t1, t2, t3, lmark_is L.ok, h, fun wd => ?_⟩
  cases wd with
  | top =>
    obtain ⟨q, hq⟩ := Option.ne_none_iff_exists'.mp t1
    obtain ⟨run, hr⟩ : ∃ run, topRun (leastLog g) g.length = some run := ⟨_, by unfold topRun; rw [hq]; rfl⟩
    exact ⟨run, hr, top_spoils L.ok hr⟩
  | mark =>
    obtain ⟨q, hq⟩ := Option.ne_none_iff_exists'.mp t2
    obtain ⟨run, hr⟩ : ∃ run, markRun (leastLog g) g.length = some run := ⟨_, by unfold markRun; rw [hq]; rfl⟩
    exact ⟨run, hr, mark_spoils L.ok L.busy hr⟩
  | late =>
    obtain ⟨q, hq⟩ := Option.ne_none_iff_exists'.mp t3
    obtain ⟨run, hr⟩ : ∃ run, lateRun (leastLog g) g.length = some run := ⟨_, by unfold lateRun; rw [hq]; rfl⟩
    exact ⟨run, hr, late_spoils L.ok L.busy hr⟩
section
variable {P : Program} {w : World} {K : PySem.W.Frag} {mg : Str → Option Value} {base : Heap} {f : Addr} {fd : FuncData}
theorem sc_law : FnScope ["_law_script", "_law_box_here", "_law_goal_here", "_law_blocks", "_law_closed_here", "_law_told", "_law_k", "_law_changed", "_law_lines", "_law_many", "_law_pairs_here"] ["_law_script"] (defScope s_law) := ⟨rfl, rfl, rfl, by decide +kernel, rfl, by decide +kernel, by decide +kernel⟩
inductive C_law : List Dw.Sem → Dw.Sem → Prop
  | mk (ns : List Int) : ns.length ≤ 63 → C_law [dt (.list (dI ns))] (dt (.bool true))
theorem ok_law (g : G mg) (D1 : Fn P w K mg base "_law_box" 1 ["_law_script"] (spBox K)) (D2 : Fn P w K mg base "_law_goal" 3 ["_law_box_here"] (spM C_goal K)) (L1 : Fn P w K mg base "_law_closed" 1 ["_law_goal_here"] (spL C_lclosed K)) (T1 : Fn P w K mg base "closed_rings" 3 ["goal"] (spL C_closed_rings K)) (L2 : Fn P w K mg base "_law_row" 2 ["_law_told"] (spP C_row K))
    (L3 : Fn P w K mg base "_law_none" 5 ["_law_goal_here"] (spP C_lnone K)) (T2 : Fn P w K mg base "least_log" 4 ["goal"] (spL C_least K)) (T3 : Fn P w K mg base "fewest_copies" 4 ["goal"] (spP C_fewest K)) (L4 : Fn P w K mg base "_law_whole" 1 ["_law_told"] (spP C_whole K)) (L5 : Fn P w K mg base "_law_pairs" 2 ["_law_told", "_law_blocks"] (spL C_lpairs K)) (L6 : Fn P w K mg base "_law_images" 1 ["_law_pairs_here", "_law_blocks"] (spL C_origin_rows K))
    (L7 : Fn P w K mg base "_law_unspoilt" 7 ["_law_lines", "_law_goal_here"] (spP C_unspoilt K)) (L8 : Fn P w K mg base "_law_spoilt" 7 ["_law_lines", "_law_pairs_here", "_law_goal_here"] (spP C_spoilt K)) (F : FnQ K "law" s_law f fd) : FnOk P w K mg base CX0 8 f fd ["_law_script"] (spP C_law K) := by
  have nd := sc_law.nd
  refine fn_pure F sc_law (fun ss s h => by cases h; rfl) (fun cdv A outer s H E hr ss r h => ?_)
  obtain ⟨ns, hns⟩ := h
  have hu := room_u hr
  refine w_asgBox 1 nd D1 hr (pn 0) hns fun b ds hB => ?_
  refine w_asgZX 2 nd (zx_call 1 D2 hr pxs_nil (fun s hs => nomatch hs) .mk hB (kq := fun s Γ' => ∃ go, GoalOk go ∧ s = gS go ∧ ∃ ds, Γ' = [.dat (dt (.list (dI ns))), .own b (.lst ds), .un, .un, .un, .un, .un, .un, .un, .un, .un]) fun s ds' ⟨go, h, e⟩ hB' => ⟨go, h, e, ds', rfl⟩) fun s Γ' hk => ?_
  obtain ⟨go, h, rfl, ds2, rfl⟩ := hk
  have h12 := h.n12
  have hRl := rings_len go
  have eR := lawRings_is h.lt
  refine w_asg 3 nd (cr_lenT g.len (pnx 2) (n := go.length) (by simp)) fr_int ?_
  refine w_asgL 4 nd (pxl_eq (l1 L1 hr (pn 2) (.mk go h)) (by rw [eR])) (tupds_map fun r _ => tup_rg r) fun p4 => ?_
  refine w_asgL 5 nd (l1 T1 hr (pn 2) (.mk go h)) (tupds_map fun r _ => tup_rg r) fun p5 => ?_
  refine w_when (pb_or2 (pb_not (pb_val (i_list true g (pnl 5)))) fun _ => pb_neI (cr_len g.len (pnl 5) (n := (rings go).length) (by simp)) (cr_len g.len (pnl 4) (n := (rings go).length) (by simp))) (fun z => by simp at z) fun _ => ?_
  refine w_for (fun i Γ => ∃ t6, Γ = [.dat (dt (.list (dI ns))), .own b (.lst ds2), .dat (gS go), .dat (dt (.int (go.length : Nat))), .own p4 (.lst ((rings go).map rgD)), .own p5 (.lst ((rings go).map rgD)), t6, .un, .un, .un, .un]) (wr g.range (cr_len g.len (pnl 4) (n := (rings go).length) (by simp)) (by omega)) ⟨_, rfl⟩ (gpn 6 nd) (fun i a Γ' ha iv => ?_) (fun Γ' iv => ?_)
  · obtain ⟨t6, rfl⟩ := iv
    obtain ⟨e, hi⟩ := range_at ha
    have e : i = a := e.symm
    subst e
    have hg : (rings go)[i]? = some (rings go)[i] := List.getElem?_eq_getElem hi
    refine gn 6 nd ?_
    refine w_when (pb_or2 (pb_not (pb_val (c1 L2 hr (px_eqd (px_ixL (pnl 5) (pn 6) (at_map (f := rgD) hg)) (d' := .tuple (dI (iN (rings go)[i]))) (by rw [dI_nI]; rfl)) (.mk _)))) fun _ => pb_neD hu (sh_tI (rings go)[i]) (sh_tI (rings go)[i]) (px_ixL (pnl 5) (pn 6) (at_map (f := rgD) hg)) (px_ixL (pnl 4) (pn 6) (at_map (f := rgD) hg))) (fun z => ?_) fun _ => ws_nil ⟨_, rfl⟩
    rw [show PyData.eqv (rgD (rings go)[i]) (rgD (rings go)[i]) = true from (eqv_nI _ _).trans (by simp)] at z
    simp at z
  obtain ⟨t6, rfl⟩ := iv
  refine w_asgC 7 nd (lcx_eq (lx1f 6 (L := List.range go.length) (f := fun (v : Nat) => .int v) (test := fun v => !decide (go.getD v 0 = v)) (val := fun (v : Nat) => .int v) nd (pr g.range (pn 3) (by omega)) (fun v hv _ _ _ _ _ => pb_eq (pb_neI (px_ixT (pnx 2) (pn 6) (at_nI (r := go) (i := v) (List.mem_range.mp hv))) (pn 6)) (by rw [dec_nat])) (fun v _ _ _ _ _ _ _ => pn 6) (fun _ _ => rfl) (by simp; omega) (fun _ _ _ _ _ => gpn 6 nd)) (show _ = nI (chg go) by rw [chg_eq])) (tupds_nI _) fun p7 => ?_
  refine w_when (b := !decide (chg go = []) && decide (missL go = [])) (pb_eq (pb_and2 (pb_neD hu (sh_nI (chg go)) rfl (pnl 7) (px_new pl0)) fun _ => pb_eqD hu (sh_nI (missL go)) rfl (px_new (lc1f 6 (L := List.range go.length) (f := fun (v : Nat) => .int v) (test := fun v => !go.contains v) (val := fun (v : Nat) => .int v) nd (pr g.range (pn 3) (by omega)) (fun v _ _ _ _ _ _ => pb_eq (pb_niT (ns := iN go) (pn 6) (px_eqd (pnx 2) (by rw [dI_nI]))) (by rw [mem_nI])) (fun v _ _ _ _ _ _ _ => pn 6) (fun _ _ => rfl) (by simp; omega) (fun _ _ _ _ _ => gpn 6 nd))) (px_new pl0)) (by rw [eqv_nil, eqv_nil])) (fun z => ?_) fun z => ?_
  · rw [Bool.and_eq_true] at z
    exact w_ret (c1 L3 hr (pn 2) (.mk go h (by simpa using z.1) (by simpa using z.2))) fr_bool rfl
  have hp : Poss go := by
    by_cases e : chg go = []
    · exact .inl e
    · refine .inr fun q => ?_
      rw [q] at z
      simp [e] at z
  have lo := log_ok h hp
  have Le := least_of_goal h hp
  have hll := lo.len
  have ho : LgOk (leastLog go) go.length := ⟨lo.n12, lo.len, lo.ok⟩
  refine w_asgL 8 nd (l1 T2 hr (pn 2) (.mk go h hp (facts_of h hp))) (tupds_map fun _ _ => rfl) fun p8 => ?_
  refine w_asg 9 nd (c1 T3 hr (pn 2) (.mk go h hp)) fr_int ?_
  refine w_when (pb_or3 (pb_not (pb_val (i_list true g (pnl 8)))) (fun _ => pb_not (pb_val (c1 L4 hr (pn 9) (.mk _)))) fun _ _ => pb_neI (pn 9) (px_add (cr_len g.len (pnl 7) (n := (chg go).length) (by simp)) (cr_len g.len (pnl 4) (n := (rings go).length) (by simp)))) (fun z => by simp at z) fun _ => ?_
  refine w_asgL 10 nd (l2 L5 hr (pnl 8) (pn 3) (.mk (leastLog go) go.length ho)) (tupds_map fun _ _ => rfl) fun p10 => ?_
  refine w_when (pb_or3 (pb_isN (pnl 10)) (fun _ => pb_neI (cr_len g.len (pnl 10) (n := (leastLog go).length) (by simp)) (pn 9)) fun _ _ => pb_neD hu (sh_tI (R77.fin (leastLog go) go.length)) (sh_tI go) (px_ixL (px_new (l2 L6 hr (pnl 10) (pn 3) (.mk (leastLog go) go.length ho.n12 ho.len ho.ok))) (px_neg px_int) (row_last _ _)) (pnx 2)) (fun z => ?_) fun _ => ?_
  · exfalso
    rw [eqv_nI, Le.fin, Le.len] at z
    simp [Dw.isNon] at z
  refine w_when (b := decide (awayL go = [])) (pb_eq (pb_eqD hu (sh_nI (awayL go)) rfl (px_new (lc1f 6 (L := List.range go.length) (f := fun (v : Nat) => .int v) (test := fun v => go.contains v && !decide (go.getD v 0 = v)) (val := fun (v : Nat) => .int v) nd (pr g.range (pn 3) (by omega)) (fun v hv _ _ _ _ _ => pb_eq (pb_and2 (pb_inT (ns := iN go) (pn 6) (px_eqd (pnx 2) (by rw [dI_nI]))) fun _ => pb_neI (px_ixT (pnx 2) (pn 6) (at_nI (r := go) (i := v) (List.mem_range.mp hv))) (pn 6)) (by rw [mem_nI, dec_nat])) (fun v _ _ _ _ _ _ _ => pn 6) (fun _ _ => rfl) (by simp; omega) (fun _ _ _ _ _ => gpn 6 nd))) (px_new pl0)) (by rw [eqv_nil])) (fun z => ?_) fun z => ?_
  · have z : awayL go = [] := of_decide_eq_true z
    exact w_ret (c2 L7 hr (pnl 8) (pn 2) (.mk go (leastLog go) h (safe_facts h hp z))) fr_bool rfl
  · have z : awayL go ≠ [] := of_decide_eq_false z
    exact w_ret (c3 L8 hr (pnl 8) (pnl 10) (pn 2) (.mk go (leastLog go) h (spoilt_facts h hp z))) fr_bool rfl
end
end H77
set_option Elab.async false
set_option linter.all false
set_option maxRecDepth 100000
set_option maxHeartbeats 4000000
namespace H77
open PySem PySem.Spec PyProof.Rows L2 Dw R77
section
variable {K : PySem.W.Frag}
theorem band {a b : Bool} (h : (a && b) = true) : a = true ∧ b = true := Bool.and_eq_true_iff.mp h
theorem oex_ok {C : Addr} (h : oexB K C = true) : OexC K C := by
  obtain ⟨h0, h1⟩ := band h
  obtain ⟨h1, h2⟩ := band h1
  obtain ⟨h2, h3⟩ := band h2
  obtain ⟨h3, h4⟩ := band h3
  refine ⟨?_, He.eqO_ok h1, of_decide_eq_true h2, of_decide_eq_true h3, h4⟩
  split at h0
  · rename_i t dd cd sl hlk
    split at h0
    · rename_i C' bm k0 k1 k2 k3 n k5 hm hs
      obtain ⟨a1, h0⟩ := band h0
      obtain ⟨a2, h0⟩ := band h0
      obtain ⟨a3, h0⟩ := band h0
      obtain ⟨a4, h0⟩ := band h0
      obtain ⟨a5, a6⟩ := band h0
      have a1 := of_decide_eq_true a1
      have a2 := of_decide_eq_true a2
      have a3 := of_decide_eq_true a3
      obtain ⟨nm, bs, mro, ns, qn, hd, sn, sub, ab, col, del⟩ := cd
      have a4 : del = false := by simpa using a4
      have a5 : hd = true := a5
      have hm : mro = .ref C' :: bm := hm
      subst a1 a2 a3 a4 a5 hm
      have es : sl = #[k0, k1, k2, k3, some (.builtin "ValueError.__new__"), k5] := by
        apply Array.ext'
        rw [hs]
      subst es
      exact ⟨nm, qn, ns, bs, bm, sn, sub, ab, col, dd, k0, k1, k2, k3, k5, hlk, a6⟩
    · cases h0
  · cases h0
theorem x_field (c : xB K = true) : XfC K (nC K) := xfB_ok (band (band (band c).2).2).2
theorem rule_ok {mg : Str → Option Value} (c : xB K = true) (hm : mg "Rule" = some (.ref (He.ga K "Rule"))) : RuleOk K mg := by
  have h := (band (band (band c).2).2).1
  obtain ⟨h1, h2⟩ := band h
  obtain ⟨h2, h3⟩ := band h2
  split at h3
  · rename_i j t e
    have ej := of_decide_eq_true h3
    subst ej
    exact ⟨_, .type "type", _, hm, ⟨h1, He.eqO_ok h2⟩, ⟨e, ⟨t, rfl⟩⟩⟩
  · cases h3
theorem sup_ok (c : xB K = true) (c3 : He.fnW K ("NoSafeLog", some "__init__") = nslV) :
    SupC PySem.Challenge.pw_redolots_k77_whole_spoilers_of_least_log K (nC K) (nF K) 200 211 "__init__" "NoSafeLog.__init__" (defArgs s_init) (defBody s_init) (defScope s_init) := by
  obtain ⟨o1, c⟩ := band c
  obtain ⟨s, _⟩ := band c
  obtain ⟨s1, s⟩ := band s
  obtain ⟨s2, s⟩ := band s
  obtain ⟨s3, s⟩ := band s
  obtain ⟨s4, s⟩ := band s
  obtain ⟨s5, s⟩ := band s
  obtain ⟨s6, s⟩ := band s
  obtain ⟨s7, s⟩ := band s
  obtain ⟨s8, s⟩ := band s
  obtain ⟨s9, s10⟩ := band s
  refine ⟨oex_ok o1, He.eqO_ok s1, of_decide_eq_true s2, ?_, s4, ?_, ?_, by kernel_rfl, of_decide_eq_true s7, He.eqO_ok s8, of_decide_eq_true s9, He.eqO_ok s10⟩
  · have e0 : He.fAd K ("NoSafeLog", some "__init__") = nF K := rfl
    unfold He.fnW at c3
    rw [e0] at c3
    unfold ini1 at s3
    cases q : K.lookup (nF K) with
    | none => rw [q] at c3; cases c3
    | some ob =>
      obtain ⟨oc, od, dt, osl⟩ := ob
      rw [q] at c3 s3
      cases dt with
      | func fd =>
        obtain ⟨n1, n2, n3, n4, n5, n6, n7, n8, n9, n10, n11, n12, n13, n14, n15⟩ := fd
        have e2 : (some (n1, n2, n3, n4, n5, n6, n7, n15) : He.FnW) = (some (("__init__" : Str), ("NoSafeLog.__init__" : Str), defArgs s_init, FuncBody.stmts (defBody s_init), defScope s_init, mainGlobals, [(("__class__" : Str), (200 : Addr))], builtinsNs) : He.FnW) := c3
        simp only [Option.some.injEq, Prod.mk.injEq] at e2
        obtain ⟨h1, h2, h3, h4, h5, h6, h7, h8⟩ := e2
        subst h1 h2 h3 h4 h5 h6 h7 h8
        obtain ⟨t1, t2⟩ := band s3
        dsimp only at t1 t2
        split at t1
        · split at t2
          · have ea := of_decide_eq_true t2
            subst ea
            exact ⟨oc, od, n9, n10, n11, n12, n14, osl, rfl⟩
          · cases t2
        · cases t1
      | _ => cases c3
  · unfold ini2 at s5
    split at s5
    · rename_i cl cld a csl e
      have ea := of_decide_eq_true s5
      subst ea
      exact ⟨cl, cld, csl, e⟩
    · cases s5
  · unfold ini3 at s6
    split at s6
    · rename_i ccl cdd vs ccs e
      split at s6
      · rename_i file tf e2
        exact ⟨ccl, cdd, vs, ccs, file, tf, e, e2, s6⟩
      · cases s6
    · cases s6
theorem sc_init : SupScope ["self", "value"] ["self", "value"] (defScope s_init) := ⟨rfl, rfl, rfl, by decide, rfl, by decide +kernel, by decide +kernel, by decide +kernel, rfl, rfl⟩
theorem ini_ok {w : World} {mg : Str → Option Value} {base : Heap} (c : xB K = true) (c3 : He.fnW K ("NoSafeLog", some "__init__") = nslV) (hm : mg "NoSafeLog" = some (.ref (nC K))) (hno : PySem.W.findIn K (.ref (nC K)) "value" = some none) (hms : mg "super" = none) :
    FnI PySem.Challenge.pw_redolots_k77_whole_spoilers_of_least_log w K mg base "NoSafeLog" (nC K) "value" 1 := by
  exact init_ok (hbd := rfl) (F := sup_ok c c3) (S := sc_init) (har := ⟨_, rfl, rfl⟩) (hms := hms) (hl1 := by decide) (hl2 := by decide) (hno := hno) (hm := hm) (hev := fun L => rfl) (hbind := fun kV doc pm an ct us hl => match us, hl with
    | [_, _], _ => rfl)
end
theorem facts {w : World} {K : PySem.W.Frag} {h : Heap} {mg : Str → Option Value} {f : Addr} (X : K.In h) (G' : h.Ns mainGlobals mg) (hfa : mg ("law" : Str) = some (.ref f)) (c : obsA K = valA) :
    ∃ fd : FuncData, (∀ (s : Shared) (v : Value), BindsTo s fd ⟨[v], []⟩ [("_law_script", v)]) ∧ ∀ base : Heap, K.In base → base.Ns mainGlobals mg → FnOk PySem.Challenge.pw_redolots_k77_whole_spoilers_of_least_log w K mg base CX0 8 f fd ["_law_script"] (spP C_law K) := by
  have c1 : He.SaysD fa fn K := congrArg (fun z : AlX => z.1) c
  have c2 : xB K = true := congrArg (fun z : AlX => z.2.1) c
  have c3 : He.fnW K ("NoSafeLog", some "__init__") = _ := congrArg (fun z : AlX => z.2.2) c
  obtain ⟨d_check_image, f_check_image⟩ := c1.def_ 0 (d := dD "check_image" 18) rfl
  obtain ⟨d_home, f_home⟩ := c1.def_ 1 (d := dD "home" 21) rfl
  obtain ⟨d_is_index, f_is_index⟩ := c1.def_ 2 (d := dD "is_index" 26) rfl
  obtain ⟨d_is_guard, f_is_guard⟩ := c1.def_ 3 (d := dD "is_guard" 27) rfl
  obtain ⟨d_check_line, f_check_line⟩ := c1.def_ 4 (d := dD "check_line" 28) rfl
  obtain ⟨d_check_script, f_check_script⟩ := c1.def_ 5 (d := dD "check_script" 29) rfl
  obtain ⟨d_copies, f_copies⟩ := c1.def_ 6 (d := dD "copies" 37) rfl
  obtain ⟨d_pairs, f_pairs⟩ := c1.def_ 7 (d := dD "pairs" 38) rfl
  obtain ⟨d_check_log, f_check_log⟩ := c1.def_ 8 (d := dD "check_log" 39) rfl
  obtain ⟨d_origin_rows, f_origin_rows⟩ := c1.def_ 9 (d := dD "origin_rows" 40) rfl
  obtain ⟨d_last_writes, f_last_writes⟩ := c1.def_ 10 (d := dD "last_writes" 41) rfl
  obtain ⟨d_mattering, f_mattering⟩ := c1.def_ 11 (d := dD "mattering" 42) rfl
  obtain ⟨d_idle_indexes, f_idle_indexes⟩ := c1.def_ 12 (d := dD "idle_indexes" 43) rfl
  obtain ⟨d_check_goal, f_check_goal⟩ := c1.def_ 13 (d := dD "check_goal" 45) rfl
  obtain ⟨d_changed_blocks, f_changed_blocks⟩ := c1.def_ 14 (d := dD "changed_blocks" 46) rfl
  obtain ⟨d_homeless, f_homeless⟩ := c1.def_ 15 (d := dD "homeless" 47) rfl
  obtain ⟨d_safe_log, f_safe_log⟩ := c1.def_ 16 (d := dD "safe_log" 48) rfl
  obtain ⟨d_missing, f_missing⟩ := c1.def_ 17 (d := dD "_missing" 50) rfl
  obtain ⟨d_check_possible, f_check_possible⟩ := c1.def_ 18 (d := dD "check_possible" 51) rfl
  obtain ⟨d_ring_from, f_ring_from⟩ := c1.def_ 19 (d := dD "_ring_from" 52) rfl
  obtain ⟨d_closed_rings, f_closed_rings⟩ := c1.def_ 20 (d := dD "closed_rings" 53) rfl
  obtain ⟨d_fewest_copies, f_fewest_copies⟩ := c1.def_ 21 (d := dD "fewest_copies" 54) rfl
  obtain ⟨d_ring_pairs, f_ring_pairs⟩ := c1.def_ 22 (d := dD "_ring_pairs" 55) rfl
  obtain ⟨d_free_blocks, f_free_blocks⟩ := c1.def_ 23 (d := dD "_free_blocks" 56) rfl
  obtain ⟨d_least_log, f_least_log⟩ := c1.def_ 24 (d := dD "least_log" 57) rfl
  obtain ⟨d_undisturbed, f_undisturbed⟩ := c1.def_ 25 (d := dD "undisturbed" 80) rfl
  obtain ⟨d_top_of, f_top_of⟩ := c1.def_ 26 (d := dD "_top_of" 82) rfl
  obtain ⟨d_mark_of, f_mark_of⟩ := c1.def_ 27 (d := dD "_mark_of" 83) rfl
  obtain ⟨d_late_of, f_late_of⟩ := c1.def_ 28 (d := dD "_late_of" 84) rfl
  obtain ⟨d_top_spoiler, f_top_spoiler⟩ := c1.def_ 29 (d := dD "top_spoiler" 85) rfl
  obtain ⟨d_mark_spoiler, f_mark_spoiler⟩ := c1.def_ 30 (d := dD "mark_spoiler" 86) rfl
  obtain ⟨d_late_spoiler, f_late_spoiler⟩ := c1.def_ 31 (d := dD "late_spoiler" 87) rfl
  obtain ⟨d_top_run, f_top_run⟩ := c1.def_ 32 (d := dD "_top_run" 88) rfl
  obtain ⟨d_mark_run, f_mark_run⟩ := c1.def_ 33 (d := dD "_mark_run" 89) rfl
  obtain ⟨d_late_run, f_late_run⟩ := c1.def_ 34 (d := dD "_late_run" 90) rfl
  obtain ⟨d_spoiling_run, f_spoiling_run⟩ := c1.def_ 35 (d := dD "spoiling_run" 91) rfl
  obtain ⟨d_strength, f_strength⟩ := c1.def_ 36 (d := dD "strength" 93) rfl
  obtain ⟨d_law_whole, f_law_whole⟩ := c1.def_ 39 (d := dD "_law_whole" 97) rfl
  obtain ⟨d_law_row, f_law_row⟩ := c1.def_ 40 (d := dD "_law_row" 98) rfl
  obtain ⟨d_law_images, f_law_images⟩ := c1.def_ 45 (d := dD "_law_images" 103) rfl
  obtain ⟨d_law_top, f_law_top⟩ := c1.def_ 46 (d := dD "_law_top" 104) rfl
  obtain ⟨d_law_late, f_law_late⟩ := c1.def_ 48 (d := dD "_law_late" 106) rfl
  obtain ⟨d_law_further, f_law_further⟩ := c1.def_ 49 (d := dD "_law_further" 107) rfl
  obtain ⟨d_law_played, f_law_played⟩ := c1.def_ 50 (d := dD "_law_played" 108) rfl
  obtain ⟨d_law_pairs, f_law_pairs⟩ := c1.def_ 44 (d := dD "_law_pairs" 102) rfl
  obtain ⟨d_law_closed, f_law_closed⟩ := c1.def_ 43 (d := dD "_law_closed" 101) rfl
  obtain ⟨d_law_mark, f_law_mark⟩ := c1.def_ 47 (d := dD "_law_mark" 105) rfl
  obtain ⟨d_law_none, f_law_none⟩ := c1.def_ 53 (d := dD "_law_none" 111) rfl
  obtain ⟨d_law_unspoilt, f_law_unspoilt⟩ := c1.def_ 52 (d := dD "_law_unspoilt" 110) rfl
  obtain ⟨d_law_spoilt, f_law_spoilt⟩ := c1.def_ 51 (d := dD "_law_spoilt" 109) rfl
  obtain ⟨d_law_take, f_law_take⟩ := c1.def_ 38 (d := dD "_law_take" 96) rfl
  obtain ⟨d_law_rings_goal, f_law_rings_goal⟩ := c1.def_ 41 (d := dD "_law_rings_goal" 99) rfl
  obtain ⟨d_law_goal, f_law_goal⟩ := c1.def_ 42 (d := dD "_law_goal" 100) rfl
  obtain ⟨d_law_box, f_law_box⟩ := c1.def_ 37 (d := dD "_law_box" 95) rfl
  obtain ⟨d_law, f_law⟩ := c1.def_ 54 (d := dD "law" 112) rfl
  have g : G mg := ⟨(He.free_ok X G' (c1.fact 55 (f := .free "len") rfl)), (He.free_ok X G' (c1.fact 56 (f := .free "range") rfl)), (He.free_ok X G' (c1.fact 57 (f := .free "enumerate") rfl)), (He.free_ok X G' (c1.fact 58 (f := .free "tuple") rfl)), (He.free_ok X G' (c1.fact 59 (f := .free "list") rfl)), (He.free_ok X G' (c1.fact 60 (f := .free "isinstance") rfl)), (He.free_ok X G' (c1.fact 61 (f := .free "sorted") rfl)), (He.free_ok X G' (c1.fact 62 (f := .free "set") rfl)), (He.free_ok X G' (c1.fact 63 (f := .free "min") rfl)), (He.free_ok X G' (c1.fact 64 (f := .free "abs") rfl)), (He.free_ok X G' (c1.fact 65 (f := .free "sum") rfl)), (He.free_ok X G' (c1.fact 66 (f := .free "int") rfl)), (He.free_ok X G' (c1.fact 67 (f := .free "bool") rfl)), (He.free_ok X G' (c1.fact 68 (f := .free "str") rfl)), (He.int_ok X G' (c1.fact 70 (f := .int "EMPTY" (-1)) rfl)), (He.int_ok X G' (c1.fact 71 (f := .int "MOST_BLOCKS" 12) rfl)), (He.int_ok X G' (c1.fact 72 (f := .int "MOST_VALUE" 999) rfl)), (He.int_ok X G' (c1.fact 73 (f := .int "MOST_LINES" 60) rfl))⟩
  have exc := He.exc_ok (c1.fact 75 (f := .exc "NoLog") rfl)
  have N : NoLogOk K mg (He.ga K "NoLog") := ⟨exc.1, (He.glo_ok X G' (c1.fact 74 (f := .glo "NoLog") rfl)), exc.2.1, exc.2.2.1, exc.2.2.2⟩
  have exN := He.exm_ok (c1.fact 76 (f := .exm "NoLog" "NoLog" true) rfl)
  have hmS : mg "NoSafeLog" = some (.ref (nC K)) := (He.glo_ok X G' (c1.fact 77 (f := .glo "NoSafeLog") rfl))
  have exS := He.exm_ok (c1.fact 78 (f := .exm "NoSafeLog" "NoSafeLog" true) rfl)
  have xno : PySem.W.findIn K (.ref (nC K)) "value" = some none := He.noat_ok (c1.fact 79 (f := .noat "NoSafeLog" "value") rfl)
  have R := rule_ok c2 (He.glo_ok X G' (c1.fact 80 (f := .glo "Rule") rfl))
  have xf := x_field c2
  have law_fa := (He.glo_ok X G' (c1.fact 54 (f := .glo "law") rfl))
  have e := hfa.symm.trans law_fa
  cases e
  have b := FunD.bindsA (ps := ["_law_script"]) f_law fun _ _ _ _ _ _ us hl => match us, hl with | [_], _ => rfl
  refine ⟨d_law, fun s v => b s [v] rfl, fun base _ _ => ?_⟩
  have I := ini_ok (w := w) (mg := mg) (base := base) c2 c3 hmS xno (He.free_ok X G' (c1.fact 69 (f := .free "super") rfl))
  have a_check_image := fn_mk f_check_image (ok_check_image (P := PySem.Challenge.pw_redolots_k77_whole_spoilers_of_least_log) (w := w) (mg := mg) (base := base) g  f_check_image) (He.glo_ok X G' (c1.fact 0 (f := .glo "check_image") rfl)) (f_check_image.bindsN fun _ _ _ _ _ _ us hl => match us, hl with | [_], _ => rfl)
  have a_home := fn_mk f_home (ok_home (P := PySem.Challenge.pw_redolots_k77_whole_spoilers_of_least_log) (w := w) (mg := mg) (base := base) g  f_home) (He.glo_ok X G' (c1.fact 1 (f := .glo "home") rfl)) (f_home.bindsN fun _ _ _ _ _ _ us hl => match us, hl with | [_], _ => rfl)
  have a_is_index := fn_mk f_is_index (ok_is_index (P := PySem.Challenge.pw_redolots_k77_whole_spoilers_of_least_log) (w := w) (mg := mg) (base := base) g  f_is_index) (He.glo_ok X G' (c1.fact 2 (f := .glo "is_index") rfl)) (f_is_index.bindsN fun _ _ _ _ _ _ us hl => match us, hl with | [_, _], _ => rfl)
  have a_is_guard := fn_mk f_is_guard (ok_is_guard (P := PySem.Challenge.pw_redolots_k77_whole_spoilers_of_least_log) (w := w) (mg := mg) (base := base) g  f_is_guard) (He.glo_ok X G' (c1.fact 3 (f := .glo "is_guard") rfl)) (f_is_guard.bindsN fun _ _ _ _ _ _ us hl => match us, hl with | [_, _], _ => rfl)
  have a_check_line := fn_mk f_check_line (ok_check_line (P := PySem.Challenge.pw_redolots_k77_whole_spoilers_of_least_log) (w := w) (mg := mg) (base := base) g a_is_index a_is_guard f_check_line) (He.glo_ok X G' (c1.fact 4 (f := .glo "check_line") rfl)) (f_check_line.bindsN fun _ _ _ _ _ _ us hl => match us, hl with | [_, _], _ => rfl)
  have a_check_script := fn_mk f_check_script (ok_check_script (P := PySem.Challenge.pw_redolots_k77_whole_spoilers_of_least_log) (w := w) (mg := mg) (base := base) g a_check_image a_check_line f_check_script) (He.glo_ok X G' (c1.fact 5 (f := .glo "check_script") rfl)) (f_check_script.bindsN fun _ _ _ _ _ _ us hl => match us, hl with | [_, _], _ => rfl)
  have a_copies := ok_copies (P := PySem.Challenge.pw_redolots_k77_whole_spoilers_of_least_log) (w := w) (mg := mg) (base := base) g (He.glo_ok X G' (c1.fact 6 (f := .glo "copies") rfl)) f_copies
  have a_pairs := fn_mk f_pairs (ok_pairs (P := PySem.Challenge.pw_redolots_k77_whole_spoilers_of_least_log) (w := w) (mg := mg) (base := base) g  f_pairs) (He.glo_ok X G' (c1.fact 7 (f := .glo "pairs") rfl)) (f_pairs.bindsN fun _ _ _ _ _ _ us hl => match us, hl with | [_], _ => rfl)
  have a_check_log := fn_mk f_check_log (ok_check_log (P := PySem.Challenge.pw_redolots_k77_whole_spoilers_of_least_log) (w := w) (mg := mg) (base := base) g a_check_script a_home a_pairs f_check_log) (He.glo_ok X G' (c1.fact 8 (f := .glo "check_log") rfl)) (f_check_log.bindsN fun _ _ _ _ _ _ us hl => match us, hl with | [_, _], _ => rfl)
  have a_origin_rows := fn_mk f_origin_rows (ok_origin_rows (P := PySem.Challenge.pw_redolots_k77_whole_spoilers_of_least_log) (w := w) (mg := mg) (base := base) g a_home f_origin_rows) (He.glo_ok X G' (c1.fact 9 (f := .glo "origin_rows") rfl)) (f_origin_rows.bindsN fun _ _ _ _ _ _ us hl => match us, hl with | [_, _], _ => rfl)
  have a_last_writes := fn_mk f_last_writes (ok_last_writes (P := PySem.Challenge.pw_redolots_k77_whole_spoilers_of_least_log) (w := w) (mg := mg) (base := base) g  f_last_writes) (He.glo_ok X G' (c1.fact 10 (f := .glo "last_writes") rfl)) (f_last_writes.bindsN fun _ _ _ _ _ _ us hl => match us, hl with | [_, _], _ => rfl)
  have a_mattering := fn_mk f_mattering (ok_mattering (P := PySem.Challenge.pw_redolots_k77_whole_spoilers_of_least_log) (w := w) (mg := mg) (base := base) g a_origin_rows f_mattering) (He.glo_ok X G' (c1.fact 11 (f := .glo "mattering") rfl)) (f_mattering.bindsN fun _ _ _ _ _ _ us hl => match us, hl with | [_, _, _], _ => rfl)
  have a_idle_indexes := fn_mk f_idle_indexes (ok_idle_indexes (P := PySem.Challenge.pw_redolots_k77_whole_spoilers_of_least_log) (w := w) (mg := mg) (base := base) g a_origin_rows f_idle_indexes) (He.glo_ok X G' (c1.fact 12 (f := .glo "idle_indexes") rfl)) (f_idle_indexes.bindsN fun _ _ _ _ _ _ us hl => match us, hl with | [_, _], _ => rfl)
  have a_check_goal := fn_mk f_check_goal (ok_check_goal (P := PySem.Challenge.pw_redolots_k77_whole_spoilers_of_least_log) (w := w) (mg := mg) (base := base) g a_is_index f_check_goal) (He.glo_ok X G' (c1.fact 13 (f := .glo "check_goal") rfl)) (f_check_goal.bindsN fun _ _ _ _ _ _ us hl => match us, hl with | [_], _ => rfl)
  have a_changed_blocks := fn_mk f_changed_blocks (ok_changed (P := PySem.Challenge.pw_redolots_k77_whole_spoilers_of_least_log) (w := w) (mg := mg) (base := base) g  f_changed_blocks) (He.glo_ok X G' (c1.fact 14 (f := .glo "changed_blocks") rfl)) (f_changed_blocks.bindsN fun _ _ _ _ _ _ us hl => match us, hl with | [_], _ => rfl)
  have a_homeless := fn_mk f_homeless (ok_homeless (P := PySem.Challenge.pw_redolots_k77_whole_spoilers_of_least_log) (w := w) (mg := mg) (base := base) g a_check_goal f_homeless) (He.glo_ok X G' (c1.fact 15 (f := .glo "homeless") rfl)) (f_homeless.bindsN fun _ _ _ _ _ _ us hl => match us, hl with | [_], _ => rfl)
  have a_safe_log := fn_mk f_safe_log (ok_safe (P := PySem.Challenge.pw_redolots_k77_whole_spoilers_of_least_log) (w := w) (mg := mg) (base := base) g a_homeless a_changed_blocks a_copies f_safe_log) (He.glo_ok X G' (c1.fact 16 (f := .glo "safe_log") rfl)) (f_safe_log.bindsN fun _ _ _ _ _ _ us hl => match us, hl with | [_], _ => rfl)
  have a_missing := fn_mk f_missing (ok_missing (P := PySem.Challenge.pw_redolots_k77_whole_spoilers_of_least_log) (w := w) (mg := mg) (base := base) g  f_missing) (He.glo_ok X G' (c1.fact 17 (f := .glo "_missing") rfl)) (f_missing.bindsN fun _ _ _ _ _ _ us hl => match us, hl with | [_], _ => rfl)
  have a_check_possible := fn_mk f_check_possible (ok_check_possible (P := PySem.Challenge.pw_redolots_k77_whole_spoilers_of_least_log) (w := w) (mg := mg) (base := base) g a_check_goal a_changed_blocks a_missing f_check_possible) (He.glo_ok X G' (c1.fact 18 (f := .glo "check_possible") rfl)) (f_check_possible.bindsN fun _ _ _ _ _ _ us hl => match us, hl with | [_], _ => rfl)
  have a_ring_from := fn_mk f_ring_from (ok_ring_from (P := PySem.Challenge.pw_redolots_k77_whole_spoilers_of_least_log) (w := w) (mg := mg) (base := base) g  f_ring_from) (He.glo_ok X G' (c1.fact 19 (f := .glo "_ring_from") rfl)) (f_ring_from.bindsN fun _ _ _ _ _ _ us hl => match us, hl with | [_, _], _ => rfl)
  have a_closed_rings := fn_mk f_closed_rings (ok_closed_rings (P := PySem.Challenge.pw_redolots_k77_whole_spoilers_of_least_log) (w := w) (mg := mg) (base := base) g a_check_goal a_ring_from f_closed_rings) (He.glo_ok X G' (c1.fact 20 (f := .glo "closed_rings") rfl)) (f_closed_rings.bindsN fun _ _ _ _ _ _ us hl => match us, hl with | [_], _ => rfl)
  have a_fewest_copies := fn_mk f_fewest_copies (ok_fewest (P := PySem.Challenge.pw_redolots_k77_whole_spoilers_of_least_log) (w := w) (mg := mg) (base := base) g a_check_possible a_changed_blocks a_closed_rings f_fewest_copies) (He.glo_ok X G' (c1.fact 21 (f := .glo "fewest_copies") rfl)) (f_fewest_copies.bindsN fun _ _ _ _ _ _ us hl => match us, hl with | [_], _ => rfl)
  have a_ring_pairs := fn_mk f_ring_pairs (ok_ring_pairs (P := PySem.Challenge.pw_redolots_k77_whole_spoilers_of_least_log) (w := w) (mg := mg) (base := base) g  f_ring_pairs) (He.glo_ok X G' (c1.fact 22 (f := .glo "_ring_pairs") rfl)) (f_ring_pairs.bindsN fun _ _ _ _ _ _ us hl => match us, hl with | [_, _], _ => rfl)
  have a_free_blocks := fn_mk f_free_blocks (ok_free (P := PySem.Challenge.pw_redolots_k77_whole_spoilers_of_least_log) (w := w) (mg := mg) (base := base) g  f_free_blocks) (He.glo_ok X G' (c1.fact 23 (f := .glo "_free_blocks") rfl)) (f_free_blocks.bindsN fun _ _ _ _ _ _ us hl => match us, hl with | [_, _, _], _ => rfl)
  have a_least_log := fn_mk f_least_log (ok_least (P := PySem.Challenge.pw_redolots_k77_whole_spoilers_of_least_log) (w := w) (mg := mg) (base := base) g a_check_possible a_missing a_closed_rings a_ring_pairs a_origin_rows a_free_blocks a_copies f_least_log) (He.glo_ok X G' (c1.fact 24 (f := .glo "least_log") rfl)) (f_least_log.bindsN fun _ _ _ _ _ _ us hl => match us, hl with | [_], _ => rfl)
  have a_undisturbed := fn_mk f_undisturbed (ok_undisturbed (P := PySem.Challenge.pw_redolots_k77_whole_spoilers_of_least_log) (w := w) (mg := mg) (base := base) g  f_undisturbed) (He.glo_ok X G' (c1.fact 25 (f := .glo "undisturbed") rfl)) (f_undisturbed.bindsN fun _ _ _ _ _ _ us hl => match us, hl with | [_], _ => rfl)
  have a_top_of := fn_mk f_top_of (ok_top_of (P := PySem.Challenge.pw_redolots_k77_whole_spoilers_of_least_log) (w := w) (mg := mg) (base := base) g a_origin_rows f_top_of) (He.glo_ok X G' (c1.fact 26 (f := .glo "_top_of") rfl)) (f_top_of.bindsN fun _ _ _ _ _ _ us hl => match us, hl with | [_, _], _ => rfl)
  have a_mark_of := fn_mk f_mark_of (ok_mark_of (P := PySem.Challenge.pw_redolots_k77_whole_spoilers_of_least_log) (w := w) (mg := mg) (base := base) g a_mattering f_mark_of) (He.glo_ok X G' (c1.fact 27 (f := .glo "_mark_of") rfl)) (f_mark_of.bindsN fun _ _ _ _ _ _ us hl => match us, hl with | [_, _], _ => rfl)
  have a_late_of := fn_mk f_late_of (ok_late_of (P := PySem.Challenge.pw_redolots_k77_whole_spoilers_of_least_log) (w := w) (mg := mg) (base := base) g a_origin_rows a_last_writes f_late_of) (He.glo_ok X G' (c1.fact 28 (f := .glo "_late_of") rfl)) (f_late_of.bindsN fun _ _ _ _ _ _ us hl => match us, hl with | [_, _], _ => rfl)
  have a_top_spoiler := fn_mk f_top_spoiler (ok_top_sp (P := PySem.Challenge.pw_redolots_k77_whole_spoilers_of_least_log) (w := w) (mg := mg) (base := base) g a_check_log a_top_of f_top_spoiler) (He.glo_ok X G' (c1.fact 29 (f := .glo "top_spoiler") rfl)) (f_top_spoiler.bindsN fun _ _ _ _ _ _ us hl => match us, hl with | [_, _], _ => rfl)
  have a_mark_spoiler := fn_mk f_mark_spoiler (ok_mark_sp (P := PySem.Challenge.pw_redolots_k77_whole_spoilers_of_least_log) (w := w) (mg := mg) (base := base) g a_check_log a_mark_of f_mark_spoiler) (He.glo_ok X G' (c1.fact 30 (f := .glo "mark_spoiler") rfl)) (f_mark_spoiler.bindsN fun _ _ _ _ _ _ us hl => match us, hl with | [_, _], _ => rfl)
  have a_late_spoiler := fn_mk f_late_spoiler (ok_late_sp (P := PySem.Challenge.pw_redolots_k77_whole_spoilers_of_least_log) (w := w) (mg := mg) (base := base) g a_check_log a_late_of f_late_spoiler) (He.glo_ok X G' (c1.fact 31 (f := .glo "late_spoiler") rfl)) (f_late_spoiler.bindsN fun _ _ _ _ _ _ us hl => match us, hl with | [_, _], _ => rfl)
  have a_top_run := fn_mk f_top_run (ok_top_run (P := PySem.Challenge.pw_redolots_k77_whole_spoilers_of_least_log) (w := w) (mg := mg) (base := base) g R a_top_of a_undisturbed f_top_run) (He.glo_ok X G' (c1.fact 32 (f := .glo "_top_run") rfl)) (f_top_run.bindsN fun _ _ _ _ _ _ us hl => match us, hl with | [_, _], _ => rfl)
  have a_mark_run := fn_mk f_mark_run (ok_mark_run (P := PySem.Challenge.pw_redolots_k77_whole_spoilers_of_least_log) (w := w) (mg := mg) (base := base) g R a_mark_of a_undisturbed f_mark_run) (He.glo_ok X G' (c1.fact 33 (f := .glo "_mark_run") rfl)) (f_mark_run.bindsN fun _ _ _ _ _ _ us hl => match us, hl with | [_, _], _ => rfl)
  have a_late_run := fn_mk f_late_run (ok_late_run (P := PySem.Challenge.pw_redolots_k77_whole_spoilers_of_least_log) (w := w) (mg := mg) (base := base) g a_late_of a_undisturbed a_origin_rows a_last_writes f_late_run) (He.glo_ok X G' (c1.fact 34 (f := .glo "_late_run") rfl)) (f_late_run.bindsN fun _ _ _ _ _ _ us hl => match us, hl with | [_, _], _ => rfl)
  have a_spoiling_run := fn_mk f_spoiling_run (ok_spoiling_run (P := PySem.Challenge.pw_redolots_k77_whole_spoilers_of_least_log) (w := w) (mg := mg) (base := base) g a_check_log a_idle_indexes a_top_run a_mark_run a_late_run f_spoiling_run) (He.glo_ok X G' (c1.fact 35 (f := .glo "spoiling_run") rfl)) (f_spoiling_run.bindsN fun _ _ _ _ _ _ us hl => match us, hl with | [_, _, _], _ => rfl)
  have a_strength := fn_mk f_strength (ok_strength (P := PySem.Challenge.pw_redolots_k77_whole_spoilers_of_least_log) (w := w) (mg := mg) (base := base) g a_check_log a_idle_indexes a_top_of a_late_of f_strength) (He.glo_ok X G' (c1.fact 36 (f := .glo "strength") rfl)) (f_strength.bindsN fun _ _ _ _ _ _ us hl => match us, hl with | [_, _], _ => rfl)
  have x_check_possible := fnx_mk f_check_possible (ok_check_possibleX (P := PySem.Challenge.pw_redolots_k77_whole_spoilers_of_least_log) (w := w) (mg := mg) (base := base) g N a_check_goal a_changed_blocks a_missing f_check_possible) (He.glo_ok X G' (c1.fact 18 (f := .glo "check_possible") rfl)) (f_check_possible.bindsN fun _ _ _ _ _ _ us hl => match us, hl with | [_], _ => rfl)
  have x_least_log := fnx_mk f_least_log (ok_leastX (P := PySem.Challenge.pw_redolots_k77_whole_spoilers_of_least_log) (w := w) (mg := mg) (base := base) g x_check_possible f_least_log) (He.glo_ok X G' (c1.fact 24 (f := .glo "least_log") rfl)) (f_least_log.bindsN fun _ _ _ _ _ _ us hl => match us, hl with | [_], _ => rfl)
  have x_fewest_copies := fnx_mk f_fewest_copies (ok_fewestX (P := PySem.Challenge.pw_redolots_k77_whole_spoilers_of_least_log) (w := w) (mg := mg) (base := base) g x_check_possible f_fewest_copies) (He.glo_ok X G' (c1.fact 21 (f := .glo "fewest_copies") rfl)) (f_fewest_copies.bindsN fun _ _ _ _ _ _ us hl => match us, hl with | [_], _ => rfl)
  have x_safe_log := fnx_mk f_safe_log (ok_safeX (k := 0) (P := PySem.Challenge.pw_redolots_k77_whole_spoilers_of_least_log) (w := w) (mg := mg) (base := base) g I a_homeless f_safe_log) (He.glo_ok X G' (c1.fact 16 (f := .glo "safe_log") rfl)) (f_safe_log.bindsN fun _ _ _ _ _ _ us hl => match us, hl with | [_], _ => rfl)
  have a_law_whole := fn_mk f_law_whole (ok_whole (P := PySem.Challenge.pw_redolots_k77_whole_spoilers_of_least_log) (w := w) (mg := mg) (base := base) g  f_law_whole) (He.glo_ok X G' (c1.fact 39 (f := .glo "_law_whole") rfl)) (f_law_whole.bindsN fun _ _ _ _ _ _ us hl => match us, hl with | [_], _ => rfl)
  have p_law_whole := fnp_mk f_law_whole (ok_wholeH (P := PySem.Challenge.pw_redolots_k77_whole_spoilers_of_least_log) (w := w) (mg := mg) (base := base) g  f_law_whole) (He.glo_ok X G' (c1.fact 39 (f := .glo "_law_whole") rfl)) (f_law_whole.bindsN fun _ _ _ _ _ _ us hl => match us, hl with | [_], _ => rfl)
  have a_law_row := fn_mk f_law_row (ok_row (P := PySem.Challenge.pw_redolots_k77_whole_spoilers_of_least_log) (w := w) (mg := mg) (base := base) g a_law_whole f_law_row) (He.glo_ok X G' (c1.fact 40 (f := .glo "_law_row") rfl)) (f_law_row.bindsN fun _ _ _ _ _ _ us hl => match us, hl with | [_], _ => rfl)
  have a_law_images := fn_mk f_law_images (ok_images (P := PySem.Challenge.pw_redolots_k77_whole_spoilers_of_least_log) (w := w) (mg := mg) (base := base) g  f_law_images) (He.glo_ok X G' (c1.fact 45 (f := .glo "_law_images") rfl)) (f_law_images.bindsN fun _ _ _ _ _ _ us hl => match us, hl with | [_, _], _ => rfl)
  have a_law_top := fn_mk f_law_top (ok_ltop (P := PySem.Challenge.pw_redolots_k77_whole_spoilers_of_least_log) (w := w) (mg := mg) (base := base) g a_law_images f_law_top) (He.glo_ok X G' (c1.fact 46 (f := .glo "_law_top") rfl)) (f_law_top.bindsN fun _ _ _ _ _ _ us hl => match us, hl with | [_, _], _ => rfl)
  have a_law_late := fn_mk f_law_late (ok_llate (P := PySem.Challenge.pw_redolots_k77_whole_spoilers_of_least_log) (w := w) (mg := mg) (base := base) g  f_law_late) (He.glo_ok X G' (c1.fact 48 (f := .glo "_law_late") rfl)) (f_law_late.bindsN fun _ _ _ _ _ _ us hl => match us, hl with | [_, _], _ => rfl)
  have a_law_further := fn_mk f_law_further (ok_further (P := PySem.Challenge.pw_redolots_k77_whole_spoilers_of_least_log) (w := w) (mg := mg) (base := base) g  f_law_further) (He.glo_ok X G' (c1.fact 49 (f := .glo "_law_further") rfl)) (f_law_further.bindsN fun _ _ _ _ _ _ us hl => match us, hl with | [_, _], _ => rfl)
  have a_law_played := fn_mk f_law_played (ok_played (P := PySem.Challenge.pw_redolots_k77_whole_spoilers_of_least_log) (w := w) (mg := mg) (base := base) g a_law_whole a_law_row a_law_further f_law_played) (He.glo_ok X G' (c1.fact 50 (f := .glo "_law_played") rfl)) (f_law_played.bindsN fun _ _ _ _ _ _ us hl => match us, hl with | [_, _, _, _], _ => rfl)
  have a_law_pairs := fn_mk f_law_pairs (ok_lpairs (P := PySem.Challenge.pw_redolots_k77_whole_spoilers_of_least_log) (w := w) (mg := mg) (base := base) g a_law_whole f_law_pairs) (He.glo_ok X G' (c1.fact 44 (f := .glo "_law_pairs") rfl)) (f_law_pairs.bindsN fun _ _ _ _ _ _ us hl => match us, hl with | [_, _], _ => rfl)
  have a_law_closed := fn_mk f_law_closed (ok_lclosed (P := PySem.Challenge.pw_redolots_k77_whole_spoilers_of_least_log) (w := w) (mg := mg) (base := base) g  f_law_closed) (He.glo_ok X G' (c1.fact 43 (f := .glo "_law_closed") rfl)) (f_law_closed.bindsN fun _ _ _ _ _ _ us hl => match us, hl with | [_], _ => rfl)
  have a_law_mark := fn_mk f_law_mark (ok_lmark (P := PySem.Challenge.pw_redolots_k77_whole_spoilers_of_least_log) (w := w) (mg := mg) (base := base) g  f_law_mark) (He.glo_ok X G' (c1.fact 47 (f := .glo "_law_mark") rfl)) (f_law_mark.bindsN fun _ _ _ _ _ _ us hl => match us, hl with | [_, _], _ => rfl)
  have a_law_none := fn_mk f_law_none (ok_lnone (P := PySem.Challenge.pw_redolots_k77_whole_spoilers_of_least_log) (w := w) (mg := mg) (base := base) g N exN x_least_log x_fewest_copies f_law_none) (He.glo_ok X G' (c1.fact 53 (f := .glo "_law_none") rfl)) (f_law_none.bindsN fun _ _ _ _ _ _ us hl => match us, hl with | [_], _ => rfl)
  have a_law_unspoilt := fn_mk f_law_unspoilt (ok_unspoilt (P := PySem.Challenge.pw_redolots_k77_whole_spoilers_of_least_log) (w := w) (mg := mg) (base := base) g a_top_spoiler a_mark_spoiler a_late_spoiler a_strength a_spoiling_run a_safe_log a_law_pairs a_law_images f_law_unspoilt) (He.glo_ok X G' (c1.fact 52 (f := .glo "_law_unspoilt") rfl)) (f_law_unspoilt.bindsN fun _ _ _ _ _ _ us hl => match us, hl with | [_, _], _ => rfl)
  have a_law_spoilt := fn_mk f_law_spoilt (ok_spoilt (P := PySem.Challenge.pw_redolots_k77_whole_spoilers_of_least_log) (w := w) (mg := mg) (base := base) g hmS exS xf xno a_top_spoiler a_mark_spoiler a_late_spoiler a_strength a_spoiling_run x_safe_log a_law_row a_law_whole p_law_whole a_law_top a_law_mark a_law_late a_law_played f_law_spoilt) (He.glo_ok X G' (c1.fact 51 (f := .glo "_law_spoilt") rfl)) (f_law_spoilt.bindsN fun _ _ _ _ _ _ us hl => match us, hl with | [_, _, _], _ => rfl)
  have a_law_take := fn_mk f_law_take (ok_take (P := PySem.Challenge.pw_redolots_k77_whole_spoilers_of_least_log) (w := w) (mg := mg) (base := base) g  f_law_take) (He.glo_ok X G' (c1.fact 38 (f := .glo "_law_take") rfl)) (f_law_take.bindsN fun _ _ _ _ _ _ us hl => match us, hl with | [_, _], _ => rfl)
  have a_law_rings_goal := fn_mk f_law_rings_goal (ok_rgoal (P := PySem.Challenge.pw_redolots_k77_whole_spoilers_of_least_log) (w := w) (mg := mg) (base := base) g a_law_take f_law_rings_goal) (He.glo_ok X G' (c1.fact 41 (f := .glo "_law_rings_goal") rfl)) (f_law_rings_goal.bindsN fun _ _ _ _ _ _ us hl => match us, hl with | [_, _], _ => rfl)
  have a_law_goal := fn_mk f_law_goal (ok_goal (P := PySem.Challenge.pw_redolots_k77_whole_spoilers_of_least_log) (w := w) (mg := mg) (base := base) g a_law_take a_law_rings_goal f_law_goal) (He.glo_ok X G' (c1.fact 42 (f := .glo "_law_goal") rfl)) (f_law_goal.bindsN fun _ _ _ _ _ _ us hl => match us, hl with | [_], _ => rfl)
  have a_law_box := fn_mk f_law_box (ok_box (P := PySem.Challenge.pw_redolots_k77_whole_spoilers_of_least_log) (w := w) (mg := mg) (base := base) g  f_law_box) (He.glo_ok X G' (c1.fact 37 (f := .glo "_law_box") rfl)) (f_law_box.bindsN fun _ _ _ _ _ _ us hl => match us, hl with | [_], _ => rfl)
  exact ok_law (P := PySem.Challenge.pw_redolots_k77_whole_spoilers_of_least_log) (w := w) (mg := mg) (base := base) g a_law_box a_law_goal a_law_closed a_closed_rings a_law_row a_law_none a_least_log a_fewest_copies a_law_whole a_law_pairs a_law_images a_law_unspoilt a_law_spoilt f_law
theorem law_sp {K : PySem.W.Frag} {H : Hp} {a : Addr} {ns : List Int} (hS : SqL K H a (ns.map V.int)) (hl : ns.length ≤ 63) : spP C_law K [.ref a] H (fun v _ => v = .bl true) (fun _ _ _ => False) :=
  ⟨[dt (.list (dI ns))], _, .cons (show Dp K H (.ref a) (.list (dI ns)) from .lst hS (DpAll.of_ints ns)) .nil, .mk ns hl, fun v H' _ hv => Dp.bl_ hv⟩
end H77
set_option Elab.async false
set_option linter.all false
set_option maxRecDepth 100000
set_option maxHeartbeats 8000000
open PySem PySem.W PySem.Calls PyProof.Rows
set_option maxRecDepth 100000 in
set_option maxHeartbeats 8000000 in
theorem PySem.Challenge.cw_redolots_k77_whole_spoilers_of_least_log_holds : PySem.Challenge.rw_redolots_k77_whole_spoilers_of_least_log.Holds := by
  w_on; o_law
  refine HandSHeadRun.head_any (r := OpenLaw.row PySem.Challenge.rw_redolots_k77_whole_spoilers_of_least_log) (q := view (OpenLaw.row PySem.Challenge.rw_redolots_k77_whole_spoilers_of_least_log).prog [112]) (H := H77.hk) (ob := H77.ob) (M := 20000) (loose := H77.nms) (d := HandSHeadRun.topDef (OpenLaw.row PySem.Challenge.rw_redolots_k77_whole_spoilers_of_least_log).prog 112) (kwd := []) H77.ob_eq
    (by kernel_rfl) (fun s => by kernel_rfl) H77.run (by kernel_rfl) (by kernel_rfl) (by kernel_rfl) (by rfl) (by first | assumption | decide +kernel) (by decide +kernel) ⟨rfl, rfl, rfl, rfl, rfl, by decide +kernel⟩ ?hw ?hc
  case hw => w_witness2
  case hc =>
    refine L2.walk_ofE (l := PySem.Challenge.rw_redolots_k77_whole_spoilers_of_least_log) (n := 63) (k := 8) (x := "_law_script") (CX := L2.CX0) rfl (by decide) (by kernel_rfl) ⟨rfl, by decide, by decide⟩ ?F (fun _ _ _ _ z => z)
    intro w mg fa h Y G hmg0
    obtain ⟨K, KX, c⟩ := Y
    have hmg : mg ("law" : PySem.Str) = some (.ref fa) := by
      have e : (HandSHeadRun.topDef (OpenLaw.row PySem.Challenge.rw_redolots_k77_whole_spoilers_of_least_log).prog 112).name = ("law" : PySem.Str) := by kernel_rfl
      rw [← e]
      exact hmg0
    obtain ⟨fd, hb, hF⟩ := H77.facts (w := w) KX G hmg c
    exact ⟨K, fd, _, KX, hb, fun H a ns hl _ hS => H77.law_sp hS hl, hF⟩
