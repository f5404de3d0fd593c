import PyProof.Rows.All
import Wide.All
import OpenK.AllK
import Wide.FinOn
import HandS.ForExc
import HandS.ForMost
import HandS.Evl
import HandS.Wide
import HandS.IsInst
import HandS.Zip
import HandS.ExcInit
import HandS.Defaults
import HandS.ExcValue
import HandS.Lambda
import HandS.TupAny
import HandS.Walk
import HandS.TupMul
import HandS.More
import HandS.Words
import HandS.WordsExc
import HandS.Head0
import HandS.Head1
import HandS.Head2
import HandS.HeadEnd
import HandS.HeadHook1
import HandS.HeadHook2
import HandS.ExcOwn
import HandS.ExcIs
import HandS.Deep
import HandS.TupLe
import HandS.Style
import HandS.Iter
import PyProof.EnumMake
import HandS.Conv
import KE.DatumOrd
import HandS.ExcField
import HandS.CallSlots
import KE.KExcIs
import HandS.Strs
import KE.KDictSum
import KE.KDictCopyH
import KE.SortData
import HandS.SetKeys
import PyProof.DictMoreH
import HandS.SortInts
import HandS.Small
import PySem.Challenge.RW_clackrow_k54_rings_of_sightings
set_option Elab.async false
set_option linter.all false
set_option maxRecDepth 100000
set_option maxHeartbeats 4000000
namespace HL
open PySem PySem.Spec PyProof.Rows L2 Evl
abbrev KF := PySem.W.Frag
def obsM (n : Nat) (fa : List He.Fa) (fn : List He.DefD) (ex : KF → Bool) (g : Addr → Option Obj) : He.AlD × Bool := (He.obsD fa fn (He.frG g (He.asD g n)), ex (He.frG g (He.asD g n)))
def hookM (n : Nat) (fa : List He.Fa) (fn : List He.DefD) (ex : KF → Bool) : PySem.W.Hook where
  α := He.AlD × Bool
  obs := fun s => obsM n fa fn ex s.heap.get?
  val := fun _ => (He.valD fn, true)
  says := fun _ h => ∃ K : PySem.W.Frag, K.In h ∧ He.SaysD fa fn K ∧ ex K = true
  of := fun _ _ e => ⟨_, He.frG_in, congrArg (fun z : He.AlD × Bool => z.1) e, congrArg (fun z : He.AlD × Bool => z.2) e⟩
  keeps := fun _ _ _ ⟨K, hK, c⟩ k => ⟨K, PySem.W.Frag.In.keeps hK k, c⟩
theorem obsM_eq {n : Nat} {fa : List He.Fa} {fn : List He.DefD} {ex : KF → Bool} {g : Addr → Option Obj} {s : Shared} (h : ∀ a, g a = s.heap.get? a) : obsM n fa fn ex g = (hookM n fa fn ex).obs s := by
  have e : g = s.heap.get? := funext h
  rw [e] <;> rfl
def excB (K : KF) (D : Addr) : Bool := decide (PySem.W.findIn K (.ref D) "__getattribute__" = some (some (.builtin "BaseException.__getattribute__"))) && (decide (PySem.W.findIn K (.ref D) "__getattr__" = some none) && (decide (PySem.W.subIn K (.ref D) (.type "BaseException") = some true) && (PySem.W.hasDictIn K D &&
  (decide (PySem.W.findIn K (.ref D) "__class__" = some (some (.builtin "object.__class__"))) && (decide (PySem.W.specialIn K (.builtin "object.__class__") "__get__" = some (some (.builtin "getset_descriptor.__get__"))) && (decide (PySem.W.takesIn K (.builtin "object.__class__") = some true) && decide (PySem.W.mroIn K D (.type "object") = some true)))))))
abbrev KA (K : KF) (x y : Str) (b : Bool) : Prop := PySem.W.kitOne K (.ref (He.ga K x)) (.ref (He.ga K y)) = some b
abbrev KV (K : KF) (x : Str) (y : String) (b : Bool) : Prop := PySem.W.kitOne K (.ref (He.ga K x)) (.type y) = some b
abbrev EM (K : KF) (x y : Str) (b : Bool) : Prop := PySem.W.exmOne K (.ref (He.ga K x)) (.ref (He.ga K y)) = some b
def oexB (K : KF) (C : Addr) : Bool := (match K.lookup C with
  | some ⟨.type "type", _, .cls cd, sl⟩ => (match cd.mro, sl.toList with
    | .ref C' :: bm, [_, _, _, _, some (.builtin n), _] => C' == C && n == "ValueError.__new__" && !cd.hasDel && cd.hasDict && PySem.HandSPX.refsVE bm
    | _, _ => false)
  | _ => false) && (decide (PySem.W.findIn K (.ref C) "__setattr__" = some (some (.builtin "object.__setattr__"))) && (decide (PySem.W.subIn K (.ref C) (.type "BaseException") = some true) &&
   (decide (PySem.W.typeIn K (.ref C) = some (.type "type")) && PySem.W.keepIn K (.ref C))))
def mcB (K : KF) (x : Str) : Bool := oexB K (He.ga K x) && (xfB K (He.ga K x) && (decide (PySem.W.findIn K (.ref (He.ga K x)) "moment" = some none) &&
  (decide (PySem.W.findIn K (.ref (He.ga K x)) "__init__" = some (some (.ref (He.fAd K (x, some "__init__"))))) && decide (PySem.W.typeIn K (.ref (He.fAd K (x, some "__init__"))) = some (.type "function")))))
def clsB (K : KF) (x : Str) : Bool := PySem.W.plainGet K (He.ga K x) Str.empty && (PySem.W.hasDictIn K (He.ga K x) && (PySem.W.plainOver K (He.ga K x) && decide (PySem.W.findIn K (.ref (He.ga K x)) "__setattr__" = some (some (.builtin "object.__setattr__")))))
def naB (K : KF) (x f : Str) : Bool := decide (PySem.W.findIn K (.ref (He.ga K x)) f = some none)
def metB (K : KF) (x m : Str) : Bool := decide (PySem.W.findIn K (.ref (He.ga K x)) m = some (some (.ref (He.fAd K (x, some m))))) && (PySem.W.isFn K (.ref (He.fAd K (x, some m))) && PySem.W.keepIn K (.ref (He.fAd K (x, some m))))
def makB (K : KF) (x : Str) : Bool := PySem.W.makesIn K (He.ga K x) && (metB K x "__init__" && PySem.W.keepIn K (.ref (He.ga K x)))
def refusals : List Str := ["NoRatio", "TooMany", "NotEven", "NoEnd", "NoBall", "NoPlace", "NoRow", "NoText", "NoOrder", "NoPast", "Together", "Shut"]
def APB (K : KF) : Bool := refusals.all fun x => excB K (He.ga K x) && (decide (KA K x "ClackError" true) && (decide (KV K x "ValueError" true) && refusals.all fun y => decide (KA K x y (decide (x = y)))))
end HL
namespace LK
open PySem PySem.Spec PyProof.Rows L2 Evl HL
def top (i : Nat) : Stmt := PySem.Challenge.pw_clackrow_k54_rings_of_sightings.main.body.getD i (.Pass ⟨0, 0, 0, 0⟩)
abbrev s_law_lowest : Stmt := top 29
abbrev s_law_product : Stmt := top 33
abbrev s_law_sum : Stmt := top 32
abbrev s_law_minus : Stmt := top 34
abbrev s_law_share : Stmt := top 38
abbrev s_law_can : Stmt := top 45
abbrev s_law_cell : Stmt := top 26
abbrev s_law_dig : Stmt := top 27
abbrev s_law_does : Stmt := top 39
abbrev s_law_next : Stmt := top 28
abbrev s_law_meeting : Stmt := top 35
abbrev s_law_far : Stmt := top 30
abbrev s_law_ratio : Stmt := top 31
abbrev s_law_sighting : Stmt := top 36
abbrev s_law_weights : Stmt := top 37
abbrev s_law_drawn : Stmt := top 44
abbrev s_law_is_ring : Stmt := top 43
abbrev s_divisor_of : Stmt := top 5
abbrev s_is_whole : Stmt := top 4
abbrev s_ratio : Stmt := top 6
abbrev s_minus : Stmt := top 7
abbrev s_changes : Stmt := top 14
abbrev s_is_rebound : Stmt := top 15
abbrev s_times : Stmt := top 8
abbrev s_is_done : Stmt := top 17
abbrev s_does_all : Stmt := top 18
abbrev s_less : Stmt := top 10
abbrev s_over : Stmt := top 9
abbrev s_share_of : Stmt := top 16
abbrev s_turned_over : Stmt := top 19
abbrev s_step_by : Stmt := top 23
abbrev s_lets_ring : Stmt := top 24
abbrev s_Part_way_home : Stmt := inClass (top 21) 2
abbrev s_Part_way_to : Stmt := inClass (top 21) 3
abbrev s_steps_from : Stmt := top 20
abbrev s_Part_joined : Stmt := inClass (top 21) 1
abbrev s_Part_init : Stmt := inClass (top 21) 0
abbrev s_Part_whole : Stmt := inClass (top 21) 4
abbrev s_weights_of : Stmt := top 22
abbrev s_law : Stmt := top 46
def fn : List He.DefD := [
  ⟨("_law_lowest", none), "_law_lowest", "_law_lowest", defArgs s_law_lowest, defBody s_law_lowest, defScope s_law_lowest, [], []⟩,
  ⟨("_law_product", none), "_law_product", "_law_product", defArgs s_law_product, defBody s_law_product, defScope s_law_product, [], []⟩,
  ⟨("_law_sum", none), "_law_sum", "_law_sum", defArgs s_law_sum, defBody s_law_sum, defScope s_law_sum, [], []⟩,
  ⟨("_law_minus", none), "_law_minus", "_law_minus", defArgs s_law_minus, defBody s_law_minus, defScope s_law_minus, [], []⟩,
  ⟨("_law_share", none), "_law_share", "_law_share", defArgs s_law_share, defBody s_law_share, defScope s_law_share, [], []⟩,
  ⟨("_law_can", none), "_law_can", "_law_can", defArgs s_law_can, defBody s_law_can, defScope s_law_can, [], []⟩,
  ⟨("_law_cell", none), "_law_cell", "_law_cell", defArgs s_law_cell, defBody s_law_cell, defScope s_law_cell, [], []⟩,
  ⟨("_law_dig", none), "_law_dig", "_law_dig", defArgs s_law_dig, defBody s_law_dig, defScope s_law_dig, [], []⟩,
  ⟨("_law_does", none), "_law_does", "_law_does", defArgs s_law_does, defBody s_law_does, defScope s_law_does, [], []⟩,
  ⟨("_law_next", none), "_law_next", "_law_next", defArgs s_law_next, defBody s_law_next, defScope s_law_next, [], []⟩,
  ⟨("_law_meeting", none), "_law_meeting", "_law_meeting", defArgs s_law_meeting, defBody s_law_meeting, defScope s_law_meeting, [], []⟩,
  ⟨("_law_far", none), "_law_far", "_law_far", defArgs s_law_far, defBody s_law_far, defScope s_law_far, [], []⟩,
  ⟨("_law_ratio", none), "_law_ratio", "_law_ratio", defArgs s_law_ratio, defBody s_law_ratio, defScope s_law_ratio, [], []⟩,
  ⟨("_law_sighting", none), "_law_sighting", "_law_sighting", defArgs s_law_sighting, defBody s_law_sighting, defScope s_law_sighting, [], []⟩,
  ⟨("_law_weights", none), "_law_weights", "_law_weights", defArgs s_law_weights, defBody s_law_weights, defScope s_law_weights, [], []⟩,
  ⟨("_law_drawn", none), "_law_drawn", "_law_drawn", defArgs s_law_drawn, defBody s_law_drawn, defScope s_law_drawn, [], []⟩,
  ⟨("_law_is_ring", none), "_law_is_ring", "_law_is_ring", defArgs s_law_is_ring, defBody s_law_is_ring, defScope s_law_is_ring, [], []⟩,
  ⟨("divisor_of", none), "divisor_of", "divisor_of", defArgs s_divisor_of, defBody s_divisor_of, defScope s_divisor_of, [], []⟩,
  ⟨("is_whole", none), "is_whole", "is_whole", defArgs s_is_whole, defBody s_is_whole, defScope s_is_whole, [], []⟩,
  ⟨("ratio", none), "ratio", "ratio", defArgs s_ratio, defBody s_ratio, defScope s_ratio, [.int 1], []⟩,
  ⟨("minus", none), "minus", "minus", defArgs s_minus, defBody s_minus, defScope s_minus, [], []⟩,
  ⟨("changes", none), "changes", "changes", defArgs s_changes, defBody s_changes, defScope s_changes, [], []⟩,
  ⟨("is_rebound", none), "is_rebound", "is_rebound", defArgs s_is_rebound, defBody s_is_rebound, defScope s_is_rebound, [], []⟩,
  ⟨("times", none), "times", "times", defArgs s_times, defBody s_times, defScope s_times, [], []⟩,
  ⟨("is_done", none), "is_done", "is_done", defArgs s_is_done, defBody s_is_done, defScope s_is_done, [], []⟩,
  ⟨("does_all", none), "does_all", "does_all", defArgs s_does_all, defBody s_does_all, defScope s_does_all, [], []⟩,
  ⟨("less", none), "less", "less", defArgs s_less, defBody s_less, defScope s_less, [], []⟩,
  ⟨("over", none), "over", "over", defArgs s_over, defBody s_over, defScope s_over, [], []⟩,
  ⟨("share_of", none), "share_of", "share_of", defArgs s_share_of, defBody s_share_of, defScope s_share_of, [], []⟩,
  ⟨("turned_over", none), "turned_over", "turned_over", defArgs s_turned_over, defBody s_turned_over, defScope s_turned_over, [], []⟩,
  ⟨("step_by", none), "step_by", "step_by", defArgs s_step_by, defBody s_step_by, defScope s_step_by, [], []⟩,
  ⟨("lets_ring", none), "lets_ring", "lets_ring", defArgs s_lets_ring, defBody s_lets_ring, defScope s_lets_ring, [], []⟩,
  ⟨("Part", some "way_home"), "way_home", "Part.way_home", defArgs s_Part_way_home, defBody s_Part_way_home, defScope s_Part_way_home, [], []⟩,
  ⟨("Part", some "way_to"), "way_to", "Part.way_to", defArgs s_Part_way_to, defBody s_Part_way_to, defScope s_Part_way_to, [], []⟩,
  ⟨("steps_from", none), "steps_from", "steps_from", defArgs s_steps_from, defBody s_steps_from, defScope s_steps_from, [], []⟩,
  ⟨("Part", some "joined"), "joined", "Part.joined", defArgs s_Part_joined, defBody s_Part_joined, defScope s_Part_joined, [], []⟩,
  ⟨("Part", some "__init__"), "__init__", "Part.__init__", defArgs s_Part_init, defBody s_Part_init, defScope s_Part_init, [], []⟩,
  ⟨("Part", some "whole"), "whole", "Part.whole", defArgs s_Part_whole, defBody s_Part_whole, defScope s_Part_whole, [], []⟩,
  ⟨("weights_of", none), "weights_of", "weights_of", defArgs s_weights_of, defBody s_weights_of, defScope s_weights_of, [], []⟩,
  ⟨("law", none), "law", "law", defArgs s_law, defBody s_law, defScope s_law, [], []⟩]
def fa : List He.Fa := [.glo "_law_lowest", .glo "_law_product", .glo "_law_sum", .glo "_law_minus", .glo "_law_share", .glo "_law_can", .glo "_law_cell", .glo "_law_dig", .glo "_law_does", .glo "_law_next", .glo "_law_meeting", .glo "_law_far", .glo "_law_ratio", .glo "_law_sighting", .glo "_law_weights", .glo "_law_drawn", .glo "_law_is_ring", .glo "divisor_of", .glo "is_whole", .glo "ratio", .glo "minus", .glo "changes", .glo "is_rebound", .glo "times", .glo "is_done", .glo "does_all", .glo "less", .glo "over", .glo "share_of", .glo "turned_over", .glo "step_by", .glo "lets_ring", .glo "steps_from", .glo "weights_of", .glo "law", .free "abs", .free "all", .free "bool", .free "enumerate", .free "int", .free "isinstance", .free "len", .free "list", .free "max", .free "min", .free "range", .free "tuple", .free "zip", .glo "NOUGHT", .glo "ONE", .glo "Part", .glo "NoRatio", .exc "NoRatio"]
def exs (K : KF) : List Bool := [He.tupB K "NOUGHT" [.int (0), .int (1)], He.tupB K "ONE" [.int (1), .int (1)], clsB K "Part", naB K "Part" "came", naB K "Part" "ring", naB K "Part" "sightings", naB K "Part" "weights", metB K "Part" "joined", metB K "Part" "way_home", metB K "Part" "way_to", metB K "Part" "whole", makB K "Part"]
def ex (K : KF) : Bool := (exs K).all id
abbrev R : PySem.W.OpenRow := PySem.W.OpenLaw.row PySem.Challenge.rw_clackrow_k54_rings_of_sightings
abbrev hk : PySem.W.Hook := hookM 5 fa fn ex
def ob (s : PySem.W.SharedT) : He.AlD × Bool := obsM 5 fa fn ex (HandSHeadRun.getT s)
theorem ob_eq (s : PySem.W.SharedT) : ob s = hk.obs s.abs := obsM_eq (HandSHeadRun.getT_eq s)
def names0 : List Str := ["ClackError", "NoRatio", "is_whole", "divisor_of", "ratio", "minus", "times", "over", "less", "NOUGHT", "ONE", "changes", "is_rebound", "share_of", "is_done", "does_all", "turned_over", "steps_from", "Part", "weights_of", "step_by", "lets_ring", "_law_cell", "_law_dig", "_law_next", "_law_lowest", "_law_far", "_law_ratio", "_law_sum", "_law_product"]
def names1 : List Str := ["_law_minus", "_law_meeting", "_law_sighting", "_law_weights", "_law_share", "_law_does", "_law_parts", "_law_common", "_law_least", "_law_is_ring", "_law_drawn", "_law_can"]
def names : List Str := names0 ++ names1
theorem map4 {α β γ δ ε : Type} {o : Option α} {f : α → β} {g : α → γ} {h : α → δ} {k : α → ε} {a : β} {b : γ} {c : δ} {d : ε} (h1 : o.map f = some a) (h2 : o.map g = some b) (h3 : o.map h = some c) (h4 : o.map k = some d) : o.map (fun s => (f s, g s, (h s, k s))) = some (a, b, (c, d)) := by
  cases o with
  | none => cases h1
  | some s => cases h1; cases h2; cases h3; cases h4; rfl
theorem runA (w : World) : ∀ os : PySem.OsState, (HandSHeadRun.endF (HandSHeadRun.stepQ (HandSHeadRun.denQ HandSHeadRun.tabQ) R.prog w) 20000 R.prog w os).map (fun s => HandSHeadRun.looksF R.prog (PySem.W.boot_heap w.params) s.abs) = some true := by
  intro os
  kernel_rfl
theorem runB (w : World) : ∀ os : PySem.OsState, (HandSHeadRun.endF (HandSHeadRun.stepQ (HandSHeadRun.denQ HandSHeadRun.tabQ) R.prog w) 20000 R.prog w os).map (fun s => HandSHeadRun.seenQ (PySem.W.view R.prog [46]) names (PySem.importedModules R.prog.main.body) (fun s => PySem.W.xlAt (PySem.W.view R.prog [46]) [] s && PySem.W.recOk R.toRowW.records s) s.abs) = some (PySem.W.openGood (PySem.W.view R.prog [46]) names) := by
  intro os
  kernel_rfl
theorem runD (w : World) : ∀ os : PySem.OsState, (HandSHeadRun.endF (HandSHeadRun.stepQ (HandSHeadRun.denQ HandSHeadRun.tabQ) R.prog w) 20000 R.prog w os).map (fun s => (ob s).1) = some (He.valD fn) := by
  intro os
  kernel_rfl
theorem runE (w : World) : ∀ os : PySem.OsState, (HandSHeadRun.endF (HandSHeadRun.stepQ (HandSHeadRun.denQ HandSHeadRun.tabQ) R.prog w) 20000 R.prog w os).map (fun s => (ob s).2) = some true := by
  intro os
  kernel_rfl
theorem run (w : World) : HandSHeadRun.RunEq R (PySem.W.view R.prog [46]) hk ob 20000 names w := fun os => map4 (runA w os) (runB w os) (runD w os) (runE w os)
end LK
namespace HL
open PySem PySem.Spec PyProof.Rows L2 Evl
/-- an exception: of a class without data, or one that bears a value -/
inductive Exc where
  | own (C : Addr)
  | low (C : Addr) (f : Str) (x : PyData)
  /-- made, not raised: held as a value at a -/
  | vo (C a : Addr)
  | vl (C : Addr) (f : Str) (x : PyData) (a : Addr)
/-- a part of a tuple -/
inductive Pt where
  | d (x : PyData)
  | o (i : Nat)
inductive DV where
  | d (x : PyData)
  | o (i : Nat)
  | v (x : V)
  | e (x : Exc) (a : Addr) (cls : Value) (dd : Option Addr)
  | t (ps : List Pt)
inductive OC where
  | lst (xs : List DV)
  | ins (C : Addr) (fs : List (Str × DV))
  | dic (kvs : List (Key × DV))
  /-- a dict whose keys are tuples -/
  | dit (kvs : List (List Key × DV))
  /-- the table of a def's code objects: they bear the name q -/
  | tab (P : Addr) (q : Str)
  /-- a dict whose keys are tuples, while a loop walks it -/
  | lkt (od : Obj) (us : List (List Key × V)) (kvs : List (List Key × DV))
  /-- a dict whose keys are whole numbers or texts, while a loop walks it -/
  | lkk (od : Obj) (us : List (Key × V)) (kvs : List (Key × DV))
  | gone
abbrev Gm := List (Option DV)
abbrev Om := List OC
abbrev Mp := Nat → Addr
mutual
theorem dp_ex {K : KF} {G H : Hp} (e : Ex G H) : ∀ (x : PyData) (v : V), Dp K G v x → Dp K H v x
  | .none, _, h => by cases h; exact .non
  | .bool b, _, h => by cases h; exact .bl b
  | .int i, _, h => by cases h; exact .int i
  | .str x, _, h => by cases h; exact .str x
  | .list ds, _, h => by
    cases h with
    | lst hs ha => exact .lst (ex_l e hs) (dps_ex e ds _ ha)
  | .tuple ds, _, h => by
    cases h with
    | tup hs ha => exact .tup (ex_t e hs) (dps_ex e ds _ ha)
  | .dict _, _, h => by cases h
theorem dps_ex {K : KF} {G H : Hp} (e : Ex G H) : ∀ (xs : List PyData) (vs : List V), DpAll K G vs xs → DpAll K H vs xs
  | [], _, h => by cases h; exact .nil
  | d :: ds, _, h => by
    cases h with
    | cons h1 h2 => exact .cons (dp_ex e d _ h1) (dps_ex e ds _ h2)
end
def RX (K : KF) (G : Hp) : Exc → Value → Option Addr → Prop
  | .own C, c, d => c = .ref C ∧ d = none
  | .low C f x, c, d => c = .ref C ∧ ∃ (a : Addr) (v : V), d = some a ∧ G a = some (.xd [(f, v)]) ∧ Dp K G v x
  | .vo C a, c, d => c = .ref C ∧ d = none ∧ G a = some (ExO (.ref C) a)
  | .vl C f x a, c, d => c = .ref C ∧ ∃ (b : Addr) (v : V), d = some b ∧ G a = some (exo a C (some b)) ∧ G b = some (exd b [(f, v)]) ∧ Dp K G v x
theorem RX.mono {K : KF} {G G' : Hp} (g : Ex G G') : ∀ {e : Exc} {c : Value} {d : Option Addr}, RX K G e c d → RX K G' e c d
  | .own _, _, _, r => r
  | .low _ _ _, _, _, ⟨e, a, v, e1, e2, r⟩ => ⟨e, a, v, e1, g _ _ e2, dp_ex g _ _ r⟩
  | .vo _ _, _, _, ⟨e, e1, e2⟩ => ⟨e, e1, g _ _ e2⟩
  | .vl _ _ _ _, _, _, ⟨e, b, v, e1, e2, e3, r⟩ => ⟨e, b, v, e1, g _ _ e2, g _ _ e3, dp_ex g _ _ r⟩
def RPt (K : KF) (m : Mp) (G : Hp) (n : Nat) : Pt → V → Prop
  | .d x, v => Dp K G v x
  | .o i, v => i < n ∧ v = .ref (m i)
def RV (K : KF) (m : Mp) (G : Hp) (n : Nat) : DV → V → Prop
  | .d x, v => Dp K G v x
  | .o i, v => i < n ∧ v = .ref (m i)
  | .v x, v => v = x
  | .e x a c d, v => v = .ref a ∧ RX K G x c d
  | .t ps, v => ∃ a vs, v = .ref a ∧ G a = some (.tup vs) ∧ Paired (RPt K m G n) ps vs
structure Nxt (m : Mp) (n : Nat) (G : Hp) (m' : Mp) (G' : Hp) : Prop where
  mm : ∀ i, i < n → m' i = m i
  gg : Ex G G'
theorem Nxt.refl (m : Mp) (n : Nat) (G : Hp) : Nxt m n G m G := ⟨fun _ _ => rfl, Ex.refl G⟩
theorem Nxt.trans {m m1 m2 : Mp} {n n1 : Nat} {G G1 G2 : Hp} (a : Nxt m n G m1 G1) (h : n ≤ n1) (b : Nxt m1 n1 G1 m2 G2) : Nxt m n G m2 G2 :=
  ⟨fun i hi => (b.mm i (Nat.lt_of_lt_of_le hi h)).trans (a.mm i hi), a.gg.trans b.gg⟩
theorem RPt.mono {K : KF} {m m' : Mp} {G G' : Hp} {n n' : Nat} (x : Nxt m n G m' G') (h : n ≤ n') : ∀ {d : Pt} {v : V}, RPt K m G n d v → RPt K m' G' n' d v
  | .d y, v, r => dp_ex x.gg y v r
  | .o i, v, r => ⟨Nat.lt_of_lt_of_le r.1 h, r.2.trans (by rw [x.mm i r.1])⟩
theorem RV.mono {K : KF} {m m' : Mp} {G G' : Hp} {n n' : Nat} (x : Nxt m n G m' G') (h : n ≤ n') : ∀ {d : DV} {v : V}, RV K m G n d v → RV K m' G' n' d v
  | .d y, v, r => dp_ex x.gg y v r
  | .o i, v, r => ⟨Nat.lt_of_lt_of_le r.1 h, r.2.trans (by rw [x.mm i r.1])⟩
  | .v y, v, r => r
  | .e y a c d, v, r => ⟨r.1, RX.mono x.gg r.2⟩
  | .t ps, v, ⟨a, vs, e, g, r⟩ => ⟨a, vs, e, x.gg _ _ g, Paired.mono (fun _ _ q => RPt.mono x h q) r⟩
theorem RVs.mono {K : KF} {m m' : Mp} {G G' : Hp} {n n' : Nat} (x : Nxt m n G m' G') (h : n ≤ n') {ds : List DV} {vs : List V} (r : Paired (RV K m G n) ds vs) : Paired (RV K m' G' n') ds vs :=
  Paired.mono (fun _ _ q => RV.mono x h q) r
def FRel (K : KF) (m : Mp) (G : Hp) (n : Nat) (p : Str × DV) (q : Str × V) : Prop := p.1 = q.1 ∧ RV K m G n p.2 q.2
def KRel (K : KF) (m : Mp) (G : Hp) (n : Nat) (p : Key × DV) (q : Key × V) : Prop := q.1 = p.1 ∧ RV K m G n p.2 q.2
def KTRel (K : KF) (m : Mp) (G : Hp) (n : Nat) (p : List Key × DV) (q : List Key × V) : Prop := q.1 = p.1 ∧ RV K m G n p.2 q.2
def TabG (H G : Hp) (P : Addr) (q : Str) : Prop := ∃ ps : Array Value, H P = some (.tbl ps) ∧ PySem.TriplesOk ps.toList ∧ ∀ (pos : Pos) (cv : Value), codeAmong pos ps.toList = some cv → ∃ c, cv = .ref c ∧ G c = some (LamX.CodeO c q)
def Holds (K : KF) (m : Mp) (G : Hp) (n : Nat) (H : Hp) (a : Addr) : OC → Prop
  | .lst xs => ∃ vs, H a = some (.lst vs) ∧ Paired (RV K m G n) xs vs
  | .ins C fs => ∃ dx vs, H a = some (.ins C dx vs) ∧ Paired (FRel K m G n) fs vs
  | .dic kvs => ∃ vs, H a = some (.dK vs) ∧ Paired (KRel K m G n) kvs vs
  | .dit kvs => ∃ vs, H a = some (.dT vs) ∧ Paired (KTRel K m G n) kvs vs
  | .tab P q => a = P ∧ TabG H G P q
  | .lkt od us kvs => H a = some (.frz od (.dT us)) ∧ Paired (KTRel K m G n) kvs us
  | .lkk od us kvs => H a = some (.frz od (.dK us)) ∧ Paired (KRel K m G n) kvs us
  | .gone => True
theorem Holds.mono {K : KF} {m m' : Mp} {G G' : Hp} {n n' : Nat} {H H' : Hp} {a : Addr} (x : Nxt m n G m' G') (h : n ≤ n') (hh : ∀ o, H a = some o → H' a = some o) : ∀ {c : OC}, Holds K m G n H a c → Holds K m' G' n' H' a c
  | .lst xs, ⟨vs, e, r⟩ => ⟨vs, hh _ e, RVs.mono x h r⟩
  | .ins C fs, ⟨dx, vs, e, r⟩ => ⟨dx, vs, hh _ e, Paired.mono (fun _ _ q => ⟨q.1, RV.mono x h q.2⟩) r⟩
  | .dic kvs, ⟨vs, e, r⟩ => ⟨vs, hh _ e, Paired.mono (fun _ _ q => ⟨q.1, RV.mono x h q.2⟩) r⟩
  | .dit kvs, ⟨vs, e, r⟩ => ⟨vs, hh _ e, Paired.mono (fun _ _ q => ⟨q.1, RV.mono x h q.2⟩) r⟩
  | .tab P q, ⟨e, ps, e1, e2, e3⟩ => ⟨e, ps, by subst e; exact hh _ e1, e2, fun pos cv hc => let ⟨c, h1, h2⟩ := e3 pos cv hc; ⟨c, h1, x.gg _ _ h2⟩⟩
  | .lkt od us kvs, ⟨e, r⟩ => ⟨hh _ e, Paired.mono (fun _ _ q => ⟨q.1, RV.mono x h q.2⟩) r⟩
  | .lkk od us kvs, ⟨e, r⟩ => ⟨hh _ e, Paired.mono (fun _ _ q => ⟨q.1, RV.mono x h q.2⟩) r⟩
  | .gone, _ => trivial
theorem Holds.some {K : KF} {m : Mp} {G : Hp} {n : Nat} {H : Hp} {a : Addr} : ∀ {c : OC}, c ≠ .gone → Holds K m G n H a c → ∃ o, H a = some o
  | .lst xs, _, ⟨_, e, _⟩ => ⟨_, e⟩
  | .ins C fs, _, ⟨_, _, e, _⟩ => ⟨_, e⟩
  | .dic _, _, ⟨_, e, _⟩ => ⟨_, e⟩
  | .dit _, _, ⟨_, e, _⟩ => ⟨_, e⟩
  | .tab P q, _, ⟨e, _, e1, _⟩ => ⟨_, by rw [e]; exact e1⟩
  | .lkt _ _ _, _, ⟨e, _⟩ => ⟨_, e⟩
  | .lkk _ _ _, _, ⟨e, _⟩ => ⟨_, e⟩
  | .gone, h, _ => absurd rfl h
structure Core (K : KF) (m : Mp) (G : Hp) (Ω : Om) (H : Hp) : Prop where
  ex : Ex G H
  fr : ∀ i c, Ω[i]? = some c → c ≠ .gone → G (m i) = none ∧ Holds K m G Ω.length H (m i) c
  inj : ∀ i j ci cj, Ω[i]? = some ci → Ω[j]? = some cj → ci ≠ .gone → cj ≠ .gone → m i = m j → i = j
section
variable {K : KF} {m m' : Mp} {G G' : Hp} {Ω Ω' : Om} {H H' : Hp} {p : Addr}
theorem lt_of_get {α : Type} {l : List α} {i : Nat} {x : α} (h : l[i]? = some x) : i < l.length := (List.getElem?_eq_some_iff.mp h).1
theorem fresh_g (c : Core K m G Ω H) (hp : H p = none) : G p = none := fresh_back c.ex hp
theorem Core.ne (c : Core K m G Ω H) (hp : H p = none) {i : Nat} {x : OC} (h : Ω[i]? = some x) (g : x ≠ .gone) : m i ≠ p := fun e => by
  obtain ⟨_, q⟩ := c.fr i x h g
  obtain ⟨o, z⟩ := Holds.some g q
  rw [e, hp] at z
  cases z
/-- a new thing that never changes -/
theorem Core.frz (c : Core K m G Ω H) (hp : H p = none) (o : HO) : Core K m (upd G p o) Ω (upd H p o) ∧ Nxt m Ω.length G m (upd G p o) := by
  have gp := fresh_g c hp
  have nx : Nxt m Ω.length G m (upd G p o) := ⟨fun _ _ => rfl, Ex.new gp⟩
  refine ⟨⟨fun a u e => ?_, fun i x h g => ?_, c.inj⟩, nx⟩
  · by_cases ha : a = p
    · subst ha
      rw [upd_same] at e ⊢
      exact e
    · rw [upd_ne ha] at e ⊢
      exact c.ex a u e
  · obtain ⟨q1, q2⟩ := c.fr i x h g
    have ne := c.ne hp h g
    exact ⟨by rw [upd_ne ne]; exact q1, Holds.mono nx (Nat.le_refl _) (fun o e => by rw [upd_ne ne]; exact e) q2⟩
/-- a new list of one's own -/
theorem Core.own (c : Core K m G Ω H) (hp : H p = none) {x : OC} {o : HO} (hx : Holds K m G Ω.length (upd H p o) p x) :
    ∃ m', Core K m' G (Ω ++ [x]) (upd H p o) ∧ Nxt m Ω.length G m' G ∧ m' Ω.length = p := by
  have gp := fresh_g c hp
  refine ⟨fun j => if j = Ω.length then p else m j, ?_, ⟨fun i hi => if_neg (Nat.ne_of_lt hi), Ex.refl G⟩, if_pos rfl⟩
  have nx : Nxt m Ω.length G (fun j => if j = Ω.length then p else m j) G := ⟨fun i hi => if_neg (Nat.ne_of_lt hi), Ex.refl G⟩
  have le : Ω.length ≤ (Ω ++ [x]).length := by simp
  refine ⟨fun a u e => ?_, fun i y h g => ?_, fun i j ci cj h1 h2 g1 g2 e => ?_⟩
  · rw [upd_ne (ne_of_none e gp)]
    exact c.ex a u e
  · by_cases hi : i < Ω.length
    · rw [List.getElem?_append_left hi] at h
      have ne := c.ne hp h g
      obtain ⟨q1, q2⟩ := c.fr i y h g
      simp only [if_neg (Nat.ne_of_lt hi)]
      exact ⟨q1, Holds.mono nx le (fun o e => by rw [upd_ne ne]; exact e) q2⟩
    · have hl := lt_of_get h
      rw [List.length_append, List.length_singleton] at hl
      have ei : i = Ω.length := by omega
      subst ei
      rw [List.getElem?_append_right (Nat.le_refl _), Nat.sub_self] at h
      have ey : x = y := Option.some.inj h
      subst ey
      simp only [if_true]
      exact ⟨gp, Holds.mono nx le (fun o e => e) hx⟩
  · have l1 := lt_of_get h1
    have l2 := lt_of_get h2
    rw [List.length_append, List.length_singleton] at l1 l2
    by_cases hi : i < Ω.length <;> by_cases hj : j < Ω.length
    · rw [List.getElem?_append_left hi] at h1
      rw [List.getElem?_append_left hj] at h2
      simp only [if_neg (Nat.ne_of_lt hi), if_neg (Nat.ne_of_lt hj)] at e
      exact c.inj i j ci cj h1 h2 g1 g2 e
    · rw [List.getElem?_append_left hi] at h1
      have ej : j = Ω.length := by omega
      simp only [if_neg (Nat.ne_of_lt hi), if_pos ej] at e
      exact absurd e (c.ne hp h1 g1)
    · rw [List.getElem?_append_left hj] at h2
      have ei : i = Ω.length := by omega
      simp only [if_neg (Nat.ne_of_lt hj), if_pos ei] at e
      exact absurd e.symm (c.ne hp h2 g2)
    · omega
/-- one's own thing is changed -/
theorem Core.write (c : Core K m G Ω H) {i : Nat} {x y : OC} {o : HO} (h : Ω[i]? = some x) (g : x ≠ .gone) (hy : Holds K m G Ω.length (upd H (m i) o) (m i) y) : Core K m G (Ω.set i y) (upd H (m i) o) := by
  obtain ⟨q1, q2⟩ := c.fr i x h g
  refine ⟨fun a u e => ?_, fun j z h2 g2 => ?_, fun j k cj ck h1 h2 g1 g2 e => ?_⟩
  · rw [upd_ne (ne_of_none e q1)]
    exact c.ex a u e
  · rw [List.length_set]
    rw [List.getElem?_set] at h2
    by_cases ej : i = j
    · subst ej
      have hi := lt_of_get h
      rw [if_pos rfl, if_pos hi] at h2
      cases h2
      exact ⟨q1, hy⟩
    · rw [if_neg ej] at h2
      obtain ⟨r1, r2⟩ := c.fr j z h2 g2
      have ne : m j ≠ m i := fun e => ej (c.inj i j x z h h2 g g2 e.symm)
      exact ⟨r1, Holds.mono (Nxt.refl _ _ _) (Nat.le_refl _) (fun o e => by rw [upd_ne ne]; exact e) r2⟩
  · have fix : ∀ {t : Nat} {ct : OC}, (Ω.set i y)[t]? = some ct → ct ≠ .gone → ∃ ct', Ω[t]? = some ct' ∧ ct' ≠ .gone := fun {t ct} h1 g1 => by
      rw [List.getElem?_set] at h1
      by_cases ej : i = t
      · subst ej; exact ⟨x, h, g⟩
      · rw [if_neg ej] at h1
        exact ⟨ct, h1, g1⟩
    obtain ⟨a1, b1, d1⟩ := fix h1 g1
    obtain ⟨a2, b2, d2⟩ := fix h2 g2
    exact c.inj j k a1 a2 b1 b2 d1 d2 e
/-- one's own thing is given away -/
theorem Core.freeze (c : Core K m G Ω H) {i : Nat} {x : OC} {o : HO} (h : Ω[i]? = some x) (g : x ≠ .gone) (ho : H (m i) = some o) : Core K m (upd G (m i) o) (Ω.set i .gone) H ∧ Nxt m Ω.length G m (upd G (m i) o) := by
  obtain ⟨q1, q2⟩ := c.fr i x h g
  have nx : Nxt m Ω.length G m (upd G (m i) o) := ⟨fun _ _ => rfl, Ex.new q1⟩
  refine ⟨⟨fun a u e => ?_, fun j z h2 g2 => ?_, fun j k cj ck h1 h2 g1 g2 e => ?_⟩, nx⟩
  · by_cases ha : a = m i
    · subst ha
      rw [upd_same] at e
      rw [← e]; exact ho
    · rw [upd_ne ha] at e
      exact c.ex a u e
  · rw [List.length_set]
    rw [List.getElem?_set] at h2
    by_cases ej : i = j
    · subst ej
      rw [if_pos rfl, if_pos (lt_of_get h)] at h2
      cases h2
      exact absurd rfl g2
    · rw [if_neg ej] at h2
      obtain ⟨r1, r2⟩ := c.fr j z h2 g2
      have ne : m j ≠ m i := fun e => ej (c.inj i j x z h h2 g g2 e.symm)
      exact ⟨by rw [upd_ne ne]; exact r1, Holds.mono nx (Nat.le_refl _) (fun o e => e) r2⟩
  · have fix : ∀ {t : Nat} {ct : OC}, (Ω.set i .gone)[t]? = some ct → ct ≠ .gone → Ω[t]? = some ct := fun {t ct} h1 g1 => by
      rw [List.getElem?_set] at h1
      by_cases ej : i = t
      · subst ej
        rw [if_pos rfl, if_pos (lt_of_get h)] at h1
        cases h1
        exact absurd rfl g1
      · rw [if_neg ej] at h1
        exact h1
    exact c.inj j k cj ck (fix h1 g1) (fix h2 g2) g1 g2 e
end
def RVn (K : KF) (m : Mp) (G : Hp) (n : Nat) : DV → V → Prop := RV K m G n
structure Slots (K : KF) (m : Mp) (G : Hp) (n : Nat) (Γ : Gm) (σ : L2.St) : Prop where
  len : Γ.length = σ.length
  at_ : ∀ (i : Nat) (d : DV), Γ[i]? = some (some d) → ∃ v, σ[i]? = some (some v) ∧ RV K m G n d v
theorem Slots.mono {K : KF} {m m' : Mp} {G G' : Hp} {n n' : Nat} {Γ : Gm} {σ : L2.St} (x : Nxt m n G m' G') (h : n ≤ n') (s : Slots K m G n Γ σ) : Slots K m' G' n' Γ σ :=
  ⟨s.len, fun i d e => let ⟨v, e1, r⟩ := s.at_ i d e; ⟨v, e1, RV.mono x h r⟩⟩
theorem Slots.set {K : KF} {m : Mp} {G : Hp} {n : Nat} {Γ : Gm} {σ : L2.St} {d : DV} {v : V} (s : Slots K m G n Γ σ) (i : Nat) (r : RV K m G n d v) : Slots K m G n (Γ.set i (some d)) (σ.set i (some v)) := by
  refine ⟨by rw [List.length_set, List.length_set]; exact s.len, fun j e h => ?_⟩
  have hl := lt_of_get h
  rw [List.length_set] at hl
  rw [List.getElem?_set] at h
  by_cases hj : i = j
  · subst hj
    rw [if_pos rfl, if_pos hl] at h
    cases h
    refine ⟨v, ?_, r⟩
    rw [List.getElem?_set, if_pos rfl, if_pos (by rw [← s.len]; exact hl)]
  · rw [if_neg hj] at h
    obtain ⟨w, e1, r1⟩ := s.at_ j e h
    exact ⟨w, by rw [List.getElem?_set, if_neg hj]; exact e1, r1⟩
/-- what is forgotten -/
theorem Slots.sub {K : KF} {m : Mp} {G : Hp} {n : Nat} {Γ Γ' : Gm} {σ : L2.St} (s : Slots K m G n Γ σ) (hl : Γ'.length = Γ.length) (h : ∀ (i : Nat) (d : DV), Γ'[i]? = some (some d) → Γ[i]? = some (some d)) : Slots K m G n Γ' σ :=
  ⟨hl.trans s.len, fun i d e => s.at_ i d (h i d e)⟩
section
variable (K : KF) (m : Mp) (G : Hp) (n : Nat)
def QOk (R : DV → Om → Prop) (Q : VK) : Prop := ∀ m' G' Ω' H' d v, Core K m' G' Ω' H' → Nxt m n G m' G' → n ≤ Ω'.length → RV K m' G' Ω'.length d v → R d Ω' → Q v H'
def BOk (R : Bool → Om → Prop) (Q : Bool → Hp → Prop) : Prop := ∀ m' G' Ω' H' b, Core K m' G' Ω' H' → Nxt m n G m' G' → n ≤ Ω'.length → R b Ω' → Q b H'
def AOk (R : List DV → Om → Prop) (Q : List V → Hp → Prop) : Prop := ∀ m' G' Ω' H' ds vs, Core K m' G' Ω' H' → Nxt m n G m' G' → n ≤ Ω'.length → Paired (RV K m' G' Ω'.length) ds vs → R ds Ω' → Q vs H'
def SOk (R : Gm → Om → Prop) (Q : L2.St → Hp → Prop) : Prop := ∀ m' G' Ω' H' Γ' σ', Core K m' G' Ω' H' → Nxt m n G m' G' → n ≤ Ω'.length → Slots K m' G' Ω'.length Γ' σ' → R Γ' Ω' → Q σ' H'
def XOk (R : Exc → Om → Prop) (Q : XK) : Prop := ∀ m' G' Ω' H' e c d, Core K m' G' Ω' H' → Nxt m n G m' G' → n ≤ Ω'.length → RX K G' e c d → R e Ω' → Q c d H'
def ZOk (R : Gm → Exc → Om → Prop) (W : WX) : Prop := ∀ m' G' Ω' H' Γ' σ' e c d, Core K m' G' Ω' H' → Nxt m n G m' G' → n ≤ Ω'.length → Slots K m' G' Ω'.length Γ' σ' → RX K G' e c d → R Γ' e Ω' → W c d σ' H'
end
section
variable {K : KF} {m m1 : Mp} {G G1 : Hp} {n n1 : Nat}
theorem QOk.on {R : DV → Om → Prop} {Q : VK} (q : QOk K m G n R Q) (x : Nxt m n G m1 G1) (h : n ≤ n1) : QOk K m1 G1 n1 R Q := fun _ _ _ _ _ _ c y l r z => q _ _ _ _ _ _ c (x.trans h y) (Nat.le_trans h l) r z
theorem BOk.on {R : Bool → Om → Prop} {Q : Bool → Hp → Prop} (q : BOk K m G n R Q) (x : Nxt m n G m1 G1) (h : n ≤ n1) : BOk K m1 G1 n1 R Q := fun _ _ _ _ _ c y l z => q _ _ _ _ _ c (x.trans h y) (Nat.le_trans h l) z
theorem AOk.on {R : List DV → Om → Prop} {Q : List V → Hp → Prop} (q : AOk K m G n R Q) (x : Nxt m n G m1 G1) (h : n ≤ n1) : AOk K m1 G1 n1 R Q := fun _ _ _ _ _ _ c y l r z => q _ _ _ _ _ _ c (x.trans h y) (Nat.le_trans h l) r z
theorem SOk.on {R : Gm → Om → Prop} {Q : L2.St → Hp → Prop} (q : SOk K m G n R Q) (x : Nxt m n G m1 G1) (h : n ≤ n1) : SOk K m1 G1 n1 R Q := fun _ _ _ _ _ _ c y l r z => q _ _ _ _ _ _ c (x.trans h y) (Nat.le_trans h l) r z
theorem XOk.on {R : Exc → Om → Prop} {Q : XK} (q : XOk K m G n R Q) (x : Nxt m n G m1 G1) (h : n ≤ n1) : XOk K m1 G1 n1 R Q := fun _ _ _ _ _ _ _ c y l r z => q _ _ _ _ _ _ _ c (x.trans h y) (Nat.le_trans h l) r z
theorem ZOk.on {R : Gm → Exc → Om → Prop} {W : WX} (q : ZOk K m G n R W) (x : Nxt m n G m1 G1) (h : n ≤ n1) : ZOk K m1 G1 n1 R W := fun _ _ _ _ _ _ _ _ _ c y l s r z => q _ _ _ _ _ _ _ _ _ c (x.trans h y) (Nat.le_trans h l) s r z
theorem QOk.imp {R R' : DV → Om → Prop} {Q : VK} (q : QOk K m G n R Q) (h : ∀ d Ω, R' d Ω → R d Ω) : QOk K m G n R' Q := fun _ _ _ _ _ _ c y l r z => q _ _ _ _ _ _ c y l r (h _ _ z)
end
end HL
namespace HL
open PySem PySem.Spec PyProof.Rows L2 Evl
structure Outs where
  nx : Gm → Om → Prop
  rt : DV → Om → Prop
  bk : Gm → Om → Prop
  ct : Gm → Om → Prop
  er : Gm → Exc → Om → Prop
section
variable (K : KF) (W : WX)
def WE (te : TE) (Γ : Gm) (Ω : Om) (R : DV → Om → Prop) (X : Exc → Om → Prop) : Prop :=
  ∀ m G H σ Q, Core K m G Ω H → Slots K m G Ω.length Γ σ → QOk K m G Ω.length R Q → XOk K m G Ω.length X (fun c d H' => W c d σ H') → te σ H Q
def WT (tt : TT) (Γ : Gm) (Ω : Om) (R : Bool → Om → Prop) (X : Exc → Om → Prop) : Prop :=
  ∀ m G H σ Q, Core K m G Ω H → Slots K m G Ω.length Γ σ → BOk K m G Ω.length R Q → XOk K m G Ω.length X (fun c d H' => W c d σ H') → tt σ H Q
def WA (ta : TA) (Γ : Gm) (Ω : Om) (R : List DV → Om → Prop) (X : Exc → Om → Prop) : Prop :=
  ∀ m G H σ Q, Core K m G Ω H → Slots K m G Ω.length Γ σ → AOk K m G Ω.length R Q → XOk K m G Ω.length X (fun c d H' => W c d σ H') → ta σ H Q
def WS (ts : TS) (Γ : Gm) (Ω : Om) (O : Outs) : Prop :=
  ∀ m G H σ (D : Ends), Core K m G Ω H → Slots K m G Ω.length Γ σ → SOk K m G Ω.length O.nx D.nx → QOk K m G Ω.length O.rt D.rt → SOk K m G Ω.length O.bk D.bk → SOk K m G Ω.length O.ct D.ct → ZOk K m G Ω.length O.er W → ts D σ H
def WG (g : TG) (y : DV) (Γ : Gm) (Ω : Om) (R : Gm → Om → Prop) : Prop :=
  ∀ m G H σ v Q, Core K m G Ω H → Slots K m G Ω.length Γ σ → RV K m G Ω.length y v → SOk K m G Ω.length R Q → g v σ H Q
def WGs (g : TGs) (ys : List DV) (Γ : Gm) (Ω : Om) (R : Gm → Om → Prop) : Prop :=
  ∀ m G H σ vs Q, Core K m G Ω H → Slots K m G Ω.length Γ σ → Paired (RV K m G Ω.length) ys vs → SOk K m G Ω.length R Q → g vs σ H Q
/-- operators on values -/
def WR (r : R2) (x y : DV) (Ω : Om) (R : DV → Om → Prop) : Prop :=
  ∀ m G H v w Q, Core K m G Ω H → RV K m G Ω.length x v → RV K m G Ω.length y w → QOk K m G Ω.length R Q → r v w H Q
def WU (r : V → Hp → VK → Prop) (x : DV) (Ω : Om) (R : DV → Om → Prop) : Prop :=
  ∀ m G H v Q, Core K m G Ω H → RV K m G Ω.length x v → QOk K m G Ω.length R Q → r v H Q
def WC (r : List V → Hp → VK → Prop) (xs : List DV) (Ω : Om) (R : DV → Om → Prop) : Prop :=
  ∀ m G H vs Q, Core K m G Ω H → Paired (RV K m G Ω.length) xs vs → QOk K m G Ω.length R Q → r vs H Q
def WM (r : V → List V → Hp → VK → Prop) (x : DV) (xs : List DV) (Ω : Om) (R : DV → Om → Prop) : Prop :=
  ∀ m G H v vs Q, Core K m G Ω H → RV K m G Ω.length x v → Paired (RV K m G Ω.length) xs vs → QOk K m G Ω.length R Q → r v vs H Q
end
/-! views -/
def asDs : List DV → Option (List PyData)
  | [] => some []
  | .d x :: r => (asDs r).map (x :: ·)
  | _ :: _ => none
theorem asDs_map {α : Type} (f : α → PyData) : ∀ l : List α, asDs (l.map fun a => .d (f a)) = some (l.map f)
  | [] => rfl
  | a :: l => by
    show (asDs (l.map fun a => .d (f a))).map (f a :: ·) = _
    rw [asDs_map f l]
    rfl
theorem asDs_eq : ∀ {ds : List DV} {xs : List PyData}, asDs ds = some xs → ds = xs.map DV.d
  | [], xs, h => by cases h; rfl
  | .d x :: r, xs, h => by
    cases e : asDs r with
    | none => rw [show asDs (.d x :: r) = (asDs r).map (x :: ·) from rfl, e] at h; cases h
    | some ys =>
      rw [show asDs (.d x :: r) = (asDs r).map (x :: ·) from rfl, e] at h
      cases h
      rw [asDs_eq e]
      rfl
  | .o _ :: _, _, h => by cases h
  | .v _ :: _, _, h => by cases h
  | .e _ _ _ _ :: _, _, h => by cases h
  | .t _ :: _, _, h => by cases h
theorem dps_of {K : KF} {m : Mp} {G : Hp} {n : Nat} : ∀ {xs : List PyData} {vs : List V}, Paired (RV K m G n) (xs.map DV.d) vs → DpAll K G vs xs
  | [], _, h => by cases h; exact .nil
  | x :: xs, _, h => by cases h with | cons a b => exact .cons a (dps_of b)
theorem of_dps {K : KF} {m : Mp} {G : Hp} {n : Nat} : ∀ {xs : List PyData} {vs : List V}, DpAll K G vs xs → Paired (RV K m G n) (xs.map DV.d) vs
  | [], _, h => by cases h; exact .nil
  | x :: xs, _, h => by cases h with | cons a b => exact .cons a (of_dps b)
def vwO : Option OC → Option PyData
  | some (.lst ds) => (asDs ds).map PyData.list
  | _ => none
def ptsV (Ω : Om) : List Pt → Option (List PyData)
  | [] => some []
  | .d x :: r => (ptsV Ω r).map (x :: ·)
  | .o i :: r => (vwO Ω[i]?).bind fun x => (ptsV Ω r).map (x :: ·)
def vw (Ω : Om) : DV → Option PyData
  | .d x => some x
  | .o i => vwO Ω[i]?
  | .t ps => (ptsV Ω ps).map PyData.tuple
  | _ => none
theorem vwO_dp {K : KF} {m : Mp} {G H : Hp} {Ω : Om} {i : Nat} {x : PyData} (c : Core K m G Ω H) (h : vwO Ω[i]? = some x) : Dp K H (.ref (m i)) x := by
  cases e : Ω[i]? with
  | none => rw [e] at h; cases h
  | some oc =>
    rw [e] at h
    cases oc with
    | ins C fs => cases h
    | dic kvs => cases h
    | dit kvs => cases h
    | tab P q => cases h
    | lkt _ _ _ => cases h
    | lkk _ _ _ => cases h
    | gone => cases h
    | lst ds =>
      have h' : (asDs ds).map PyData.list = some x := h
      cases e2 : asDs ds with
      | none => rw [e2] at h'; cases h'
      | some xs =>
        rw [e2] at h'
        cases h'
        obtain ⟨_, vs, hv, rp⟩ := c.fr i _ e (by intro z; cases z)
        rw [asDs_eq e2] at rp
        exact .lst (sq_of hv) (dps_ex c.ex _ _ (dps_of rp))
theorem ptsV_dp {K : KF} {m : Mp} {G H : Hp} {Ω : Om} (c : Core K m G Ω H) : ∀ {ps : List Pt} {vs : List V} {xs : List PyData}, Paired (RPt K m G Ω.length) ps vs → ptsV Ω ps = some xs → DpAll K H vs xs
  | [], _, _, .nil, h => by cases h; exact .nil
  | .d x :: r, _, xs, .cons a b, h => by
    have h : (ptsV Ω r).map (x :: ·) = some xs := h
    cases e : ptsV Ω r with
    | none => rw [e] at h; cases h
    | some ys =>
      rw [e] at h
      cases h
      exact .cons (dp_ex c.ex _ _ a) (ptsV_dp c b e)
  | .o i :: r, _, xs, .cons a b, h => by
    have h : (vwO Ω[i]?).bind (fun x => (ptsV Ω r).map (x :: ·)) = some xs := h
    cases e0 : vwO Ω[i]? with
    | none => rw [e0] at h; cases h
    | some x =>
      rw [e0] at h
      have h : (ptsV Ω r).map (x :: ·) = some xs := h
      cases e : ptsV Ω r with
      | none => rw [e] at h; cases h
      | some ys =>
        rw [e] at h
        cases h
        obtain ⟨hi, rfl⟩ := a
        exact .cons (vwO_dp c e0) (ptsV_dp c b e)
theorem vw_dp {K : KF} {m : Mp} {G H : Hp} {Ω : Om} {d : DV} {x : PyData} {v : V} (c : Core K m G Ω H) (r : RV K m G Ω.length d v) (h : vw Ω d = some x) : Dp K H v x := by
  cases d with
  | d y => cases h; exact dp_ex c.ex _ _ r
  | v y => cases h
  | e _ _ _ _ => cases h
  | o i =>
    obtain ⟨hi, rfl⟩ := r
    exact vwO_dp c h
  | t ps =>
    have h : (ptsV Ω ps).map PyData.tuple = some x := h
    cases e : ptsV Ω ps with
    | none => rw [e] at h; cases h
    | some xs =>
      rw [e] at h
      cases h
      obtain ⟨a, vs, rfl, g, rp⟩ := r
      exact .tup (st_of (c.ex _ _ g)) (ptsV_dp c rp e)
def sqO : Option OC → Option (List DV)
  | some (.lst ds) => some ds
  | _ => none
def sq (Ω : Om) : DV → Option (List DV)
  | .d (.tuple xs) => some (xs.map DV.d)
  | .d (.list xs) => some (xs.map DV.d)
  | .o i => sqO Ω[i]?
  | _ => none
theorem sq_o {Ω : Om} {i : Nat} {ds : List DV} (h : sq Ω (.o i) = some ds) : Ω[i]? = some (.lst ds) := by
  have h : sqO Ω[i]? = some ds := h
  cases e : Ω[i]? with
  | none => rw [e] at h; cases h
  | some oc =>
    rw [e] at h
    cases oc with
    | ins C fs => cases h
    | dic kvs => cases h
    | dit kvs => cases h
    | tab P q => cases h
    | lkt _ _ _ => cases h
    | lkk _ _ _ => cases h
    | gone => cases h
    | lst ds => cases h; rfl
theorem sq_get {K : KF} {m : Mp} {G H : Hp} {Ω : Om} {d : DV} {ds : List DV} {v : V} (c : Core K m G Ω H) (r : RV K m G Ω.length d v) (h : sq Ω d = some ds) :
    ∃ a vs, v = .ref a ∧ (SqL K H a vs ∨ SqT K H a vs) ∧ Paired (RV K m G Ω.length) ds vs := by
  cases d with
  | v y => cases h
  | e _ _ _ _ => cases h
  | t _ => cases h
  | o i =>
    have e := sq_o h
    obtain ⟨_, vs, hv, rp⟩ := c.fr i _ e (by intro z; cases z)
    obtain ⟨hi, rfl⟩ := r
    exact ⟨m i, vs, rfl, .inl (sq_of hv), rp⟩
  | d y =>
    cases y with
    | tuple xs =>
      cases h
      cases r with
      | tup hs ha => exact ⟨_, _, rfl, .inr (ex_t c.ex hs), of_dps ha⟩
    | list xs =>
      cases h
      cases r with
      | lst hs ha => exact ⟨_, _, rfl, .inl (ex_l c.ex hs), of_dps ha⟩
    | none => cases h
    | bool b => cases h
    | int b => cases h
    | str b => cases h
    | dict b => cases h
theorem Paired.getL {α β : Type} {F : α → β → Prop} : ∀ {xs : List α} {ys : List β} {i : Nat} {x : α}, Paired F xs ys → xs[i]? = some x → ∃ y, ys[i]? = some y ∧ F x y
  | _, _, _, _, .nil, e => by simp at e
  | _, _, 0, _, .cons r _, e => by simp at e; subst e; exact ⟨_, rfl, r⟩
  | _, _, i + 1, x, .cons _ t, e => by
    obtain ⟨u, h1, h2⟩ := Paired.getL (i := i) (x := x) t (by simpa using e)
    exact ⟨u, by simpa using h1, h2⟩
theorem Paired.app {α β : Type} {F : α → β → Prop} : ∀ {a c : List α} {b d : List β}, Paired F a b → Paired F c d → Paired F (a ++ c) (b ++ d)
  | _, _, _, _, .nil, s => s
  | _, _, _, _, .cons r t, s => .cons r (Paired.app t s)
theorem Paired.setP {α β : Type} {F : α → β → Prop} {x : α} {y : β} (r : F x y) : ∀ {xs : List α} {ys : List β} (i : Nat), Paired F xs ys → Paired F (xs.set i x) (ys.set i y)
  | _, _, _, .nil => .nil
  | _, _, 0, .cons _ t => .cons r t
  | _, _, i + 1, .cons q t => .cons q (Paired.setP r i t)
theorem Paired.takeP {α β : Type} {F : α → β → Prop} : ∀ {xs : List α} {ys : List β} (n : Nat), Paired F xs ys → Paired F (xs.take n) (ys.take n)
  | _, _, 0, _ => .nil
  | _, _, _ + 1, .nil => .nil
  | _, _, n + 1, .cons r t => .cons r (Paired.takeP n t)
theorem Paired.dropP {α β : Type} {F : α → β → Prop} : ∀ {xs : List α} {ys : List β} (n : Nat), Paired F xs ys → Paired F (xs.drop n) (ys.drop n)
  | _, _, 0, r => r
  | _, _, _ + 1, .nil => .nil
  | _, _, n + 1, .cons _ t => Paired.dropP n t
section
variable {K : KF} {W : WX} {Γ : Gm} {Ω : Om} {R : DV → Om → Prop} {X : Exc → Om → Prop} {ta tb te : TE} {tt tu : TT} {tl tr : TA} {r : R2} {d : DV} {S : List DV → Om → Prop} {B : Bool → Om → Prop}
theorem we_var {i : Nat} (h : Γ[i]? = some (some d)) (q : R d Ω) : WE K W (tVar i) Γ Ω R X := fun m G H σ Q c s k x =>
  let ⟨v, e, rv⟩ := s.at_ i d h
  ⟨v, e, k _ _ _ _ _ _ c (Nxt.refl ..) (Nat.le_refl _) rv q⟩
theorem we_int {i : Int} (q : R (.d (.int i)) Ω) : WE K W (tC (.int i)) Γ Ω R X := fun m G H σ Q c s k x => k _ _ _ _ (.d (.int i)) _ c (Nxt.refl ..) (Nat.le_refl _) (Dp.int i) q
theorem we_bl {b : Bool} (q : R (.d (.bool b)) Ω) : WE K W (tC (.bl b)) Γ Ω R X := fun m G H σ Q c s k x => k _ _ _ _ (.d (.bool b)) _ c (Nxt.refl ..) (Nat.le_refl _) (Dp.bl b) q
theorem we_str {b : Str} (q : R (.d (.str b)) Ω) : WE K W (tC (.str b)) Γ Ω R X := fun m G H σ Q c s k x => k _ _ _ _ (.d (.str b)) _ c (Nxt.refl ..) (Nat.le_refl _) (Dp.str b) q
theorem we_non (q : R (.d .none) Ω) : WE K W (tC .non) Γ Ω R X := fun m G H σ Q c s k x => k _ _ _ _ (.d .none) _ c (Nxt.refl ..) (Nat.le_refl _) Dp.non q
theorem we_ty {b : String} (q : R (.v (.ty b)) Ω) : WE K W (tC (.ty b)) Γ Ω R X := fun m G H σ Q c s k x => k _ _ _ _ (.v (.ty b)) _ c (Nxt.refl ..) (Nat.le_refl _) rfl q
theorem we_ref {a : Addr} (q : R (.v (.ref a)) Ω) : WE K W (tC (.ref a)) Γ Ω R X := fun m G H σ Q c s k x => k _ _ _ _ (.v (.ref a)) _ c (Nxt.refl ..) (Nat.le_refl _) rfl q
/-- a constant of the module -/
theorem we_g {v : V} {y : PyData} (h : ∀ G, Dp K G v y) (q : R (.d y) Ω) : WE K W (tC v) Γ Ω R X := fun m G H σ Q c s k x => k _ _ _ _ (.d y) _ c (Nxt.refl ..) (Nat.le_refl _) (h _) q
theorem we_op (h : WE K W ta Γ Ω (fun x Ω1 => WE K W tb Γ Ω1 (fun y Ω2 => WR K r x y Ω2 R) X) X) : WE K W (tOp r ta tb) Γ Ω R X := fun m G H σ Q c s k x =>
  h m G H σ _ c s (fun m1 G1 Ω1 H1 d1 v1 c1 n1 l1 r1 h1 => h1 m1 G1 H1 σ _ c1 (s.mono n1 l1) (fun m2 G2 Ω2 H2 d2 v2 c2 n2 l2 r2 h2 =>
    h2 m2 G2 H2 v1 v2 Q c2 (RV.mono n2 l2 r1) r2 (k.on (n1.trans l1 n2) (Nat.le_trans l1 l2))) (x.on n1 l1)) x
theorem we_un {r : V → Hp → VK → Prop} (h : WE K W ta Γ Ω (fun x Ω1 => WU K r x Ω1 R) X) : WE K W (tUn r ta) Γ Ω R X := fun m G H σ Q c s k x =>
  h m G H σ _ c s (fun m1 G1 Ω1 H1 d1 v1 c1 n1 l1 r1 h1 => h1 m1 G1 H1 v1 Q c1 r1 (k.on n1 l1)) x
theorem we_if (h : WT K W tt Γ Ω (fun b Ω1 => (b = true → WE K W ta Γ Ω1 R X) ∧ (b = false → WE K W tb Γ Ω1 R X)) X) : WE K W (tIf tt ta tb) Γ Ω R X := fun m G H σ Q c s k x =>
  h m G H σ _ c s (fun m1 G1 Ω1 H1 b c1 n1 l1 h1 => by
    cases b with
    | true => exact (h1.1 rfl) m1 G1 H1 σ Q c1 (s.mono n1 l1) (k.on n1 l1) (x.on n1 l1)
    | false => exact (h1.2 rfl) m1 G1 H1 σ Q c1 (s.mono n1 l1) (k.on n1 l1) (x.on n1 l1)) x
theorem wa_nil (q : S [] Ω) : WA K W tNil Γ Ω S X := fun m G H σ Q c s k x => k _ _ _ _ [] _ c (Nxt.refl ..) (Nat.le_refl _) .nil q
theorem wa_cons (h : WE K W ta Γ Ω (fun y Ω1 => WA K W tr Γ Ω1 (fun ys Ω2 => S (y :: ys) Ω2) X) X) : WA K W (tCons ta tr) Γ Ω S X := fun m G H σ Q c s k x =>
  h m G H σ _ c s (fun m1 G1 Ω1 H1 d1 v1 c1 n1 l1 r1 h1 => h1 m1 G1 H1 σ _ c1 (s.mono n1 l1) (fun m2 G2 Ω2 H2 ds vs c2 n2 l2 r2 h2 =>
    k m2 G2 Ω2 H2 _ _ c2 (n1.trans l1 n2) (Nat.le_trans l1 l2) (.cons (RV.mono n2 l2 r1) r2) h2) (x.on n1 l1)) x
theorem we_tup (h : WA K W tl Γ Ω (fun ds Ω1 => ∃ xs, asDs ds = some xs ∧ xs.length ≤ 100000 ∧ R (.d (.tuple xs)) Ω1) X) : WE K W (tTup tl) Γ Ω R X := fun m G H σ Q c s k x =>
  h m G H σ _ c s (fun m1 G1 Ω1 H1 ds vs c1 n1 l1 r1 ⟨xs, e, hl, q⟩ => by
    have hlen := Paired.length r1
    rw [asDs_eq e] at r1 hlen
    rw [List.length_map] at hlen
    refine ⟨sz_of (by rw [← hlen]; exact hl), fun p hp => ?_⟩
    obtain ⟨c2, n2⟩ := c1.frz hp (.tup vs)
    exact k _ _ _ _ (.d (.tuple xs)) _ c2 (n1.trans l1 n2) l1 (.tup (st_of upd_same) (dps_ex n2.gg _ _ (dps_of r1))) q) x
/-- a list that nobody changes -/
theorem we_lstD (h : WA K W tl Γ Ω (fun ds Ω1 => ∃ xs, asDs ds = some xs ∧ xs.length ≤ 100000 ∧ R (.d (.list xs)) Ω1) X) : WE K W (tLst tl) Γ Ω R X := fun m G H σ Q c s k x =>
  h m G H σ _ c s (fun m1 G1 Ω1 H1 ds vs c1 n1 l1 r1 ⟨xs, e, hl, q⟩ => by
    have hlen := Paired.length r1
    rw [asDs_eq e] at r1 hlen
    rw [List.length_map] at hlen
    refine ⟨sz_of (by rw [← hlen]; exact hl), fun p hp => ?_⟩
    obtain ⟨c2, n2⟩ := c1.frz hp (.lst vs)
    exact k _ _ _ _ (.d (.list xs)) _ c2 (n1.trans l1 n2) l1 (.lst (sq_of upd_same) (dps_ex n2.gg _ _ (dps_of r1))) q) x
/-- a list of one's own -/
theorem we_lstO (h : WA K W tl Γ Ω (fun ds Ω1 => ds.length ≤ 100000 ∧ R (.o Ω1.length) (Ω1 ++ [.lst ds])) X) : WE K W (tLst tl) Γ Ω R X := fun m G H σ Q c s k x =>
  h m G H σ _ c s (fun m1 G1 Ω1 H1 ds vs c1 n1 l1 r1 ⟨hl, q⟩ => by
    have hlen := Paired.length r1
    refine ⟨sz_of (by rw [← hlen]; exact hl), fun p hp => ?_⟩
    obtain ⟨m2, c2, n2, e2⟩ := c1.own (x := .lst ds) (o := .lst vs) hp ⟨vs, upd_same, r1⟩
    have le : Ω1.length ≤ (Ω1 ++ [OC.lst ds]).length := by simp
    exact k _ _ _ _ (.o Ω1.length) _ c2 (n1.trans l1 n2) (Nat.le_trans l1 le) ⟨by simp, by rw [e2]⟩ q) x
theorem we_cb {r : List V → Hp → VK → Prop} (h : WA K W tl Γ Ω (fun ds Ω1 => WC K r ds Ω1 R) X) : WE K W (tCB r tl) Γ Ω R X := fun m G H σ Q c s k x =>
  h m G H σ _ c s (fun m1 G1 Ω1 H1 ds vs c1 n1 l1 r1 h1 => h1 m1 G1 H1 vs Q c1 r1 (k.on n1 l1)) x
theorem wt_test (h : WE K W te Γ Ω (fun y Ω1 => ∃ b, y = .d (.bool b) ∧ B b Ω1) X) : WT K W (tTest te) Γ Ω B X := fun m G H σ Q c s k x =>
  h m G H σ _ c s (fun m1 G1 Ω1 H1 d1 v1 c1 n1 l1 r1 ⟨b, e, q⟩ => by
    subst e
    cases r1
    exact ⟨b, rfl, k _ _ _ _ _ c1 n1 l1 q⟩) x
theorem wt_B (h : WE K W te Γ Ω (fun y Ω1 => ∃ b, y = .d (.bool b) ∧ B b Ω1) X) : WT K W (tB te) Γ Ω B X := fun m G H σ Q c s k x =>
  h m G H σ _ c s (fun m1 G1 Ω1 H1 d1 v1 c1 n1 l1 r1 ⟨b, e, q⟩ => by
    subst e
    cases r1
    exact ⟨b, rfl, k _ _ _ _ _ c1 n1 l1 q⟩) x
theorem wt_and (h : WT K W tt Γ Ω (fun b Ω1 => (b = true → WT K W tu Γ Ω1 B X) ∧ (b = false → B false Ω1)) X) : WT K W (tAnd tt tu) Γ Ω B X := fun m G H σ Q c s k x =>
  h m G H σ _ c s (fun m1 G1 Ω1 H1 b c1 n1 l1 h1 => by
    cases b with
    | true => exact (h1.1 rfl) m1 G1 H1 σ Q c1 (s.mono n1 l1) (k.on n1 l1) (x.on n1 l1)
    | false => exact k _ _ _ _ _ c1 n1 l1 (h1.2 rfl)) x
theorem wt_or (h : WT K W tt Γ Ω (fun b Ω1 => (b = true → B true Ω1) ∧ (b = false → WT K W tu Γ Ω1 B X)) X) : WT K W (tOr tt tu) Γ Ω B X := fun m G H σ Q c s k x =>
  h m G H σ _ c s (fun m1 G1 Ω1 H1 b c1 n1 l1 h1 => by
    cases b with
    | true => exact k _ _ _ _ _ c1 n1 l1 (h1.1 rfl)
    | false => exact (h1.2 rfl) m1 G1 H1 σ Q c1 (s.mono n1 l1) (k.on n1 l1) (x.on n1 l1)) x
theorem wt_not (h : WT K W tt Γ Ω (fun b Ω1 => B (!b) Ω1) X) : WT K W (tNot tt) Γ Ω B X := fun m G H σ Q c s k x =>
  h m G H σ _ c s (fun m1 G1 Ω1 H1 b c1 n1 l1 h1 => k _ _ _ _ _ c1 n1 l1 h1) x
theorem we_andV (h : WE K W ta Γ Ω (fun y Ω1 => ∃ b, y = .d (.bool b) ∧ (b = true → WE K W tb Γ Ω1 R X) ∧ (b = false → R (.d (.bool false)) Ω1)) X) : WE K W (tAndV ta tb) Γ Ω R X := fun m G H σ Q c s k x =>
  h m G H σ _ c s (fun m1 G1 Ω1 H1 d1 v1 c1 n1 l1 r1 ⟨b, e, h1⟩ => by
    subst e
    cases r1
    refine ⟨b, rfl, ?_⟩
    cases b with
    | true => exact (h1.1 rfl) m1 G1 H1 σ Q c1 (s.mono n1 l1) (k.on n1 l1) (x.on n1 l1)
    | false => exact k _ _ _ _ (.d (.bool false)) _ c1 n1 l1 (Dp.bl false) (h1.2 rfl)) x
theorem we_orV (h : WE K W ta Γ Ω (fun y Ω1 => ∃ b, y = .d (.bool b) ∧ (b = true → R (.d (.bool true)) Ω1) ∧ (b = false → WE K W tb Γ Ω1 R X)) X) : WE K W (tOrV ta tb) Γ Ω R X := fun m G H σ Q c s k x =>
  h m G H σ _ c s (fun m1 G1 Ω1 H1 d1 v1 c1 n1 l1 r1 ⟨b, e, h1⟩ => by
    subst e
    cases r1
    refine ⟨b, rfl, ?_⟩
    cases b with
    | true => exact k _ _ _ _ (.d (.bool true)) _ c1 n1 l1 (Dp.bl true) (h1.1 rfl)
    | false => exact (h1.2 rfl) m1 G1 H1 σ Q c1 (s.mono n1 l1) (k.on n1 l1) (x.on n1 l1)) x
theorem we_notV (h : WE K W ta Γ Ω (fun y Ω1 => ∃ b, y = .d (.bool b) ∧ R (.d (.bool (!b))) Ω1) X) : WE K W (tNotV ta) Γ Ω R X := fun m G H σ Q c s k x =>
  h m G H σ _ c s (fun m1 G1 Ω1 H1 d1 v1 c1 n1 l1 r1 ⟨b, e, h1⟩ => by
    subst e
    cases r1
    exact ⟨b, rfl, k _ _ _ _ (.d (.bool (!b))) _ c1 n1 l1 (Dp.bl (!b)) h1⟩) x
/-! calls -/
abbrev Spec := List DV → Om → (DV → Om → Prop) → (Exc → Om → Prop) → Prop
def FS (K : KF) (spec : Spec) : Sp := fun vs H Q E => ∃ m G Ω ds R X, Core K m G Ω H ∧ Paired (RV K m G Ω.length) ds vs ∧ spec ds Ω R X ∧ QOk K m G Ω.length R Q ∧ XOk K m G Ω.length X E
theorem we_call {spec : Spec} (h : WA K W tl Γ Ω (fun ds Ω1 => spec ds Ω1 R (fun _ _ => False)) X) : WE K W (tCall (FS K spec) [] E0 tl) Γ Ω R X := fun m G H σ Q c s k x =>
  h m G H σ _ c s (fun m1 G1 Ω1 H1 ds vs c1 n1 l1 r1 h1 => by
    show FS K spec (vs ++ []) H1 Q E0
    rw [List.append_nil]
    exact ⟨m1, G1, Ω1, ds, R, _, c1, r1, h1, k.on n1 l1, fun _ _ _ _ _ _ _ _ _ _ _ z => z⟩) x
/-- with defaults -/
theorem we_callD {spec : Spec} {dvs : List V} {xs : List PyData} (hx : ∀ G, DpAll K G dvs xs) (h : WA K W tl Γ Ω (fun ds Ω1 => spec (ds ++ xs.map DV.d) Ω1 R (fun _ _ => False)) X) : WE K W (tCall (FS K spec) dvs E0 tl) Γ Ω R X := fun m G H σ Q c s k x =>
  h m G H σ _ c s (fun m1 G1 Ω1 H1 ds vs c1 n1 l1 r1 h1 =>
    ⟨m1, G1, Ω1, ds ++ xs.map DV.d, R, _, c1, Paired.app r1 (of_dps (hx G1)), h1, k.on n1 l1, fun _ _ _ _ _ _ _ _ _ _ _ z => z⟩) x
theorem we_callS {spec : Spec} (h : WA K W tl Γ Ω (fun ds Ω1 => spec ds Ω1 R X) X) : WE K W (tCallS (FS K spec) (L2.WE W) tl) Γ Ω R X := fun m G H σ Q c s k x =>
  h m G H σ _ c s (fun m1 G1 Ω1 H1 ds vs c1 n1 l1 r1 h1 => ⟨m1, G1, Ω1, ds, R, X, c1, r1, h1, k.on n1 l1, x.on n1 l1⟩) x
/-! targets -/
theorem wg_name {i : Nat} {S : Gm → Om → Prop} {y : DV} (q : S (Γ.set i (some y)) Ω) : WG K (gName i) y Γ Ω S := fun m G H σ v Q c s r k => k _ _ _ _ _ _ c (Nxt.refl ..) (Nat.le_refl _) (s.set i r) q
theorem wgs_nil {S : Gm → Om → Prop} (q : S Γ Ω) : WGs K gNil [] Γ Ω S := fun m G H σ vs Q c s r k => by
  cases r
  exact ⟨rfl, k _ _ _ _ _ _ c (Nxt.refl ..) (Nat.le_refl _) s q⟩
theorem wgs_cons {S : Gm → Om → Prop} {g : TG} {gs : TGs} {y : DV} {ys : List DV} (h : WG K g y Γ Ω (fun Γ1 Ω1 => WGs K gs ys Γ1 Ω1 S)) : WGs K (gCons g gs) (y :: ys) Γ Ω S := fun m G H σ vs Q c s r k => by
  cases r with
  | cons r1 rs => exact ⟨_, _, rfl, h m G H σ _ _ c s r1 fun m1 G1 Ω1 H1 Γ1 σ1 c1 n1 l1 s1 h1 => h1 m1 G1 H1 σ1 _ _ c1 s1 (RVs.mono n1 l1 rs) (k.on n1 l1)⟩
theorem wg_tup {n : Nat} {S : Gm → Om → Prop} {gs : TGs} {xs : List PyData} (hl : xs.length = n) (h : WGs K gs (xs.map DV.d) Γ Ω S) : WG K (gTup K n gs) (.d (.tuple xs)) Γ Ω S := fun m G H σ v Q c s r k => by
  cases r with
  | tup hs ha =>
    have ra := of_dps (m := m) (n := Ω.length) ha
    have e := Paired.length ra
    rw [List.length_map] at e
    exact ⟨_, _, rfl, ex_t c.ex hs, e.symm.trans hl, h m G H σ _ _ c s ra k⟩
/-! statements -/
variable {O : Outs} {ts tv tw : TS} {g : TG}
theorem ws_next (q : O.nx Γ Ω) : WS K W tNext Γ Ω O := fun m G H σ D c s k1 k2 k3 k4 z => k1 _ _ _ _ _ _ c (Nxt.refl ..) (Nat.le_refl _) s q
theorem ws_seq (h : WS K W tv Γ Ω { O with nx := fun Γ1 Ω1 => WS K W tw Γ1 Ω1 O }) : WS K W (tSeq tv tw) Γ Ω O := fun m G H σ D c s k1 k2 k3 k4 z =>
  h m G H σ { D with nx := tw D } c s (fun m1 G1 Ω1 H1 Γ1 σ1 c1 n1 l1 s1 h1 => h1 m1 G1 H1 σ1 D c1 s1 (k1.on n1 l1) (k2.on n1 l1) (k3.on n1 l1) (k4.on n1 l1) (z.on n1 l1)) k2 k3 k4 z
/-- an exception at the slots as they stand -/
theorem xok_of {m : Mp} {G : Hp} {n : Nat} {Z : Gm → Exc → Om → Prop} {σ : L2.St} (z : ZOk K m G n Z W) (s : Slots K m G n Γ σ) : XOk K m G n (fun e Ω1 => Z Γ e Ω1) (fun c d H' => W c d σ H') := fun m1 G1 Ω1 H1 e c d c1 n1 l1 r1 h1 =>
  z m1 G1 Ω1 H1 Γ σ e c d c1 n1 l1 (s.mono n1 l1) r1 h1
theorem ws_asg (h : WE K W te Γ Ω (fun y Ω1 => WG K g y Γ Ω1 O.nx) (fun e Ω1 => O.er Γ e Ω1)) : WS K W (tAsg te g) Γ Ω O := fun m G H σ D c s k1 k2 k3 k4 z =>
  h m G H σ _ c s (fun m1 G1 Ω1 H1 d1 v1 c1 n1 l1 r1 h1 => h1 m1 G1 H1 σ v1 _ c1 (s.mono n1 l1) r1 (k1.on n1 l1)) (xok_of z s)
theorem ws_par {i j : Nat} (h : WA K W tl Γ Ω (fun ys Ω1 => ∃ y y', ys = [y, y'] ∧ O.nx ((Γ.set i (some y)).set j (some y')) Ω1) (fun e Ω1 => O.er Γ e Ω1)) : WS K W (tPar i j tl) Γ Ω O := fun m G H σ D c s k1 k2 k3 k4 z =>
  h m G H σ _ c s (fun m1 G1 Ω1 H1 ds vs c1 n1 l1 r1 ⟨y, y', e, q⟩ => by
    subst e
    cases r1 with
    | cons ra rb => cases rb with
      | cons rb rc =>
        cases rc
        exact ⟨_, _, rfl, k1 _ _ _ _ _ _ c1 n1 l1 (((s.mono n1 l1).set i ra).set j rb) q⟩) (xok_of z s)
theorem ws_if (h : WT K W tt Γ Ω (fun b Ω1 => (b = true → WS K W tv Γ Ω1 O) ∧ (b = false → WS K W tw Γ Ω1 O)) (fun e Ω1 => O.er Γ e Ω1)) : WS K W (tIfS tt tv tw) Γ Ω O := fun m G H σ D c s k1 k2 k3 k4 z =>
  h m G H σ _ c s (fun m1 G1 Ω1 H1 b c1 n1 l1 h1 => by
    cases b with
    | true => exact (h1.1 rfl) m1 G1 H1 σ D c1 (s.mono n1 l1) (k1.on n1 l1) (k2.on n1 l1) (k3.on n1 l1) (k4.on n1 l1) (z.on n1 l1)
    | false => exact (h1.2 rfl) m1 G1 H1 σ D c1 (s.mono n1 l1) (k1.on n1 l1) (k2.on n1 l1) (k3.on n1 l1) (k4.on n1 l1) (z.on n1 l1)) (xok_of z s)
theorem ws_ret (h : WE K W te Γ Ω O.rt (fun e Ω1 => O.er Γ e Ω1)) : WS K W (tRet te) Γ Ω O := fun m G H σ D c s k1 k2 k3 k4 z => h m G H σ _ c s k2 (xok_of z s)
theorem ws_retN (q : O.rt (.d .none) Ω) : WS K W tRetN Γ Ω O := fun m G H σ D c s k1 k2 k3 k4 z => k2 _ _ _ _ (.d .none) _ c (Nxt.refl ..) (Nat.le_refl _) Dp.non q
theorem ws_drop (h : WE K W te Γ Ω (fun _ Ω1 => O.nx Γ Ω1) (fun e Ω1 => O.er Γ e Ω1)) : WS K W (tDrop te) Γ Ω O := fun m G H σ D c s k1 k2 k3 k4 z =>
  h m G H σ _ c s (fun m1 G1 Ω1 H1 d1 v1 c1 n1 l1 r1 h1 => k1 _ _ _ _ _ _ c1 n1 l1 (s.mono n1 l1) h1) (xok_of z s)
theorem ws_while (P : Nat → Gm → Om → Prop) (n0 : Nat) (h0 : P n0 Γ Ω)
    (hs : ∀ n Γ1 Ω1, Ω.length ≤ Ω1.length → P n Γ1 Ω1 → WT K W tt Γ1 Ω1 (fun b Ω2 => (b = true → WS K W tv Γ1 Ω2 { nx := fun Γ3 Ω3 => ∃ k, k < n ∧ P k Γ3 Ω3, ct := fun Γ3 Ω3 => ∃ k, k < n ∧ P k Γ3 Ω3, bk := O.nx, rt := O.rt, er := O.er }) ∧ (b = false → O.nx Γ1 Ω2)) (fun e Ω2 => O.er Γ1 e Ω2)) :
    WS K W (tWhile tt tv) Γ Ω O := fun m G H σ D c s k1 k2 k3 k4 z => by
  refine ⟨fun n σ' H' => ∃ m' G' Ω' Γ', Core K m' G' Ω' H' ∧ Nxt m Ω.length G m' G' ∧ Ω.length ≤ Ω'.length ∧ Slots K m' G' Ω'.length Γ' σ' ∧ P n Γ' Ω', ⟨n0, m, G, Ω, Γ, c, Nxt.refl .., Nat.le_refl _, s, h0⟩, ?_⟩
  rintro n σ1 H1 ⟨m1, G1, Ω1, Γ1, c1, n1, l1, s1, p1⟩
  refine hs n Γ1 Ω1 l1 p1 m1 G1 H1 σ1 _ c1 s1 (fun m2 G2 Ω2 H2 b c2 n2 l2 h2 => ?_) (xok_of (z.on n1 l1) s1)
  have n12 := n1.trans l1 n2
  have l12 := Nat.le_trans l1 l2
  cases b with
  | false =>
    rw [if_neg Bool.false_ne_true]
    exact k1 _ _ _ _ _ _ c2 n12 l12 (s1.mono n2 l2) (h2.2 rfl)
  | true =>
    rw [if_pos rfl]
    refine ⟨fun σ' H' => ∃ k, k < n ∧ ∃ m' G' Ω' Γ', Core K m' G' Ω' H' ∧ Nxt m Ω.length G m' G' ∧ Ω.length ≤ Ω'.length ∧ Slots K m' G' Ω'.length Γ' σ' ∧ P k Γ' Ω', fun σ' H' ⟨k, hk, q⟩ => ⟨k, hk, q⟩, ?_⟩
    have again : SOk K m2 G2 Ω2.length (fun Γ3 Ω3 => ∃ k, k < n ∧ P k Γ3 Ω3) (fun σ' H' => ∃ k, k < n ∧ ∃ m' G' Ω' Γ', Core K m' G' Ω' H' ∧ Nxt m Ω.length G m' G' ∧ Ω.length ≤ Ω'.length ∧ Slots K m' G' Ω'.length Γ' σ' ∧ P k Γ' Ω') := fun m3 G3 Ω3 H3 Γ3 σ3 c3 n3 l3 s3 ⟨k, hk, p3⟩ =>
      ⟨k, hk, m3, G3, Ω3, Γ3, c3, n12.trans l12 n3, Nat.le_trans l12 l3, s3, p3⟩
    exact (h2.1 rfl) m2 G2 H2 σ1 { D with nx := _, ct := _, bk := D.nx } c2 (s1.mono n2 l2) again (k2.on n12 l12) (k1.on n12 l12) again (z.on n12 l12)
end
end HL
namespace HL
open PySem PySem.Spec PyProof.Rows L2 Evl
/-! more operators -/
def CDivX (_ j : Int) : Prop := j ≠ 0 ∧ j.natAbs.log2 < 9000
section
variable {X : Cx}
theorem op_fdivX : OpR X (binaryOp .FloorDiv) (rI CDivX fun i j => .int (i.fdiv j)) := opI fun _ _ _ _ _ _ _ hc q => floordiv_int hc.1 q (.inl (PyProof.noPylong_of_log2 hc.2))
def rCatS (K : KF) : R2 := fun x y H Q => ∃ l b xs zs, x = .ref l ∧ y = .ref b ∧ SqL K H l xs ∧ SqL K H b zs ∧ xs.length + zs.length ≤ sizeLine ∧ ∀ p, H p = none → Q (.ref p) (upd H p (.lst (xs ++ zs)))
theorem op_catS : OpR X (binaryOp .Add) (rCatS X.K) := by
  intro pins s σ H x y v u Q I rx ry h
  obtain ⟨l, b, xs, zs, rfl, rfl, hl, hb, hz, q⟩ := h
  cases rx
  cases ry
  obtain ⟨its, r1, p1, _⟩ := I.list hl
  obtain ⟨its2, r2, p2, _⟩ := I.list hb
  obtain ⟨⟨cls, dd, data, sl⟩, ho, hc, n, hd⟩ := p1.isList
  obtain ⟨⟨cls2, dd2, data2, sl2⟩, ho2, hc2, n2, hd2⟩ := p2.isList
  simp only at hc hd hc2 hd2
  subst hc hd hc2 hd2
  have e : its.toArray ++ its2.toArray = (its ++ its2).toArray := by simp
  have l1 := r1.length
  have l2 := r2.length
  refine concat_meets ⟨_, ho, rfl⟩ ⟨_, ho2, rfl⟩ PySem.noFill_list_add PySem.seq_list_add PySem.F.slot_list_add PySem.F.entry_list_add (PySem.F.args_list_add_2 _ _) (list_addW l b its.toArray its2.toArray n n2 dd dd2 sl sl2 (by simp only [List.size_toArray]; omega)) ⟨ho, ho2, ?_⟩
  rw [e]
  exact ⟨.ref _, _, I.lnew (t' := s.toks) (r1.append r2) (by rw [List.length_append]; omega), rfl, q _ I.fresh⟩
/-- x + y of numbers, texts, lists, tuples -/
def rAddX (K : KF) : R2 := fun x y H Q => rI0 (fun i j => .int (i + j)) x y H Q ∨ (∃ i j, x = .str i ∧ y = .str j ∧ i.length + j.length ≤ sizeLine ∧ Q (.str (i ++ j)) H) ∨ rCatS K x y H Q ∨ rCatA K x y H Q
theorem op_addX : OpR X (binaryOp .Add) (rAddX X.K) := fun pins s σ H x y v u Q I rx ry h =>
  h.elim (fun h => op_add pins s σ H x y v u Q I rx ry h) fun h => h.elim (fun h => op_add_str pins s σ H x y v u Q I rx ry h) fun h => h.elim (fun h => op_catS pins s σ H x y v u Q I rx ry h) fun h => op_catA pins s σ H x y v u Q I rx ry h
def rSlS (K : KF) : V → Option Int → Option Int → Hp → VK → Prop := fun x lo hi H Q => rSlL K x lo hi H Q ∨ rSlA K x lo hi H Q
theorem sl_seq : SlR X (rSlS X.K) := fun pins s σ H x v vl vu lo hi sl Q I rx hs pl pu h =>
  h.elim (fun h => sl_list pins s σ H x v vl vu lo hi sl Q I rx hs pl pu h) fun h => sl_tupA pins s σ H x v vl vu lo hi sl Q I rx hs pl pu h
/-- a walked list or tuple -/
def iSeq (K : KF) (tl : TE) : TI := fun σ H R => tl σ H fun x H1 => ∃ a, x = .ref a ∧ (((∃ xs, SqL K H1 a xs) ∧ R (Itl K a) H1) ∨ ((∃ xs, SqT K H1 a xs) ∧ R (Itt K a) H1))
theorem pi_seq {tg : Expr} {l : Expr} {tl : TE} (hl : PE X l tl) : PI X tg l (iSeq X.K tl) := by
  refine ⟨fun pins s σ H R I h => ?_⟩
  refine thn (hl.run pins s σ H _ I h) fun v s1 ⟨x, H1, I1, r1, q1⟩ => ?_
  obtain ⟨a, e, q1⟩ := q1
  subst e
  cases r1
  rcases q1 with ⟨⟨xs, hq⟩, q⟩ | ⟨⟨xs, hq⟩, q⟩
  · obtain ⟨its, rv, p, hz⟩ := I1.list hq
    refine wpAny_pyIter_list p.isList ?_
    refine ⟨s1.heap.objs.size, [s1.heap.objs.size], _, _, H1, rfl, I1.kept (t' := s1.toks) fun b o e => Heap.get?_push_of_some _ e, turn_list a _, ⟨_, Heap.get?_push_size _ rfl, rfl, rfl⟩, fun b hb => ?_, q⟩
    have e : b = s1.heap.objs.size := by simpa using hb
    subst e
    exact I1.fpOk (Nat.le_refl _) (I1.hok.fresh (Nat.le_refl _))
  · obtain ⟨its, rv, p, hz⟩ := I1.tuple hq
    refine wpAny_pyIter_tuple (show s1.heap.IsTuple a its.toArray from p) ?_
    refine ⟨s1.heap.objs.size, [s1.heap.objs.size], _, _, H1, rfl, I1.kept (t' := s1.toks) fun b o e => Heap.get?_push_of_some _ e, turn_tuple a _, ⟨_, Heap.get?_push_size _ rfl, rfl, rfl⟩, fun b hb => ?_, q⟩
    have e : b = s1.heap.objs.size := by simpa using hb
    subst e
    exact I1.fpOk (Nat.le_refl _) (I1.hok.fresh (Nat.le_refl _))
end
section
variable {K : KF} {W : WX} {Γ : Gm} {Ω : Om} {R : DV → Om → Prop} {X : Exc → Om → Prop}
/-! operators -/
theorem wr_I {C : Int → Int → Prop} {f : Int → Int → Int} {i j : Int} (hc : C i j) (q : R (.d (.int (f i j))) Ω) : WR K (rI C fun i j => .int (f i j)) (.d (.int i)) (.d (.int j)) Ω R := fun m G H v w Q c r1 r2 k => by
  cases r1; cases r2
  exact ⟨i, j, rfl, rfl, hc, k _ _ _ _ (.d (.int (f i j))) _ c (Nxt.refl ..) (Nat.le_refl _) (Dp.int _) q⟩
theorem wr_I0b {f : Int → Int → Bool} {i j : Int} (q : R (.d (.bool (f i j))) Ω) : WR K (rI0 fun i j => .bl (f i j)) (.d (.int i)) (.d (.int j)) Ω R := fun m G H v w Q c r1 r2 k => by
  cases r1; cases r2
  exact ⟨i, j, rfl, rfl, k _ _ _ _ (.d (.bool (f i j))) _ c (Nxt.refl ..) (Nat.le_refl _) (Dp.bl _) q⟩
theorem wr_I0 {f : Int → Int → Int} {i j : Int} (q : R (.d (.int (f i j))) Ω) : WR K (rI0 fun i j => .int (f i j)) (.d (.int i)) (.d (.int j)) Ω R := fun m G H v w Q c r1 r2 k => by
  cases r1; cases r2
  exact ⟨i, j, rfl, rfl, k _ _ _ _ (.d (.int (f i j))) _ c (Nxt.refl ..) (Nat.le_refl _) (Dp.int _) q⟩
theorem wr_addI {i j : Int} (q : R (.d (.int (i + j))) Ω) : WR K (rAddX K) (.d (.int i)) (.d (.int j)) Ω R := fun m G H v w Q c r1 r2 k => .inl (wr_I0 (f := fun i j => i + j) q m G H v w Q c r1 r2 k)
theorem dps_app {K : KF} {G : Hp} : ∀ {vs ws : List V} {xs ys : List PyData}, DpAll K G vs xs → DpAll K G ws ys → DpAll K G (vs ++ ws) (xs ++ ys)
  | [], _, [], _, .nil, h => h
  | _ :: _, _, _ :: _, _, .cons a b, h => .cons a (dps_app b h)
theorem dps_len {K : KF} {G : Hp} : ∀ {vs : List V} {xs : List PyData}, DpAll K G vs xs → vs.length = xs.length
  | [], [], .nil => rfl
  | _ :: _, _ :: _, .cons a b => congrArg Nat.succ (dps_len b)
/-! views with their parts of the frozen heap -/
def lsL (Ω : Om) : DV → Option (List PyData)
  | .d (.list xs) => some xs
  | .o i => (sqO Ω[i]?).bind asDs
  | _ => none
def lsT : DV → Option (List PyData)
  | .d (.tuple xs) => some xs
  | _ => none
def ls (Ω : Om) : DV → Option (List PyData)
  | .d (.list xs) => some xs
  | .d (.tuple xs) => some xs
  | .o i => (sqO Ω[i]?).bind asDs
  | _ => none
theorem lsL_get {m : Mp} {G H : Hp} {d : DV} {xs : List PyData} {v : V} (c : Core K m G Ω H) (r : RV K m G Ω.length d v) (h : lsL Ω d = some xs) : ∃ a vs, v = .ref a ∧ SqL K H a vs ∧ DpAll K G vs xs := by
  cases d with
  | v y => cases h
  | e _ _ _ _ => cases h
  | t _ => cases h
  | o i =>
    have h : (sqO Ω[i]?).bind asDs = some xs := h
    cases e : sqO Ω[i]? with
    | none => rw [e] at h; cases h
    | some ds =>
      rw [e] at h
      have e2 : Ω[i]? = some (.lst ds) := sq_o (Ω := Ω) e
      obtain ⟨_, vs, hv, rp⟩ := c.fr i _ e2 (by intro z; cases z)
      obtain ⟨hi, rfl⟩ := r
      rw [asDs_eq (ds := ds) (xs := xs) h] at rp
      exact ⟨m i, vs, rfl, sq_of hv, dps_of rp⟩
  | d y =>
    cases y with
    | list xs =>
      cases h
      cases r with
      | lst hs ha => exact ⟨_, _, rfl, ex_l c.ex hs, ha⟩
    | tuple xs => cases h
    | none => cases h
    | bool b => cases h
    | int b => cases h
    | str b => cases h
    | dict b => cases h
theorem lsT_get {m : Mp} {G H : Hp} {d : DV} {xs : List PyData} {v : V} (c : Core K m G Ω H) (r : RV K m G Ω.length d v) (h : lsT d = some xs) : ∃ a vs, v = .ref a ∧ SqT K G a vs ∧ DpAll K G vs xs := by
  cases d with
  | v y => cases h
  | e _ _ _ _ => cases h
  | t _ => cases h
  | o i => cases h
  | d y =>
    cases y with
    | tuple xs =>
      cases h
      cases r with
      | tup hs ha => exact ⟨_, _, rfl, hs, ha⟩
    | list xs => cases h
    | none => cases h
    | bool b => cases h
    | int b => cases h
    | str b => cases h
    | dict b => cases h
theorem ls_get {m : Mp} {G H : Hp} {d : DV} {xs : List PyData} {v : V} (c : Core K m G Ω H) (r : RV K m G Ω.length d v) (h : ls Ω d = some xs) : ∃ a vs, v = .ref a ∧ (SqL K H a vs ∨ SqT K G a vs) ∧ DpAll K G vs xs := by
  have go1 : lsL Ω d = some xs → ∃ a vs, v = .ref a ∧ (SqL K H a vs ∨ SqT K G a vs) ∧ DpAll K G vs xs := fun h => by
    obtain ⟨a, vs, e, q, p⟩ := lsL_get c r h
    exact ⟨a, vs, e, .inl q, p⟩
  have go2 : lsT d = some xs → ∃ a vs, v = .ref a ∧ (SqL K H a vs ∨ SqT K G a vs) ∧ DpAll K G vs xs := fun h => by
    obtain ⟨a, vs, e, q, p⟩ := lsT_get c r h
    exact ⟨a, vs, e, .inr q, p⟩
  cases d with
  | v y => cases h
  | e _ _ _ _ => cases h
  | t _ => cases h
  | o i => exact go1 h
  | d y =>
    cases y with
    | tuple xs => exact go2 h
    | list xs => exact go1 h
    | none => cases h
    | bool b => cases h
    | int b => cases h
    | str b => cases h
    | dict b => cases h
/-- list + list: a list that nobody changes -/
theorem wr_addL {x y : DV} {xs ys : List PyData} (hx : lsL Ω x = some xs) (hy : lsL Ω y = some ys) (h : xs.length + ys.length ≤ 100000) (q : R (.d (.list (xs ++ ys))) Ω) : WR K (rAddX K) x y Ω R := fun m G H v w Q c r1 r2 k => by
  obtain ⟨a, vs, rfl, s1, a1⟩ := lsL_get c r1 hx
  obtain ⟨b, ws, rfl, s2, a2⟩ := lsL_get c r2 hy
  refine .inr (.inr (.inl ⟨_, _, _, _, rfl, rfl, s1, s2, sz_of (by rw [dps_len a1, dps_len a2]; exact h), fun p hp => ?_⟩))
  obtain ⟨c2, n2⟩ := c.frz hp (.lst (vs ++ ws))
  exact k _ _ _ _ (.d (.list (xs ++ ys))) _ c2 n2 (Nat.le_refl _) (.lst (sq_of upd_same) (dps_ex n2.gg _ _ (dps_app a1 a2))) q
/-- .. of one's own -/
theorem wr_addLO {x y : DV} {xs ys : List PyData} (hx : lsL Ω x = some xs) (hy : lsL Ω y = some ys) (h : xs.length + ys.length ≤ 100000) (q : R (.o Ω.length) (Ω ++ [.lst ((xs ++ ys).map DV.d)])) : WR K (rAddX K) x y Ω R := fun m G H v w Q c r1 r2 k => by
  obtain ⟨a, vs, rfl, s1, a1⟩ := lsL_get c r1 hx
  obtain ⟨b, ws, rfl, s2, a2⟩ := lsL_get c r2 hy
  refine .inr (.inr (.inl ⟨_, _, _, _, rfl, rfl, s1, s2, sz_of (by rw [dps_len a1, dps_len a2]; exact h), fun p hp => ?_⟩))
  obtain ⟨m2, c2, n2, e2⟩ := c.own (x := .lst ((xs ++ ys).map DV.d)) (o := .lst (vs ++ ws)) hp ⟨_, upd_same, of_dps (dps_app a1 a2)⟩
  exact k _ _ _ _ (.o Ω.length) _ c2 n2 (by simp) ⟨by simp, by rw [e2]⟩ q
theorem wr_eq {x y : DV} {a b : PyData} (hx : vw Ω x = some a) (hy : vw Ω y = some b) (sa : SeqAt.shaped a = true) (sb : SeqAt.shaped b = true) (q : R (.d (.bool (PyData.eqv a b))) Ω) : WR K (rEqD K) x y Ω R := fun m G H v w Q c r1 r2 k =>
  ⟨a, b, vw_dp c r1 hx, vw_dp c r2 hy, sa, sb, k _ _ _ _ (.d (.bool (PyData.eqv a b))) _ c (Nxt.refl ..) (Nat.le_refl _) (Dp.bl _) q⟩
theorem wr_ne {x y : DV} {a b : PyData} (hx : vw Ω x = some a) (hy : vw Ω y = some b) (sa : SeqAt.shaped a = true) (sb : SeqAt.shaped b = true) (q : R (.d (.bool (!PyData.eqv a b))) Ω) : WR K (rNeD K) x y Ω R := fun m G H v w Q c r1 r2 k =>
  ⟨a, b, vw_dp c r1 hx, vw_dp c r2 hy, sa, sb, k _ _ _ _ (.d (.bool (!PyData.eqv a b))) _ c (Nxt.refl ..) (Nat.le_refl _) (Dp.bl _) q⟩
def isNo : DV → Bool
  | .d .none => true
  | _ => false
def plainV : DV → Bool
  | .v _ => false
  | _ => true
theorem isNo_v {m : Mp} {G : Hp} {n : Nat} {x : DV} {v : V} (r : RV K m G n x v) (p : plainV x = true) : decide (v = .non) = isNo x := by
  cases x with
  | v y => cases p
  | e _ _ _ _ =>
    obtain ⟨rfl, _⟩ := r
    rfl
  | t _ =>
    obtain ⟨_, _, rfl, _⟩ := r
    rfl
  | o i =>
    obtain ⟨_, rfl⟩ := r
    rfl
  | d y => cases y <;> cases r <;> rfl
theorem wr_isN {x : DV} (p : plainV x = true) (q : R (.d (.bool (isNo x))) Ω) : WR K (fun x y H Q => y = .non ∧ Q (.bl (decide (x = .non))) H) x (.d .none) Ω R := fun m G H v w Q c r1 r2 k => by
  cases r2
  refine ⟨rfl, ?_⟩
  rw [isNo_v r1 p]
  exact k _ _ _ _ (.d (.bool (isNo x))) _ c (Nxt.refl ..) (Nat.le_refl _) (Dp.bl _) q
theorem wr_notN {x : DV} (p : plainV x = true) (q : R (.d (.bool (!isNo x))) Ω) : WR K (fun x y H Q => y = .non ∧ Q (.bl (!decide (x = .non))) H) x (.d .none) Ω R := fun m G H v w Q c r1 r2 k => by
  cases r2
  refine ⟨rfl, ?_⟩
  rw [isNo_v r1 p]
  exact k _ _ _ _ (.d (.bool (!isNo x))) _ c (Nxt.refl ..) (Nat.le_refl _) (Dp.bl _) q
/-! items -/
theorem atI_pair {F : DV → V → Prop} {xs : List DV} {vs : List V} {i : Int} {x : DV} (r : Paired F xs vs) (h : atI xs i = some x) : ∃ v, atI vs i = some v ∧ F x v := by
  unfold atI at h ⊢
  rw [← Paired.length r]
  cases e : ixN xs.length i with
  | none => rw [e] at h; cases h
  | some j =>
    rw [e] at h
    exact Paired.getL r h
theorem wr_ix {x : DV} {ds : List DV} {i : Int} {y : DV} (hx : sq Ω x = some ds) (hi : atI ds i = some y) (q : R y Ω) : WR K (rIx K) x (.d (.int i)) Ω R := fun m G H v w Q c r1 r2 k => by
  cases r2
  obtain ⟨a, vs, rfl, hs, rp⟩ := sq_get c r1 hx
  obtain ⟨u, e, ru⟩ := atI_pair rp hi
  rcases hs with hs | hs
  · exact .inl ⟨a, vs, i, u, rfl, rfl, hs, e, k _ _ _ _ _ _ c (Nxt.refl ..) (Nat.le_refl _) ru q⟩
  · exact .inr (.inl ⟨a, vs, i, u, rfl, rfl, hs, e, k _ _ _ _ _ _ c (Nxt.refl ..) (Nat.le_refl _) ru q⟩)
theorem atI_map {α β : Type} (f : α → β) (xs : List α) (i : Int) : atI (xs.map f) i = (atI xs i).map f := by
  unfold atI
  rw [List.length_map]
  cases ixN xs.length i with
  | none => rfl
  | some j => show (xs.map f)[j]? = (xs[j]?).map f; rw [List.getElem?_map]
theorem wr_ixT {xs : List PyData} {i : Int} {y : PyData} (hi : atI xs i = some y) (q : R (.d y) Ω) : WR K (rIx K) (.d (.tuple xs)) (.d (.int i)) Ω R := wr_ix (ds := xs.map DV.d) rfl (by rw [atI_map, hi]; rfl) q
theorem wr_ixL {xs : List PyData} {i : Int} {y : PyData} (hi : atI xs i = some y) (q : R (.d y) Ω) : WR K (rIx K) (.d (.list xs)) (.d (.int i)) Ω R := wr_ix (ds := xs.map DV.d) rfl (by rw [atI_map, hi]; rfl) q
/-! built-in functions -/
theorem wc_abs {i : Int} (q : R (.d (.int (if i < 0 then -i else i))) Ω) : WC K (fun xs H Q => ∃ i, xs = [.int i] ∧ Q (.int (if i < 0 then -i else i)) H) [.d (.int i)] Ω R := fun m G H vs Q c r k => by
  cases r with | cons a b => cases b; cases a; exact ⟨i, rfl, k _ _ _ _ (.d (.int (if i < 0 then -i else i))) _ c (Nxt.refl ..) (Nat.le_refl _) (Dp.int _) q⟩
theorem wc_max {i j : Int} (q : R (.d (.int (if j > i then j else i))) Ω) : WC K (fun xs H Q => ∃ i j, xs = [.int i, .int j] ∧ Q (.int (if j > i then j else i)) H) [.d (.int i), .d (.int j)] Ω R := fun m G H vs Q c r k => by
  cases r with | cons a b => cases b with | cons b d => cases d; cases a; cases b; exact ⟨i, j, rfl, k _ _ _ _ (.d (.int (if j > i then j else i))) _ c (Nxt.refl ..) (Nat.le_refl _) (Dp.int _) q⟩
theorem wc_min {i j : Int} (q : R (.d (.int (if j < i then j else i))) Ω) : WC K (fun xs H Q => ∃ i j, xs = [.int i, .int j] ∧ Q (.int (if j < i then j else i)) H) [.d (.int i), .d (.int j)] Ω R := fun m G H vs Q c r k => by
  cases r with | cons a b => cases b with | cons b d => cases d; cases a; cases b; exact ⟨i, j, rfl, k _ _ _ _ (.d (.int (if j < i then j else i))) _ c (Nxt.refl ..) (Nat.le_refl _) (Dp.int _) q⟩
theorem wc_intI {i : Int} (q : R (.d (.int i)) Ω) : WC K (fun xs H Q => (∃ i, xs = [.int i] ∧ Q (.int i) H) ∨ ∃ k, xs = [.bl k] ∧ Q (.int (if k then 1 else 0)) H) [.d (.int i)] Ω R := fun m G H vs Q c r k => by
  cases r with | cons a b => cases b; cases a; exact .inl ⟨i, rfl, k _ _ _ _ (.d (.int i)) _ c (Nxt.refl ..) (Nat.le_refl _) (Dp.int _) q⟩
theorem wc_intB {b : Bool} (q : R (.d (.int (if b then 1 else 0))) Ω) : WC K (fun xs H Q => (∃ i, xs = [.int i] ∧ Q (.int i) H) ∨ ∃ k, xs = [.bl k] ∧ Q (.int (if k then 1 else 0)) H) [.d (.bool b)] Ω R := fun m G H vs Q c r k => by
  cases r with | cons a b => cases b; cases a; exact .inr ⟨_, rfl, k _ _ _ _ (.d (.int _)) _ c (Nxt.refl ..) (Nat.le_refl _) (Dp.int _) q⟩
theorem wc_len {x : DV} {ds : List DV} (hx : sq Ω x = some ds) (q : R (.d (.int ds.length)) Ω) : WC K (fun xs H Q => ∃ p ys, xs = [.ref p] ∧ (SqL K H p ys ∨ SqT K H p ys) ∧ Q (.int ys.length) H) [x] Ω R := fun m G H vs Q c r k => by
  cases r with
  | cons a b =>
    cases b
    obtain ⟨p, ws, rfl, hs, rp⟩ := sq_get c a hx
    refine ⟨p, ws, rfl, hs, ?_⟩
    rw [← Paired.length rp]
    exact k _ _ _ _ (.d (.int ds.length)) _ c (Nxt.refl ..) (Nat.le_refl _) (Dp.int _) q
theorem wc_tuple {x : DV} {xs : List PyData} (hx : ls Ω x = some xs) (q : R (.d (.tuple xs)) Ω) : WC K (fun xs H Q => ∃ p ys, xs = [.ref p] ∧ ((SqL K H p ys ∧ ∀ l, H l = none → Q (.ref l) (upd H l (.tup ys))) ∨ (SqT K H p ys ∧ Q (.ref p) H))) [x] Ω R := fun m G H vs Q c r k => by
  cases r with
  | cons a b =>
    cases b
    obtain ⟨p, ws, rfl, hs, rp⟩ := ls_get c a hx
    refine ⟨p, ws, rfl, ?_⟩
    rcases hs with hs | hs
    · refine .inl ⟨hs, fun l hl => ?_⟩
      obtain ⟨c2, n2⟩ := c.frz hl (.tup ws)
      exact k _ _ _ _ (.d (.tuple xs)) _ c2 n2 (Nat.le_refl _) (.tup (st_of upd_same) (dps_ex n2.gg _ _ rp)) q
    · exact .inr ⟨ex_t c.ex hs, k _ _ _ _ (.d (.tuple xs)) _ c (Nxt.refl ..) (Nat.le_refl _) (.tup hs rp) q⟩
theorem hs_h {m : Mp} {G H : Hp} (c : Core K m G Ω H) {a : Addr} {vs : List V} (h : SqL K H a vs ∨ SqT K G a vs) : SqL K H a vs ∨ SqT K H a vs := h.imp id fun z => ex_t c.ex z
theorem wc_listD {x : DV} {xs : List PyData} (hx : ls Ω x = some xs) (q : R (.d (.list xs)) Ω) : WC K (fun xs H Q => ∃ p ys, xs = [.ref p] ∧ (SqL K H p ys ∨ SqT K H p ys) ∧ ∀ l, H l = none → Q (.ref l) (upd H l (.lst ys))) [x] Ω R := fun m G H vs Q c r k => by
  cases r with
  | cons a b =>
    cases b
    obtain ⟨p, ws, rfl, hs, rp⟩ := ls_get c a hx
    refine ⟨p, ws, rfl, hs_h c hs, fun l hl => ?_⟩
    obtain ⟨c2, n2⟩ := c.frz hl (.lst ws)
    exact k _ _ _ _ (.d (.list xs)) _ c2 n2 (Nat.le_refl _) (.lst (sq_of upd_same) (dps_ex n2.gg _ _ rp)) q
theorem wc_listO {x : DV} {xs : List PyData} (hx : ls Ω x = some xs) (q : R (.o Ω.length) (Ω ++ [.lst (xs.map DV.d)])) : WC K (fun xs H Q => ∃ p ys, xs = [.ref p] ∧ (SqL K H p ys ∨ SqT K H p ys) ∧ ∀ l, H l = none → Q (.ref l) (upd H l (.lst ys))) [x] Ω R := fun m G H vs Q c r k => by
  cases r with
  | cons a b =>
    cases b
    obtain ⟨p, ws, rfl, hs, rp⟩ := ls_get c a hx
    refine ⟨p, ws, rfl, hs_h c hs, fun l hl => ?_⟩
    obtain ⟨m2, c2, n2, e2⟩ := c.own (x := .lst (xs.map DV.d)) (o := .lst ws) hl ⟨_, upd_same, of_dps rp⟩
    exact k _ _ _ _ (.o Ω.length) _ c2 n2 (by simp) ⟨by simp, by rw [e2]⟩ q
theorem dps_bools {K : KF} {G : Hp} : ∀ {ns : List Bool} {vs : List V}, DpAll K G vs (ns.map PyData.bool) → vs = ns.map V.bl
  | [], _, .nil => rfl
  | n :: ns, _, .cons a b => by cases a; rw [dps_bools b]; rfl
theorem wc_all {x : DV} {bs : List Bool} (hx : lsL Ω x = some (bs.map PyData.bool)) (q : R (.d (.bool (bs.all id))) Ω) : WC K (rAll K) [x] Ω R := fun m G H vs Q c r k => by
  cases r with
  | cons a b =>
    cases b
    obtain ⟨p, ws, rfl, hs, rp⟩ := lsL_get c a hx
    rw [dps_bools rp] at hs
    exact ⟨p, bs, rfl, hs, k _ _ _ _ (.d (.bool (bs.all id))) _ c (Nxt.refl ..) (Nat.le_refl _) (Dp.bl _) q⟩
/-! isinstance -/
def tyN : PyData → Option String
  | .none => some "NoneType"
  | .bool _ => some "bool"
  | .int _ => some "int"
  | .str _ => some "str"
  | .list _ => some "list"
  | .tuple _ => some "tuple"
  | .dict _ => none
theorem ty_of {H : Hp} {x : PyData} {v : V} {n : String} (h : Dp K H v x) (e : tyN x = some n) : TyX K H v (.type n) := by
  cases h with
  | non => cases e; exact .base .non
  | bl b => cases e; exact .base (.bl b)
  | int b => cases e; exact .base (.int b)
  | str b => cases e; exact .base (.str b)
  | lst hs ha =>
    cases e
    rcases hs with (hs | ⟨o, hs⟩) | ⟨o, its, n, hk, hc, _⟩
    · exact .base (.lst hs)
    · exact .base (.frz hs)
    · exact .kList hk hc
  | tup hs ha =>
    cases e
    rcases hs with (hs | ⟨o, hs⟩) | ⟨o, its, n, hk, hc, _⟩
    · exact .base (.tup hs)
    · exact .fTuple hs
    · exact .kTuple hk hc
theorem wc_isi {x : DV} {y : PyData} {a b : String} {z : Bool} (hx : vw Ω x = some y) (ha : tyN y = some a) (hk : kitB a b = some z) (q : R (.d (.bool z)) Ω) : WC K (rIsi K) [x, .v (.ty b)] Ω R := fun m G H vs Q c r k => by
  cases r with
  | cons r1 rs => cases rs with
    | cons r2 rs =>
      cases rs
      cases r2
      exact ⟨_, _, _, _, z, rfl, .ty b, ty_of (vw_dp c r1 hx) ha, kit_ty hk, k _ _ _ _ (.d (.bool z)) _ c (Nxt.refl ..) (Nat.le_refl _) (Dp.bl _) q⟩
end
end HL
namespace HL
open PySem PySem.Spec PyProof.Rows L2 Evl
/-! ### slices -/
def cutG {α : Type} (xs : List α) (lo hi : Option Int) : List α := (xs.drop (HT.sIx xs.length 0 lo)).take (HT.sIx xs.length xs.length hi - HT.sIx xs.length 0 lo)
theorem dps_drop {K : KF} {G : Hp} : ∀ (n : Nat) {vs : List V} {xs : List PyData}, DpAll K G vs xs → DpAll K G (vs.drop n) (xs.drop n)
  | 0, _, _, h => h
  | _ + 1, [], [], .nil => .nil
  | n + 1, _ :: _, _ :: _, .cons _ b => dps_drop n b
theorem dps_take {K : KF} {G : Hp} : ∀ (n : Nat) {vs : List V} {xs : List PyData}, DpAll K G vs xs → DpAll K G (vs.take n) (xs.take n)
  | 0, _, _, _ => .nil
  | _ + 1, [], [], .nil => .nil
  | n + 1, _ :: _, _ :: _, .cons a b => .cons a (dps_take n b)
theorem dps_cut {K : KF} {G : Hp} {vs : List V} {xs : List PyData} (lo hi : Option Int) (h : DpAll K G vs xs) : DpAll K G (cutV vs lo hi) (cutG xs lo hi) := by
  unfold cutV cutG
  rw [dps_len h]
  exact dps_take _ (dps_drop _ h)
theorem cut_whole {α : Type} {xs : List α} {lo hi : Option Int} (h : HT.sIx xs.length 0 lo = 0 ∧ HT.sIx xs.length xs.length hi = xs.length) : cutG xs lo hi = xs := by
  unfold cutG
  rw [h.1, h.2]
  simp
section
variable (K : KF) (W : WX)
def WO (to : TO) (Γ : Gm) (Ω : Om) (R : Option Int → Om → Prop) (X : Exc → Om → Prop) : Prop :=
  ∀ m G H σ Q, Core K m G Ω H → Slots K m G Ω.length Γ σ → (∀ m' G' Ω' H' b, Core K m' G' Ω' H' → Nxt m Ω.length G m' G' → Ω.length ≤ Ω'.length → R b Ω' → Q b H') → XOk K m G Ω.length X (fun c d H' => W c d σ H') → to σ H Q
def WSl (r : V → Option Int → Option Int → Hp → VK → Prop) (x : DV) (lo hi : Option Int) (Ω : Om) (R : DV → Om → Prop) : Prop :=
  ∀ m G H v Q, Core K m G Ω H → RV K m G Ω.length x v → QOk K m G Ω.length R Q → r v lo hi H Q
end
section
variable {K : KF} {W : WX} {Γ : Gm} {Ω : Om} {R : DV → Om → Prop} {X : Exc → Om → Prop} {te : TE}
theorem wo_none {S : Option Int → Om → Prop} (q : S none Ω) : WO K W tNoPart Γ Ω S X := fun m G H σ Q c s k x => k _ _ _ _ _ c (Nxt.refl ..) (Nat.le_refl _) q
theorem wo_some {S : Option Int → Om → Prop} (h : WE K W te Γ Ω (fun d Ω1 => ∃ i, d = .d (.int i) ∧ S (some i) Ω1) X) : WO K W (tPart te) Γ Ω S X := fun m G H σ Q c s k x =>
  h m G H σ _ c s (fun m1 G1 Ω1 H1 d1 v1 c1 n1 l1 r1 ⟨i, e, q⟩ => by
    subst e
    cases r1
    exact ⟨i, rfl, k _ _ _ _ _ c1 n1 l1 q⟩) x
theorem we_sl {r : V → Option Int → Option Int → Hp → VK → Prop} {tl th : TO} (h : WE K W te Γ Ω (fun d Ω1 => WO K W tl Γ Ω1 (fun lo Ω2 => WO K W th Γ Ω2 (fun hi Ω3 => WSl K r d lo hi Ω3 R) X) X) X) : WE K W (tSl r te tl th) Γ Ω R X := fun m G H σ Q c s k x =>
  h m G H σ _ c s (fun m1 G1 Ω1 H1 d1 v1 c1 n1 l1 r1 h1 => h1 m1 G1 H1 σ _ c1 (s.mono n1 l1) (fun m2 G2 Ω2 H2 lo c2 n2 l2 h2 =>
    h2 m2 G2 H2 σ _ c2 ((s.mono n1 l1).mono n2 l2) (fun m3 G3 Ω3 H3 hi c3 n3 l3 h3 =>
      h3 m3 G3 H3 v1 Q c3 (RV.mono (n2.trans l2 n3) (Nat.le_trans l2 l3) r1) (k.on (n1.trans l1 (n2.trans l2 n3)) (Nat.le_trans l1 (Nat.le_trans l2 l3)))) (x.on (n1.trans l1 n2) (Nat.le_trans l1 l2))) (x.on n1 l1)) x
theorem wsl_L {d : DV} {xs : List PyData} {lo hi : Option Int} (hx : lsL Ω d = some xs) (q : R (.d (.list (cutG xs lo hi))) Ω) : WSl K (rSlS K) d lo hi Ω R := fun m G H v Q c r k => by
  obtain ⟨a, vs, rfl, hs, rp⟩ := lsL_get c r hx
  refine .inl ⟨a, vs, rfl, hs, fun p hp => ?_⟩
  obtain ⟨c2, n2⟩ := c.frz hp (.lst (cutV vs lo hi))
  exact k _ _ _ _ (.d (.list (cutG xs lo hi))) _ c2 n2 (Nat.le_refl _) (.lst (sq_of upd_same) (dps_ex n2.gg _ _ (dps_cut lo hi rp))) q
theorem wsl_T {xs : List PyData} {lo hi : Option Int} (q : R (.d (.tuple (cutG xs lo hi))) Ω) : WSl K (rSlS K) (.d (.tuple xs)) lo hi Ω R := fun m G H v Q c r k => by
  obtain ⟨a, vs, rfl, hs, rp⟩ := lsT_get c r rfl
  refine .inr ⟨a, vs, rfl, ex_t c.ex hs, fun e => ?_, fun _ p hp => ?_⟩
  · rw [dps_len rp] at e
    rw [cut_whole e] at q
    exact k _ _ _ _ (.d (.tuple xs)) _ c (Nxt.refl ..) (Nat.le_refl _) r q
  · obtain ⟨c2, n2⟩ := c.frz hp (.tup (cutV vs lo hi))
    exact k _ _ _ _ (.d (.tuple (cutG xs lo hi))) _ c2 n2 (Nat.le_refl _) (.tup (st_of upd_same) (dps_ex n2.gg _ _ (dps_cut lo hi rp))) q
end
/-! ### methods of lists -/
section
variable {K : KF} {W : WX} {Γ : Gm} {Ω : Om} {R : DV → Om → Prop} {X : Exc → Om → Prop} {to : TE} {ta : TA}
/-- a method of one's own list -/
theorem we_bm {r : V → List V → Hp → VK → Prop} (h : WE K W to Γ Ω (fun d Ω1 => (∃ ds, sq Ω1 d = some ds ∧ lsT d = none) ∧ WA K W ta Γ Ω1 (fun ds Ω2 => WM K r d ds Ω2 R) X) X) : WE K W (tBM K "list" r to ta) Γ Ω R X := fun m G H σ Q c s k x =>
  h m G H σ _ c s (fun m1 G1 Ω1 H1 d1 v1 c1 n1 l1 r1 ⟨⟨ds, e1, e2⟩, h1⟩ => by
    refine ⟨?_, h1 m1 G1 H1 σ _ c1 (s.mono n1 l1) (fun m2 G2 Ω2 H2 es vs c2 n2 l2 r2 h2 => h2 m2 G2 H2 v1 vs Q c2 (RV.mono n2 l2 r1) r2 (k.on (n1.trans l1 n2) (Nat.le_trans l1 l2))) (x.on n1 l1)⟩
    obtain ⟨a, vs, rfl, hs, rp⟩ := sq_get c1 r1 e1
    rcases hs with hs | hs
    · exact Or.inl ⟨rfl, vs, hs⟩
    · cases d1 with
      | v y => cases e1
      | e _ _ _ _ => cases e1
      | t _ => cases e1
      | o i =>
        obtain ⟨_, q⟩ := c1.fr i _ (sq_o e1) (by intro z; cases z)
        obtain ⟨vs', hv, _⟩ := q
        obtain ⟨_, er⟩ := r1
        cases er
        exact Or.inl ⟨rfl, vs', sq_of hv⟩
      | d y =>
        cases y with
        | list xs =>
          cases r1 with
          | lst hl ha => exact Or.inl ⟨rfl, _, ex_l c1.ex hl⟩
        | tuple xs => cases e2
        | none => cases e1
        | bool b => cases e1
        | int b => cases e1
        | str b => cases e1
        | dict b => cases e1) x
theorem we_bm0 {r : V → List V → Hp → VK → Prop} (h : WE K W to Γ Ω (fun d Ω1 => (∃ ds, sq Ω1 d = some ds ∧ lsT d = none) ∧ WM K r d [] Ω1 R) X) : WE K W (tBM0 K "list" r to) Γ Ω R X := fun m G H σ Q c s k x =>
  we_bm (ta := tNil) (K := K) (W := W) (Γ := Γ) (Ω := Ω) (R := R) (X := X) (to := to) (r := r) (fun m G H σ Q c s k x => h m G H σ _ c s (fun m1 G1 Ω1 H1 d1 v1 c1 n1 l1 r1 ⟨e1, h1⟩ => k m1 G1 Ω1 H1 d1 v1 c1 n1 l1 r1 ⟨e1, wa_nil h1⟩) x) m G H σ Q c s k x
theorem wm_append {i : Nat} {y : DV} {ds : List DV} (hx : Ω[i]? = some (.lst ds)) (hl : ds.length < 100000) (q : R (.d .none) (Ω.set i (.lst (ds ++ [y])))) : WM K rAppend (.o i) [y] Ω R := fun m G H v vs Q c r1 r2 k => by
  obtain ⟨hi, rfl⟩ := r1
  cases r2 with
  | cons ry rn =>
    cases rn
    obtain ⟨q1, ws, hw, rp⟩ := c.fr i _ hx (by intro z; cases z)
    refine ⟨m i, ws, _, rfl, rfl, hw, sz_lt (by rw [← Paired.length rp]; exact hl), ?_⟩
    have c2 := c.write (y := .lst (ds ++ [y])) (o := .lst (ws ++ [_])) hx (by intro z; cases z) ⟨_, upd_same, Paired.snoc rp ry⟩
    exact k _ _ _ _ (.d .none) _ c2 (Nxt.refl ..) (by rw [List.length_set]; exact Nat.le_refl _) Dp.non q
theorem wm_reverse {i : Nat} {ds : List DV} (hx : Ω[i]? = some (.lst ds)) (q : R (.d .none) (Ω.set i (.lst ds.reverse))) : WM K rReverse (.o i) [] Ω R := fun m G H v vs Q c r1 r2 k => by
  obtain ⟨hi, rfl⟩ := r1
  cases r2
  obtain ⟨q1, ws, hw, rp⟩ := c.fr i _ hx (by intro z; cases z)
  have rev : ∀ {xs : List DV} {ys : List V}, Paired (RV K m G Ω.length) xs ys → Paired (RV K m G Ω.length) xs.reverse ys.reverse := fun {xs ys} h => by
    induction h with
    | nil => exact .nil
    | cons a _ ih => rw [List.reverse_cons, List.reverse_cons]; exact Paired.snoc ih a
  have c2 := c.write (y := .lst ds.reverse) (o := .lst ws.reverse) hx (by intro z; cases z) ⟨_, upd_same, rev rp⟩
  exact ⟨m i, ws, rfl, rfl, hw, k _ _ _ _ (.d .none) _ c2 (Nxt.refl ..) (by rw [List.length_set]; exact Nat.le_refl _) Dp.non q⟩
/-- o[i] = v, a list of one's own -/
theorem wg_subL {to ti : TE} {y : DV} {S : Gm → Om → Prop} (h : WE K W to Γ Ω (fun d Ω1 => WE K W ti Γ Ω1 (fun e Ω2 => ∃ k ds i j, d = .o k ∧ e = .d (.int i) ∧ Ω2[k]? = some (.lst ds) ∧ ixN ds.length i = some j ∧ S Γ (Ω2.set k (.lst (ds.set j y)))) (fun _ _ => False)) (fun _ _ => False))
    (hW : True) : WG K (gSub to ti rSetL) y Γ Ω S := fun m G H σ v Q c s ry k => by
  have x0 : ∀ {m' : Mp} {G' : Hp} {n' : Nat}, XOk K m' G' n' (fun _ _ => False) (fun c d H' => W c d σ H') := fun {m' G' n'} _ _ _ _ _ _ _ _ _ _ _ z => z.elim
  refine h m G H σ _ c s (fun m1 G1 Ω1 H1 d1 v1 c1 n1 l1 r1 h1 => h1 m1 G1 H1 σ _ c1 (s.mono n1 l1) (fun m2 G2 Ω2 H2 d2 v2 c2 n2 l2 r2 ⟨kk, ds, i, j, e1, e2, hx, hj, q⟩ => ?_) x0) x0
  subst e1 e2
  cases r2
  have n12 := n1.trans l1 n2
  have l12 := Nat.le_trans l1 l2
  obtain ⟨_, er⟩ := RV.mono n2 l2 r1
  obtain ⟨q1, ws, hw, rp⟩ := c2.fr kk _ hx (by intro z; cases z)
  have c3 := c2.write (y := .lst (ds.set j y)) (o := .lst (ws.set j v)) hx (by intro z; cases z) ⟨_, upd_same, Paired.setP (RV.mono n12 l12 ry) j rp⟩
  have le : Ω2.length ≤ (Ω2.set kk (OC.lst (ds.set j y))).length := by rw [List.length_set]; exact Nat.le_refl _
  exact ⟨m2 kk, ws, i, j, er, rfl, hw, by rw [← Paired.length rp]; exact hj, k _ _ _ _ _ _ c3 n12 (Nat.le_trans l12 le) ((s.mono n12 l12).mono (Nxt.refl ..) le) q⟩
/-- a list of one's own is handed on for good -/
theorem we_varF {i k : Nat} {xs : List PyData} (h : Γ[i]? = some (some (.o k))) (hx : (sqO Ω[k]?).bind asDs = some xs) (q : R (.d (.list xs)) (Ω.set k .gone)) : WE K W (tVar i) Γ Ω R X := fun m G H σ Q c s kk x => by
  obtain ⟨v, e, rv⟩ := s.at_ i _ h
  obtain ⟨hi, rfl⟩ := rv
  cases e1 : sqO Ω[k]? with
  | none => rw [e1] at hx; cases hx
  | some ds =>
    rw [e1] at hx
    have e2 : Ω[k]? = some (.lst ds) := sq_o (Ω := Ω) e1
    obtain ⟨q1, ws, hw, rp⟩ := c.fr k _ e2 (by intro z; cases z)
    rw [asDs_eq (ds := ds) (xs := xs) hx] at rp
    obtain ⟨c2, n2⟩ := c.freeze e2 (by intro z; cases z) hw
    have le : Ω.length ≤ (Ω.set k .gone).length := by rw [List.length_set]; exact Nat.le_refl _
    exact ⟨_, e, kk _ _ _ _ (.d (.list xs)) _ c2 n2 le (.lst (sq_of upd_same) (dps_ex n2.gg _ _ (dps_of rp))) q⟩
end
/-! ### what is walked -/
def ItOk (K : KF) (J : It) (ys : List DV) (stay : Om → Prop) (m1 : Mp) (G1 : Hp) (n1 : Nat) : Prop :=
  ∀ m' G' Ω' H', Core K m' G' Ω' H' → Nxt m1 n1 G1 m' G' → n1 ≤ Ω'.length → stay Ω' → ∀ i, (ys.length ≤ i → J.stop i H') ∧
    ∀ y, ys[i]? = some y → J.go i H' ∧ ∀ x H'', J.yld i H' x H'' → ∃ G'', Core K m' G'' Ω' H'' ∧ Ex G' G'' ∧ RV K m' G'' Ω'.length y x
def WI (K : KF) (W : WX) (wi : TI) (Γ : Gm) (Ω : Om) (Rc : List DV → (Om → Prop) → Om → Prop) (X : Exc → Om → Prop) : Prop :=
  ∀ m G H σ (R : It → Hp → Prop), Core K m G Ω H → Slots K m G Ω.length Γ σ → XOk K m G Ω.length X (fun c d H' => W c d σ H') →
    (∀ m1 G1 Ω1 H1 J ys stay, Core K m1 G1 Ω1 H1 → Nxt m Ω.length G m1 G1 → Ω.length ≤ Ω1.length → ItOk K J ys stay m1 G1 Ω1.length → Rc ys stay Ω1 → R J H1) → wi σ H R
section
variable {K : KF} {W : WX} {Γ : Gm} {Ω : Om} {X : Exc → Om → Prop} {Rc : List DV → (Om → Prop) → Om → Prop} {te : TE} {ta : TA}
def sqLs (Ω : Om) : DV → Option (List DV)
  | .d (.list xs) => some (xs.map DV.d)
  | .o i => sqO Ω[i]?
  | _ => none
theorem sqLs_get {m : Mp} {G H : Hp} {d : DV} {ds : List DV} {v : V} (c : Core K m G Ω H) (r : RV K m G Ω.length d v) (h : sqLs Ω d = some ds) : ∃ a vs, v = .ref a ∧ SqL K H a vs ∧ Paired (RV K m G Ω.length) ds vs := by
  cases d with
  | v y => cases h
  | e _ _ _ _ => cases h
  | t _ => cases h
  | o i =>
    have e2 : Ω[i]? = some (.lst ds) := sq_o (Ω := Ω) h
    obtain ⟨_, vs, hv, rp⟩ := c.fr i _ e2 (by intro z; cases z)
    obtain ⟨hi, rfl⟩ := r
    exact ⟨m i, vs, rfl, sq_of hv, rp⟩
  | d y =>
    cases y with
    | list xs =>
      cases h
      cases r with
      | lst hs ha => exact ⟨_, _, rfl, ex_l c.ex hs, of_dps ha⟩
    | tuple xs => cases h
    | none => cases h
    | bool b => cases h
    | int b => cases h
    | str b => cases h
    | dict b => cases h
theorem itok_list {m1 : Mp} {G1 : Hp} {n1 : Nat} {d : DV} {ds : List DV} {a : Addr} (r : RV K m1 G1 n1 d (.ref a)) : ItOk K (Itl K a) ds (fun Ω' => sqLs Ω' d = some ds) m1 G1 n1 := fun m' G' Ω' H' c' n' l' st i => by
  obtain ⟨a', vs, ea, hs, rp⟩ := sqLs_get c' (RV.mono n' l' r) st
  cases ea
  have el := Paired.length rp
  refine ⟨fun h => ⟨vs, hs, by rw [← el]; exact h⟩, fun y hy => ?_⟩
  obtain ⟨u, hu, ru⟩ := Paired.getL rp hy
  refine ⟨⟨vs, u, hs, hu⟩, fun x H'' ⟨e, hx⟩ => ?_⟩
  subst e
  have ex : u = x := Option.some.inj (hu.symm.trans (hx vs hs))
  subst ex
  exact ⟨G', c', Ex.refl _, ru⟩
theorem itok_tup {m1 : Mp} {G1 : Hp} {n1 : Nat} {xs : List PyData} {a : Addr} (r : RV K m1 G1 n1 (.d (.tuple xs)) (.ref a)) : ItOk K (Itt K a) (xs.map DV.d) (fun _ => True) m1 G1 n1 := fun m' G' Ω' H' c' n' l' st i => by
  have r' := RV.mono n' l' r
  obtain ⟨a', vs, ea, hs, rp0⟩ := lsT_get c' r' rfl
  cases ea
  have rp : Paired (RV K m' G' Ω'.length) (xs.map DV.d) vs := of_dps rp0
  have hs' := ex_t c'.ex hs
  have el := Paired.length rp
  refine ⟨fun h => ⟨vs, hs', by rw [← el]; exact h⟩, fun y hy => ?_⟩
  obtain ⟨u, hu, ru⟩ := Paired.getL rp hy
  refine ⟨⟨vs, u, hs', hu⟩, fun x H'' ⟨e, hx⟩ => ?_⟩
  subst e
  have ex : u = x := Option.some.inj (hu.symm.trans (hx vs hs'))
  subst ex
  exact ⟨G', c', Ex.refl _, ru⟩
theorem itok_rng {m1 : Mp} {G1 : Hp} {n1 : Nat} {lo : Int} {n : Nat} : ItOk K (Itr lo n) ((List.range n).map fun (i : Nat) => .d (.int (lo + (i : Int)))) (fun _ => True) m1 G1 n1 := fun m' G' Ω' H' c' n' l' st i => by
  refine ⟨fun h => ?_, fun y hy => ?_⟩
  · rw [List.length_map, List.length_range] at h
    exact h
  · rw [List.getElem?_map] at hy
    have hi : i < n := by
      by_cases h : i < n
      · exact h
      · rw [List.getElem?_eq_none (by rw [List.length_range]; omega)] at hy
        cases hy
    rw [List.getElem?_range hi] at hy
    cases hy
    refine ⟨hi, fun x H'' ⟨e, hx⟩ => ?_⟩
    subst e hx
    exact ⟨G', c', Ex.refl _, Dp.int _⟩
/-- what is walked, by its kind -/
theorem wi_seqL (h : WE K W te Γ Ω (fun d Ω1 => ∃ ds, sqLs Ω1 d = some ds ∧ Rc ds (fun Ω' => sqLs Ω' d = some ds) Ω1) X) : WI K W (iSeq K te) Γ Ω Rc X := fun m G H σ R c s x k =>
  h m G H σ _ c s (fun m1 G1 Ω1 H1 d v c1 n1 l1 r1 ⟨ds, e, q⟩ => by
    obtain ⟨a, vs, rfl, hs, rp⟩ := sqLs_get c1 r1 e
    exact ⟨a, rfl, .inl ⟨⟨vs, hs⟩, k m1 G1 Ω1 H1 _ ds _ c1 n1 l1 (itok_list r1) q⟩⟩) x
theorem wi_seqT (h : WE K W te Γ Ω (fun d Ω1 => ∃ xs, d = .d (.tuple xs) ∧ Rc (xs.map DV.d) (fun _ => True) Ω1) X) : WI K W (iSeq K te) Γ Ω Rc X := fun m G H σ R c s x k =>
  h m G H σ _ c s (fun m1 G1 Ω1 H1 d v c1 n1 l1 r1 ⟨xs, e, q⟩ => by
    subst e
    obtain ⟨a, vs, rfl, hs, rp⟩ := lsT_get c1 r1 rfl
    exact ⟨a, rfl, .inr ⟨⟨vs, ex_t c1.ex hs⟩, k m1 G1 Ω1 H1 _ _ _ c1 n1 l1 (itok_tup r1) q⟩⟩) x
theorem wi_rng1 (h : WA K W ta Γ Ω (fun ds Ω1 => ∃ j : Int, ds = [.d (.int j)] ∧ -(2 ^ 62) ≤ j ∧ j < 2 ^ 62 ∧ Rc ((List.range j.toNat).map fun (i : Nat) => .d (.int (0 + (i : Int)))) (fun _ => True) Ω1) X) : WI K W (iRng1 ta) Γ Ω Rc X := fun m G H σ R c s x k =>
  h m G H σ _ c s (fun m1 G1 Ω1 H1 ds vs c1 n1 l1 r1 ⟨j, e, h1, h2, q⟩ => by
    subst e
    cases r1 with
    | cons a b => cases b; cases a; exact ⟨j, rfl, h1, h2, k m1 G1 Ω1 H1 _ _ _ c1 n1 l1 itok_rng q⟩) x
theorem wi_rng2 (h : WA K W ta Γ Ω (fun ds Ω1 => ∃ i j : Int, ds = [.d (.int i), .d (.int j)] ∧ (-(2 ^ 62) ≤ i ∧ i < 2 ^ 62 ∧ -(2 ^ 62) ≤ j ∧ j < 2 ^ 62) ∧ Rc ((List.range (j - i).toNat).map fun (t : Nat) => .d (.int (i + (t : Int)))) (fun _ => True) Ω1) X) : WI K W (iRng2 ta) Γ Ω Rc X := fun m G H σ R c s x k =>
  h m G H σ _ c s (fun m1 G1 Ω1 H1 ds vs c1 n1 l1 r1 ⟨i, j, e, h1, q⟩ => by
    subst e
    cases r1 with
    | cons a b => cases b with | cons b d => cases d; cases a; cases b; exact ⟨i, j, rfl, h1, k m1 G1 Ω1 H1 _ _ _ c1 n1 l1 itok_rng q⟩) x
/-! ### for -/
variable {O : Outs} {g : TG} {tb : TS} {wi : TI}
theorem ws_for (h : WI K W wi Γ Ω (fun ys stay Ω1 => ∃ P : Nat → Gm → Om → Prop, P 0 Γ Ω1 ∧ (∀ i Γ' Ω', i ≤ ys.length → P i Γ' Ω' → stay Ω' ∧ Ω1.length ≤ Ω'.length) ∧
      (∀ i y Γ' Ω', ys[i]? = some y → P i Γ' Ω' → WG K g y Γ' Ω' (fun Γ2 Ω2 => WS K W tb Γ2 Ω2 { nx := P (i + 1), ct := P (i + 1), bk := O.nx, rt := O.rt, er := O.er })) ∧ ∀ Γ' Ω', P ys.length Γ' Ω' → O.nx Γ' Ω') (fun e Ω1 => O.er Γ e Ω1)) :
    WS K W (tFor wi g tb) Γ Ω O := fun m G H σ D c s k1 k2 k3 k4 z => by
  refine h m G H σ _ c s (xok_of z s) (fun m1 G1 Ω1 H1 J ys stay c1 n1 l1 it ⟨P, p0, pst, step, fin⟩ => ?_)
  have s1 := s.mono n1 l1
  refine ⟨fun i n σ' H' => n = ys.length - i ∧ i ≤ ys.length ∧ ∃ m' G' Ω' Γ', Core K m' G' Ω' H' ∧ Nxt m1 Ω1.length G1 m' G' ∧ Ω1.length ≤ Ω'.length ∧ Slots K m' G' Ω'.length Γ' σ' ∧ P i Γ' Ω',
    ⟨ys.length, by simp, Nat.zero_le _, m1, G1, Ω1, Γ, c1, Nxt.refl .., Nat.le_refl _, s1, p0⟩, ?_⟩
  rintro i n σ2 H2 ⟨rfl, hi, m2, G2, Ω2, Γ2, c2, n2, l2, s2, p2⟩
  have n12 := n1.trans l1 n2
  have l12 := Nat.le_trans l1 l2
  have ik := it m2 G2 Ω2 H2 c2 n2 l2 (pst i Γ2 Ω2 hi p2).1 i
  by_cases hlt : i < ys.length
  · obtain ⟨go, yl⟩ := ik.2 ys[i] (List.getElem?_eq_getElem hlt)
    refine .inr ⟨go, fun σ' H' => ∃ m' G' Ω' Γ', Core K m' G' Ω' H' ∧ Nxt m1 Ω1.length G1 m' G' ∧ Ω1.length ≤ Ω'.length ∧ Slots K m' G' Ω'.length Γ' σ' ∧ P (i + 1) Γ' Ω', fun σ' H' q => ⟨ys.length - (i + 1), by omega, rfl, hlt, q⟩, fun x H'' hy => ?_⟩
    obtain ⟨G3, c3, e3, r3⟩ := yl x H'' hy
    have n3 : Nxt m2 Ω2.length G2 m2 G3 := ⟨fun _ _ => rfl, e3⟩
    have n13 := n12.trans l12 n3
    refine step i ys[i] Γ2 Ω2 (List.getElem?_eq_getElem hlt) p2 m2 G3 H'' σ2 x _ c3 (s2.mono n3 (Nat.le_refl _)) r3 (fun m4 G4 Ω4 H4 Γ4 σ4 c4 n4 l4 s4 h4 => ?_)
    have n14 := n13.trans l12 n4
    have l14 := Nat.le_trans l12 l4
    have again : SOk K m4 G4 Ω4.length (P (i + 1)) (fun σ' H' => ∃ m' G' Ω' Γ', Core K m' G' Ω' H' ∧ Nxt m1 Ω1.length G1 m' G' ∧ Ω1.length ≤ Ω'.length ∧ Slots K m' G' Ω'.length Γ' σ' ∧ P (i + 1) Γ' Ω') := fun m5 G5 Ω5 H5 Γ5 σ5 c5 n5 l5 s5 p5 =>
      ⟨m5, G5, Ω5, Γ5, c5, (n2.trans l2 (n3.trans (Nat.le_refl _) n4)).trans (Nat.le_trans l2 l4) n5, Nat.le_trans (Nat.le_trans l2 l4) l5, s5, p5⟩
    exact h4 m4 G4 H4 σ4 { D with nx := _, ct := _, bk := D.nx } c4 s4 again (k2.on n14 l14) (k1.on n14 l14) again (z.on n14 l14)
  · have ei : i = ys.length := by omega
    subst ei
    exact .inl ⟨ik.1 (Nat.le_refl _), k1 _ _ _ _ _ _ c2 n12 l12 s2 (fin Γ2 Ω2 p2)⟩
end
/-! ### comprehensions -/
def wipeG (Γ : Gm) : List Nat → Gm
  | [] => Γ
  | v :: vs => (wipeG Γ vs).set v none
theorem wipeG_slots {K : KF} {m : Mp} {G : Hp} {n : Nat} {Γ : Gm} {σ : L2.St} (s : Slots K m G n Γ σ) : ∀ vs, Slots K m G n (wipeG Γ vs) (wipe σ vs)
  | [] => s
  | v :: vs => by
    have ih := wipeG_slots s vs
    refine ⟨?_, fun i d h => ?_⟩
    · show ((wipeG Γ vs).set v none).length = ((wipe σ vs).set v none).length
      rw [List.length_set, List.length_set]
      exact ih.len
    · have h : ((wipeG Γ vs).set v none)[i]? = some (some d) := h
      show ∃ w, ((wipe σ vs).set v none)[i]? = some (some w) ∧ _
      rw [List.getElem?_set] at h ⊢
      by_cases hv : v = i
      · rw [if_pos hv] at h
        split at h <;> cases h
      · rw [if_neg hv] at h ⊢
        exact ih.at_ i d h
theorem wipe_ext {σ τ : L2.St} : ∀ {vs : List Nat}, σ.length = τ.length → (∀ i, i ∉ vs → σ[i]? = τ[i]?) → wipe σ vs = wipe τ vs
  | [], _, h => List.ext_getElem? fun i => h i (by simp)
  | v :: vs, hl, h => by
    show (wipe σ vs).set v none = (wipe τ vs).set v none
    refine List.ext_getElem? fun i => ?_
    rw [List.getElem?_set, List.getElem?_set, wipe_length, wipe_length, hl]
    by_cases hv : v = i
    · rw [if_pos hv, if_pos hv]
    · rw [if_neg hv, if_neg hv]
      have e : wipe (σ.set v none) vs = wipe (τ.set v none) vs := wipe_ext (by rw [List.length_set, List.length_set]; exact hl) fun j hj => by
        rw [List.getElem?_set, List.getElem?_set, hl]
        by_cases hvj : v = j
        · rw [if_pos hvj, if_pos hvj]
        · rw [if_neg hvj, if_neg hvj]
          exact h j (by simp; exact ⟨fun z => hvj z.symm, hj⟩)
      have at_ : ∀ (ρ : L2.St), (wipe ρ vs)[i]? = (wipe (ρ.set v none) vs)[i]? := fun ρ => by
        clear e h hl
        induction vs with
        | nil => show ρ[i]? = (ρ.set v none)[i]?; rw [List.getElem?_set, if_neg hv]
        | cons w ws ih =>
          show ((wipe ρ ws).set w none)[i]? = ((wipe (ρ.set v none) ws).set w none)[i]?
          rw [List.getElem?_set, List.getElem?_set, wipe_length, wipe_length, List.length_set, ih]
      rw [at_ σ, at_ τ, e]
theorem wipe_out {σ : L2.St} {i : Nat} : ∀ {vs : List Nat}, i ∉ vs → (wipe σ vs)[i]? = σ[i]?
  | [], _ => rfl
  | v :: vs, h => by
    show ((wipe σ vs).set v none)[i]? = σ[i]?
    rw [List.getElem?_set, if_neg (fun z : v = i => h (by simp [z]))]
    exact wipe_out fun z => h (List.mem_cons_of_mem _ z)
theorem wipe_idem (σ : L2.St) (vs : List Nat) : wipe (wipe σ vs) vs = wipe σ vs := wipe_ext (wipe_length σ vs) fun _ h => wipe_out h
def Only (g : TG) (vs : List Nat) : Prop := ∀ v σ H Q, g v σ H Q → g v σ H fun σ2 H2 => (wipe σ2 vs = wipe σ vs) ∧ Q σ2 H2
def Onlys (g : TGs) (vs : List Nat) : Prop := ∀ xs σ H Q, g xs σ H Q → g xs σ H fun σ2 H2 => (wipe σ2 vs = wipe σ vs) ∧ Q σ2 H2
theorem only_name {i : Nat} {vs : List Nat} (h : i ∈ vs) : Only (gName i) vs := fun v σ H Q q =>
  ⟨wipe_ext (by rw [List.length_set]) fun j hj => by rw [List.getElem?_set, if_neg (fun z : i = j => hj (z ▸ h))], q⟩
theorem onlys_nil {vs : List Nat} : Onlys gNil vs := fun xs σ H Q q => ⟨q.1, rfl, q.2⟩
theorem onlys_cons {g : TG} {gs : TGs} {vs : List Nat} (mono : ∀ v σ H Q Q', (∀ a b, Q a b → Q' a b) → g v σ H Q → g v σ H Q') (h : Only g vs) (t : Onlys gs vs) : Onlys (gCons g gs) vs := fun xs σ H Q q => by
  obtain ⟨v, r, e, q⟩ := q
  refine ⟨v, r, e, mono _ _ _ _ _ (fun a b z => ?_) (h v σ H _ q)⟩
  have z2 := t r a b Q z.2
  rw [z.1] at z2
  exact z2
theorem mono_name {i : Nat} : ∀ v σ H Q Q', (∀ a b, Q a b → Q' a b) → gName i v σ H Q → gName i v σ H Q' := fun _ _ _ _ _ k q => k _ _ q
theorem only_tup {K : KF} {n : Nat} {gs : TGs} {vs : List Nat} (h : Onlys gs vs) : Only (gTup K n gs) vs := fun v σ H Q q => by
  obtain ⟨a, xs, e1, e2, e3, q⟩ := q
  exact ⟨a, xs, e1, e2, e3, h _ _ _ _ q⟩
/-- targets hand on what is wanted -/
def MonoG (g : TG) : Prop := ∀ v σ H Q Q', (∀ a b, Q a b → Q' a b) → g v σ H Q → g v σ H Q'
def MonoGs (g : TGs) : Prop := ∀ v σ H Q Q', (∀ a b, Q a b → Q' a b) → g v σ H Q → g v σ H Q'
section
variable {K : KF} {W : WX} {Γ : Gm} {Ω : Om} {R : DV → Om → Prop} {X : Exc → Om → Prop} {wi : TI} {g : TG} {tt : TT} {te : TE} {vs : List Nat}
abbrev NoX : Exc → Om → Prop := fun _ _ => False
theorem noX {K : KF} {m : Mp} {G : Hp} {n : Nat} {Q : XK} : XOk K m G n NoX Q := fun _ _ _ _ _ _ _ _ _ _ _ z => z.elim
theorem set_self {α : Type} {l : List α} {i : Nat} {x : α} (h : l[i]? = some x) : l.set i x = l := by
  refine List.ext_getElem? fun j => ?_
  rw [List.getElem?_set]
  by_cases e : i = j
  · subst e
    rw [if_pos rfl, if_pos (lt_of_get h), h]
  · rw [if_neg e]
theorem we_lc (og : Only g vs) (h : WI K W wi Γ Ω (fun ys stay Ω1 => ∃ P : Nat → List DV → Om → Prop, P 0 [] (Ω1 ++ [.lst []]) ∧
      (∀ i acc Ω', i ≤ ys.length → P i acc Ω' → stay Ω' ∧ Ω1.length < Ω'.length) ∧
      (∀ i y acc Ω', ys[i]? = some y → P i acc Ω' → WG K g y (wipeG Γ vs) Ω' (fun Γ2 Ω2 => WT K (fun _ _ _ _ => False) tt Γ2 Ω2 (fun b Ω3 =>
        (b = true → WE K (fun _ _ _ _ => False) te Γ2 Ω3 (fun x Ω4 => Ω4[Ω1.length]? = some (.lst acc) ∧ acc.length < 100000 ∧ P (i + 1) (acc ++ [x]) (Ω4.set Ω1.length (.lst (acc ++ [x])))) NoX) ∧ (b = false → P (i + 1) acc Ω3)) NoX)) ∧
      ∀ acc Ω', P ys.length acc Ω' → R (.o Ω1.length) Ω') X) : WE K W (tLc wi g tt te vs) Γ Ω R X := fun m G H σ Q c s k x => by
  refine h m G H σ _ c s x (fun m1 G1 Ω1 H1 J ys stay c1 n1 l1 it ⟨P, p0, pst, step, fin⟩ D hD => ?_)
  have s1 := s.mono n1 l1
  obtain ⟨m2, c2, n2, e2⟩ := c1.own (x := .lst []) (o := .lst []) hD ⟨[], upd_same, .nil⟩
  have le1 : Ω1.length ≤ (Ω1 ++ [OC.lst []]).length := by simp
  refine ⟨fun i n H' => n = ys.length - i ∧ i ≤ ys.length ∧ ∃ m' G' Ω' acc, Core K m' G' Ω' H' ∧ Nxt m2 (Ω1 ++ [OC.lst []]).length G1 m' G' ∧ (Ω1 ++ [OC.lst []]).length ≤ Ω'.length ∧ P i acc Ω',
    ⟨ys.length, by simp, Nat.zero_le _, m2, G1, _, [], c2, Nxt.refl .., Nat.le_refl _, p0⟩, ?_⟩
  rintro i n H3 ⟨rfl, hi, m3, G3, Ω3, acc, c3, n3, l3, p3⟩
  have l3' : Ω1.length < Ω3.length := by simp at l3; omega
  have n13 : Nxt m1 Ω1.length G1 m3 G3 := n2.trans le1 n3
  have n03 := n1.trans l1 n13
  have l03 : Ω.length ≤ Ω3.length := Nat.le_trans l1 (Nat.le_of_lt l3')
  have em : m3 Ω1.length = D := by
    rw [n3.mm _ (by simp), e2]
  have ik := it m3 G3 Ω3 H3 c3 n13 (Nat.le_of_lt l3') (pst i acc Ω3 hi p3).1 i
  by_cases hlt : i < ys.length
  · obtain ⟨go, yl⟩ := ik.2 ys[i] (List.getElem?_eq_getElem hlt)
    refine .inr ⟨go, fun H' => ∃ m' G' Ω' acc', Core K m' G' Ω' H' ∧ Nxt m2 (Ω1 ++ [OC.lst []]).length G1 m' G' ∧ (Ω1 ++ [OC.lst []]).length ≤ Ω'.length ∧ P (i + 1) acc' Ω', fun H' q => ⟨ys.length - (i + 1), by omega, rfl, hlt, q⟩, fun y H'' hy => ?_⟩
    obtain ⟨G4, c4, e4, r4⟩ := yl y H'' hy
    have n4 : Nxt m3 Ω3.length G3 m3 G4 := ⟨fun _ _ => rfl, e4⟩
    refine (fun q => by
      have q := og _ _ _ _ q
      rw [wipe_idem] at q
      exact q) (?_ : g y (wipe σ vs) H'' fun σ2 H2 => tt σ2 H2 fun b H3 => if b = true then te σ2 H3 fun y H4 => ∃ acc, H4 D = some (.lst acc) ∧ acc.length < sizeLine ∧ (∃ m' G' Ω' acc', Core K m' G' Ω' (upd H4 D (.lst (acc ++ [y]))) ∧ Nxt m2 (Ω1 ++ [OC.lst []]).length G1 m' G' ∧ (Ω1 ++ [OC.lst []]).length ≤ Ω'.length ∧ P (i + 1) acc' Ω')
        else (∃ m' G' Ω' acc', Core K m' G' Ω' H3 ∧ Nxt m2 (Ω1 ++ [OC.lst []]).length G1 m' G' ∧ (Ω1 ++ [OC.lst []]).length ≤ Ω'.length ∧ P (i + 1) acc' Ω'))
    refine step i ys[i] acc Ω3 (List.getElem?_eq_getElem hlt) p3 m3 G4 H'' (wipe σ vs) y _ c4 (wipeG_slots (s.mono (n03.trans l03 n4) l03) vs) r4 (fun m5 G5 Ω5 H5 Γ5 σ5 c5 n5 l5 s5 h5 => ?_)
    refine h5 m5 G5 H5 σ5 _ c5 s5 (fun m6 G6 Ω6 H6 b c6 n6 l6 h6 => ?_) noX
    have n36 : Nxt m3 Ω3.length G3 m6 G6 := n4.trans (Nat.le_refl _) (n5.trans l5 n6)
    have l36 : Ω3.length ≤ Ω6.length := Nat.le_trans l5 l6
    cases b with
    | false =>
      rw [if_neg Bool.false_ne_true]
      exact ⟨m6, G6, Ω6, acc, c6, n3.trans l3 n36, Nat.le_trans l3 l36, h6.2 rfl⟩
    | true =>
      rw [if_pos rfl]
      refine (h6.1 rfl) m6 G6 H6 σ5 _ c6 (s5.mono n6 l6) (fun m7 G7 Ω7 H7 x7 v7 c7 n7 l7 r7 ⟨e7, z7, p7⟩ => ?_) noX
      have n37 := n36.trans l36 n7
      have l37 := Nat.le_trans l36 l7
      obtain ⟨_, ws, hw, rp⟩ := c7.fr Ω1.length _ e7 (by intro z; cases z)
      have em7 : m7 Ω1.length = D := by rw [n37.mm _ l3', em]
      rw [em7] at hw
      have c8 := c7.write (y := .lst (acc ++ [x7])) (o := .lst (ws ++ [v7])) e7 (by intro z; cases z) ⟨_, upd_same, Paired.snoc rp r7⟩
      rw [em7] at c8
      exact ⟨ws, hw, sz_lt (by rw [← Paired.length rp]; exact z7), m7, G7, _, _, c8, n3.trans l3 n37, by rw [List.length_set]; exact Nat.le_trans l3 l37, p7⟩
  · have ei : i = ys.length := by omega
    subst ei
    exact .inl ⟨ik.1 (Nat.le_refl _), k _ _ _ _ (.o Ω1.length) _ c3 n03 l03 ⟨l3', by rw [em]⟩ (fin acc Ω3 p3)⟩
/-! ### what is left behind -/
def ptOk (k : Nat) : Pt → Prop
  | .o i => i < k
  | _ => True
def idOk (k : Nat) : DV → Prop
  | .o i => i < k
  | .t ps => ∀ p ∈ ps, ptOk k p
  | _ => True
def flatV : DV → Prop
  | .o _ => False
  | .t _ => False
  | _ => True
def flatO : OC → Prop
  | .lst xs => ∀ x ∈ xs, flatV x
  | .ins _ fs => ∀ p ∈ fs, flatV p.2
  | .dic kvs => ∀ p ∈ kvs, flatV p.2
  | .dit kvs => ∀ p ∈ kvs, flatV p.2
  | .tab _ _ => True
  | .lkt _ _ kvs => ∀ p ∈ kvs, flatV p.2
  | .lkk _ _ kvs => ∀ p ∈ kvs, flatV p.2
  | .gone => True
def idsOc (k : Nat) : OC → Prop
  | .lst xs => ∀ x ∈ xs, idOk k x
  | .ins _ fs => ∀ p ∈ fs, idOk k p.2
  | .dic kvs => ∀ p ∈ kvs, idOk k p.2
  | .dit kvs => ∀ p ∈ kvs, idOk k p.2
  | .tab _ _ => True
  | .lkt _ _ kvs => ∀ p ∈ kvs, idOk k p.2
  | .lkk _ _ kvs => ∀ p ∈ kvs, idOk k p.2
  | .gone => True
theorem idOk_flat {k : Nat} : ∀ {d : DV}, flatV d → idOk k d
  | .d _, _ => trivial
  | .o i, h => h.elim
  | .v _, _ => trivial
  | .e _ _ _ _, _ => trivial
  | .t _, h => h.elim
theorem flat_ids {k : Nat} : ∀ {c : OC}, flatO c → idsOc k c
  | .lst _, h => fun x hx => idOk_flat (h x hx)
  | .ins _ _, h => fun p hp => idOk_flat (h p hp)
  | .dic _, h => fun p hp => idOk_flat (h p hp)
  | .dit _, h => fun p hp => idOk_flat (h p hp)
  | .tab _ _, _ => trivial
  | .lkt _ _ _, h => fun p hp => idOk_flat (h p hp)
  | .lkk _ _ _, h => fun p hp => idOk_flat (h p hp)
  | .gone, _ => trivial
def Cut (Ω : Om) (k : Nat) (Ω' : Om) : Prop := Ω.length ≤ k ∧ k ≤ Ω'.length ∧ ∀ j c, j < k → Ω'[j]? = some c → Ω[j]? = some c ∨ idsOc k c
theorem pt_cut {m : Mp} {G : Hp} {n k : Nat} : ∀ {ps : List Pt} {vs : List V}, (∀ p ∈ ps, ptOk k p) → Paired (RPt K m G n) ps vs → Paired (RPt K m G k) ps vs
  | _, _, _, .nil => .nil
  | .d _ :: _, _, h, .cons a b => .cons a (pt_cut (fun x hx => h x (List.mem_cons_of_mem _ hx)) b)
  | .o _ :: _, _, h, .cons a b => .cons ⟨h _ List.mem_cons_self, a.2⟩ (pt_cut (fun x hx => h x (List.mem_cons_of_mem _ hx)) b)
theorem pt_ids {m : Mp} {G : Hp} {n k : Nat} (h : n ≤ k) : ∀ {ps : List Pt} {vs : List V}, Paired (RPt K m G n) ps vs → ∀ p ∈ ps, ptOk k p
  | _, _, .nil, x, hx => by cases hx
  | .d y :: _, _, .cons a b, x, hx => by
    rcases List.mem_cons.mp hx with e | hx
    · subst e; trivial
    · exact pt_ids h b x hx
  | .o i :: _, _, .cons a b, x, hx => by
    rcases List.mem_cons.mp hx with e | hx
    · subst e; exact Nat.lt_of_lt_of_le a.1 h
    · exact pt_ids h b x hx
theorem RV.cut {m m0 : Mp} {G G0 : Hp} {n k : Nat} : ∀ {d : DV} {v : V}, idOk k d → RV K m G n d v → RV K m G k d v
  | .d _, _, _, r => r
  | .o _, _, h, r => ⟨h, r.2⟩
  | .v _, _, _, r => r
  | .e _ _ _ _, _, _, r => r
  | .t _, _, h, ⟨a, vs, e, g, r⟩ => ⟨a, vs, e, g, pt_cut h r⟩
theorem idOk_of {m : Mp} {G : Hp} {n k : Nat} (h : n ≤ k) : ∀ {d : DV} {v : V}, RV K m G n d v → idOk k d
  | .d _, _, _ => trivial
  | .o _, _, r => Nat.lt_of_lt_of_le r.1 h
  | .v _, _, _ => trivial
  | .e _ _ _ _, _, _ => trivial
  | .t _, _, ⟨_, _, _, _, r⟩ => pt_ids h r
theorem paired_cut {m : Mp} {G : Hp} {n k : Nat} : ∀ {xs : List DV} {vs : List V}, (∀ x ∈ xs, idOk k x) → Paired (RV K m G n) xs vs → Paired (RV K m G k) xs vs
  | _, _, _, .nil => .nil
  | _, _, h, .cons a b => .cons (RV.cut (m0 := m) (G0 := G) (h _ List.mem_cons_self) a) (paired_cut (fun x hx => h x (List.mem_cons_of_mem _ hx)) b)
theorem paired_ids {m : Mp} {G : Hp} {n k : Nat} (h : n ≤ k) : ∀ {xs : List DV} {vs : List V}, Paired (RV K m G n) xs vs → ∀ x ∈ xs, idOk k x
  | _, _, .nil, x, hx => by cases hx
  | _, _, .cons a b, x, hx => by
    rcases List.mem_cons.mp hx with e | hx
    · subst e; exact idOk_of h a
    · exact paired_ids h b x hx
theorem fpaired_cut {m : Mp} {G : Hp} {n k : Nat} : ∀ {xs : List (Str × DV)} {vs : List (Str × V)}, (∀ x ∈ xs, idOk k x.2) → Paired (FRel K m G n) xs vs → Paired (FRel K m G k) xs vs
  | _, _, _, .nil => .nil
  | _, _, h, .cons a b => .cons ⟨a.1, RV.cut (m0 := m) (G0 := G) (h _ List.mem_cons_self) a.2⟩ (fpaired_cut (fun x hx => h x (List.mem_cons_of_mem _ hx)) b)
theorem fpaired_ids {m : Mp} {G : Hp} {n k : Nat} (h : n ≤ k) : ∀ {xs : List (Str × DV)} {vs : List (Str × V)}, Paired (FRel K m G n) xs vs → ∀ x ∈ xs, idOk k x.2
  | _, _, .nil, x, hx => by cases hx
  | _, _, .cons a b, x, hx => by
    rcases List.mem_cons.mp hx with e | hx
    · subst e; exact idOk_of h a.2
    · exact fpaired_ids h b x hx
theorem kpaired_cut {m : Mp} {G : Hp} {n k : Nat} : ∀ {xs : List (Key × DV)} {vs : List (Key × V)}, (∀ x ∈ xs, idOk k x.2) → Paired (KRel K m G n) xs vs → Paired (KRel K m G k) xs vs
  | _, _, _, .nil => .nil
  | _, _, h, .cons a b => .cons ⟨a.1, RV.cut (m0 := m) (G0 := G) (h _ List.mem_cons_self) a.2⟩ (kpaired_cut (fun x hx => h x (List.mem_cons_of_mem _ hx)) b)
theorem kpaired_ids {m : Mp} {G : Hp} {n k : Nat} (h : n ≤ k) : ∀ {xs : List (Key × DV)} {vs : List (Key × V)}, Paired (KRel K m G n) xs vs → ∀ x ∈ xs, idOk k x.2
  | _, _, .nil, x, hx => by cases hx
  | _, _, .cons a b, x, hx => by
    rcases List.mem_cons.mp hx with e | hx
    · subst e; exact idOk_of h a.2
    · exact kpaired_ids h b x hx
theorem tpaired_cut {m : Mp} {G : Hp} {n k : Nat} : ∀ {xs : List (List Key × DV)} {vs : List (List Key × V)}, (∀ x ∈ xs, idOk k x.2) → Paired (KTRel K m G n) xs vs → Paired (KTRel K m G k) xs vs
  | _, _, _, .nil => .nil
  | _, _, h, .cons a b => .cons ⟨a.1, RV.cut (m0 := m) (G0 := G) (h _ List.mem_cons_self) a.2⟩ (tpaired_cut (fun x hx => h x (List.mem_cons_of_mem _ hx)) b)
theorem tpaired_ids {m : Mp} {G : Hp} {n k : Nat} (h : n ≤ k) : ∀ {xs : List (List Key × DV)} {vs : List (List Key × V)}, Paired (KTRel K m G n) xs vs → ∀ x ∈ xs, idOk k x.2
  | _, _, .nil, x, hx => by cases hx
  | _, _, .cons a b, x, hx => by
    rcases List.mem_cons.mp hx with e | hx
    · subst e; exact idOk_of h a.2
    · exact tpaired_ids h b x hx
theorem flatV_of : ∀ {d : DV}, (∀ i, d ≠ .o i) → (∀ ps, d ≠ .t ps) → flatV d
  | .d _, _, _ => trivial
  | .o i, h, _ => absurd rfl (h i)
  | .v _, _, _ => trivial
  | .e _ _ _ _, _, _ => trivial
  | .t ps, _, h => absurd rfl (h ps)
theorem Holds.cut {m : Mp} {G H : Hp} {n k : Nat} {a : Addr} : ∀ {c : OC}, idsOc k c → Holds K m G n H a c → Holds K m G k H a c
  | .lst _, h, ⟨vs, e, r⟩ => ⟨vs, e, paired_cut h r⟩
  | .ins _ _, h, ⟨dx, vs, e, r⟩ => ⟨dx, vs, e, fpaired_cut h r⟩
  | .dic _, h, ⟨vs, e, r⟩ => ⟨vs, e, kpaired_cut h r⟩
  | .dit _, h, ⟨vs, e, r⟩ => ⟨vs, e, tpaired_cut h r⟩
  | .tab _ _, _, h => h
  | .lkt _ _ _, h, ⟨e, r⟩ => ⟨e, tpaired_cut h r⟩
  | .lkk _ _ _, h, ⟨e, r⟩ => ⟨e, kpaired_cut h r⟩
  | .gone, _, _ => trivial
theorem Core.cut {m0 m : Mp} {G0 G H0 H : Hp} {Ω' : Om} {k : Nat} (c0 : Core K m0 G0 Ω H0) (c : Core K m G Ω' H) (h : Cut Ω k Ω') : Core K m G (Ω'.take k) H := by
  obtain ⟨h1, h2, h3⟩ := h
  have el : (Ω'.take k).length = k := by rw [List.length_take]; omega
  have get : ∀ {j : Nat} {x : OC}, (Ω'.take k)[j]? = some x → j < k ∧ Ω'[j]? = some x := fun {j x} e => by
    have hj := lt_of_get e
    rw [el] at hj
    rw [List.getElem?_take, if_pos hj] at e
    exact ⟨hj, e⟩
  refine ⟨c.ex, fun i x e g => ?_, fun i j ci cj e1 e2 g1 g2 z => c.inj i j ci cj (get e1).2 (get e2).2 g1 g2 z⟩
  obtain ⟨hi, e'⟩ := get e
  obtain ⟨q1, q2⟩ := c.fr i x e' g
  refine ⟨q1, ?_⟩
  rw [el]
  refine Holds.cut ?_ q2
  rcases h3 i x hi e' with z | z
  · obtain ⟨_, q3⟩ := c0.fr i x z g
    cases x with
    | gone => exact absurd rfl g
    | lst xs => obtain ⟨vs, _, r⟩ := q3; exact paired_ids h1 r
    | ins C fs => obtain ⟨dx, vs, _, r⟩ := q3; exact fpaired_ids h1 r
    | dic kvs => obtain ⟨vs, _, r⟩ := q3; exact kpaired_ids h1 r
    | dit kvs => obtain ⟨vs, _, r⟩ := q3; exact tpaired_ids h1 r
    | tab P q => trivial
    | lkt _ _ _ => obtain ⟨_, r⟩ := q3; exact tpaired_ids h1 r
    | lkk _ _ _ => obtain ⟨_, r⟩ := q3; exact kpaired_ids h1 r
  · exact z
/-- a new list is given away at once, what lies behind it is left -/
theorem we_frz (h : WE K W te Γ Ω (fun d Ω1 => ∃ n ds xs, d = .o n ∧ Ω1[n]? = some (.lst ds) ∧ asDs ds = some xs ∧ Cut Ω n Ω1 ∧ R (.d (.list xs)) (Ω1.take n)) X) : WE K W te Γ Ω R X := fun m G H σ Q c s k x =>
  h m G H σ Q c s (fun m1 G1 Ω1 H1 d v c1 n1 l1 r1 ⟨n, ds, xs, e1, e0, e3, cu, q⟩ => by
    subst e1
    obtain ⟨hi, rfl⟩ := r1
    obtain ⟨q1, ws, hw, rp⟩ := c1.fr _ _ e0 (by intro z; cases z)
    obtain ⟨c2, n2⟩ := c1.freeze e0 (by intro z; cases z) hw
    rw [asDs_eq e3] at rp
    have el : (Ω1.take n).length = n := by rw [List.length_take]; have := cu.2.1; omega
    have et : (Ω1.set n .gone).take n = Ω1.take n := by
      refine List.ext_getElem? fun j => ?_
      rw [List.getElem?_take, List.getElem?_take]
      by_cases hj : j < n
      · rw [if_pos hj, if_pos hj, List.getElem?_set, if_neg (fun z : n = j => absurd hj (by omega))]
      · rw [if_neg hj, if_neg hj]
    have c3 : Core K m1 (upd G1 (m1 n) (HO.lst ws)) (Ω1.take n) H1 := by
      rw [← et]
      refine c.cut c2 ⟨cu.1, by rw [List.length_set]; exact cu.2.1, fun j x hj e => ?_⟩
      rw [List.getElem?_set, if_neg (fun z : n = j => absurd hj (by omega))] at e
      exact cu.2.2 j x hj e
    exact k _ _ _ _ (.d (.list xs)) _ c3 (n1.trans l1 n2) (by rw [el]; exact cu.1) (.lst (sq_of upd_same) (dps_ex n2.gg _ _ (dps_of rp))) q) x
def tYesT : TT := tYes
theorem wt_yes {B : Bool → Om → Prop} (q : B true Ω) : WT K W tYes Γ Ω B X := fun m G H σ Q c s k x => k _ _ _ _ _ c (Nxt.refl ..) (Nat.le_refl _) q
theorem asDs_data (xs : List PyData) : asDs (xs.map DV.d) = some xs := by
  have h := asDs_map (fun x : PyData => x) xs
  rw [List.map_id'] at h
  exact h
theorem take_app {α : Type} (l r : List α) : (l ++ r).take l.length = l := by simp
/-- [F(a) for a in ..if p(a)], a list that nobody changes; nothing else changes -/
theorem we_lcP {α : Type} (og : Only g vs) (h : WI K W wi Γ Ω (fun ys stay Ω1 => ∃ (l : List α) (f : α → DV) (p : α → Bool) (F : α → PyData), ys = l.map f ∧ l.length ≤ 100000 ∧ Ω1 = Ω ∧ (∀ ds, stay (Ω ++ [.lst ds])) ∧
      (∀ a Ω', a ∈ l → (∃ ds, Ω' = Ω ++ [.lst ds]) → WG K g (f a) (wipeG Γ vs) Ω' (fun Γ2 Ω2 => WT K (fun _ _ _ _ => False) tt Γ2 Ω2 (fun b Ω3 => b = p a ∧ Ω3 = Ω' ∧ (b = true → WE K (fun _ _ _ _ => False) te Γ2 Ω' (fun x Ω4 => x = .d (F a) ∧ Ω4 = Ω') NoX)) NoX)) ∧
      R (.d (.list ((l.filter p).map F))) Ω) X) : WE K W (tLc wi g tt te vs) Γ Ω R X := by
  refine we_frz (we_lc og fun m G H σ R' c s x k => h m G H σ R' c s x fun m1 G1 Ω1 H1 J ys stay c1 n1 l1 it ⟨l, f, p, F, e1, hl, e2, st, el, q⟩ => ?_)
  subst e1 e2
  have ln : ∀ i, ((((l.take i).filter p).map F).length ≤ i) := fun i => by
    rw [List.length_map]
    refine Nat.le_trans (List.length_filter_le _ _) ?_
    rw [List.length_take]; omega
  refine k m1 G1 Ω1 H1 J _ stay c1 n1 l1 it ⟨fun i acc Ω' => acc = (((l.take i).filter p).map F).map DV.d ∧ Ω' = Ω1 ++ [.lst acc], ⟨rfl, rfl⟩, fun i acc Ω' hi hp => ?_, fun i y acc Ω' hy hp => ?_, fun acc Ω' hp => ?_⟩
  · obtain ⟨rfl, rfl⟩ := hp
    exact ⟨st _, by simp⟩
  · obtain ⟨ha, rfl⟩ := hp
    rw [List.getElem?_map] at hy
    cases ea : l[i]? with
    | none => rw [ea] at hy; cases hy
    | some a =>
      rw [ea] at hy
      cases hy
      have hi := lt_of_get ea
      have em : a ∈ l := List.mem_iff_getElem?.mpr ⟨i, ea⟩
      have et : l.take (i + 1) = l.take i ++ [a] := by rw [List.take_add_one, ea]; rfl
      intro m2 G2 H2 σ2 v Q2 c2 s2 r2 k2
      refine el a _ em ⟨acc, rfl⟩ m2 G2 H2 σ2 v Q2 c2 s2 r2 fun m3 G3 Ω3 H3 Γ3 σ3 c3 n3 l3 s3 h3 => k2 m3 G3 Ω3 H3 Γ3 σ3 c3 n3 l3 s3 fun m4 G4 H4 σ4 Q4 c4 s4 k4 x4 => ?_
      refine h3 m4 G4 H4 σ4 Q4 c4 s4 (fun m5 G5 Ω5 H5 b c5 n5 l5 ⟨eb, eo, hb⟩ => k4 m5 G5 Ω5 H5 b c5 n5 l5 ⟨fun hbt => ?_, fun hbf => ?_⟩) x4
      · subst eo
        intro m6 G6 H6 σ6 Q6 c6 s6 k6 x6
        refine hb hbt m6 G6 H6 σ6 Q6 c6 s6 (fun m7 G7 Ω7 H7 d v c7 n7 l7 r7 ⟨ex, eo7⟩ => k6 m7 G7 Ω7 H7 d v c7 n7 l7 r7 ?_) x6
        subst eo7 ex
        refine ⟨by simp, ?_, ?_, ?_⟩
        · rw [ha, List.length_map]
          have := ln i
          omega
        · rw [ha, et, List.filter_append, List.filter_cons, if_pos (by rw [← eb]; exact hbt)]
          simp
        · simp
      · subst eo
        refine ⟨?_, rfl⟩
        rw [ha, et, List.filter_append, List.filter_cons, if_neg (by rw [← eb, hbf]; exact Bool.false_ne_true)]
        simp
  · obtain ⟨ha, rfl⟩ := hp
    refine ⟨Ω1.length, acc, ((l.take (l.map f).length).filter p).map F, rfl, by simp, ?_, ⟨Nat.le_refl _, by simp, fun j c hj e => .inl ?_⟩, ?_⟩
    · rw [ha]; exact asDs_data _
    · rw [List.getElem?_append_left hj] at e; exact e
    · rw [List.length_map, List.take_length, take_app]
      exact q
end
end HL
namespace HL
open PySem PySem.Spec PyProof.Rows L2 Evl
/-! ### a def's body against its promise -/
def Dr (Ω : Om) (R : DV → Om → Prop) (d : DV) (Ω' : Om) : Prop := R d Ω' ∨ ∃ k, Cut Ω k Ω' ∧ idOk k d ∧ R d (Ω'.take k)
def DrX (Ω : Om) (R : Exc → Om → Prop) (e : Exc) (Ω' : Om) : Prop := R e Ω' ∨ ∃ k, Cut Ω k Ω' ∧ R e (Ω'.take k)
def fnO (Ω : Om) (R : DV → Om → Prop) (X : Exc → Om → Prop) : Outs := ⟨fun _ Ω' => Dr Ω R (.d .none) Ω', fun d Ω' => Dr Ω R d Ω', fun _ _ => False, fun _ _ => False, fun _ e Ω' => DrX Ω X e Ω'⟩
def startG (N : Nat) (ds : List DV) : Gm := ds.map some ++ List.replicate (N - ds.length) none
section
variable {K : KF} {spec : Spec} {vs : List V} {H : Hp} {Q : VK} {E : XK}
theorem fs_len {n : Nat} (h : FS K spec vs H Q E) (hl : ∀ ds Ω R X, spec ds Ω R X → ds.length = n) : vs.length = n := by
  obtain ⟨m, G, Ω, ds, R, X, c, r, q, _⟩ := h
  rw [← Paired.length r]
  exact hl ds Ω R X q
theorem startG_slots {m : Mp} {G : Hp} {n : Nat} {ds : List DV} {vs : List V} (N : List Str) (r : Paired (RV K m G n) ds vs) : Slots K m G n (startG N.length ds) (L2.start N vs) := by
  have e := Paired.length r
  refine ⟨by unfold startG L2.start; simp [e], fun i d h => ?_⟩
  unfold startG at h
  unfold L2.start
  by_cases hi : i < ds.length
  · rw [List.getElem?_append_left (by rw [List.length_map]; exact hi), List.getElem?_map] at h
    cases q : ds[i]? with
    | none => rw [q] at h; cases h
    | some x =>
      rw [q] at h
      cases h
      obtain ⟨v, hv, rv⟩ := Paired.getL r q
      exact ⟨v, by rw [List.getElem?_append_left (by rw [List.length_map, ← e]; exact hi), List.getElem?_map, hv]; rfl, rv⟩
  · rw [List.getElem?_append_right (by rw [List.length_map]; omega), List.getElem?_replicate] at h
    split at h <;> cases h
theorem fs_run {N : List Str} {t : TS} (h : FS K spec vs H Q E) (hb : ∀ ds Ω R X, spec ds Ω R X → WS K (fun c d _ H' => E c d H') t (startG N.length ds) Ω (fnO Ω R X)) :
    t { nx := fun _ H' => Q .non H', rt := Q } (L2.start N vs) H := by
  obtain ⟨m, G, Ω, ds, R, X, c, r, q, k, x⟩ := h
  have nc : ∀ {k : Nat} {Ω' : Om}, Cut Ω k Ω' → (Ω'.take k).length = k := fun {k Ω'} cu => by rw [List.length_take]; have := cu.2.1; omega
  have rt : ∀ m' G' Ω' H' d v, Core K m' G' Ω' H' → Nxt m Ω.length G m' G' → Ω.length ≤ Ω'.length → RV K m' G' Ω'.length d v → Dr Ω R d Ω' → Q v H' := fun m' G' Ω' H' d v c' n' l' r' q' => by
    rcases q' with q' | ⟨kk, cu, io, q'⟩
    · exact k m' G' Ω' H' d v c' n' l' r' q'
    · refine k m' G' (Ω'.take kk) H' d v (c.cut c' cu) n' (by rw [nc cu]; exact cu.1) ?_ q'
      rw [nc cu]
      exact RV.cut (m0 := m) (G0 := G) io r'
  refine hb ds Ω R X q m G H _ _ c (startG_slots N r) (fun m' G' Ω' H' Γ' σ' c' n' l' s' q' => rt m' G' Ω' H' (.d .none) .non c' n' l' Dp.non q') rt (fun _ _ _ _ _ _ _ _ _ _ z => z.elim) (fun _ _ _ _ _ _ _ _ _ _ z => z.elim) fun m' G' Ω' H' Γ' σ' e cc d c' n' l' s' r' q' => ?_
  rcases q' with q' | ⟨kk, cu, q'⟩
  · exact x m' G' Ω' H' e cc d c' n' l' r' q'
  · exact x m' G' (Ω'.take kk) H' e cc d (c.cut c' cu) n' (by rw [nc cu]; exact cu.1) r' q'
end
theorem dr_same {Ω Ω' : Om} {R : DV → Om → Prop} {d : DV} (q : R d Ω') : Dr Ω R d Ω' := .inl q
/-- what was added behind is left -/
theorem dr_app {Ω J : Om} {R : DV → Om → Prop} {d : DV} (q : R d Ω) (io : ∀ i, d ≠ .o i) (it : ∀ ps, d ≠ .t ps := by intro ps z; cases z) : Dr Ω R d (Ω ++ J) :=
  .inr ⟨Ω.length, ⟨Nat.le_refl _, by simp, fun j c hj e => .inl (by rw [List.getElem?_append_left hj] at e; exact e)⟩, idOk_flat (flatV_of io it), by rw [take_app]; exact q⟩
/-! ### raise, try -/
section
variable {K : KF} {W : WX} {Γ : Gm} {Ω : Om} {O : Outs}
theorem ws_raise {C : Addr} (q : O.er Γ (.own C) Ω) : WS K W (fun _ σ H => W (.ref C) none σ H) Γ Ω O := fun m G H σ D c s k1 k2 k3 k4 z => z _ _ _ _ _ _ (.own C) _ _ c (Nxt.refl ..) (Nat.le_refl _) s ⟨rfl, rfl⟩ q
def clsOf : Exc → Value
  | .own C => .ref C
  | .low C _ _ => .ref C
  | .vo C _ => .ref C
  | .vl C _ _ _ => .ref C
end
/-! ### a pool of digits, and what changes only one's own thing -/
def SameBut (k : Nat) (Ω Ω' : Om) : Prop := Ω'.length = Ω.length ∧ ∀ j, j ≠ k → Ω'[j]? = Ω[j]?
theorem SameBut.refl (k : Nat) (Ω : Om) : SameBut k Ω Ω := ⟨rfl, fun _ _ => rfl⟩
theorem SameBut.trans {k : Nat} {Ω Ω1 Ω2 : Om} (a : SameBut k Ω Ω1) (b : SameBut k Ω1 Ω2) : SameBut k Ω Ω2 := ⟨b.1.trans a.1, fun j h => (b.2 j h).trans (a.2 j h)⟩
theorem SameBut.set {k : Nat} {Ω : Om} {c : OC} : SameBut k Ω (Ω.set k c) := ⟨by rw [List.length_set], fun j h => by rw [List.getElem?_set, if_neg (fun z : k = j => h z.symm)]⟩
end HL
namespace HL
open PySem PySem.Spec PyProof.Rows L2 Evl
/-! ### operators by names -/
def oSub : R2 := rI0 fun i j => .int (i - j)
def CMulX (i j : Int) : Prop := CMul i j ∨ CMulW i j
def oMul : R2 := rI CMulX fun i j => .int (i * j)
def oFdiv : R2 := rI CDivX fun i j => .int (i.fdiv j)
def oMod : R2 := rI (fun _ j => j ≠ 0) fun i j => .int (i.fmod j)
def oPow : R2 := rI CPow fun i j => .int (i ^ j.toNat)
def oLt : R2 := rI0 fun i j => .bl (decide (i < j))
def oLe : R2 := rI0 fun i j => .bl (decide (i ≤ j))
def oGt : R2 := rI0 fun i j => .bl (decide (j < i))
def oGe : R2 := rI0 fun i j => .bl (decide (j ≤ i))
def oIsN : R2 := fun x y H Q => y = .non ∧ Q (.bl (decide (x = .non))) H
def oNotN : R2 := fun x y H Q => y = .non ∧ Q (.bl (!decide (x = .non))) H
def uNeg : V → Hp → VK → Prop := rU fun i => .int (-i)
def rAbsI : List V → Hp → VK → Prop := fun xs H Q => ∃ i, xs = [.int i] ∧ Q (.int (if i < 0 then -i else i)) H
def rMaxI : List V → Hp → VK → Prop := fun xs H Q => ∃ i j, xs = [.int i, .int j] ∧ Q (.int (if j > i then j else i)) H
def rMinI : List V → Hp → VK → Prop := fun xs H Q => ∃ i j, xs = [.int i, .int j] ∧ Q (.int (if j < i then j else i)) H
def rIntX : List V → Hp → VK → Prop := fun xs H Q => (∃ i, xs = [.int i] ∧ Q (.int i) H) ∨ ∃ k, xs = [.bl k] ∧ Q (.int (if k then 1 else 0)) H
def rLenQ (K : KF) : List V → Hp → VK → Prop := fun xs H Q => ∃ p ys, xs = [.ref p] ∧ (SqL K H p ys ∨ SqT K H p ys) ∧ Q (.int ys.length) H
def rTupQ (K : KF) : List V → Hp → VK → Prop := fun xs H Q => ∃ p ys, xs = [.ref p] ∧ ((SqL K H p ys ∧ ∀ l, H l = none → Q (.ref l) (upd H l (.tup ys))) ∨ (SqT K H p ys ∧ Q (.ref p) H))
def rListQ (K : KF) : List V → Hp → VK → Prop := fun xs H Q => ∃ p ys, xs = [.ref p] ∧ (SqL K H p ys ∨ SqT K H p ys) ∧ ∀ l, H l = none → Q (.ref l) (upd H l (.lst ys))
section
variable {X : Cx}
theorem op_sub' : OpR X (binaryOp .Sub) oSub := op_sub
theorem op_mul' : OpR X (binaryOp .Mult) oMul := opI fun _ _ _ _ _ _ _ hc q => mul_int q (hc.elim CMul.ok CMulW.ok)
theorem op_fdiv' : OpR X (binaryOp .FloorDiv) oFdiv := op_fdivX
theorem op_mod' : OpR X (binaryOp .Mod) oMod := op_modN
theorem op_pow' : OpR X (binaryOp .Pow) oPow := op_pow
theorem op_lt' : OpR X (compareOp .Lt) oLt := op_lt
theorem op_le' : OpR X (compareOp .LtE) oLe := op_le
theorem op_gt' : OpR X (compareOp .Gt) oGt := op_gt
theorem op_ge' : OpR X (compareOp .GtE) oGe := op_ge
theorem op_isN' : OpR X (compareOp .Is) oIsN := op_isN
theorem op_notN' : OpR X (compareOp .IsNot) oNotN := op_notN
theorem un_neg' : UnR X (unaryOp .USub) uNeg := un_neg
theorem call_abs' : CallR X (.builtin "abs") rAbsI := call_abs
theorem call_max' (hc : X.calm = true) : CallR X (.builtin "max") rMaxI := call_max2 hc
theorem call_min' (hc : X.calm = true) : CallR X (.builtin "min") rMinI := call_min2 hc
theorem call_int' : CallR X (.type "int") rIntX := call_int1
theorem call_len' : CallR X (.builtin "len") (rLenQ X.K) := call_len_seq
theorem call_tup' : CallR X (.type "tuple") (rTupQ X.K) := call_tuple_of
theorem call_list' : CallR X (.type "list") (rListQ X.K) := call_list_of
end
section
variable {K : KF} {W : WX} {Γ : Gm} {Ω : Om} {R : DV → Om → Prop} {X : Exc → Om → Prop} {i j : Int}
theorem wr_sub (q : R (.d (.int (i - j))) Ω) : WR K oSub (.d (.int i)) (.d (.int j)) Ω R := wr_I0 (f := fun i j => i - j) q
theorem wr_mul (hc : CMulX i j) (q : R (.d (.int (i * j))) Ω) : WR K oMul (.d (.int i)) (.d (.int j)) Ω R := wr_I (f := fun i j => i * j) hc q
theorem wr_fdiv (hc : CDivX i j) (q : R (.d (.int (i.fdiv j))) Ω) : WR K oFdiv (.d (.int i)) (.d (.int j)) Ω R := wr_I (f := fun i j => i.fdiv j) hc q
theorem wr_fdivP (h0 : 0 < j) (hc : j.natAbs.log2 < 9000) (q : R (.d (.int (i / j))) Ω) : WR K oFdiv (.d (.int i)) (.d (.int j)) Ω R := wr_fdiv ⟨by omega, hc⟩ (by rw [Int.fdiv_eq_ediv_of_nonneg i (by omega)]; exact q)
theorem wr_mod (hc : j ≠ 0) (q : R (.d (.int (i.fmod j))) Ω) : WR K oMod (.d (.int i)) (.d (.int j)) Ω R := wr_I (f := fun i j => i.fmod j) hc q
theorem wr_modP (h0 : 0 < j) (q : R (.d (.int (i % j))) Ω) : WR K oMod (.d (.int i)) (.d (.int j)) Ω R := wr_mod (by omega) (by rw [Int.fmod_eq_emod_of_nonneg i (by omega)]; exact q)
theorem wr_pow (hc : CPow i j) (q : R (.d (.int (i ^ j.toNat))) Ω) : WR K oPow (.d (.int i)) (.d (.int j)) Ω R := wr_I (f := fun i j => i ^ j.toNat) hc q
theorem wr_lt (q : R (.d (.bool (decide (i < j)))) Ω) : WR K oLt (.d (.int i)) (.d (.int j)) Ω R := wr_I0b (f := fun i j => decide (i < j)) q
theorem wr_le (q : R (.d (.bool (decide (i ≤ j)))) Ω) : WR K oLe (.d (.int i)) (.d (.int j)) Ω R := wr_I0b (f := fun i j => decide (i ≤ j)) q
theorem wr_gt (q : R (.d (.bool (decide (j < i)))) Ω) : WR K oGt (.d (.int i)) (.d (.int j)) Ω R := wr_I0b (f := fun i j => decide (j < i)) q
theorem wr_ge (q : R (.d (.bool (decide (j ≤ i)))) Ω) : WR K oGe (.d (.int i)) (.d (.int j)) Ω R := wr_I0b (f := fun i j => decide (j ≤ i)) q
theorem wr_isN' {x : DV} (p : plainV x = true) (q : R (.d (.bool (isNo x))) Ω) : WR K oIsN x (.d .none) Ω R := wr_isN p q
theorem wr_notN' {x : DV} (p : plainV x = true) (q : R (.d (.bool (!isNo x))) Ω) : WR K oNotN x (.d .none) Ω R := wr_notN p q
theorem wu_neg (q : R (.d (.int (-i))) Ω) : WU K uNeg (.d (.int i)) Ω R := fun m G H v Q c r k => by
  cases r
  exact ⟨i, rfl, k _ _ _ _ (.d (.int (-i))) _ c (Nxt.refl ..) (Nat.le_refl _) (Dp.int _) q⟩
theorem wc_abs' (q : R (.d (.int (if i < 0 then -i else i))) Ω) : WC K rAbsI [.d (.int i)] Ω R := wc_abs q
theorem wc_max' (q : R (.d (.int (if j > i then j else i))) Ω) : WC K rMaxI [.d (.int i), .d (.int j)] Ω R := wc_max q
theorem wc_min' (q : R (.d (.int (if j < i then j else i))) Ω) : WC K rMinI [.d (.int i), .d (.int j)] Ω R := wc_min q
theorem wc_intI' (q : R (.d (.int i)) Ω) : WC K rIntX [.d (.int i)] Ω R := wc_intI q
theorem wc_intB' {b : Bool} (q : R (.d (.int (if b then 1 else 0))) Ω) : WC K rIntX [.d (.bool b)] Ω R := wc_intB q
theorem wc_len' {x : DV} {ds : List DV} (hx : sq Ω x = some ds) (q : R (.d (.int ds.length)) Ω) : WC K (rLenQ K) [x] Ω R := wc_len hx q
theorem wc_tup' {x : DV} {xs : List PyData} (hx : ls Ω x = some xs) (q : R (.d (.tuple xs)) Ω) : WC K (rTupQ K) [x] Ω R := wc_tuple hx q
theorem wc_listD' {x : DV} {xs : List PyData} (hx : ls Ω x = some xs) (q : R (.d (.list xs)) Ω) : WC K (rListQ K) [x] Ω R := wc_listD hx q
theorem wc_listO' {x : DV} {xs : List PyData} (hx : ls Ω x = some xs) (q : R (.o Ω.length) (Ω ++ [.lst (xs.map DV.d)])) : WC K (rListQ K) [x] Ω R := wc_listO hx q
/-! chains of comparisons -/
theorem we_chain {r r' : R2} {ta tb tc : TE} (h : WE K W ta Γ Ω (fun x Ω1 => WE K W tb Γ Ω1 (fun y Ω2 => WR K r x y Ω2 (fun z Ω3 => ∃ b, z = .d (.bool b) ∧ (b = true → WE K W tc Γ Ω3 (fun w Ω4 => WR K r' y w Ω4 R) X) ∧ (b = false → R (.d (.bool false)) Ω3))) X) X) :
    WE K W (tChain r r' ta tb tc) Γ Ω R X := fun m G H σ Q c s k x =>
  h m G H σ _ c s (fun m1 G1 Ω1 H1 d1 v1 c1 n1 l1 r1 h1 => h1 m1 G1 H1 σ _ c1 (s.mono n1 l1) (fun m2 G2 Ω2 H2 d2 v2 c2 n2 l2 r2 h2 => by
    have n12 := n1.trans l1 n2
    have l12 := Nat.le_trans l1 l2
    refine h2 m2 G2 H2 v1 v2 _ c2 (RV.mono n2 l2 r1) r2 (fun m3 G3 Ω3 H3 d3 v3 c3 n3 l3 r3 ⟨b, e, ht, hf⟩ => ?_)
    subst e
    cases r3
    refine ⟨b, rfl, ?_⟩
    have n13 := n12.trans l12 n3
    have l13 := Nat.le_trans l12 l3
    cases b with
    | false =>
      first
        | (rw [if_neg Bool.false_ne_true]; exact k _ _ _ _ (.d (.bool false)) _ c3 n13 l13 (Dp.bl false) (hf rfl))
        | exact k _ _ _ _ (.d (.bool false)) _ c3 n13 l13 (Dp.bl false) (hf rfl)
    | true =>
      first
        | (rw [if_pos rfl]; exact (ht rfl) m3 G3 H3 σ _ c3 (s.mono n13 l13) (fun m4 G4 Ω4 H4 d4 v4 c4 n4 l4 r4 h4 => h4 m4 G4 H4 v2 v4 Q c4 (RV.mono (n3.trans l3 n4) (Nat.le_trans l3 l4) r2) r4 (k.on (n13.trans l13 n4) (Nat.le_trans l13 l4))) (x.on n13 l13))
        | exact (ht rfl) m3 G3 H3 σ _ c3 (s.mono n13 l13) (fun m4 G4 Ω4 H4 d4 v4 c4 n4 l4 r4 h4 => h4 m4 G4 H4 v2 v4 Q c4 (RV.mono (n3.trans l3 n4) (Nat.le_trans l3 l4) r2) r4 (k.on (n13.trans l13 n4) (Nat.le_trans l13 l4))) (x.on n13 l13)) (x.on n1 l1)) x
end
end HL
namespace HL
open PySem PySem.Spec PyProof.Rows L2 Evl
/-! ### the head's facts: defs, names, and one Bool more -/
/-- the function data of a def -/
def noFd : FuncData := PySem.W.fnOf "" "" { posonlyargs := [], args := [], vararg := none, kwonlyargs := [], kw_defaults := [], kwarg := none, defaults := [] } [] { kind := .function, names := [], isGenerator := false, isCoroutine := false } .none .none .none .none none .none .none
def fdK (K : KF) (p : Str × Option Str) : FuncData := match K.lookup (He.fAd K p) with
  | some ⟨_, _, .func fd, _⟩ => fd
  | _ => noFd
theorem fdK_of {K : KF} {p : Str × Option Str} {x qual : Str} {params : Arguments} {body : List Stmt} {scope : Scope} {dvs : List V} {kws : List (Str × V)} {fd : FuncData} (F : FunD K x qual params body scope dvs kws (He.fAd K p) fd) : FunD K x qual params body scope dvs kws (He.fAd K p) (fdK K p) := by
  obtain ⟨oc, od, dV, kV, doc, pm, an, cdv, ct, osl, e, lk, _⟩ := F.ex
  have q : fdK K p = fd := by
    unfold fdK
    rw [lk]
  rw [q]
  exact F
/-- an address where a function stands -/
abbrev fA (K : KF) (x : Str) : Addr := He.fAd K (x, none)
abbrev FD (K : KF) (x : Str) (st : Stmt) (dvs : List V) : Prop := FunD K x x (defArgs st) (defBody st) (defScope st) dvs [] (fA K x) (fdK K (x, none))
abbrev FM (K : KF) (C m q : Str) (st : Stmt) (dvs : List V) : Prop := FunD K m q (defArgs st) (defBody st) (defScope st) dvs [] (He.fAd K (C, some m)) (fdK K (C, some m))
theorem fd_of {fa : List He.Fa} {fn : List He.DefD} {K : KF} (c : He.SaysD fa fn K) (i : Nat) {d : He.DefD} (h : fn[i]? = some d) : FunD K d.name d.qual d.params d.body d.scope (d.dvs K) (d.kws K) (He.fAd K d.at_) (fdK K d.at_) := by
  obtain ⟨fd, F⟩ := c.def_ i h
  exact fdK_of F
/-- facts of an exception's class -/
structure XC (K : KF) (mg : Str → Option Value) (x : Str) : Prop where
  gm : mg x = some (.ref (He.ga K x))
  ec : PySem.W.excIn K (He.ga K x) He.veBase "ValueError.__new__" = true
  kp : PySem.W.keepIn K (.ref (He.ga K x)) = true
  sb : PySem.W.subIn K (.ref (He.ga K x)) (.type "BaseException") = some true
  ty : PySem.W.typeIn K (.ref (He.ga K x)) = some (.type "type")
theorem xc_of {K : KF} {h : Heap} {mg : Str → Option Value} {x : Str} (X : K.In h) (G : h.Ns mainGlobals mg) (c0 : (He.Fa.glo x).ok K = true) (c : (He.Fa.exc x).ok K = true) : XC K mg x := by
  obtain ⟨h1, h2⟩ := He.ba c
  obtain ⟨h3, h4⟩ := He.ba h2
  obtain ⟨h5, h6⟩ := He.ba h4
  exact ⟨He.glo_ok X G c0, h1, h3, of_decide_eq_true h5, of_decide_eq_true h6⟩
/-- a tuple of the module -/
theorem tup_dp {K : KF} {x : Str} {vs : List He.Dv} {xs : List PyData} (h : He.tupB K x vs = true) (hv : ∀ G, DpAll K G (vs.map (He.Dv.v K)) xs) : ∀ G, Dp K G (.ref (He.ga K x)) (.tuple xs) := fun G => .tup (He.tupB_ok h G) (hv G)
/-! ### isinstance of a caught error -/
def rIsEx (K : KF) (cls : Value) (dd : Option Addr) (a : Addr) : List V → Hp → VK → Prop := fun xs H Q => ∃ D, cls = .ref D ∧ dd = none ∧ ExcC K D ∧ rIsE K D a xs H Q
def tTryAs (K : KF) (tb : WX → TS) (ts : Addr → Value → Option Addr → TS) (c : Value) (i : Nat) (W : WX) : TS := fun D σ H => tb (wAs K c i ts W D) D σ H
def tTryOnly (K : KF) (tb : WX → TS) (ts : Addr → Value → Option Addr → TS) (c : Value) (W : WX) : TS := fun D σ H => tb (wOnly K c ts W D) D σ H
def tRaise (K : KF) (x : Str) (W : WX) : TS := fun _ σ H => W (.ref (He.ga K x)) none σ H
section
variable {K : KF} {W : WX} {Γ : Gm} {Ω : Om} {O : Outs}
theorem ws_rs {x : Str} (q : O.er Γ (.own (He.ga K x)) Ω) : WS K W (tRaise K x W) Γ Ω O := ws_raise q
end
theorem ps_rs {X : Cx} {W : WX} {x m : Str} {j : Nat} {p p2 pos pos2 : Pos} (hc : X.calm = true) (tk : Takes X W) (T : XC X.K X.mg x) (hg : Gl X x) (hdb : (x == ("__debug__" : Str)) = false := by decide) :
    PS X (.Raise (some (.Call (.Name x p) [.Constant (.str m) j p2] [] pos)) none pos2) (tRaise X.K x W) := ps_raise hc tk (pmk_own PySem.F.excBase_ValueError T.ec T.gm T.kp (raises_own T.sb T.ty) hg hdb)
section
variable {X : Cx} {x n : Str} {i : Nat} {body suite : List Stmt} {b₀ : Stmt} {np pos pos' : Pos} {tb : WX → TS} {ts : Addr → Value → Option Addr → TS} {Wout : WX}
end
end HL
namespace HL
open PySem PySem.Spec PyProof.Rows L2 Evl
theorem bT {b : Bool} {A B : Prop} (hb : b = true) (h : A) : (b = true → A) ∧ (b = false → B) := ⟨fun _ => h, fun e => by rw [hb] at e; cases e⟩
theorem bF {b : Bool} {A B : Prop} (hb : b = false) (h : B) : (b = true → A) ∧ (b = false → B) := ⟨fun e => (by rw [hb] at e; cases e), fun _ => h⟩
theorem ex_b {b : Bool} {B : Bool → Prop} (h : B b) : ∃ b', DV.d (.bool b) = .d (.bool b') ∧ B b' := ⟨b, rfl, h⟩
theorem ex_i {b : Int} {B : Int → Prop} (h : B b) : ∃ b', DV.d (.int b) = .d (.int b') ∧ B b' := ⟨b, rfl, h⟩
theorem ex_p {x y : DV} {B : DV → DV → Prop} (h : B x y) : ∃ a b, [x, y] = [a, b] ∧ B a b := ⟨x, y, rfl, h⟩
theorem ex_as {ds : List DV} {xs : List PyData} {B : List PyData → Prop} (e : asDs ds = some xs) (l : xs.length ≤ 100000) (h : B xs) : ∃ xs, asDs ds = some xs ∧ xs.length ≤ 100000 ∧ B xs := ⟨xs, e, l, h⟩
def isInt : PyData → Bool
  | .int _ => true
  | .bool _ => true
  | _ => false
def isBool : PyData → Bool
  | .bool _ => true
  | _ => false
def isStr : PyData → Bool
  | .str _ => true
  | _ => false
def isTuple : PyData → Bool
  | .tuple _ => true
  | _ => false
def isList : PyData → Bool
  | .list _ => true
  | _ => false
def known : PyData → Bool
  | .dict _ => false
  | _ => true
section
variable {K : KF} {Ω : Om} {R : DV → Om → Prop} {x : DV} {y : PyData}
theorem wc_isInt (hx : vw Ω x = some y) (hk : known y = true) (q : R (.d (.bool (isInt y))) Ω) : WC K (rIsi K) [x, .v (.ty "int")] Ω R := by
  cases y <;> first | exact wc_isi (z := true) hx rfl (by decide +kernel) q | exact wc_isi (z := false) hx rfl (by decide +kernel) q | exact absurd (show false = true from hk) (by decide)
theorem wc_isBool (hx : vw Ω x = some y) (hk : known y = true) (q : R (.d (.bool (isBool y))) Ω) : WC K (rIsi K) [x, .v (.ty "bool")] Ω R := by
  cases y <;> first | exact wc_isi (z := true) hx rfl (by decide +kernel) q | exact wc_isi (z := false) hx rfl (by decide +kernel) q | exact absurd (show false = true from hk) (by decide)
theorem wc_isStr (hx : vw Ω x = some y) (hk : known y = true) (q : R (.d (.bool (isStr y))) Ω) : WC K (rIsi K) [x, .v (.ty "str")] Ω R := by
  cases y <;> first | exact wc_isi (z := true) hx rfl (by decide +kernel) q | exact wc_isi (z := false) hx rfl (by decide +kernel) q | exact absurd (show false = true from hk) (by decide)
theorem wc_isTuple (hx : vw Ω x = some y) (hk : known y = true) (q : R (.d (.bool (isTuple y))) Ω) : WC K (rIsi K) [x, .v (.ty "tuple")] Ω R := by
  cases y <;> first | exact wc_isi (z := true) hx rfl (by decide +kernel) q | exact wc_isi (z := false) hx rfl (by decide +kernel) q | exact absurd (show false = true from hk) (by decide)
theorem wc_isList (hx : vw Ω x = some y) (hk : known y = true) (q : R (.d (.bool (isList y))) Ω) : WC K (rIsi K) [x, .v (.ty "list")] Ω R := by
  cases y <;> first | exact wc_isi (z := true) hx rfl (by decide +kernel) q | exact wc_isi (z := false) hx rfl (by decide +kernel) q | exact absurd (show false = true from hk) (by decide)
end
def dR (x : Rat) : PyData := .tuple [.int x.num, .int x.den]
theorem wr_ixR0 {K : KF} {Ω : Om} {R : DV → Om → Prop} {x : Rat} (q : R (.d (.int x.num)) Ω) : WR K (rIx K) (.d (dR x)) (.d (.int 0)) Ω R := wr_ixT rfl q
theorem wr_ixR1 {K : KF} {Ω : Om} {R : DV → Om → Prop} {x : Rat} (q : R (.d (.int x.den)) Ω) : WR K (rIx K) (.d (dR x)) (.d (.int 1)) Ω R := wr_ixT rfl q
theorem shaped_dR (x : Rat) : SeqAt.shaped (dR x) = true := rfl
theorem eqv_dR (x y : Rat) : PyData.eqv (dR x) (dR y) = decide (x = y) := by
  show (x.num == y.num && (((x.den : Int) == (y.den : Int)) && true)) = _
  rw [Bool.and_true]
  by_cases h : x = y
  · subst h; simp
  · rw [decide_eq_false h]
    by_cases h1 : x.num = y.num
    · have h2 : x.den ≠ y.den := fun e => h (Rat.ext h1 e)
      have : ((x.den : Int) == (y.den : Int)) = false := by rw [beq_eq_false_iff_ne]; omega
      rw [this, Bool.and_false]
    · have : (x.num == y.num) = false := by simpa using h1
      rw [this, Bool.false_and]
theorem wr_eqR {K : KF} {Ω : Om} {R : DV → Om → Prop} {x y : Rat} (q : R (.d (.bool (decide (x = y)))) Ω) : WR K (rEqD K) (.d (dR x)) (.d (dR y)) Ω R := wr_eq rfl rfl (shaped_dR x) (shaped_dR y) (by rw [eqv_dR]; exact q)
theorem wr_neR {K : KF} {Ω : Om} {R : DV → Om → Prop} {x y : Rat} (q : R (.d (.bool (!decide (x = y)))) Ω) : WR K (rNeD K) (.d (dR x)) (.d (dR y)) Ω R := wr_ne rfl rfl (shaped_dR x) (shaped_dR y) (by rw [eqv_dR]; exact q)
theorem eqv_int (a b : Int) : PyData.eqv (.int a) (.int b) = decide (a = b) := by
  show (a == b) = _
  exact (Bool.beq_eq_decide_eq a b)
theorem eqv_bool (a b : Bool) : PyData.eqv (.bool a) (.bool b) = decide (a = b) := by
  show (a == b) = _
  exact (Bool.beq_eq_decide_eq a b)
theorem wr_eqI {K : KF} {Ω : Om} {R : DV → Om → Prop} {x y : Int} (q : R (.d (.bool (decide (x = y)))) Ω) : WR K (rEqD K) (.d (.int x)) (.d (.int y)) Ω R := wr_eq rfl rfl rfl rfl (by rw [eqv_int]; exact q)
theorem wr_neI {K : KF} {Ω : Om} {R : DV → Om → Prop} {x y : Int} (q : R (.d (.bool (!decide (x = y)))) Ω) : WR K (rNeD K) (.d (.int x)) (.d (.int y)) Ω R := wr_ne rfl rfl rfl rfl (by rw [eqv_int]; exact q)
theorem wr_eqB {K : KF} {Ω : Om} {R : DV → Om → Prop} {x y : Bool} (q : R (.d (.bool (decide (x = y)))) Ω) : WR K (rEqD K) (.d (.bool x)) (.d (.bool y)) Ω R := wr_eq rfl rfl rfl rfl (by rw [eqv_bool]; exact q)
theorem wr_neB {K : KF} {Ω : Om} {R : DV → Om → Prop} {x y : Bool} (q : R (.d (.bool (!decide (x = y)))) Ω) : WR K (rNeD K) (.d (.bool x)) (.d (.bool y)) Ω R := wr_ne rfl rfl rfl rfl (by rw [eqv_bool]; exact q)
theorem ws_asgL {K : KF} {W : WX} {Γ : Gm} {Ω : Om} {O : Outs} {i : Nat} (q : O.nx (Γ.set i (some (.o Ω.length))) (Ω ++ [.lst []])) : WS K W (tAsg (tLst tNil) (gName i)) Γ Ω O :=
  ws_asg (we_lstO (wa_nil ⟨by decide, wg_name q⟩))
local macro_rules | `(tactic| walk_at "hl1") => `(tactic| first
  | with_reducible refine ws_seq ?_
  | with_reducible refine ws_asgL ?_
  | with_reducible refine ws_asg ?_
  | with_reducible refine ws_if ?_
  | with_reducible refine ws_ret ?_
  | with_reducible refine ws_drop ?_
  | with_reducible refine ws_par ?_
  | with_reducible refine we_int ?_
  | with_reducible refine we_bl ?_
  | with_reducible refine we_str ?_
  | with_reducible refine we_non ?_
  | with_reducible refine we_ty ?_
  | with_reducible refine we_ref ?_
  | with_reducible refine we_op ?_
  | with_reducible refine we_un ?_
  | with_reducible refine we_if ?_
  | with_reducible refine we_cb ?_
  | with_reducible refine we_call ?_
  | with_reducible refine we_callS ?_
  | with_reducible refine we_tup ?_
  | with_reducible refine we_lstD ?_
  | with_reducible refine we_chain ?_
  | with_reducible refine we_sl ?_
  | with_reducible refine wo_none ?_
  | with_reducible refine wo_some ?_
  | with_reducible refine wa_nil ?_
  | with_reducible refine wa_cons ?_
  | with_reducible refine wt_test ?_
  | with_reducible refine wt_B ?_
  | with_reducible refine wt_and ?_
  | with_reducible refine wt_or ?_
  | with_reducible refine wt_not ?_
  | with_reducible refine wt_yes ?_
  | with_reducible refine we_andV ?_
  | with_reducible refine we_orV ?_
  | with_reducible refine we_notV ?_
  | with_reducible refine wg_name ?_
  | with_reducible refine wgs_nil ?_
  | with_reducible refine wgs_cons ?_
  | with_reducible refine wr_sub ?_
  | with_reducible refine wr_addI ?_
  | with_reducible refine wr_lt ?_
  | with_reducible refine wr_le ?_
  | with_reducible refine wr_gt ?_
  | with_reducible refine wr_ge ?_
  | with_reducible refine wu_neg ?_
  | with_reducible refine wr_ixR0 ?_
  | with_reducible refine wr_eqR ?_
  | with_reducible refine wr_neR ?_
  | with_reducible refine wr_eqI ?_
  | with_reducible refine wr_neI ?_
  | with_reducible refine wr_eqB ?_
  | with_reducible refine wr_neB ?_
  | with_reducible refine wr_ixR1 ?_
  | ((with_reducible refine' wr_mul ?h1 ?_); (case h1 => first | exact .inr (by assumption) | exact .inl (.inl ⟨by decide, by decide⟩) | exact .inl (.inr ⟨by decide, by decide⟩) | assumption))
  | with_reducible refine wc_abs' ?_
  | with_reducible refine wc_max' ?_
  | with_reducible refine wc_min' ?_
  | with_reducible refine wc_intI' ?_
  | with_reducible refine wc_intB' ?_
  | with_reducible refine wsl_T ?_
  | with_reducible refine ex_b ?_
  | with_reducible refine ex_i ?_
  | with_reducible refine ex_p ?_
  | with_reducible refine ws_next ?_
  | with_reducible refine ws_rs ?_
  | with_reducible refine ws_retN ?_
  | with_reducible refine we_bm ?_
  | with_reducible refine we_bm0 ?_
  | ((with_reducible refine' we_var ?h1 ?_); (case h1 => rfl))
  | ((with_reducible refine' wg_tup ?h1 ?_); (case h1 => rfl))
  | ((with_reducible refine' wr_isN' ?h1 ?_); (case h1 => rfl))
  | ((with_reducible refine' wr_notN' ?h1 ?_); (case h1 => rfl))
  | ((with_reducible refine' wr_ixT ?h1 ?_); (case h1 => rfl))
  | ((with_reducible refine' wr_ixL ?h1 ?_); (case h1 => rfl))
  | ((with_reducible refine' wc_len' ?h1 ?_); (case h1 => rfl))
  | ((with_reducible refine' wc_isInt ?h1 ?h2 ?_); (case h1 => rfl); (case h2 => first | rfl | assumption))
  | ((with_reducible refine' wc_isBool ?h1 ?h2 ?_); (case h1 => rfl); (case h2 => first | rfl | assumption))
  | ((with_reducible refine' wc_isTuple ?h1 ?h2 ?_); (case h1 => rfl); (case h2 => first | rfl | assumption))
  | ((with_reducible refine' wc_isStr ?h1 ?h2 ?_); (case h1 => rfl); (case h2 => first | rfl | assumption))
  | ((with_reducible refine' wc_isList ?h1 ?h2 ?_); (case h1 => rfl); (case h2 => first | rfl | assumption))
  | ((with_reducible refine' ex_as ?h1 ?h2 ?_); (case h1 => rfl); (case h2 => exact Nat.le_of_ble_eq_true rfl)))
local macro_rules | `(tactic| walk_at "hl") => `(tactic| repeat walk_at "hl1")
/-! ### ratios are the rational numbers -/
theorem fmod_natAbs_lt {a b : Int} (h : b ≠ 0) : (a.fmod b).natAbs < b.natAbs := by
  have e := Int.mul_fdiv_add_fmod a b
  by_cases h0 : 0 ≤ b
  · have h1 := Int.fmod_nonneg_of_pos a (show 0 < b by omega)
    have h2 := Int.fmod_lt_of_pos a (show 0 < b by omega)
    omega
  · have h3 : (a.fmod b) = -((-a).fmod (-b)) := by
      rw [Int.fmod_eq_emod_of_nonneg (-a) (show 0 ≤ -b by omega)]
      have : a.fmod b = -((-a).fmod (-b)) := by
        have q := Int.neg_fmod_neg (a := a) (b := b)
        rw [q]; omega
      rw [this, Int.fmod_eq_emod_of_nonneg (-a) (show 0 ≤ -b by omega)]
    rw [h3, Int.fmod_eq_emod_of_nonneg (-a) (show 0 ≤ -b by omega)]
    have h1 := Int.emod_nonneg (-a) (show (-b) ≠ 0 by omega)
    have h2 := Int.emod_lt_of_pos (-a) (show 0 < -b by omega)
    omega
theorem gcd_fmod (a b : Int) : Int.gcd b (a.fmod b) = Int.gcd a b := by
  have e := Int.mul_fdiv_add_fmod a b
  have h : a.fmod b = a - b * a.fdiv b := by omega
  rw [h]
  apply Nat.dvd_antisymm
  · apply Int.dvd_gcd
    · have h1 : ((Int.gcd b (a - b * a.fdiv b) : Nat) : Int) ∣ b := Int.gcd_dvd_left ..
      have h2 : ((Int.gcd b (a - b * a.fdiv b) : Nat) : Int) ∣ (a - b * a.fdiv b) := Int.gcd_dvd_right ..
      have h3 := Int.dvd_add h2 (Int.dvd_mul_of_dvd_left (c := a.fdiv b) h1)
      have h4 : a - b * a.fdiv b + b * a.fdiv b = a := by omega
      rw [h4] at h3
      exact h3
    · exact Int.gcd_dvd_left ..
  · apply Int.dvd_gcd
    · exact Int.gcd_dvd_right ..
    · exact Int.dvd_sub (Int.gcd_dvd_left ..) (Int.dvd_mul_of_dvd_left (Int.gcd_dvd_right ..))
theorem abs_if (a : Int) : (if a < 0 then -a else a) = (a.natAbs : Int) := by split <;> omega
/-- by what both are divided: with the sign of the lower one -/
def byOf (a b : Int) : Int := if b < 0 then 0 - (Int.gcd a b : Int) else (Int.gcd a b : Int)
theorem gcd_pos {a b : Int} (h : b ≠ 0) : 0 < (Int.gcd a b : Int) := by
  have : Int.gcd a b ≠ 0 := fun e => h (Int.gcd_eq_zero_iff.mp e).2
  omega
theorem low_num {a b : Int} (h : b ≠ 0) : a.fdiv (byOf a b) = (Rat.divInt a b).num := by
  rw [Rat.num_divInt, Int.gcd_comm b a]
  have hg := gcd_pos (a := a) h
  obtain ⟨c, hc⟩ : ((Int.gcd a b : Nat) : Int) ∣ a := Int.gcd_dvd_left ..
  unfold byOf
  generalize (Int.gcd a b : Int) = g at *
  split
  · rename_i hb
    rw [Int.sign_eq_neg_one_of_neg hb, hc]
    have e1 : (g * c).fdiv (0 - g) = -c := by
      rw [show g * c = (0 - g) * (-c) by grind]
      exact Int.mul_fdiv_cancel_left _ (by omega)
    have e2 : -1 * (g * c) / g = -c := by
      rw [show -1 * (g * c) = g * (-c) by grind]
      exact Int.mul_ediv_cancel_left _ (by omega)
    rw [e1, e2]
  · rename_i hb
    rw [Int.sign_eq_one_of_pos (by omega), hc, Int.mul_fdiv_cancel_left _ (by omega), Int.one_mul, Int.mul_ediv_cancel_left _ (by omega)]
theorem low_den {a b : Int} (h : b ≠ 0) : b.fdiv (byOf a b) = ((Rat.divInt a b).den : Int) := by
  rw [Rat.den_divInt, if_neg h, Int.gcd_comm b a]
  have hg := gcd_pos (a := a) h
  obtain ⟨c, hc⟩ : ((Int.gcd a b : Nat) : Int) ∣ b := Int.gcd_dvd_right ..
  have e3 : ((b.natAbs / Int.gcd a b : Nat) : Int) = (b.natAbs : Int) / (Int.gcd a b : Int) := Int.natCast_ediv ..
  rw [e3]
  unfold byOf
  generalize (Int.gcd a b : Int) = g at *
  have hb0 : (b.natAbs : Int) = if b < 0 then -b else b := by split <;> omega
  rw [hb0]
  split
  · rw [hc]
    have e1 : (g * c).fdiv (0 - g) = -c := by
      rw [show g * c = (0 - g) * (-c) by grind]
      exact Int.mul_fdiv_cancel_left _ (by omega)
    have e2 : -(g * c) / g = -c := by
      rw [show -(g * c) = g * (-c) by grind]
      exact Int.mul_ediv_cancel_left _ (by omega)
    rw [e1, e2]
  · rw [hc, Int.mul_fdiv_cancel_left _ (by omega), Int.mul_ediv_cancel_left _ (by omega)]
theorem dR_eq {a b : Int} (h : b ≠ 0) : dR (Rat.divInt a b) = .tuple [.int (a.fdiv (byOf a b)), .int (b.fdiv (byOf a b))] := by
  rw [low_num h, low_den h]
  rfl
/-! ### sizes -/
structure Sz (n : Nat) (x : Rat) : Prop where
  num : x.num.natAbs < 2 ^ n
  den : x.den < 2 ^ n
theorem Sz.mono {n m : Nat} {x : Rat} (h : Sz n x) (l : n ≤ m) : Sz m x :=
  ⟨Nat.lt_of_lt_of_le h.num (Nat.pow_le_pow_right (by decide) l), Nat.lt_of_lt_of_le h.den (Nat.pow_le_pow_right (by decide) l)⟩
/-- both are small enough to be reckoned with -/
def Sz2 (x y : Rat) : Prop := ∃ n m, Sz n x ∧ Sz m y ∧ n + m ≤ 8900
theorem log2_lt {x n : Nat} (h : x < 2 ^ n) (hn : 0 < n) : x.log2 < n := PySem.Flt.log2_lt_of hn h
theorem mul_lt2 {a b n m : Nat} (ha : a < 2 ^ n) (hb : b < 2 ^ m) : a * b < 2 ^ (n + m) := by
  rw [Nat.pow_add]
  exact Nat.mul_lt_mul'' ha hb
theorem cmul {i j : Int} {n m : Nat} (ha : i.natAbs < 2 ^ n) (hb : j.natAbs < 2 ^ m) (h : n + m ≤ 900000) : CMulW i j :=
  wide_mul (a := n + 1) (b := m + 1) (Nat.lt_of_lt_of_le ha (Nat.pow_le_pow_right (by decide) (by omega))) (Nat.lt_of_lt_of_le hb (Nat.pow_le_pow_right (by decide) (by omega))) (by omega) (by omega) (by omega)
theorem gcd_lt {a b : Int} {n : Nat} (h : b ≠ 0) (hb : b.natAbs < 2 ^ n) : Int.gcd a b < 2 ^ n := by
  refine Nat.lt_of_le_of_lt ?_ hb
  have : Int.gcd a b ∣ b.natAbs := by
    have := Int.gcd_dvd_right a b
    exact Int.ofNat_dvd_left.mp this
  exact Nat.le_of_dvd (by omega) this
theorem byOf_abs {a b : Int} : (byOf a b).natAbs = Int.gcd a b := by
  unfold byOf
  split <;> omega
theorem byOf_ne {a b : Int} (h : b ≠ 0) : byOf a b ≠ 0 := by
  have := gcd_pos (a := a) h
  unfold byOf
  split <;> omega
theorem cdiv_by {a b : Int} {x : Int} {n : Nat} (h : b ≠ 0) (hb : b.natAbs < 2 ^ n) (hn : n ≤ 8990) : CDivX x (byOf a b) := by
  refine ⟨byOf_ne h, ?_⟩
  rw [byOf_abs]
  have h1 := gcd_lt (a := a) h hb
  exact Nat.lt_of_lt_of_le (log2_lt (n := n + 1) (Nat.lt_of_lt_of_le h1 (Nat.pow_le_pow_right (by decide) (by omega))) (by omega)) (by omega)
theorem rat_add (p q : Rat) : Rat.divInt (p.num * q.den + q.num * p.den) (p.den * q.den) = p + q := by
  rw [Rat.add_def', ← Int.natCast_mul, Rat.divInt_ofNat]
theorem rat_sub (p q : Rat) : Rat.divInt (p.num * q.den - q.num * p.den) (p.den * q.den) = p - q := by
  rw [Rat.sub_def', ← Int.natCast_mul, Rat.divInt_ofNat]
theorem rat_mul (p q : Rat) : Rat.divInt (p.num * q.num) (p.den * q.den) = p * q := by
  rw [Rat.mul_def', ← Int.natCast_mul, Rat.divInt_ofNat]
theorem rat_div (p q : Rat) : Rat.divInt (p.num * q.den) (p.den * q.num) = p / q := by
  rw [Rat.div_def]
  conv => rhs; rw [← Rat.num_divInt_den p, ← Rat.num_divInt_den q, Rat.inv_divInt, Rat.divInt_mul_divInt]
theorem den_pos (p : Rat) : 0 < (p.den : Int) := by have := p.den_pos; omega
theorem den_ne (p : Rat) : (p.den : Int) ≠ 0 := by have := p.den_pos; omega
theorem den_mul_ne (p q : Rat) : (p.den : Int) * (q.den : Int) ≠ 0 := Int.mul_ne_zero (den_ne p) (den_ne q)
theorem den_mul_lt {p q : Rat} {n m : Nat} (hp : Sz n p) (hq : Sz m q) : ((p.den : Int) * (q.den : Int)).natAbs < 2 ^ (n + m) := by
  rw [Int.natAbs_mul]
  exact mul_lt2 (by simpa using hp.den) (by simpa using hq.den)
structure Muls (p q : Rat) : Prop where
  nn : CMulW p.num q.num
  nd : CMulW p.num q.den
  dn : CMulW p.den q.num
  dd : CMulW p.den q.den
theorem muls {p q : Rat} {n m : Nat} (hp : Sz n p) (hq : Sz m q) (h : n + m ≤ 900000) : Muls p q :=
  ⟨cmul hp.num hq.num h, cmul hp.num (m := m) (by simpa using hq.den) h, cmul (n := n) (by simpa using hp.den) hq.num h, cmul (n := n) (m := m) (by simpa using hp.den) (by simpa using hq.den) h⟩
/-- what a product, a sum may have -/
theorem Sz2.symm {p q : Rat} (h : Sz2 p q) : Sz2 q p := let ⟨n, m, a, b, c⟩ := h; ⟨m, n, b, a, by omega⟩
theorem sz_of_divInt {a b : Int} {n : Nat} (hb : b ≠ 0) (ha : a.natAbs < 2 ^ n) (h : b.natAbs < 2 ^ n) : Sz n (Rat.divInt a b) := by
  constructor
  · rw [Rat.num_divInt]
    refine Nat.lt_of_le_of_lt ?_ ha
    have e : (b.sign * a / (b.gcd a : Int)).natAbs ≤ (b.sign * a).natAbs := by
      rw [Int.natAbs_ediv_of_dvd (Int.dvd_mul_of_dvd_right (Int.gcd_dvd_right ..))]
      exact Nat.div_le_self _ _
    refine Nat.le_trans e ?_
    rw [Int.natAbs_mul]
    have : b.sign.natAbs ≤ 1 := by
      rw [Int.natAbs_sign]
      split <;> omega
    calc b.sign.natAbs * a.natAbs ≤ 1 * a.natAbs := Nat.mul_le_mul_right _ this
      _ = a.natAbs := Nat.one_mul _
  · rw [Rat.den_divInt, if_neg hb]
    exact Nat.lt_of_le_of_lt (Nat.div_le_self _ _) h
theorem Sz.add {p q : Rat} {n m : Nat} (hp : Sz n p) (hq : Sz m q) : Sz (n + m + 1) (p + q) := by
  rw [← rat_add]
  refine sz_of_divInt (den_mul_ne p q) ?_ (Nat.lt_of_lt_of_le (den_mul_lt hp hq) (Nat.pow_le_pow_right (by decide) (by omega)))
  have h1 : (p.num * q.den).natAbs < 2 ^ (n + m) := by rw [Int.natAbs_mul]; exact mul_lt2 hp.num (by simpa using hq.den)
  have h2 : (q.num * p.den).natAbs < 2 ^ (n + m) := by rw [Int.natAbs_mul, Nat.mul_comm]; exact mul_lt2 (by simpa using hp.den) hq.num
  have h3 := Int.natAbs_add_le (p.num * q.den) (q.num * p.den)
  rw [Nat.pow_succ]
  omega
theorem Sz.neg {p : Rat} {n : Nat} (hp : Sz n p) : Sz n (-p) := ⟨by rw [Rat.neg_num, Int.natAbs_neg]; exact hp.num, by rw [Rat.neg_den]; exact hp.den⟩
theorem Sz.sub {p q : Rat} {n m : Nat} (hp : Sz n p) (hq : Sz m q) : Sz (n + m + 1) (p - q) := by
  rw [Rat.sub_eq_add_neg]
  exact hp.add hq.neg
theorem Sz.mul {p q : Rat} {n m : Nat} (hp : Sz n p) (hq : Sz m q) : Sz (n + m) (p * q) := by
  rw [← rat_mul]
  exact sz_of_divInt (den_mul_ne p q) (by rw [Int.natAbs_mul]; exact mul_lt2 hp.num hq.num) (den_mul_lt hp hq)
theorem Sz.inv {p : Rat} {n : Nat} (hp : Sz n p) (h1 : 0 < n) : Sz n p⁻¹ := by
  constructor
  · rw [Rat.num_inv, Int.natAbs_mul]
    have : p.num.sign.natAbs ≤ 1 := by
      rw [Int.natAbs_sign]
      split <;> omega
    refine Nat.lt_of_le_of_lt (Nat.mul_le_mul_right _ this) ?_
    rw [Nat.one_mul]
    simpa using hp.den
  · rw [Rat.den_inv]
    split
    · exact Nat.one_lt_two_pow (by omega)
    · exact hp.num
theorem Sz.div {p q : Rat} {n m : Nat} (hp : Sz n p) (hq : Sz m q) (h : 0 < m) : Sz (n + m) (p / q) := by
  rw [Rat.div_def]
  exact hp.mul (hq.inv h)
theorem Sz.int {a : Int} {n : Nat} (h : a.natAbs < 2 ^ n) (h0 : 0 < n) : Sz n (a : Rat) := ⟨by rw [Rat.num_intCast]; exact h, by rw [Rat.den_intCast]; exact Nat.one_lt_two_pow (by omega)⟩
/-! ### a pool of digits; the law's state: the pool at k, one's own things behind -/
def IsPool (c : OC) : Prop := ∃ a b d : Int, c = .lst [.d (.int a), .d (.int b), .d (.int d)] ∧ 0 ≤ a ∧ 0 ≤ b ∧ 0 ≤ d
theorem IsPool.flat {c : OC} (h : IsPool c) : flatO c := by
  obtain ⟨a, b, d, rfl, _⟩ := h
  intro x hx
  simp only [List.mem_cons, List.not_mem_nil, or_false] at hx
  rcases hx with rfl | rfl | rfl <;> trivial
abbrev Drawn (k : Nat) (Ω : Om) (b : Int) (R : DV → Om → Prop) : Prop := ∀ (r : Int) (p : OC), 0 ≤ r → r < b → IsPool p → R (.d (.int r)) (Ω.set k p)
theorem get_app {α : Type} {l r : List α} {k : Nat} {x : α} (h : l[k]? = some x) : (l ++ r)[k]? = some x := by rw [List.getElem?_append_left (lt_of_get h)]; exact h
theorem get_set {α : Type} {l : List α} {k : Nat} {x : α} (h : k < l.length) : (l.set k x)[k]? = some x := by rw [List.getElem?_set, if_pos rfl, if_pos h]
theorem wr_ix_ints {K : KF} {Ω : Om} {R : DV → Om → Prop} {xs : List PyData} {ns : List Int} {i : Int} (e : xs = ns.map PyData.int) (h0 : 0 ≤ i) (h1 : i < ns.length) (q : ∀ n ∈ ns, R (.d (.int n)) Ω) : WR K (rIx K) (.d (.list xs)) (.d (.int i)) Ω R := by
  subst e
  obtain ⟨j, rfl⟩ : ∃ j : Nat, i = (j : Int) := ⟨i.toNat, by omega⟩
  have hj : j < ns.length := by omega
  exact wr_ixL (atI_nat (j := j) (v := .int ns[j]) (by simp [hj])) (q _ (List.getElem_mem hj))
theorem mul_pos {a b : Rat} (h : 0 < a) (h2 : 0 < b) : 0 < a * b := Rat.mul_pos h h2
theorem rat_num_pos {x : Rat} (h : 0 < x) : 0 < x.num := by
  have := (Rat.lt_iff 0 x).mp h
  simpa using this
theorem rat_pos_num {x : Rat} (h : 0 < x.num) : 0 < x := by
  rw [Rat.lt_iff]
  simpa using h
theorem rng_get {α : Type} {n i : Nat} {f : Nat → α} {y : α} (h : ((List.range n).map f)[i]? = some y) : i < n ∧ y = f i := by
  rw [List.getElem?_map] at h
  have hi : i < n := by
    by_cases h1 : i < n
    · exact h1
    · rw [List.getElem?_eq_none (by rw [List.length_range]; omega)] at h
      cases h
  rw [List.getElem?_range hi] at h
  cases h
  exact ⟨hi, rfl⟩
theorem set_app {α : Type} {l r : List α} {k : Nat} {x y : α} (h : k < l.length) : (l.set k x ++ r).set k y = l.set k y ++ r := by
  rw [List.set_append_left _ _ (by rw [List.length_set]; exact h), List.set_set]
/-! ### balls, rows, walls -/
structure Bl where
  p : Rat
  s : Rat
  w : Int
def dB (b : Bl) : PyData := .tuple [dR b.p, dR b.s, .int b.w]
def dRow (l : List Bl) : PyData := .tuple (l.map dB)
abbrev Wl := Option (Rat × Rat)
def dW : Wl → PyData
  | none => .none
  | some (p, s) => .tuple [dR p, dR s]
def dWs (a b : Wl) : PyData := .tuple [dW a, dW b]
abbrev Sd (x : Rat) : Prop := Sz 4000 x
def mayS (p s q t : Rat) : Bool := if p = q then decide (s < t) else decide (p < q)
def mayB (a b : Bl) : Bool := mayS a.p a.s b.p b.s
/-- of neighbours -/
def Nb {α : Type} (f : α → α → Bool) : List α → Bool
  | a :: b :: r => f a b && Nb f (b :: r)
  | _ => true
structure RowOk (l : List Bl) : Prop where
  nz : l ≠ []
  le : l.length ≤ 8
  w0 : ∀ b ∈ l, 1 ≤ b.w ∧ b.w ≤ 1000
  zp : ∀ b ∈ l, Sz 300 b.p ∧ Sz 300 b.s
  nb : Nb mayB l = true
  zs : ∀ b ∈ l, Sz 80 b.s
end HL
namespace HT
open PySem PyProof.Rows
section
variable {prog : Program} {w : World} {A : Around} {E : Value → Shared → Prop} {s : Shared}
end
end HT
namespace HL
open PySem PySem.Spec PyProof.Rows L2 Evl
/-! ### xs[::-1], of lists and tuples -/
def uRev (K : KF) : V → Hp → VK → Prop := fun x H Q => ∃ a xs, x = .ref a ∧ ((SqL K H a xs ∧ ∀ p, H p = none → Q (.ref p) (upd H p (.lst xs.reverse))) ∨ (SqT K H a xs ∧ ∀ p, H p = none → Q (.ref p) (upd H p (.tup xs.reverse))))
section
variable {X : Cx}
end
section
variable {K : KF} {Ω : Om} {R : DV → Om → Prop}
theorem dps_rev {K : KF} {G : Hp} : ∀ {vs : List V} {xs : List PyData}, DpAll K G vs xs → DpAll K G vs.reverse xs.reverse
  | _, _, .nil => .nil
  | _, _, .cons a b => by rw [List.reverse_cons, List.reverse_cons]; exact dps_app (dps_rev b) (.cons a .nil)
theorem wu_revT {xs : List PyData} (q : R (.d (.tuple xs.reverse)) Ω) : WU K (uRev K) (.d (.tuple xs)) Ω R := fun m G H v Q c r k => by
  obtain ⟨a, vs, rfl, hs, rp⟩ := lsT_get c r rfl
  refine ⟨a, vs, rfl, .inr ⟨ex_t c.ex hs, fun p hp => ?_⟩⟩
  obtain ⟨c2, n2⟩ := c.frz hp (.tup vs.reverse)
  exact k _ _ _ _ (.d (.tuple xs.reverse)) _ c2 n2 (Nat.le_refl _) (.tup (st_of upd_same) (dps_ex n2.gg _ _ (dps_rev rp))) q
end
/-! ### zip, enumerate -/
def zipD (xs ys : List PyData) : List DV := (xs.zip ys).map fun p => DV.d (.tuple [p.1, p.2])
def enumD (xs : List PyData) : List DV := (List.range xs.length).map fun i => DV.d (.tuple [.int (i : Nat), xs.getD i .none])
theorem zipD_get {xs ys : List PyData} {i : Nat} {y : DV} (h : (zipD xs ys)[i]? = some y) : ∃ a b, xs[i]? = some a ∧ ys[i]? = some b ∧ y = .d (.tuple [a, b]) := by
  unfold zipD at h
  rw [List.getElem?_map] at h
  cases hz : (xs.zip ys)[i]? with
  | none => rw [hz] at h; cases h
  | some p =>
    rw [hz] at h
    cases h
    obtain ⟨h1, h2⟩ := List.getElem?_zip_eq_some.mp hz
    exact ⟨_, _, h1, h2, rfl⟩
theorem dps_get {K : KF} {G : Hp} : ∀ {vs : List V} {xs : List PyData}, DpAll K G vs xs → ∀ {i : Nat} {x : PyData}, xs[i]? = some x → ∃ v, vs[i]? = some v ∧ Dp K G v x
  | _, _, .nil, i, x, e => by rw [List.getElem?_nil] at e; cases e
  | _, _, .cons a b, 0, x, e => by cases e; exact ⟨_, rfl, a⟩
  | _, _, .cons a b, i + 1, x, e => by rw [List.getElem?_cons_succ] at e ⊢; exact dps_get b e
section
variable {K : KF} {W : WX} {Γ : Gm} {Ω : Om} {X : Exc → Om → Prop} {Rc : List DV → (Om → Prop) → Om → Prop} {te : TE} {ta : TA}
theorem itok_zipL {m1 : Mp} {G1 : Hp} {n1 : Nat} {d e : DV} {xs ys : List PyData} {a b : Addr} (r : RV K m1 G1 n1 d (.ref a)) (r2 : RV K m1 G1 n1 e (.ref b)) :
    ItOk K (Itz K a b) (zipD xs ys) (fun Ω' => lsL Ω' d = some xs ∧ lsL Ω' e = some ys) m1 G1 n1 := fun m' G' Ω' H' c' n' l' st i => by
  obtain ⟨a', vs, ea, hs, rp⟩ := lsL_get c' (RV.mono n' l' r) st.1
  cases ea
  obtain ⟨b', ws, eb, hw, rq⟩ := lsL_get c' (RV.mono n' l' r2) st.2
  cases eb
  have el := dps_len rp
  have el2 := dps_len rq
  refine ⟨fun h => ⟨vs, ws, hs, hw, ?_⟩, fun y hy => ?_⟩
  · unfold zipD at h
    rw [List.length_map, List.length_zip] at h
    omega
  · obtain ⟨x1, y1, h1, h2, rfl⟩ := zipD_get hy
    obtain ⟨u, hu, ru⟩ := dps_get rp h1
    obtain ⟨z, hz, rz⟩ := dps_get rq h2
    refine ⟨⟨vs, ws, u, z, hs, hw, hu, hz⟩, fun v H'' ⟨T, x, y, e1, hT, e2, k1, k2⟩ => ?_⟩
    subst e1 e2
    have ex : u = x := Option.some.inj (hu.symm.trans (k1 vs hs))
    have ey : z = y := Option.some.inj (hz.symm.trans (k2 ws hw))
    subst ex ey
    obtain ⟨c2, n2⟩ := c'.frz hT (.tup [u, z])
    exact ⟨_, c2, n2.gg, .tup (st_of upd_same) (.cons (dp_ex n2.gg _ _ ru) (.cons (dp_ex n2.gg _ _ rz) .nil))⟩
theorem wi_zipL (h : WA K W ta Γ Ω (fun ds Ω1 => ∃ d e xs ys, ds = [d, e] ∧ lsL Ω1 d = some xs ∧ lsL Ω1 e = some ys ∧ Rc (zipD xs ys) (fun Ω' => lsL Ω' d = some xs ∧ lsL Ω' e = some ys) Ω1) X) : WI K W (RZ.iZipA K ta) Γ Ω Rc X := fun m G H σ R c s x k =>
  h m G H σ _ c s (fun m1 G1 Ω1 H1 ds vs c1 n1 l1 r1 ⟨d, e, xs, ys, e1, e2, e3, q⟩ => by
    subst e1
    cases r1 with
    | cons ra rr =>
      cases rr with
      | cons rb rr =>
        cases rr
        obtain ⟨a, us, rfl, hs, rp⟩ := lsL_get c1 ra e2
        obtain ⟨b, ws, rfl, hw, rq⟩ := lsL_get c1 rb e3
        exact ⟨a, b, us, ws, rfl, .inl ⟨hs, hw, k m1 G1 Ω1 H1 _ _ _ c1 n1 l1 (itok_zipL ra rb) q⟩⟩) x
end
/-! ### balls, read -/
section
variable {K : KF} {W : WX} {Γ : Gm} {Ω : Om} {R : DV → Om → Prop} {X : Exc → Om → Prop} {Rc : List DV → (Om → Prop) → Om → Prop} {te : TE} {ta : TA}
theorem wr_ixB0 {b : Bl} (q : R (.d (dR b.p)) Ω) : WR K (rIx K) (.d (dB b)) (.d (.int 0)) Ω R := wr_ixT rfl q
theorem wr_ixB1 {b : Bl} (q : R (.d (dR b.s)) Ω) : WR K (rIx K) (.d (dB b)) (.d (.int 1)) Ω R := wr_ixT rfl q
theorem wr_ixB2 {b : Bl} (q : R (.d (.int b.w)) Ω) : WR K (rIx K) (.d (dB b)) (.d (.int 2)) Ω R := wr_ixT rfl q
/-- a tuple, a list of data walked, the items told by F -/
theorem wi_T {α : Type} (F : α → PyData) (l : List α) (h : WE K W te Γ Ω (fun d Ω1 => d = .d (.tuple (l.map F)) ∧ Rc (l.map fun a => .d (F a)) (fun _ => True) Ω1) X) : WI K W (iSeq K te) Γ Ω Rc X :=
  wi_seqT (fun m G H σ Q c s k x => h m G H σ Q c s (fun m1 G1 Ω1 H1 d v c1 n1 l1 r1 ⟨e, q⟩ => k m1 G1 Ω1 H1 d v c1 n1 l1 r1 ⟨_, e, by rw [List.map_map]; exact q⟩) x)
theorem wi_L {α : Type} (F : α → PyData) (l : List α) (h : WE K W te Γ Ω (fun d Ω1 => d = .d (.list (l.map F)) ∧ Rc (l.map fun a => .d (F a)) (fun _ => True) Ω1) X) : WI K W (iSeq K te) Γ Ω Rc X :=
  wi_seqL (fun m G H σ Q c s k x => h m G H σ Q c s (fun m1 G1 Ω1 H1 d v c1 n1 l1 r1 ⟨e, q⟩ => k m1 G1 Ω1 H1 d v c1 n1 l1 r1 ⟨l.map fun a => .d (F a), by subst e; show some ((l.map F).map DV.d) = _; rw [List.map_map]; rfl, by
    refine Eq.mp ?_ q
    congr 1
    funext Ω'
    subst e
    refine (eq_true ?_).symm
    show some ((l.map F).map DV.d) = _
    rw [List.map_map]; rfl⟩) x)
end
/-! ### sums of ratios -/
def sumR : List Rat → Rat
  | [] => 0
  | a :: l => a + sumR l
theorem sz_zero {n : Nat} (h : 0 < n) : Sz n 0 := ⟨Nat.two_pow_pos n, Nat.one_lt_two_pow (by omega)⟩
def wsum (l : List Bl) : Int := (l.map fun b => b.w).sum
def weighed (f : Bl → Rat) (l : List Bl) : Rat := sumR (l.map fun b => (b.w : Rat) * f b)
def negB (b : Bl) : Bl := ⟨-b.p, -b.s, b.w⟩
theorem divInt_one (a : Int) : Rat.divInt a 1 = (a : Rat) := by
  rw [Rat.divInt_eq_div, Rat.intCast_one, Rat.div_def, Rat.inv_eq_of_mul_eq_one (a := 1) (b := 1) (by rw [Rat.mul_one]), Rat.mul_one]
theorem lmap_get {α β : Type} {l : List α} {f : α → β} {i : Nat} {y : β} (h : (l.map f)[i]? = some y) : ∃ a, y = f a ∧ l[i]? = some a ∧ a ∈ l ∧ i < l.length ∧ l.take (i + 1) = l.take i ++ [a] := by
  rw [List.getElem?_map] at h
  cases ea : l[i]? with
  | none => rw [ea] at h; cases h
  | some a =>
    rw [ea] at h
    cases h
    exact ⟨a, rfl, rfl, List.mem_of_getElem? ea, lt_of_get ea, by rw [List.take_add_one, ea]; rfl⟩
theorem only1 {i : Nat} : Only (gName i) [i] := only_name (List.mem_singleton.mpr rfl)
theorem filter_yes {α : Type} (l : List α) : l.filter (fun _ => true) = l := List.filter_eq_self.mpr fun _ _ => rfl
section
variable {K : KF} {Γ : Gm} {Ω : Om} {S : Gm → Om → Prop} {gs : TGs}
theorem wg_tupR {q : Rat} (h : WGs K gs [.d (.int q.num), .d (.int q.den)] Γ Ω S) : WG K (gTup K 2 gs) (.d (dR q)) Γ Ω S := wg_tup (xs := [.int q.num, .int q.den]) rfl h
theorem wg_tupB {b : Bl} (h : WGs K gs [.d (dR b.p), .d (dR b.s), .d (.int b.w)] Γ Ω S) : WG K (gTup K 3 gs) (.d (dB b)) Γ Ω S := wg_tup (xs := [dR b.p, dR b.s, .int b.w]) rfl h
end
theorem wu_revRow {K : KF} {Ω : Om} {R : DV → Om → Prop} {l : List Bl} (q : R (.d (dRow l.reverse)) Ω) : WU K (uRev K) (.d (dRow l)) Ω R :=
  wu_revT (xs := l.map dB) (by rw [← List.map_reverse]; exact q)
/-! ### things that may be none of these -/
/-- numbers not too great, no dicts, to a depth -/
def Fit : Nat → PyData → Prop
  | _, .int a => a.natAbs < 2 ^ 4000
  | n + 1, .tuple xs => ∀ x ∈ xs, Fit n x
  | _, x => known x = true
def isRatio : PyData → Bool
  | .tuple [.int a, .int b] => decide (0 < b) && decide (Int.gcd a b = 1)
  | _ => false
def ratOf : PyData → Rat
  | .tuple [.int a, .int b] => Rat.divInt a b
  | _ => 0
def isWall : PyData → Bool
  | .none => true
  | .tuple [x, y] => isRatio x && isRatio y
  | _ => false
def isBall : PyData → Bool
  | .tuple [x, y, .int w] => isRatio x && (isRatio y && (decide (1 ≤ w) && decide (w ≤ 1000)))
  | _ => false
def ballOf : PyData → Bl
  | .tuple [x, y, .int w] => ⟨ratOf x, ratOf y, w⟩
  | _ => ⟨0, 0, 0⟩
def withinS (p s q t : Rat) : Bool := decide (p = q ∧ s = t) || mayS p s q t
def lowOk : Wl → List Bl → Bool
  | some (p, s), c :: _ => withinS p s c.p c.s
  | _, _ => true
def highOk : Wl → List Bl → Bool
  | some (p, s), l => match l.getLast? with
    | some c => withinS c.p c.s p s
    | none => true
  | _, _ => true
def apart : Wl → Wl → Bool
  | some (p, _), some (q, _) => decide (p < q)
  | _, _ => true
def wallsGood : PyData → Bool
  | .tuple [x, y] => isWall x && (isWall y && (match x, y with
    | .tuple [p, _], .tuple [q, _] => decide (ratOf p < ratOf q)
    | _, _ => true))
  | _ => false
/-- a row, between walls, of balls -/
def isRow (a b : Wl) : PyData → Bool
  | .tuple xs => (decide (1 ≤ xs.length) && decide (xs.length ≤ 8)) && (xs.all isBall && (Nb mayB (xs.map ballOf) && (lowOk a (xs.map ballOf) && highOk b (xs.map ballOf))))
  | _ => false
def WSz (n : Nat) : Wl → Prop
  | some (p, s) => Sz n p ∧ Sz n s
  | none => True
theorem WSz.mono {n m : Nat} {w : Wl} (h : WSz n w) (l : n ≤ m) : WSz m w := by
  cases w with
  | none => trivial
  | some w => exact ⟨h.1.mono l, h.2.mono l⟩
theorem nat_pow_lt {a : Int} {k n : Nat} (h : a.natAbs < 2 ^ k) (l : k ≤ n) : a.natAbs < 2 ^ n := Nat.lt_of_lt_of_le h (Nat.pow_le_pow_right (by decide) l)
theorem cut_tail {α : Type} (xs : List α) : cutG xs (some 1) none = xs.tail := by
  cases xs with
  | nil => rfl
  | cons a l =>
    unfold cutG
    rw [show HT.sIx (a :: l).length 0 (some 1) = 1 from (HT.sIx_nat _ _ 1).trans (by simp)]
    show ((a :: l).drop 1).take ((a :: l).length - 1) = l
    simp
section
variable {K : KF} {W : WX} {Γ : Gm} {Ω : Om} {R : DV → Om → Prop} {X : Exc → Om → Prop} {S : Gm → Om → Prop} {gs : TGs}
theorem we_nought (q0 : He.tupB K "NOUGHT" [.int 0, .int 1] = true) (q : R (.d (dR 0)) Ω) : WE K W (tC (.ref (He.ga K "NOUGHT"))) Γ Ω R X := we_g (tup_dp q0 fun G => .cons (.int 0) (.cons (.int 1) .nil)) q
theorem cutG_map {α β : Type} (f : α → β) (l : List α) (lo hi : Option Int) : cutG (l.map f) lo hi = (cutG l lo hi).map f := by
  unfold cutG
  rw [List.length_map, List.map_take, List.map_drop]
theorem wsl_Row {l : List Bl} {lo hi : Option Int} (q : R (.d (dRow (cutG l lo hi))) Ω) : WSl K (rSlS K) (.d (dRow l)) lo hi Ω R :=
  wsl_T (xs := l.map dB) (by rw [cutG_map]; exact q)
theorem at_last {α : Type} {l : List α} {a : α} (h : l.getLast? = some a) : atI l (-1) = some a := by
  have h0 : l ≠ [] := fun e => by rw [e] at h; cases h
  have e : l = l.dropLast ++ [a] := (List.dropLast_concat_getLast h0).symm.trans (by rw [show l.getLast h0 = a from Option.some.inj ((List.getLast?_eq_getLast h0).symm.trans h)])
  rw [e]
  exact atI_last _ _
theorem wr_ixW0 {a b : Wl} (q : R (.d (dW a)) Ω) : WR K (rIx K) (.d (dWs a b)) (.d (.int 0)) Ω R := wr_ixT rfl q
theorem wr_ixW1 {a b : Wl} (q : R (.d (dW b)) Ω) : WR K (rIx K) (.d (dWs a b)) (.d (.int 1)) Ω R := wr_ixT rfl q
theorem plain_dW (w : Wl) : plainV (.d (dW w)) = true := by cases w <;> rfl
theorem isNo_dW (w : Wl) : isNo (.d (dW w)) = w.isNone := by cases w <;> rfl
theorem wr_isNW {w : Wl} (q : R (.d (.bool w.isNone)) Ω) : WR K oIsN (.d (dW w)) (.d .none) Ω R := wr_isN' (plain_dW w) (by rw [isNo_dW]; exact q)
theorem wr_notNW {w : Wl} (q : R (.d (.bool (!w.isNone))) Ω) : WR K oNotN (.d (dW w)) (.d .none) Ω R := wr_notN' (plain_dW w) (by rw [isNo_dW]; exact q)
theorem wg_tupW {a b : Wl} (h : WGs K gs [.d (dW a), .d (dW b)] Γ Ω S) : WG K (gTup K 2 gs) (.d (dWs a b)) Γ Ω S := wg_tup (xs := [dW a, dW b]) rfl h
theorem wr_ixw0 {p s : Rat} (q : R (.d (dR p)) Ω) : WR K (rIx K) (.d (dW (some (p, s)))) (.d (.int 0)) Ω R := wr_ixT rfl q
theorem wr_ixw1 {p s : Rat} (q : R (.d (dR s)) Ω) : WR K (rIx K) (.d (dW (some (p, s)))) (.d (.int 1)) Ω R := wr_ixT rfl q
theorem only2 {i j : Nat} : Only (gTup K 2 (gCons (gName i) (gCons (gName j) gNil))) [i, j] :=
  only_tup (onlys_cons mono_name (only_name (List.mem_cons_self ..)) (onlys_cons mono_name (only_name (List.mem_cons_of_mem _ (List.mem_cons_self ..))) onlys_nil))
theorem only3 {i j k : Nat} : Only (gTup K 3 (gCons (gName i) (gCons (gName j) (gCons (gName k) gNil)))) [i, j, k] :=
  only_tup (onlys_cons mono_name (only_name (List.mem_cons_self ..)) (onlys_cons mono_name (only_name (List.mem_cons_of_mem _ (List.mem_cons_self ..))) (onlys_cons mono_name (only_name (List.mem_cons_of_mem _ (List.mem_cons_of_mem _ (List.mem_cons_self ..)))) onlys_nil)))
end
section
variable {K : KF} {Γ : Gm} {Ω : Om} {S : Gm → Om → Prop} {gs : TGs}
theorem wg_tup2 {a b : PyData} (h : WGs K gs [.d a, .d b] Γ Ω S) : WG K (gTup K 2 gs) (.d (.tuple [a, b])) Γ Ω S := wg_tup rfl h
theorem wg_tup3 {a b c : PyData} (h : WGs K gs [.d a, .d b, .d c] Γ Ω S) : WG K (gTup K 3 gs) (.d (.tuple [a, b, c])) Γ Ω S := wg_tup rfl h
theorem wg_tup4 {a b c d : PyData} (h : WGs K gs [.d a, .d b, .d c, .d d] Γ Ω S) : WG K (gTup K 4 gs) (.d (.tuple [a, b, c, d])) Γ Ω S := wg_tup rfl h
end
/-! ### data that can be compared, and what comparing tells -/
def Shp (n : Nat) (d : PyData) : Prop := d.canLay0 = true ∧ d.depth ≤ n
theorem shaped_of {d : PyData} (h : Shp 64 d) : SeqAt.shaped d = true := Bool.and_eq_true_iff.mpr ⟨h.1, decide_eq_true h.2⟩
theorem Shp.mono {n m : Nat} {d : PyData} (h : Shp n d) (l : n ≤ m) : Shp m d := ⟨h.1, Nat.le_trans h.2 l⟩
theorem shp_int {n : Nat} {a : Int} : Shp n (.int a) := ⟨rfl, Nat.zero_le _⟩
theorem shp_none {n : Nat} : Shp n .none := ⟨rfl, Nat.zero_le _⟩
theorem shp_all {n : Nat} : ∀ {xs : List PyData}, (∀ x ∈ xs, Shp n x) → PyData.canLayAll0 xs = true ∧ PyData.depthAll xs ≤ n
  | [], _ => ⟨rfl, Nat.zero_le _⟩
  | x :: xs, h => by
    have h1 := h x (List.mem_cons_self ..)
    have h2 := shp_all (xs := xs) fun y hy => h y (List.mem_cons_of_mem _ hy)
    refine ⟨?_, ?_⟩
    · show (x.canLay0 && PyData.canLayAll0 xs) = true
      rw [h1.1, h2.1]; rfl
    · show max x.depth (PyData.depthAll xs) ≤ n
      have := h1.2
      have := h2.2
      omega
theorem shp_tup {n : Nat} {xs : List PyData} (h : ∀ x ∈ xs, Shp n x) : Shp (n + 1) (.tuple xs) := by
  obtain ⟨h1, h2⟩ := shp_all h
  exact ⟨h1, Nat.succ_le_succ h2⟩
theorem shp_list {n : Nat} {xs : List PyData} (h : ∀ x ∈ xs, Shp n x) : Shp (n + 1) (.list xs) := by
  obtain ⟨h1, h2⟩ := shp_all h
  exact ⟨h1, Nat.succ_le_succ h2⟩
theorem shp_nil {n : Nat} : ∀ x ∈ ([] : List PyData), Shp n x := fun _ h => by cases h
theorem shp_cons {n : Nat} {a : PyData} {l : List PyData} (h : Shp n a) (t : ∀ x ∈ l, Shp n x) : ∀ x ∈ a :: l, Shp n x := fun x hx => by
  rcases List.mem_cons.mp hx with rfl | hx
  · exact h
  · exact t x hx
theorem shp_map {α : Type} {n : Nat} {f : α → PyData} {l : List α} (h : ∀ a, Shp n (f a)) : ∀ x ∈ l.map f, Shp n x := fun x hx => by
  obtain ⟨a, _, rfl⟩ := List.mem_map.mp hx
  exact h a
theorem shp_dR {n : Nat} (q : Rat) : Shp (n + 1) (dR q) := shp_tup (shp_cons shp_int (shp_cons shp_int shp_nil))
/-- told apart by == as they are -/
def EqvI {α : Type} [DecidableEq α] (f : α → PyData) : Prop := ∀ a b, PyData.eqv (f a) (f b) = decide (a = b)
instance : DecidableEq Bl := fun a b => decidable_of_iff (a.p = b.p ∧ a.s = b.s ∧ a.w = b.w) ⟨fun h => by cases a; cases b; simp at h; simp [h], fun h => by subst h; exact ⟨rfl, rfl, rfl⟩⟩
section
variable {K : KF} {Ω : Om} {R : DV → Om → Prop}
end
section
variable {K : KF} {Ω : Om} {R : DV → Om → Prop} {α : Type} [DecidableEq α]
end
/-! ### framed: all speeds more by one -/
def addB (u : Rat) (b : Bl) : Bl := ⟨b.p, b.s + u, b.w⟩
def addW (u : Rat) : Wl → Wl
  | none => none
  | some (p, s) => some (p, s + u)
/-- a row and its walls -/
def dRW (x : List Bl × Wl × Wl) : PyData := .tuple [dRow x.1, dWs x.2.1 x.2.2]
section
variable {K : KF} {Γ : Gm} {Ω : Om} {R : DV → Om → Prop} {S : Gm → Om → Prop} {gs : TGs}
theorem wr_ixRW0 {x : List Bl × Wl × Wl} (q : R (.d (dRow x.1)) Ω) : WR K (rIx K) (.d (dRW x)) (.d (.int 0)) Ω R := wr_ixT rfl q
theorem wr_ixRW1 {x : List Bl × Wl × Wl} (q : R (.d (dWs x.2.1 x.2.2)) Ω) : WR K (rIx K) (.d (dRW x)) (.d (.int 1)) Ω R := wr_ixT rfl q
theorem wg_tupRW {x : List Bl × Wl × Wl} (h : WGs K gs [.d (dRow x.1), .d (dWs x.2.1 x.2.2)] Γ Ω S) : WG K (gTup K 2 gs) (.d (dRW x)) Γ Ω S := wg_tup (xs := [dRow x.1, dWs x.2.1 x.2.2]) rfl h
end
/-! ### what is no row, no walls; cuts at a place -/
def NotRow (y : PyData) : Prop := ∀ a b, isRow a b y = false
theorem cut_to {α : Type} {xs : List α} {j : Nat} (h : j ≤ xs.length) : cutG xs none (some (j : Int)) = xs.take j := by
  unfold cutG
  rw [HT.sIx_nat, Nat.min_eq_left h]
  rfl
section
variable {K : KF} {Ω : Om} {R : DV → Om → Prop}
end
/-- a list display, list(..) that is changed later -/
def tLstO (ta : TA) : TE := tLst ta
def rListO (K : KF) : List V → Hp → VK → Prop := rListQ K
section
variable {K : KF} {W : WX} {Γ : Gm} {Ω : Om} {R : DV → Om → Prop} {X : Exc → Om → Prop} {tl : TA}
theorem we_lstO' (h : WA K W tl Γ Ω (fun ds Ω1 => ds.length ≤ 100000 ∧ R (.o Ω1.length) (Ω1 ++ [.lst ds])) X) : WE K W (tLstO tl) Γ Ω R X := we_lstO h
theorem wc_listO'' {x : DV} {xs : List PyData} (hx : ls Ω x = some xs) (q : R (.o Ω.length) (Ω ++ [.lst (xs.map DV.d)])) : WC K (rListO K) [x] Ω R := wc_listO' hx q
theorem ex_len {ds : List DV} {B : Prop} (e : ds.length ≤ 100000) (h : B) : ds.length ≤ 100000 ∧ B := ⟨e, h⟩
end
theorem set_last {α : Type} (l : List α) (a b : α) : (l ++ [a]).set l.length b = l ++ [b] := by
  rw [List.set_append_right _ _ (Nat.le_refl _), Nat.sub_self]; rfl
theorem get_last {α : Type} (l : List α) (a : α) : (l ++ [a])[l.length]? = some a := by simp
theorem sq_last (Ω : Om) (ds : List DV) : sq (Ω ++ [.lst ds]) (.o Ω.length) = some ds := by
  show sqO (Ω ++ [OC.lst ds])[Ω.length]? = _
  rw [get_last]; rfl
theorem wm_appL {K : KF} {Ω : Om} {R : DV → Om → Prop} {ds : List DV} {y : DV} (hl : ds.length < 100000) (q : R (.d .none) (Ω ++ [.lst (ds ++ [y])])) : WM K rAppend (.o Ω.length) [y] (Ω ++ [.lst ds]) R :=
  wm_append (get_last Ω (.lst ds)) hl (by rw [set_last]; exact q)
section
variable {K : KF} {W : WX} {Γ : Gm} {Ω : Om} {X : Exc → Om → Prop} {Rc : List DV → (Om → Prop) → Om → Prop} {te : TE}
end
/-- of all items of a list -/
theorem all_nil {α : Type} {P : α → Prop} : ∀ x ∈ ([] : List α), P x := fun _ h => by cases h
theorem all_cons {α : Type} {P : α → Prop} {a : α} {l : List α} (h : P a) (t : ∀ x ∈ l, P x) : ∀ x ∈ a :: l, P x := fun x hx => by
  rcases List.mem_cons.mp hx with rfl | hx
  · exact h
  · exact t x hx
theorem all_app {α : Type} {P : α → Prop} {l r : List α} (h : ∀ x ∈ l, P x) (t : ∀ x ∈ r, P x) : ∀ x ∈ l ++ r, P x := fun x hx => by
  rcases List.mem_append.mp hx with hx | hx
  · exact h x hx
  · exact t x hx
theorem wsl_B {K : KF} {Ω : Om} {R : DV → Om → Prop} {b : Bl} {lo hi : Option Int} (q : R (.d (.tuple (cutG [dR b.p, dR b.s, .int b.w] lo hi))) Ω) : WSl K (rSlS K) (.d (dB b)) lo hi Ω R := wsl_T (xs := [dR b.p, dR b.s, .int b.w]) q
theorem cut_one {α : Type} (xs : List α) : cutG xs none (some 1) = xs.take 1 := by
  cases xs with
  | nil => rfl
  | cons a l => exact cut_to (j := 1) (by simp)
theorem we_varFL {K : KF} {W : WX} {Γ : Gm} {Ω : Om} {R : DV → Om → Prop} {X : Exc → Om → Prop} {i : Nat} {ds : List DV} {xs : List PyData} (h : Γ[i]? = some (some (.o Ω.length))) (hx : asDs ds = some xs) (q : R (.d (.list xs)) (Ω ++ [.gone])) : WE K W (tVar i) Γ (Ω ++ [.lst ds]) R X :=
  we_varF h (by rw [get_last]; exact hx) (by rw [set_last]; exact q)
/-! ### [x] * k; comprehensions that draw -/
section
variable {K : KF} {Ω : Om} {R : DV → Om → Prop}
theorem flat_one {α : Type} (n : Nat) (x : α) : (List.replicate n [x]).flatten = List.replicate n x := by
  induction n with
  | zero => rfl
  | succ n ih => rw [List.replicate_succ, List.replicate_succ, List.flatten_cons, ih]; rfl
end
section
variable {K : KF} {W : WX} {Γ : Gm} {Ω : Om} {R : DV → Om → Prop} {X : Exc → Om → Prop} {wi : TI} {g : TG} {te : TE} {vs : List Nat}
theorem we_lcK {k : Nat} (og : Only g vs) (hk : k < Ω.length) (h : WI K W wi Γ Ω (fun ys stay Ω1 => ∃ (p1 : OC) (Q : Nat → List PyData → Prop), Ω1 = Ω.set k p1 ∧ IsPool p1 ∧ ys.length ≤ 100000 ∧ (∀ p' ds, IsPool p' → stay (Ω.set k p' ++ [.lst ds])) ∧ Q 0 [] ∧
      (∀ i y acc p', ys[i]? = some y → IsPool p' → acc.length = i → Q i acc → WG K g y (wipeG Γ vs) (Ω.set k p' ++ [.lst (acc.map DV.d)]) (fun Γ2 Ω2 => Ω2 = Ω.set k p' ++ [.lst (acc.map DV.d)] ∧
        WE K (fun _ _ _ _ => False) te Γ2 (Ω.set k p' ++ [.lst (acc.map DV.d)]) (fun x Ω4 => ∃ y p'', x = .d y ∧ Ω4 = Ω.set k p'' ++ [.lst (acc.map DV.d)] ∧ IsPool p'' ∧ Q (i + 1) (acc ++ [y])) NoX)) ∧
      ∀ acc p', IsPool p' → acc.length = ys.length → Q ys.length acc → R (.d (.list acc)) (Ω.set k p')) X) : WE K W (tLc wi g tYes te vs) Γ Ω R X := by
  refine we_frz (we_lc og fun m G H σ R' c s x kk => h m G H σ R' c s x fun m1 G1 Ω1 H1 J ys stay c1 n1 l1 it ⟨p1, Q, e1, ip1, hl, st, q0, step, fin⟩ => ?_)
  subst e1
  have hlen : ∀ p : OC, (Ω.set k p).length = Ω.length := fun p => List.length_set
  refine kk m1 G1 _ H1 J ys stay c1 n1 l1 it ⟨fun i acc Ω' => ∃ xs p', acc = xs.map DV.d ∧ Ω' = Ω.set k p' ++ [.lst acc] ∧ IsPool p' ∧ xs.length = i ∧ Q i xs, ⟨[], p1, rfl, rfl, ip1, rfl, q0⟩, ?_, ?_, ?_⟩
  · rintro i acc Ω' - ⟨xs, p', rfl, rfl, ip, -, -⟩
    exact ⟨st _ _ ip, by simp [hlen]⟩
  · rintro i y acc Ω' hy ⟨xs, p', rfl, rfl, ip, hi, hq⟩
    have hi2 := lt_of_get hy
    intro m2 G2 H2 σ2 v Q2 c2 s2 r2 k2
    refine step i y xs p' hy ip hi hq m2 G2 H2 σ2 v Q2 c2 s2 r2 fun m3 G3 Ω3 H3 Γ3 σ3 c3 n3 l3 s3 ⟨eo, hw⟩ => k2 m3 G3 Ω3 H3 Γ3 σ3 c3 n3 l3 s3 ?_
    subst eo
    refine wt_yes ⟨fun _ => ?_, fun e => by cases e⟩
    intro m6 G6 H6 σ6 Q6 c6 s6 k6 x6
    refine hw m6 G6 H6 σ6 Q6 c6 s6 (fun m7 G7 Ω7 H7 d v c7 n7 l7 r7 ⟨z, p'', ex, eo7, ip'', hq'⟩ => k6 m7 G7 Ω7 H7 d v c7 n7 l7 r7 ?_) x6
    subst ex eo7
    rw [hlen]
    refine ⟨by rw [← hlen p'', get_last], by rw [List.length_map]; omega, xs ++ [z], p'', by simp, ?_, ip'', by simp [hi], hq'⟩
    rw [← hlen p'', set_last]
  · rintro acc Ω' ⟨xs, p', rfl, rfl, ip, hi, hq⟩
    rw [hlen]
    refine ⟨Ω.length, xs.map DV.d, xs, rfl, by rw [← hlen p', get_last], asDs_data _, ⟨Nat.le_refl _, by simp, fun j c hj e => ?_⟩, ?_⟩
    · rw [List.getElem?_append_left (by rw [hlen]; exact hj), List.getElem?_set] at e
      by_cases ek : k = j
      · rw [if_pos ek, if_pos (by omega)] at e
        cases e
        exact .inr (flat_ids ip.flat)
      · rw [if_neg ek] at e
        exact .inl e
    · rw [← hlen p', take_app]
      exact fin xs p' ip hi hq
end
/-! ### branches that join: the item's row --JOIN makes the walk stop ahead of each `if` with something behind -/
def tSeqI (a b : TS) : TS := tSeq a b
section
variable {K : KF} {W : WX} {Γ : Gm} {Ω : Om} {O : Outs} {ts tt t1 t2 : TS}
theorem ws_mono {O' : Outs} (h : WS K W ts Γ Ω O') (nx : ∀ Γ1 Ω1, O'.nx Γ1 Ω1 → O.nx Γ1 Ω1) (e1 : O'.rt = O.rt) (e2 : O'.bk = O.bk) (e3 : O'.ct = O.ct) (e4 : O'.er = O.er) : WS K W ts Γ Ω O := fun m G H σ D c s k1 k2 k3 k4 z =>
  h m G H σ D c s (fun m1 G1 Ω1 H1 Γ1 σ1 c1 n1 l1 s1 hM => k1 m1 G1 Ω1 H1 Γ1 σ1 c1 n1 l1 s1 (nx _ _ hM)) (by rw [e1]; exact k2) (by rw [e2]; exact k3) (by rw [e3]; exact k4) (by rw [e4]; exact z)
theorem ws_cut (M : Gm → Om → Prop) (h2 : ∀ Γ1 Ω1, M Γ1 Ω1 → WS K W tt Γ1 Ω1 O) (h1 : WS K W ts Γ Ω { nx := M, rt := O.rt, bk := O.bk, ct := O.ct, er := O.er }) : WS K W (tSeqI ts tt) Γ Ω O :=
  ws_seq (ws_mono h1 h2 rfl rfl rfl rfl)
theorem ws_go (h : WS K W (tSeq ts tt) Γ Ω O) : WS K W (tSeqI ts tt) Γ Ω O := h
end
/-! ### isinstance of a caught error, a tuple of classes -/
def rIsET (K : KF) (cls : Value) (dd : Option Addr) (a : Addr) : List V → Hp → VK → Prop := fun xs H Q => ∃ D, cls = .ref D ∧ dd = none ∧ ExcC K D ∧ ∃ (tp : Addr) (cs : List V) (us : List Value) (b : Bool), xs = [.ref a, .ref tp] ∧ H tp = some (.tup cs) ∧ Paired ClsV cs us ∧ PySem.W.kitAny K (.ref D) us = some b ∧ Q (.bl b) H
def tCs : List V → TA
  | [] => tNil
  | v :: vs => tCons (tC v) (tCs vs)
def tIsET (K : KF) (cls : Value) (dd : Option Addr) (a : Addr) (te : TE) (cs : List Addr) : TE := tCB (rIsET K cls dd a) (tCons te (tCons (tTup (tCs (cs.map V.ref))) tNil))
theorem cut2' {α : Type} {a b : α} {r : List α} : cutG (a :: b :: r) none (some 2) = [a, b] := by
  unfold cutG
  rw [show HT.sIx (a :: b :: r).length (a :: b :: r).length (some 2) = 2 from (HT.sIx_nat _ _ 2).trans (by simp)]
  rfl
/-! ### walls at the end balls -/
/-! ### insert, extend on own lists -/
def rInsertS : V → List V → Hp → VK → Prop := fun x vs H Q =>
  ∃ (l : Addr) (xs : List V) (i : Int) (y : V), x = .ref l ∧ vs = [.int i, y] ∧ H l = some (.lst xs) ∧
    xs.length < sizeLine ∧ 0 ≤ i ∧ i < 2 ^ 63 ∧ Q .non (upd H l (.lst (xs.take i.toNat ++ [y] ++ xs.drop i.toNat)))
section
variable {K : KF} {W : WX} {Γ : Gm} {Ω : Om} {R : DV → Om → Prop} {X : Exc → Om → Prop} {wi : TI} {g : TG} {tt : TT} {te : TE} {vs : List Nat}
/-- [F(a) for a in ..if p(a)], a list that is changed later -/
theorem we_lcO {α : Type} (og : Only g vs) (h : WI K W wi Γ Ω (fun ys stay Ω1 => ∃ (l : List α) (f : α → DV) (p : α → Bool) (F : α → PyData), ys = l.map f ∧ l.length ≤ 100000 ∧ Ω1 = Ω ∧ (∀ ds, stay (Ω ++ [.lst ds])) ∧
      (∀ a Ω', a ∈ l → (∃ ds, Ω' = Ω ++ [.lst ds]) → WG K g (f a) (wipeG Γ vs) Ω' (fun Γ2 Ω2 => WT K (fun _ _ _ _ => False) tt Γ2 Ω2 (fun b Ω3 => b = p a ∧ Ω3 = Ω' ∧ (b = true → WE K (fun _ _ _ _ => False) te Γ2 Ω' (fun x Ω4 => x = .d (F a) ∧ Ω4 = Ω') NoX)) NoX)) ∧
      R (.o Ω.length) (Ω ++ [.lst (((l.filter p).map F).map DV.d)])) X) : WE K W (tLc wi g tt te vs) Γ Ω R X := by
  refine (we_lc og fun m G H σ R' c s x k => h m G H σ R' c s x fun m1 G1 Ω1 H1 J ys stay c1 n1 l1 it ⟨l, f, p, F, e1, hl, e2, st, el, q⟩ => ?_)
  subst e1 e2
  have ln : ∀ i, ((((l.take i).filter p).map F).length ≤ i) := fun i => by
    rw [List.length_map]
    refine Nat.le_trans (List.length_filter_le _ _) ?_
    rw [List.length_take]; omega
  refine k m1 G1 Ω1 H1 J _ stay c1 n1 l1 it ⟨fun i acc Ω' => acc = (((l.take i).filter p).map F).map DV.d ∧ Ω' = Ω1 ++ [.lst acc], ⟨rfl, rfl⟩, fun i acc Ω' hi hp => ?_, fun i y acc Ω' hy hp => ?_, fun acc Ω' hp => ?_⟩
  · obtain ⟨rfl, rfl⟩ := hp
    exact ⟨st _, by simp⟩
  · obtain ⟨ha, rfl⟩ := hp
    rw [List.getElem?_map] at hy
    cases ea : l[i]? with
    | none => rw [ea] at hy; cases hy
    | some a =>
      rw [ea] at hy
      cases hy
      have hi := lt_of_get ea
      have em : a ∈ l := List.mem_iff_getElem?.mpr ⟨i, ea⟩
      have et : l.take (i + 1) = l.take i ++ [a] := by rw [List.take_add_one, ea]; rfl
      intro m2 G2 H2 σ2 v Q2 c2 s2 r2 k2
      refine el a _ em ⟨acc, rfl⟩ m2 G2 H2 σ2 v Q2 c2 s2 r2 fun m3 G3 Ω3 H3 Γ3 σ3 c3 n3 l3 s3 h3 => k2 m3 G3 Ω3 H3 Γ3 σ3 c3 n3 l3 s3 fun m4 G4 H4 σ4 Q4 c4 s4 k4 x4 => ?_
      refine h3 m4 G4 H4 σ4 Q4 c4 s4 (fun m5 G5 Ω5 H5 b c5 n5 l5 ⟨eb, eo, hb⟩ => k4 m5 G5 Ω5 H5 b c5 n5 l5 ⟨fun hbt => ?_, fun hbf => ?_⟩) x4
      · subst eo
        intro m6 G6 H6 σ6 Q6 c6 s6 k6 x6
        refine hb hbt m6 G6 H6 σ6 Q6 c6 s6 (fun m7 G7 Ω7 H7 d v c7 n7 l7 r7 ⟨ex, eo7⟩ => k6 m7 G7 Ω7 H7 d v c7 n7 l7 r7 ?_) x6
        subst eo7 ex
        refine ⟨by simp, ?_, ?_, ?_⟩
        · rw [ha, List.length_map]
          have := ln i
          omega
        · rw [ha, et, List.filter_append, List.filter_cons, if_pos (by rw [← eb]; exact hbt)]
          simp
        · simp
      · subst eo
        refine ⟨?_, rfl⟩
        rw [ha, et, List.filter_append, List.filter_cons, if_neg (by rw [← eb, hbf]; exact Bool.false_ne_true)]
        simp
  · obtain ⟨ha, rfl⟩ := hp
    rw [List.length_map, List.take_length] at ha
    rw [ha]
    exact q
end
/-! ### broad balls -/
structure Bb where
  p : Rat
  s : Rat
  w : Int
  d : Rat
deriving DecidableEq
def dBb (b : Bb) : PyData := .tuple [dR b.p, dR b.s, .int b.w, dR b.d]
def dBroad (l : List Bb) : PyData := .tuple (l.map dBb)
def thickF : Rat → List Bl → List Rat → List Bb
  | a, b :: l, w :: ws => ⟨b.p + a, b.s, b.w, w⟩ :: thickF (a + w) l ws
  | _, _, _ => []
def thinF : Rat → List Bb → List Bl
  | a, b :: l => ⟨b.p - a, b.s, b.w⟩ :: thinF (a + b.d) l
  | _, [] => []
section
variable {K : KF} {W : WX} {Γ : Gm} {Ω : Om} {R : DV → Om → Prop} {S : Gm → Om → Prop} {gs : TGs}
theorem wr_ixD0 {b : Bb} (q : R (.d (dR b.p)) Ω) : WR K (rIx K) (.d (dBb b)) (.d (.int 0)) Ω R := wr_ixT rfl q
theorem wr_ixD1 {b : Bb} (q : R (.d (dR b.s)) Ω) : WR K (rIx K) (.d (dBb b)) (.d (.int 1)) Ω R := wr_ixT rfl q
theorem wr_ixD2 {b : Bb} (q : R (.d (.int b.w)) Ω) : WR K (rIx K) (.d (dBb b)) (.d (.int 2)) Ω R := wr_ixT rfl q
theorem wr_ixD3 {b : Bb} (q : R (.d (dR b.d)) Ω) : WR K (rIx K) (.d (dBb b)) (.d (.int 3)) Ω R := wr_ixT rfl q
theorem wg_tupD {b : Bb} (h : WGs K gs [.d (dR b.p), .d (dR b.s), .d (.int b.w), .d (dR b.d)] Γ Ω S) : WG K (gTup K 4 gs) (.d (dBb b)) Γ Ω S := wg_tup (xs := [dR b.p, dR b.s, .int b.w, dR b.d]) rfl h
end
def brdB : PyData → Bool
  | .tuple [p, _, _, d] => isRatio p && isRatio d
  | _ => false
def widB : PyData → Bool
  | .tuple [_, _, _, .tuple [.int a, _]] => decide (0 ≤ a)
  | _ => false
def areBroad : PyData → Bool
  | .tuple xs => (decide (1 ≤ xs.length) && decide (xs.length ≤ 8)) && (xs.all brdB && xs.all widB)
  | _ => false
/-! ### is True, is False -/
def rIsBl : R2 := fun x y H Q => ∃ a b : Bool, x = .bl a ∧ y = .bl b ∧
  Q (.bl (decide (a = b))) H
def rIsnBl : R2 := fun x y H Q => ∃ a b : Bool, x = .bl a ∧ y = .bl b ∧
  Q (.bl (!decide (a = b))) H
theorem wr_isB {K : KF} {Ω : Om} {R : DV → Om → Prop} {a b : Bool} (q : R (.d (.bool (decide (a = b)))) Ω) : WR K rIsBl (.d (.bool a)) (.d (.bool b)) Ω R := fun m G H v w Q c r1 r2 k => by
  cases r1
  cases r2
  exact ⟨a, b, rfl, rfl, k _ _ _ _ (.d (.bool (decide (a = b)))) _ c (Nxt.refl ..) (Nat.le_refl _) (Dp.bl _) q⟩
theorem wr_isnB {K : KF} {Ω : Om} {R : DV → Om → Prop} {a b : Bool} (q : R (.d (.bool (!decide (a = b)))) Ω) : WR K rIsnBl (.d (.bool a)) (.d (.bool b)) Ω R := fun m G H v w Q c r1 r2 k => by
  cases r1
  cases r2
  exact ⟨a, b, rfl, rfl, k _ _ _ _ (.d (.bool (!decide (a = b)))) _ c (Nxt.refl ..) (Nat.le_refl _) (Dp.bl _) q⟩
/-! ### x in a list, a tuple -/
def rInA (K : KF) (neg : Bool) : R2 := fun x y H Q => ∃ (d : PyData) (ds : List PyData), Dp K H x d ∧ (Dp K H y (.list ds) ∨ Dp K H y (.tuple ds)) ∧
  Shp 63 d ∧ SeqAt.shaped (.list ds) = true ∧ Q (.bl (neg != ds.any fun z => PyData.eqv z d)) H
theorem in_room {u : Nat} {ds : List PyData} {d : PyData} (h : Shp 63 d) (hu : u + 64 < cLine) : u + 1 + min (PyData.depthAll ds) d.depth < cLine := by
  have := h.2
  have := Nat.min_le_right (PyData.depthAll ds) d.depth
  omega
theorem op_inA {X : Cx} (hu : X.A.units + 64 < cLine) : OpR X (compareOp .In) (rInA X.K false) := by
  intro pins s σ H x y v u Q I rx ry ⟨d, ds, hd, he, sd, se, q⟩
  rw [Bool.false_bne] at q
  obtain ⟨as, r1⟩ := Dp.reads I d x v hd rx
  rcases he with he | he
  · obtain ⟨bs, r2⟩ := Dp.reads I (.list ds) y u he ry
    exact SeqAt.in_list_reads r2 r1 (SeqAt.canLay_of_shaped se) sd.1 (in_room sd hu) ⟨.bl _, H, I, rfl, q⟩
  · obtain ⟨bs, r2⟩ := Dp.reads I (.tuple ds) y u he ry
    exact SeqAt.in_tuple_reads r2 r1 (SeqAt.canLay_of_shaped se) sd.1 (in_room sd hu) ⟨.bl _, H, I, rfl, q⟩
theorem op_niA {X : Cx} (hu : X.A.units + 64 < cLine) : OpR X (compareOp .NotIn) (rInA X.K true) := by
  intro pins s σ H x y v u Q I rx ry ⟨d, ds, hd, he, sd, se, q⟩
  rw [Bool.true_bne] at q
  obtain ⟨as, r1⟩ := Dp.reads I d x v hd rx
  rcases he with he | he
  · obtain ⟨bs, r2⟩ := Dp.reads I (.list ds) y u he ry
    exact SeqAt.notIn_list_reads r2 r1 (SeqAt.canLay_of_shaped se) sd.1 (in_room sd hu) ⟨.bl _, H, I, rfl, q⟩
  · obtain ⟨bs, r2⟩ := Dp.reads I (.tuple ds) y u he ry
    exact SeqAt.notIn_tuple_reads r2 r1 (SeqAt.canLay_of_shaped se) sd.1 (in_room sd hu) ⟨.bl _, H, I, rfl, q⟩
section
variable {K : KF} {W : WX} {Γ : Gm} {Ω : Om} {R : DV → Om → Prop} {X : Exc → Om → Prop} {Rc : List DV → (Om → Prop) → Om → Prop} {te : TE}
theorem wr_in {neg : Bool} {x y : DV} {a : PyData} {bs : List PyData} (hx : vw Ω x = some a) (hy : vw Ω y = some (.list bs) ∨ vw Ω y = some (.tuple bs)) (sa : Shp 63 a) (sb : SeqAt.shaped (.list bs) = true)
    (q : R (.d (.bool (neg != bs.any fun z => PyData.eqv z a))) Ω) : WR K (rInA K neg) x y Ω R := fun m G H v w Q c r1 r2 k =>
  ⟨a, bs, vw_dp c r1 hx, hy.imp (fun h => vw_dp c r2 h) (fun h => vw_dp c r2 h), sa, sb, k _ _ _ _ (.d (.bool _)) _ c (Nxt.refl ..) (Nat.le_refl _) (Dp.bl _) q⟩
theorem any_int (a : Int) : ∀ ns : List Int, ((ns.map PyData.int).any fun z => PyData.eqv z (.int a)) = decide (a ∈ ns)
  | [] => by simp
  | n :: ns => by
    rw [List.map_cons, List.any_cons, any_int a ns, eqv_int]
    by_cases h : n = a
    · subst h; simp
    · have : ¬ a = n := fun e => h e.symm
      simp [h, this]
theorem wr_inI {neg : Bool} {a : Int} (ns : List Int) {xs : List PyData} (e : xs = ns.map PyData.int) (q : R (.d (.bool (neg != decide (a ∈ ns)))) Ω) : WR K (rInA K neg) (.d (.int a)) (.d (.tuple xs)) Ω R := by
  subst e
  exact wr_in rfl (.inr rfl) shp_int (shaped_of ((shp_list (n := 0) (shp_map (f := PyData.int) fun _ => shp_int)).mono (by decide))) (by rw [any_int]; exact q)
/-- a list or a tuple walked -/
theorem wi_LT {α : Type} (F : α → PyData) (l : List α) (h : WE K W te Γ Ω (fun d Ω1 => (d = .d (.list (l.map F)) ∨ d = .d (.tuple (l.map F))) ∧ Rc (l.map fun a => .d (F a)) (fun _ => True) Ω1) X) : WI K W (iSeq K te) Γ Ω Rc X := fun m G H σ R c s x k =>
  h m G H σ _ c s (fun m1 G1 Ω1 H1 d v c1 n1 l1 r1 ⟨e, q⟩ => by
    have e2 : (l.map fun a => DV.d (F a)) = (l.map F).map DV.d := by rw [List.map_map]; rfl
    rw [e2] at q
    rcases e with rfl | rfl
    · obtain ⟨a, vs, rfl, hs, rp⟩ := sqLs_get c1 r1 rfl
      exact ⟨a, rfl, .inl ⟨⟨vs, hs⟩, k m1 G1 Ω1 H1 _ _ (fun _ => True) c1 n1 l1 (fun m' G' Ω' H' c' n' l' _ i => itok_list r1 m' G' Ω' H' c' n' l' rfl i) q⟩⟩
    · obtain ⟨a, vs, rfl, hs, rp⟩ := lsT_get c1 r1 rfl
      exact ⟨a, rfl, .inr ⟨⟨vs, ex_t c1.ex hs⟩, k m1 G1 Ω1 H1 _ _ _ c1 n1 l1 (itok_tup r1) q⟩⟩) x
end
/-! ### sightings -/
structure Sg where
  i : Int
  j : Int
  v : Rat
  w : Rat
  a : Rat
  b : Rat
deriving DecidableEq
def dSg (x : Sg) : PyData := .tuple [.int x.i, .int x.j, dR x.v, dR x.w, dR x.a, dR x.b]
def Sg.lost (x : Sg) : Rat := x.v - x.a
def Sg.won (x : Sg) : Rat := x.b - x.w
def Sg.reb (x : Sg) : Bool := !decide (x.v = x.w) && decide (x.b - x.a = x.v - x.w)
def Sg.share (x : Sg) : Option Rat := if x.reb = true ∧ 0 < x.lost / x.won then some (x.lost / x.won) else none
structure SgOk (n : Nat) (x : Sg) : Prop where
  i0 : 0 ≤ x.i ∧ x.i ≤ 1000
  j0 : 0 ≤ x.j ∧ x.j ≤ 1000
  v : Sz 300 x.v
  w : Sz 300 x.w
  a : Sz 600 x.a
  b : Sz 600 x.b
  lost : Sz n x.lost
  won : Sz n x.won
def mkMeet (i j m n : Int) (v w : Rat) : Sg := ⟨i, j, v, w, v - (v - w) * Rat.divInt (2 * n) (m + n), w + (v - w) * Rat.divInt (2 * m) (m + n)⟩
def dO : Option Rat → PyData
  | none => .none
  | some q => dR q
section
variable {K : KF} {W : WX} {Γ : Gm} {Ω : Om} {R : DV → Om → Prop} {S : Gm → Om → Prop} {gs : TGs}
theorem wg_tupS {x : Sg} (h : WGs K gs [.d (.int x.i), .d (.int x.j), .d (dR x.v), .d (dR x.w), .d (dR x.a), .d (dR x.b)] Γ Ω S) : WG K (gTup K 6 gs) (.d (dSg x)) Γ Ω S := wg_tup (xs := [.int x.i, .int x.j, dR x.v, dR x.w, dR x.a, dR x.b]) rfl h
theorem wr_ixS0 {x : Sg} (q : R (.d (.int x.i)) Ω) : WR K (rIx K) (.d (dSg x)) (.d (.int 0)) Ω R := wr_ixT rfl q
theorem wr_ixS1 {x : Sg} (q : R (.d (.int x.j)) Ω) : WR K (rIx K) (.d (dSg x)) (.d (.int 1)) Ω R := wr_ixT rfl q
theorem isNo_dO (w : Option Rat) : isNo (.d (dO w)) = w.isNone := by cases w <;> rfl
theorem plain_dO (w : Option Rat) : plainV (.d (dO w)) = true := by cases w <;> rfl
theorem wr_isNO {w : Option Rat} (q : R (.d (.bool w.isNone)) Ω) : WR K oIsN (.d (dO w)) (.d .none) Ω R := wr_isN' (plain_dO w) (by rw [isNo_dO]; exact q)
theorem wr_notNO {w : Option Rat} (q : R (.d (.bool (!w.isNone))) Ω) : WR K oNotN (.d (dO w)) (.d .none) Ω R := wr_notN' (plain_dO w) (by rw [isNo_dO]; exact q)
theorem we_one (q0 : He.tupB K "ONE" [.int 1, .int 1] = true) {X : Exc → Om → Prop} (q : R (.d (dR 1)) Ω) : WE K W (tC (.ref (He.ga K "ONE"))) Γ Ω R X := we_g (tup_dp q0 fun G => .cons (.int 1) (.cons (.int 1) .nil)) q
end
/-! ### rings of sightings -/
def dPr (x : Int × Int) : PyData := .tuple [.int x.1, .int x.2]
abbrev St3 := Int × Int × Rat
def dSt : Option St3 → PyData
  | none => .none
  | some (i, j, q) => .tuple [.int i, .int j, dR q]
def stepF (xs : List Sg) (p : Int × Int) : Option St3 :=
  if 0 ≤ p.1 ∧ p.1 < xs.length ∧ (p.2 = 0 ∨ p.2 = 1) then
    match xs[p.1.toNat]? with
    | none => none
    | some x => match x.share with
      | none => none
      | some q => if p.2 = 0 then some (x.i, x.j, q) else some (x.j, x.i, 1 / q)
  else none
def prodF (l : List St3) : Rat := l.foldl (fun q s => q * s.2.2) 1
def d3 : St3 := (0, 0, 0)
def closes (l : List St3) : Bool := (List.range l.length).all fun at_ => decide ((l.getD (if at_ = 0 then l.length - 1 else at_ - 1) d3).2.1 = (l.getD at_ d3).1)
def ringB (xs : List Sg) (ring : List (Int × Int)) : Bool :=
  if ring = [] ∨ (ring.any fun p => (stepF xs p).isNone) = true then false else closes (ring.filterMap (stepF xs)) && !decide (prodF (ring.filterMap (stepF xs)) = 1)
theorem prodF_snoc (l : List St3) (s : St3) : prodF (l ++ [s]) = prodF l * s.2.2 := by unfold prodF; rw [List.foldl_append]; rfl
theorem shp_dPr {n : Nat} (x : Int × Int) : Shp (n + 1) (dPr x) := shp_tup (shp_cons shp_int (shp_cons shp_int shp_nil))
theorem shp_dSt {n : Nat} (x : Option St3) : Shp (n + 2) (dSt x) := by
  cases x with
  | none => exact shp_none
  | some x => exact shp_tup (shp_cons shp_int (shp_cons shp_int (shp_cons (shp_dR _) shp_nil)))
theorem steps_some {xs : List Sg} : ∀ {ring : List (Int × Int)}, (ring.any fun p => (stepF xs p).isNone) = false → ring.map (stepF xs) = (ring.filterMap (stepF xs)).map some
  | [], _ => rfl
  | p :: ring, h => by
    obtain ⟨h1, h2⟩ := Bool.or_eq_false_iff.mp (show ((stepF xs p).isNone || ring.any fun p => (stepF xs p).isNone) = false from h)
    cases e : stepF xs p with
    | none => rw [e] at h1; cases h1
    | some s => rw [List.map_cons, List.filterMap_cons, e, List.map_cons, steps_some h2]
theorem share_sz {n : Nat} {x : Sg} {q : Rat} (ok : SgOk n x) (hn : 1 ≤ n) (h : x.share = some q) : Sz (n + n) q ∧ 0 < q := by
  unfold Sg.share at h
  split at h
  · rename_i z
    cases h
    exact ⟨ok.lost.div ok.won (by omega), z.2⟩
  · cases h
theorem inv_sz {n : Nat} {q : Rat} (h : Sz n q) (h0 : 0 < q) (hn : 0 < n) : Sz (n + 1) (1 / q) ∧ 0 < 1 / q := by
  have z1 : Sz 1 (1 : Rat) := ⟨by decide, by decide⟩
  refine ⟨(z1.div h hn).mono (by omega), ?_⟩
  rw [Rat.div_def, Rat.one_mul]
  exact Rat.inv_pos.mpr h0
theorem step_ok {xs : List Sg} {n : Nat} (ok : ∀ x ∈ xs, SgOk n x) (hn : 1 ≤ n) {p : Int × Int} {s : St3} (h : stepF xs p = some s) : Sz (n + n + 1) s.2.2 ∧ 0 < s.2.2 := by
  unfold stepF at h
  split at h
  · cases e : xs[p.1.toNat]? with
    | none => rw [e] at h; cases h
    | some x =>
      rw [e] at h
      cases e2 : x.share with
      | none => simp only [e2] at h; cases h
      | some q =>
        simp only [e2] at h
        obtain ⟨h1, h2⟩ := share_sz (ok x (List.mem_of_getElem? e)) hn e2
        split at h
        · cases h; exact ⟨h1.mono (by omega), h2⟩
        · cases h; exact inv_sz h1 h2 (by omega)
  · cases h
--TAC
local macro_rules | `(tactic| walk_at "hl1") => `(tactic| first
  | with_reducible refine wu_revT ?_
  | with_reducible refine wr_ixB0 ?_
  | with_reducible refine wg_tupS ?_
  | with_reducible refine wr_ixS0 ?_
  | with_reducible refine wr_ixS1 ?_
  | with_reducible refine wr_isNO ?_
  | with_reducible refine wr_notNO ?_
  | ((with_reducible refine' we_one ?h1 ?_); (case h1 => assumption))
  | with_reducible refine wr_isB ?_
  | with_reducible refine wr_isnB ?_
  | with_reducible refine wr_ixD0 ?_
  | with_reducible refine wr_ixD1 ?_
  | with_reducible refine wr_ixD2 ?_
  | with_reducible refine wr_ixD3 ?_
  | with_reducible refine wg_tupD ?_
  | with_reducible refine we_lstO' ?_
  | with_reducible refine wsl_B ?_
  | ((with_reducible refine' wc_listD' ?h1 ?_); (case h1 => rfl))
  | ((with_reducible refine' ex_len ?h1 ?_); (case h1 => exact Nat.le_of_ble_eq_true rfl))
  | with_reducible refine wr_ixRW0 ?_
  | with_reducible refine wr_ixRW1 ?_
  | with_reducible refine wg_tupRW ?_
  | with_reducible refine wg_tup2 ?_
  | with_reducible refine wg_tup3 ?_
  | with_reducible refine wg_tup4 ?_
  | ((with_reducible refine' we_nought ?h1 ?_); (case h1 => assumption))
  | with_reducible refine wsl_Row ?_
  | with_reducible refine wr_ixW0 ?_
  | with_reducible refine wr_ixW1 ?_
  | with_reducible refine wr_isNW ?_
  | with_reducible refine wr_notNW ?_
  | with_reducible refine wg_tupW ?_
  | with_reducible refine wr_ixw0 ?_
  | with_reducible refine wr_ixw1 ?_
  | with_reducible refine wu_revRow ?_
  | with_reducible refine wg_tupR ?_
  | with_reducible refine wg_tupB ?_
  | with_reducible refine wr_ixB1 ?_
  | with_reducible refine wr_ixB2 ?_
  | with_reducible refine we_un ?_)
--END TAC
end HL
namespace HL
open PySem PySem.Spec PyProof.Rows L2 Evl RZ
/-! # numbers of three weights -/
abbrev W3 := Option Int × Int × Option Int
def dI : Option Int → PyData
  | none => .none
  | some i => .int i
def dW3 (w : W3) : PyData := .tuple [dI w.1, .int w.2.1, dI w.2.2]
def facN : W3 → Int
  | (none, _, some c) => 4 * c
  | (some a, _, none) => 4 * a
  | (some a, _, some c) => 4 * a * c
  | _ => 0
def facD : W3 → Int
  | (none, m, some c) => m + c
  | (some a, m, none) => a + m
  | (some a, m, some c) => (a + m) * (m + c)
  | _ => 1
def fac (w : W3) : Rat := Rat.divInt (facN w) (facD w)
structure W3Ok (w : W3) : Prop where
  m : 1 ≤ w.2.1 ∧ w.2.1 ≤ 1000
  a : ∀ x, w.1 = some x → 1 ≤ x ∧ x ≤ 1000 ∧ x ≤ 31 * w.2.1
  c : ∀ x, w.2.2 = some x → 1 ≤ x ∧ x ≤ 1000 ∧ x ≤ 31 * w.2.1
  one : w.1 ≠ none ∨ w.2.2 ≠ none
structure FacOk (N D : Int) : Prop where
  d0 : 0 < D
  n0 : 0 < N
  d1 : D < 2 ^ 22
  n1 : N < 2 ^ 22
  gap : 8 * N ≤ 31 * D
/-- the numbers -/
def xs3 (f : Rat) : Nat → Rat
  | 0 => 1
  | 1 => 1
  | k + 2 => (if k % 2 = 0 then f else 1) * xs3 f (k + 1) - xs3 f k
def ys3 (f : Rat) (n : Nat) : Rat := xs3 f (2 * n + 1)
def ds3 (f : Rat) (n : Nat) : Rat := ys3 f (n + 1) - ys3 f n
/-- the place of the last number -/
def stopK (f : Rat) : Nat := ((List.range 60).find? fun k => decide (1 ≤ k) && decide (xs3 f k ≤ 0)).getD 0
def numsL (f : Rat) : List Rat := (List.range (stopK f + 1)).map (xs3 f)
/-! ### pop at a place -/
theorem wm_popAt {K : KF} {Ω : Om} {R : DV → Om → Prop} {i k : Nat} {j : Int} {y : DV} {ds : List DV} (hx : Ω[i]? = some (.lst ds)) (h0 : -(2 ^ 63) ≤ j) (h1 : j < 2 ^ 63) (hk : ixN ds.length j = some k) (hy : ds[k]? = some y) (q : R y (Ω.set i (.lst (ds.eraseIdx k)))) : WM K rPopAt (.o i) [.d (.int j)] Ω R := fun m G H v vs Q c r1 r2 kk => by
  obtain ⟨hi, rfl⟩ := r1
  cases r2 with
  | cons rj rn =>
    cases rj
    cases rn
    obtain ⟨q1, ws, hw, rp⟩ := c.fr i _ hx (by intro z; cases z)
    have e := Paired.length rp
    obtain ⟨u, hu, ru⟩ := atI_pair (i := j) (x := y) rp (by show (ixN ds.length j).bind _ = _; rw [hk]; exact hy)
    rw [e] at hk
    have hu : ws[k]? = some u := by
      have : (ixN ws.length j).bind (fun z => ws[z]?) = some u := hu
      rw [hk] at this
      exact this
    have dl : Paired (RV K m G Ω.length) (ds.eraseIdx k) (ws.eraseIdx k) := by
      rw [List.eraseIdx_eq_take_drop_succ, List.eraseIdx_eq_take_drop_succ]
      exact Paired.app (Paired.takeP _ rp) (Paired.dropP _ rp)
    have c2 := c.write (y := .lst (ds.eraseIdx k)) (o := .lst (ws.eraseIdx k)) hx (by intro z; cases z) ⟨_, upd_same, dl⟩
    have nx : Nxt m Ω.length G m G := Nxt.refl ..
    exact ⟨m i, ws, j, k, u, rfl, rfl, hw, h0, h1, (ixN_seq hk).1, hu, kk _ _ _ _ y _ c2 nx (by rw [List.length_set]; exact Nat.le_refl _) (RV.mono nx (by rw [List.length_set]; exact Nat.le_refl _) ru) q⟩
end HL
namespace HL
open PySem PySem.Spec PyProof.Rows L2 Evl RZ
/-! zip of two sequences of either kind (tuple: true), enumerate of a tuple -/
section
variable {pg : Program} {wd : World} {Ar : Around} {Er : Value → Shared → Prop} {st : Shared}
def ItB (t : Bool) (h : Heap) (i l : Addr) (k : Nat) : Prop := match t with | true => h.IsTupleIter i l k | false => h.IsListIter i l k
def SqB (t : Bool) (h : Heap) (l : Addr) (xs : Array Value) : Prop := match t with | true => h.IsTuple l xs | false => h.IsList l xs
theorem ItB.but {t : Bool} {h h' : Heap} {a b l : Addr} {i : Nat} (x : ItB t h a l i) (e : Heap.ExtBut b h h') (n : a ≠ b) : ItB t h' a l i := by
  cases t
  · exact Heap.IsListIter.extBut x e n
  · exact Heap.IsTupleIter.extBut x e n
theorem SqB.but {t : Bool} {h h' : Heap} {a b : Addr} {xs : Array Value} (x : SqB t h a xs) (e : Heap.ExtBut b h h') (n : a ≠ b) : SqB t h' a xs := by
  cases t
  · exact Heap.IsList.extBut x e n
  · exact Heap.IsTuple.extBut x e n
theorem ItB.to {t : Bool} {h h' : Heap} {a l : Addr} {i : Nat} (x : ItB t h a l i) (e : ∀ o, h.get? a = some o → h'.get? a = some o) : ItB t h' a l i := by
  cases t
  · exact Heap.IsListIter.at x e
  · exact Heap.IsTupleIter.at x e
theorem ItB.obj {t : Bool} {h : Heap} {a l : Addr} {i : Nat} (x : ItB t h a l i) : ∃ o, h.get? a = some o ∧ ∀ v, o.data ≠ .cell v := by
  cases t
  · obtain ⟨o, e, _, d⟩ := x; exact ⟨o, e, fun v q => by rw [d] at q; cases q⟩
  · obtain ⟨o, e, _, d⟩ := x; exact ⟨o, e, fun v q => by rw [d] at q; cases q⟩
theorem ItB.lt {t : Bool} {h : Heap} {a l : Addr} {i : Nat} (x : ItB t h a l i) : a < h.objs.size := let ⟨_, e, _⟩ := x.obj; Heap.lt_size e
theorem nextB {t : Bool} {a l : Addr} {i : Nat} {us : Array Value} {u : Value} {Q : Value → Shared → Prop} (x : ItB t st.heap a l i) (y : SqB t st.heap l us) (e : us[i]? = some u)
    (k : ∀ h', ItB t h' a l (i + 1) → Heap.SameBut a st.heap h' → Q u { st with heap := h' }) : wpAny (model pg wd) Ar (Builtin.SmallTypes.nextOf (.ref a)) Q Er st := by
  cases t
  · exact wpAny_nextOf_list_item x y e k
  · exact nextOf_tuple_item x y e k
theorem nextB_end {t : Bool} {a l : Addr} {i : Nat} {us : Array Value} {Q : Value → Shared → Prop} (hh : Ar.handled = none) (x : ItB t st.heap a l i) (y : SqB t st.heap l us) (e : us[i]? = none)
    (k : ∀ h' d, Heap.ExtBut a st.heap h' → (∃ o, h'.get? d = some o ∧ o.cls = .type "StopIteration") → Er (.ref d) { st with heap := h' }) : wpAny (model pg wd) Ar (Builtin.SmallTypes.nextOf (.ref a)) Q Er st := by
  cases t
  · exact wpAny_nextOf_list_end hh x y e k
  · exact nextOf_tuple_end hh x y e k
/-- the zip's parts as they lie -/
structure ZipAt (t t' : Bool) (h : Heap) (z p q i j l m : Addr) (n : Nat) : Prop where
  zz : IsZip h z p q .none
  pp : IsPair h p (.ref i) (.ref j)
  qq : ∃ a b, IsPair h q a b
  ii : ItB t h i l n
  jj : ItB t' h j m n
abbrev Kept4 (z q i j : Addr) (h h' : Heap) : Prop := ∀ c o, c ≠ z → c ≠ q → c ≠ i → c ≠ j → h.get? c = some o → h'.get? c = some o
def itN (t : Bool) : String := match t with | true => "tuple_iterator" | false => "list_iterator"
abbrev zb1 (t : Bool) (h : Heap) (l : Addr) : Heap := h.push { cls := .type (itN t), data := .fields #[.ref l, .int 0 0] }
abbrev zb2 (t t' : Bool) (h : Heap) (l m : Addr) : Heap := (zb1 t h l).push { cls := .type (itN t'), data := .fields #[.ref m, .int 0 0] }
abbrev zb3 (t t' : Bool) (h : Heap) (l m : Addr) : Heap := (zb2 t t' h l m).push { cls := .type "tuple", data := .seq #[.ref h.objs.size, .ref (zb1 t h l).objs.size] }
abbrev zb4 (t t' : Bool) (h : Heap) (l m : Addr) : Heap := (zb3 t t' h l m).push { cls := .type "tuple", data := .seq #[.none, .none] }
abbrev zb5 (t t' : Bool) (h : Heap) (l m : Addr) : Heap := (zb4 t t' h l m).push { cls := .type "zip", data := .fields #[.none, .bool false, .bool false, .ref (zb2 t t' h l m).objs.size, .ref (zb3 t t' h l m).objs.size] }
end
/-! the turn -/
def SqH (t : Bool) (K : PySem.W.Frag) (H : Hp) (a : Addr) (xs : List V) : Prop := match t with | true => SqT K H a xs | false => SqL K H a xs
def ItM (t t' : Bool) (K : PySem.W.Frag) (a b : Addr) : It :=
  ⟨fun i H => ∃ (xs ys : List V) (x y : V), SqH t K H a xs ∧ SqH t' K H b ys ∧ xs[i]? = some x ∧ ys[i]? = some y,
   fun i H v H' => ∃ T x y, v = .ref T ∧ H T = none ∧ H' = upd H T (.tup [x, y]) ∧ (∀ xs, SqH t K H a xs → xs[i]? = some x) ∧ ∀ ys, SqH t' K H b ys → ys[i]? = some y,
   fun i H => ∃ xs ys : List V, SqH t K H a xs ∧ SqH t' K H b ys ∧ (xs.length ≤ i ∨ ys.length ≤ i)⟩
theorem sqB_of {X : Cx} {pins : List (Addr × Obj)} {s : Shared} {σ : L2.St} {H : Hp} {t : Bool} {a : Addr} {xs : List V} (I : Inv X pins σ H s) (h : SqH t X.K H a xs) : ∃ its : List Value, Vals xs its ∧ SqB t s.heap a its.toArray ∧ a < s.heap.objs.size := by
  cases t
  · obtain ⟨its, rv, p, _⟩ := I.list h
    exact ⟨its, rv, p.isList, p.lt⟩
  · obtain ⟨its, rv, p, _⟩ := I.tuple h
    obtain ⟨o, ho, _⟩ := id p
    exact ⟨its, rv, p, Heap.lt_size ho⟩
theorem sqH_inj {X : Cx} {pins : List (Addr × Obj)} {s : Shared} {σ : L2.St} {H : Hp} {t : Bool} {a : Addr} {xs ys : List V} (I : Inv X pins σ H s) (h : SqH t X.K H a xs) (g : SqH t X.K H a ys) : xs = ys := by
  cases t
  · exact I.list_inj h g
  · exact I.tuple_inj h g
def iZipM (K : PySem.W.Frag) (ta : TA) : TI := fun σ H R => ta σ H fun vs H1 => ∃ (a b : Addr) (t t' : Bool) (xs ys : List V), vs = [.ref a, .ref b] ∧ SqH t K H1 a xs ∧ SqH t' K H1 b ys ∧ R (ItM t t' K a b) H1
section
variable {K : KF} {W : WX} {Γ : Gm} {Ω : Om} {X : Exc → Om → Prop} {Rc : List DV → (Om → Prop) → Om → Prop} {te : TE} {ta : TA}
/-- what stands at d, tuple or list, told by t -/
def lsB (t : Bool) (Ω : Om) (d : DV) : Option (List PyData) := match t with | true => lsT d | false => lsL Ω d
theorem lsB_get {K : KF} {m : Mp} {G H : Hp} {Ω : Om} {t : Bool} {d : DV} {xs : List PyData} {v : V} (c : Core K m G Ω H) (r : RV K m G Ω.length d v) (h : lsB t Ω d = some xs) : ∃ a vs, v = .ref a ∧ SqH t K H a vs ∧ DpAll K G vs xs := by
  cases t
  · exact lsL_get c r h
  · obtain ⟨a, vs, e, hs, rp⟩ := lsT_get c r h
    exact ⟨a, vs, e, ex_t c.ex hs, rp⟩
end
end HL
namespace HL
open PySem PySem.Spec PyProof.Rows L2 Evl RZ
open AutoSeq1 (wpAny_loadPart')
/-! enumerate of a tuple -/
theorem meets_enumT (l : Addr) (items : Array Value) (n : Nat) (dct : Option Addr) (sl : Array (Option Value)) :
    Meets (Builtin.«enumerate.__new__» ⟨[.type "enumerate", .ref l], []⟩) (fun _ R s => s.heap.get? l = some { cls := .type "tuple", dict := dct, data := .seq items n, slots := sl } ∧
      R (.ok (.ret (.ref (s.heap.push { cls := .type "tuple_iterator", data := .fields #[.ref l, .int 0 0] }).objs.size)))
        { s with heap := (s.heap.push { cls := .type "tuple_iterator", data := .fields #[.ref l, .int 0 0] }).push { cls := .type "enumerate", data := .fields #[.none, .bool false, .ref s.heap.objs.size, rawInt 0, .none, .none] } }) :=
  .of_wp fun prog w A R s h => by
    obtain ⟨hp, g, d, tk, os⟩ := s; obtain ⟨hl, h⟩ := h
    have hsub := sub_enumerate
    have hL : Heap.IsTuple (Shared.heap ⟨hp, g, d, tk, os⟩) l items := ⟨_, hl, rfl, n, rfl⟩
    wp_walk using wpAny_loadPart' hl
    refine wpAny_stack_any fun st => wpAny_pure ?_
    split
    · rename_i c _ _ _ _ _
      cases (c == Value.type "enumerate")
      · wp_walk using wpAny_loadPart' hl, wpAny_pyIter_tuple hL
        exact ⟨_, rfl, h⟩
      · wp_walk using wpAny_loadPart' hl, wpAny_pyIter_tuple hL
        exact ⟨_, rfl, h⟩
    · wp_walk using wpAny_loadPart' hl, wpAny_pyIter_tuple hL
      exact ⟨_, rfl, h⟩
section
variable {pg : Program} {wd : World} {Ar : Around} {Er : Value → Shared → Prop} {st : Shared}
theorem call_enumT {l : Addr} {items : Array Value} {Q : Value → Shared → Prop} (hL : st.heap.IsTuple l items)
    (h : ∀ h', IsEnum h' (st.heap.objs.size + 1) st.heap.objs.size 0 .none → ItB true h' st.heap.objs.size l 0 → h'.objs.size = st.heap.objs.size + 2 →
      (∀ b o, st.heap.get? b = some o → h'.get? b = some o) → Q (.ref (st.heap.objs.size + 1)) { st with heap := h' }) :
    wpAny (model pg wd) Ar (call (.type "enumerate") [.ref l]) Q Er st := by
  obtain ⟨⟨c, dct, dt, sl⟩, hl, hc, n, hd⟩ := hL
  replace hc : c = .type "tuple" := hc
  replace hd : dt = .seq items n := hd
  subst hc hd
  refine callType_new F.called_enumerate (by decide) (F.typeCall_enumerate_1 _) (F.newCall_enumerate_1 _) (fun obj => F.args_object_init_2 obj _) F.entry_enumerate_new
    (meets_enumT l items n dct sl) ⟨hl, ?_⟩
  have hz : (st.heap.push { cls := .type "tuple_iterator", data := .fields #[.ref l, .int 0 0] }).objs.size = st.heap.objs.size + 1 := Heap.size_push ..
  show _ ∧ _
  rw [hz]
  have he : IsEnum ((st.heap.push { cls := .type "tuple_iterator", data := .fields #[.ref l, .int 0 0] }).push
      { cls := .type "enumerate", data := .fields #[.none, .bool false, .ref st.heap.objs.size, rawInt 0, .none, .none] }) (st.heap.objs.size + 1) st.heap.objs.size 0 .none := by
    have := Heap.get?_push_size (st.heap.push { cls := .type "tuple_iterator", data := .fields #[.ref l, .int 0 0] })
      (o := { cls := .type "enumerate", data := .fields #[.none, .bool false, .ref st.heap.objs.size, rawInt 0, .none, .none] }) rfl
    rw [hz] at this; exact this
  refine ⟨⟨_, he, rfl⟩, h _ he ⟨_, Heap.get?_push_of_some _ (Heap.get?_push_size _ rfl), rfl, rfl⟩ (by rw [Heap.size_push, hz]) fun b o x => Heap.get?_push_of_some _ (Heap.get?_push_of_some _ x)⟩
theorem enumB_next {t : Bool} {e it l : Addr} {i : Nat} {items : Array Value} {x old : Value} {Q : Value → Shared → Prop}
    (he : IsEnum st.heap e it i old) (hit : ItB t st.heap it l i) (hl : SqB t st.heap l items) (hx : items[i]? = some x) (hne : e ≠ it)
    (hQ : ∀ h', IsEnumOut h' e it ((i : Int) + 1) x st.heap.objs.size → ItB t h' it l (i + 1) →
      h'.get? st.heap.objs.size = some { cls := .type "tuple", data := .seq #[.int i st.toks, x] } → h'.objs.size = st.heap.objs.size + 1 →
      (∀ b o, b ≠ e → b ≠ it → st.heap.get? b = some o → h'.get? b = some o) → Q (.ref st.heap.objs.size) { st with heap := h', toks := st.toks + 1 }) :
    wpAny (model pg wd) Ar (Builtin.«enumerate.__next__» ⟨[.ref e], []⟩) (fun fin s' => ∃ v, fin = .done (.ret v) ∧ Q v s') Er st := by
  obtain ⟨hp, g, d, tk, os⟩ := st
  show wpAny _ _ (field (.ref e) 2 >>= _) _ _ _
  refine wpAny_bind (wpAny_field he rfl (x := .ref it) rfl ?_)
  refine wpAny_bind (nextB hit hl hx fun h₁ hit₁ hs₁ => ?_)
  replace hs₁ : Heap.SameBut it hp h₁ := hs₁
  have he₁ : IsEnum h₁ e it i old := (hs₁.2 e hne).trans he
  show wpAny _ _ (field (.ref e) 3 >>= _) _ _ ⟨h₁, g, d, tk, os⟩
  refine wpAny_bind (wpAny_field he₁ rfl (x := rawInt i) rfl ?_)
  show wpAny _ _ (field (.ref e) 4 >>= _) _ _ ⟨h₁, g, d, tk, os⟩
  refine wpAny_bind (wpAny_field he₁ rfl (x := .none) rfl ?_)
  show wpAny _ _ (mkInt i >>= _) _ _ ⟨h₁, g, d, tk, os⟩
  refine wpAny_bind (wpAny_mkInt ?_)
  show wpAny _ _ (setField (.ref e) 3 (rawInt ((i : Int) + 1)) >>= _) _ _ ⟨h₁, g, d, tk + 1, os⟩
  refine wpAny_bind (wpAny_setField_rec he₁ (by simp) fun h₂ he₂ hs₂ => ?_)
  replace hs₂ : Heap.SameBut e h₁ h₂ := hs₂
  replace he₂ : IsEnum h₂ e it ((i : Int) + 1) old := he₂
  show wpAny _ _ (setField (.ref e) 4 .none >>= _) _ _ ⟨h₂, g, d, tk + 1, os⟩
  refine wpAny_bind (wpAny_setField_rec he₂ (by simp) fun h₃ he₃ hs₃ => ?_)
  replace hs₃ : Heap.SameBut e h₂ h₃ := hs₃
  replace he₃ : IsEnum h₃ e it ((i : Int) + 1) old := he₃
  show wpAny _ _ (newTuple [.int i tk, x] >>= _) _ _ ⟨h₃, g, d, tk + 1, os⟩
  refine wpAny_bind (wpAny_newTuple ?_)
  have he₄ : IsEnum (h₃.push { cls := .type "tuple", data := .seq #[.int i tk, x] }) e it ((i : Int) + 1) old := Heap.get?_push_of_some _ he₃
  generalize hh₄ : h₃.push { cls := .type "tuple", data := .seq #[.int i tk, x] } = h₄ at he₄
  have hsz : h₃.objs.size = hp.objs.size := by rw [hs₃.1, hs₂.1, hs₁.1]
  have hel : e < hp.objs.size := Heap.lt_size he
  have ht₄ : h₄.get? hp.objs.size = some { cls := .type "tuple", data := .seq #[.int i tk, x] } := by rw [← hh₄, ← hsz]; exact Heap.get?_push_size _ rfl
  have hz₄ : h₄.objs.size = hp.objs.size + 1 := by rw [← hh₄, Heap.size_push, hsz]
  have hk₄ : ∀ b o, b ≠ e → b ≠ it → hp.get? b = some o → h₄.get? b = some o := fun b o hbe hbi hb => by
    rw [← hh₄]; exact Heap.get?_push_of_some _ (hs₃.extBut b o hbe (hs₂.extBut b o hbe (hs₁.extBut b o hbi hb)))
  have hit₄ : ItB t h₄ it l (i + 1) := by
    rw [← hh₄]
    exact ((hit₁.but hs₂.extBut (Ne.symm hne)).but hs₃.extBut (Ne.symm hne)).to fun o ho => Heap.get?_push_of_some _ ho
  show wpAny _ _ (Builtin.SmallTypes.ownedTupleIsFree (.ref e) >>= _) _ _ ⟨h₄, g, d, tk + 1, os⟩
  rw [hsz]
  clear hh₄ he₃ hs₃ he₂ hs₂ he₁ hs₁ hit₁ hsz h₃ h₂ h₁
  refine wpAny_bind ?_
  · unfold Builtin.SmallTypes.ownedTupleIsFree
    refine wpAny_bind (wpAny_field he₄ rfl (x := .none) rfl (wpAny_pure ?_))
    simp only [if_true]
    refine wpAny_bind (wpAny_rule ?_)
    refine wpAny_bind (wpAny_field he₄ rfl (x := old) rfl ?_)
    refine wpAny_bind (wpAny_setField_rec he₄ (by simp) fun h₅ he₅ hs₅ => ?_)
    replace hs₅ : Heap.SameBut e h₄ h₅ := hs₅
    replace he₅ : IsEnum h₅ e it ((i : Int) + 1) x := he₅
    show wpAny _ _ (Builtin.SmallTypes.ownedTupleHandOut (.ref e) (.ref hp.objs.size) >>= _) _ _ ⟨h₅, g, d, tk + 1, os⟩
    refine wpAny_bind ?_
    · unfold Builtin.SmallTypes.ownedTupleHandOut
      refine wpAny_bind (wpAny_setField_rec he₅ (by simp) fun h₆ he₆ hs₆ => ?_)
      replace hs₆ : Heap.SameBut e h₅ h₆ := hs₆
      replace he₆ : IsEnumOut h₆ e it ((i : Int) + 1) x hp.objs.size := he₆
      refine wpAny_setField_rec he₆ (by simp) fun h₇ he₇ hs₇ => ?_
      replace hs₇ : Heap.SameBut e h₆ h₇ := hs₇
      replace he₇ : IsEnumOut h₇ e it ((i : Int) + 1) x hp.objs.size := he₇
      refine wpAny_bind (wpAny_letGo (wpAny_pure ⟨_, rfl, hQ h₇ he₇ ?_ ?_ ?_ ?_⟩))
      · exact ((hit₄.but hs₅.extBut (Ne.symm hne)).but hs₆.extBut (Ne.symm hne)).but hs₇.extBut (Ne.symm hne)
      · exact hs₇.extBut _ _ (Nat.ne_of_gt hel) (hs₆.extBut _ _ (Nat.ne_of_gt hel) (hs₅.extBut _ _ (Nat.ne_of_gt hel) ht₄))
      · rw [hs₇.1, hs₆.1, hs₅.1, hz₄]
      · exact fun b o hbe hbi hb => hs₇.extBut b o hbe (hs₆.extBut b o hbe (hs₅.extBut b o hbe (hk₄ b o hbe hbi hb)))
theorem enumB_item {t : Bool} {e it l : Addr} {i : Nat} {items : Array Value} {x old : Value} {Q : Option Value → Shared → Prop}
    (he : IsEnum st.heap e it i old) (hit : ItB t st.heap it l i) (hl : SqB t st.heap l items) (hx : items[i]? = some x) (hne : e ≠ it)
    (hQ : ∀ h', IsEnumOut h' e it ((i : Int) + 1) x st.heap.objs.size → ItB t h' it l (i + 1) →
      h'.get? st.heap.objs.size = some { cls := .type "tuple", data := .seq #[.int i st.toks, x] } → h'.objs.size = st.heap.objs.size + 1 →
      (∀ b o, b ≠ e → b ≠ it → st.heap.get? b = some o → h'.get? b = some o) → Q (some (.ref st.heap.objs.size)) { st with heap := h', toks := st.toks + 1 }) :
    wpAny (model pg wd) Ar (pyNext (.ref e)) Q Er st := by
  have hT : st.TypeIs (.ref e) "enumerate" := ⟨_, he, rfl⟩
  unfold pyNext
  exact wpAny_bind (wpAny_attempt (wpAny_callSpecial?_slot (name := Str.ofString "__next__") hT F.slot_enumerate_next
    (wpAny_call_entry F.slot_enumerate_next hT F.entry_enumerate_next
      (enumB_next he hit hl hx hne fun h' a b c d k => wpAny_pure (hQ h' a b c d k)) (F.args_enumerate_next_1 _))))
theorem enumB_end {t : Bool} {e it l : Addr} {i : Nat} {items : Array Value} {old : Value} {Q : Option Value → Shared → Prop} (hh : Ar.handled = none)
    (he : IsEnum st.heap e it i old) (hit : ItB t st.heap it l i) (hl : SqB t st.heap l items) (hx : items[i]? = none)
    (hQ : ∀ h', Heap.ExtBut it st.heap h' → Q none { st with heap := h' }) : wpAny (model pg wd) Ar (pyNext (.ref e)) Q Er st := by
  have hT : st.TypeIs (.ref e) "enumerate" := ⟨_, he, rfl⟩
  unfold pyNext
  refine wpAny_bind (wpAny_attempt (wpAny_callSpecial?_slot (name := Str.ofString "__next__") hT F.slot_enumerate_next
    (wpAny_call_entry F.slot_enumerate_next hT F.entry_enumerate_next ?_ (F.args_enumerate_next_1 _))))
  show wpAny _ _ (field (.ref e) 2 >>= _) _ _ _
  refine wpAny_bind (wpAny_field he rfl (x := .ref it) rfl ?_)
  refine wpAny_bind (nextB_end hh hit hl hx fun h' x he' hx' => ?_)
  obtain ⟨o, ho, hc⟩ := hx'
  refine wpAny_bind (wpAny_isInstance (T := "StopIteration") (b := true) ⟨o, ho, hc⟩ isSubtype_stop ?_)
  exact wpAny_pure (hQ _ he')
end
def IteB (t : Bool) (K : PySem.W.Frag) (a : Addr) : It :=
  ⟨fun i H => ∃ (xs : List V) (x : V), SqH t K H a xs ∧ xs[i]? = some x, fun i H v H' => ∃ T x, v = .ref T ∧ H T = none ∧ H' = upd H T (.tup [.int (i : Nat), x]) ∧ ∀ xs, SqH t K H a xs → xs[i]? = some x, fun i H => ∃ xs : List V, SqH t K H a xs ∧ xs.length ≤ i⟩
theorem turn_enumB {P : Program} {w : World} {K : PySem.W.Frag} {elts : List Expr} {kk : Nat} {tpos : Pos} (t : Bool) (a e it : Addr) :
    Turn P w K (.Tuple elts kk tpos) (IteB t K a) [e, it] e (fun i h => (∃ old, IsEnum h e it ((i : Nat) : Int) old) ∧ ItB t h it a i ∧ e ≠ it) where
  mem := by simp
  obj := fun i h st b hb => by
    obtain ⟨⟨old, he⟩, hi, _⟩ := st
    have e' : b = e ∨ b = it := by simpa using hb
    rcases e' with z | z
    · rw [z]; exact ⟨_, he, fun v q => nomatch q⟩
    · rw [z]; exact hi.obj
  keep := fun i h h' st k => let ⟨⟨old, he⟩, hi, hne⟩ := st; ⟨⟨old, k e (by simp) _ he⟩, hi.to fun o q => k it (by simp) o q, hne⟩
  item := by
    intro X hP hw hK hc i pins s σ H E I hf st hg
    subst hP hw hK
    obtain ⟨⟨old, he⟩, hit, hne⟩ := st
    obtain ⟨xs, x, hq, hx⟩ := hg
    obtain ⟨its, rv, p, hz⟩ := sqB_of I hq
    obtain ⟨u, hu, ru⟩ := rv.get hx
    have hel : e < s.heap.objs.size := Heap.lt_size he
    have hil : it < s.heap.objs.size := hit.lt
    refine enumB_item he hit p (x := u) (by simpa using hu) hne fun h' ho hit' hT hsz hk => ?_
    refine ⟨_, rfl, wpAny_letOwnedTupleGo_enum (s := { s with heap := h', toks := s.toks + 1 }) ho fun h'' he' sb => ?_⟩
    have hT2 : h''.get? s.heap.objs.size = some { cls := .type "tuple", data := .seq #[.int i s.toks, u] } := (sb.2 _ (Nat.ne_of_gt hel)).trans hT
    have new : ObjOk X.prog X.w (upd H s.heap.objs.size (.tup [.int (i : Nat), x])) h'' s.heap.objs.size (.tup [.int (i : Nat), x]) :=
      ⟨by show 2 ≤ sizeLine; decide, [.int i s.toks, u], .cons ⟨_, rfl⟩ (.cons ru .nil), ⟨_, hT2, rfl, _, rfl⟩⟩
    have I1 : Inv X pins σ (upd H s.heap.objs.size (.tup [.int (i : Nat), x])) { s with heap := h'', toks := s.toks + 1 } :=
      I.turnedNew (ch := [e, it]) (fun b ob hb q => (sb.2 b (fun z => hb (by simp [z]))).trans (hk b ob (fun z => hb (by simp [z])) (fun z => hb (by simp [z])) q)) hf (Nat.le_refl _) new
    refine ⟨.ref s.heap.objs.size, _, I1, rfl, ⟨_, x, rfl, I.hok.fresh (Nat.le_refl _), rfl, fun ys hy => by rw [sqH_inj I hy hq]; exact hx⟩, ⟨⟨u, ?_⟩, hit'.to fun o q => (sb.2 it (Ne.symm hne)).trans q, hne⟩, fun b hb => ?_⟩
    · have e1 : ((i + 1 : Nat) : Int) = (i : Int) + 1 := by omega
      rw [e1]; exact he'
    · have hb' : b < s.heap.objs.size := by
        have e' : b = e ∨ b = it := by simpa using hb
        rcases e' with z | z
        · rw [z]; exact hel
        · rw [z]; exact hil
      rw [upd_ne (Nat.ne_of_lt hb')]
      exact (hf b hb).1
  done := by
    intro X hP hw hK hc i pins s σ H E I hf st hg
    subst hP hw hK
    obtain ⟨⟨old, he⟩, hit, hne⟩ := st
    obtain ⟨xs, hq, hx⟩ := hg
    obtain ⟨its, rv, p, hz⟩ := sqB_of I hq
    obtain ⟨f0, f1, f2, f3, f4, f5⟩ := hf it (by simp)
    have hl := rv.length
    exact enumB_end (I.ok.hd hc) he hit p (by simp; omega) fun h' eb => ⟨rfl, I.turned (t' := s.toks) (fun b o hb q => eb b o hb q) f0 f1 f3 f4 f5⟩
  self := fun A i s Q E st h => let ⟨⟨_, he⟩, _⟩ := st; wpAny_pyIter_enum he h
def iEnumB (K : PySem.W.Frag) (ta : TA) : TI := fun σ H R => ta σ H fun vs H1 => ∃ a t xs, vs = [.ref a] ∧ SqH t K H1 a xs ∧ R (IteB t K a) H1
theorem pi_enumB {X : Cx} {e : Expr} {ta : TA} {p pos tpos : Pos} {elts : List Expr} {kk : Nat} (hg : Gl X "enumerate") (hm : X.mg "enumerate" = none) (ha : PA X [e] ta) (hs : starEach [e] X.env = [(false, eval e X.env)] := by rfl) :
    PI X (.Tuple elts kk tpos) (.Call (.Name "enumerate" p) [e] [] pos) (iEnumB X.K ta) := by
  refine ⟨fun pins s σ H R I h => ?_⟩
  refine Call_ (ld_blt I hg hm boot_enumerate (PyProof.Rows.callWith_type1 (thn (ha.run pos pins s σ H _ I h) fun us s1 ⟨vs, H1, I1, r1, q1⟩ => ?_) hs rfl))
  obtain ⟨a, t, xs, ex, hq, q⟩ := q1
  subst ex
  cases r1 with
  | cons r rr =>
    cases rr
    cases r
    obtain ⟨its, rv, p', hz⟩ := sqB_of I1 hq
    have fin : ∀ h', IsEnum h' (s1.heap.objs.size + 1) s1.heap.objs.size 0 .none → ItB t h' s1.heap.objs.size a 0 → h'.objs.size = s1.heap.objs.size + 2 →
        (∀ b o, s1.heap.get? b = some o → h'.get? b = some o) → wpAny (model X.prog X.w) X.A (pyIter (.ref (s1.heap.objs.size + 1))) (PIE X pins σ (.Tuple elts kk tpos) R) X.xe { s1 with heap := h' } := fun h' he hit hsz hk => by
      refine wpAny_pyIter_enum he ?_
      have I2 : Inv X pins σ H1 { s1 with heap := h' } := I1.kept (t' := s1.toks) hk
      refine ⟨s1.heap.objs.size + 1, [s1.heap.objs.size + 1, s1.heap.objs.size], _, _, H1, rfl, I2, turn_enumB t a (s1.heap.objs.size + 1) s1.heap.objs.size, ⟨⟨.none, he⟩, hit, Nat.succ_ne_self _⟩, fun b hb => ?_, q⟩
      have e' : b = s1.heap.objs.size + 1 ∨ b = s1.heap.objs.size := by simpa using hb
      have hle : s1.heap.objs.size ≤ b := by
        rcases e' with z | z
        · rw [z]; exact Nat.le_add_right _ _
        · rw [z]; exact Nat.le_refl _
      exact I1.fpOk hle (I1.hok.fresh hle)
    cases t
    · exact call_enumerate_list p' fin
    · exact call_enumT p' fin
section
variable {K : KF} {W : WX} {Γ : Gm} {Ω : Om} {X : Exc → Om → Prop} {Rc : List DV → (Om → Prop) → Om → Prop} {te : TE} {ta : TA}
theorem itok_enumB {m1 : Mp} {G1 : Hp} {n1 : Nat} {t : Bool} {d : DV} {xs : List PyData} {a : Addr} (r : RV K m1 G1 n1 d (.ref a)) :
    ItOk K (IteB t K a) (enumD xs) (fun Ω' => lsB t Ω' d = some xs) m1 G1 n1 := fun m' G' Ω' H' c' n' l' st i => by
  obtain ⟨a', vs, ea, hs, rp⟩ := lsB_get c' (RV.mono n' l' r) st
  cases ea
  have el := dps_len rp
  refine ⟨fun h => ⟨vs, hs, ?_⟩, fun y hy => ?_⟩
  · unfold enumD at h
    rw [List.length_map, List.length_range] at h
    omega
  · unfold enumD at hy
    obtain ⟨hi, rfl⟩ := rng_get hy
    have hx : xs[i]? = some (xs.getD i .none) := by
      rw [List.getD_eq_getElem?_getD, List.getElem?_eq_getElem hi]; rfl
    obtain ⟨u, hu, ru⟩ := dps_get rp hx
    refine ⟨⟨vs, u, hs, hu⟩, fun v H'' ⟨T, x, e1, hT, e2, k1⟩ => ?_⟩
    subst e1 e2
    have ex : u = x := Option.some.inj (hu.symm.trans (k1 vs hs))
    subst ex
    obtain ⟨c2, n2⟩ := c'.frz hT (.tup [.int (i : Nat), u])
    exact ⟨_, c2, n2.gg, .tup (st_of upd_same) (.cons (.int _) (.cons (dp_ex n2.gg _ _ ru) .nil))⟩
theorem wi_enumB (t : Bool) (h : WA K W ta Γ Ω (fun ds Ω1 => ∃ d xs, ds = [d] ∧ lsB t Ω1 d = some xs ∧ Rc (enumD xs) (fun Ω' => lsB t Ω' d = some xs) Ω1) X) : WI K W (iEnumB K ta) Γ Ω Rc X := fun m G H σ R c s x k =>
  h m G H σ _ c s (fun m1 G1 Ω1 H1 ds vs c1 n1 l1 r1 ⟨d, xs, e1, e2, q⟩ => by
    subst e1
    cases r1 with
    | cons ra rr =>
      cases rr
      obtain ⟨a, us, rfl, hs, rp⟩ := lsB_get c1 ra e2
      exact ⟨a, t, us, rfl, hs, k m1 G1 Ω1 H1 _ _ _ c1 n1 l1 (itok_enumB ra) q⟩) x
end
end HL
namespace HL
open PySem PySem.Spec PySem.W PyProof.Rows L2 Evl RZ
/-! t * 1 -/
def rRepU (K : KF) : R2 := fun x y H Q => rRepT K x y H Q ∨ ∃ (l : Addr) (xs : List V), x = .ref l ∧ y = .int 1 ∧ SqT K H l xs ∧ Q (.ref l) H
/-! min of a tuple of whole numbers -/
def rMinT (K : KF) : List V → Hp → VK → Prop := fun xs H Q => ∃ (a : Addr) (n : Int) (ns : List Int), xs = [.ref a] ∧ SqT K H a ((n :: ns).map V.int) ∧ Q (.int (minOf n ns)) H
theorem call_minT {X : Cx} (hc : X.calm = true) (hu : X.A.units + 64 < cLine) : CallR X (.builtin "min") (rMinT X.K) := by
  intro pins s σ H xs us Q I r h
  obtain ⟨a, n, ns, rfl, hs, q⟩ := h
  obtain ⟨its, rv, p, _⟩ := I.tuple hs
  rw [Vals.ref1 r]
  have ha : HoldAll s.heap its.toArray.toList (n :: ns) := by
    have go : ∀ {ks : List Int} {us : List Value}, Vals (ks.map V.int) us → HoldAll s.heap us ks := fun {ks} => by
      induction ks with
      | nil => intro us h; cases h; exact .nil
      | cons k ks ih =>
        intro us h
        cases h with
        | cons a b =>
          obtain ⟨t, rfl⟩ := a
          exact .cons (holds_int k t) (ih b)
    exact go rv
  refine min_tuple_datum (I.ok.hd hc) p ha (by show X.A.units + 1 + 0 < cLine; omega) fun i v h' tk hi hv hk => ?_
  obtain ⟨as, hv⟩ := hv
  have hv : Reads h' v (.int (minOf n ns)) as := hv
  cases hv
  exact ⟨.int _, H, I.kept hk, ⟨_, rfl⟩, q⟩
theorem minOf_lt {c : Int} : ∀ (ns : List Int) (n : Int), minOf n ns < c ↔ ∃ w ∈ n :: ns, w < c
  | [], n => by show n < c ↔ _; simp
  | m :: ns, n => by
    show minOf (if DatumOrd.lt m n = true then m else n) ns < c ↔ _
    rw [minOf_lt ns]
    have : (DatumOrd.lt m n = true) ↔ m < n := by show decide (m < n) = true ↔ _; simp
    by_cases h : m < n
    · rw [if_pos (this.mpr h)]
      constructor
      · rintro ⟨w, hw, hc⟩
        rcases List.mem_cons.mp hw with rfl | hw
        · exact ⟨w, by simp, hc⟩
        · exact ⟨w, by simp [hw], hc⟩
      · rintro ⟨w, hw, hc⟩
        rcases List.mem_cons.mp hw with rfl | hw
        · exact ⟨m, by simp, by omega⟩
        · exact ⟨w, hw, hc⟩
    · rw [if_neg (fun z => h (this.mp z))]
      constructor
      · rintro ⟨w, hw, hc⟩
        rcases List.mem_cons.mp hw with rfl | hw
        · exact ⟨w, by simp, hc⟩
        · exact ⟨w, by simp [hw], hc⟩
      · rintro ⟨w, hw, hc⟩
        rcases List.mem_cons.mp hw with rfl | hw
        · exact ⟨w, by simp, hc⟩
        rcases List.mem_cons.mp hw with rfl | hw
        · exact ⟨n, by simp, by omega⟩
        · exact ⟨w, by simp [hw], hc⟩
section
variable {K : KF} {W : WX} {Γ : Gm} {Ω : Om} {R : DV → Om → Prop} {X : Exc → Om → Prop} {ta : TE}
theorem wc_minT {n : Int} {ns : List Int} {xs : List PyData} (e : xs = (n :: ns).map PyData.int) (q : R (.d (.int (minOf n ns))) Ω) : WC K (rMinT K) [.d (.tuple xs)] Ω R := fun m G H vs Q c r k => by
  subst e
  cases r with
  | cons r1 rs =>
    cases rs
    obtain ⟨a, ws, rfl, hs, rp⟩ := lsT_get c r1 rfl
    have go : ∀ {ks : List Int} {ws : List V}, DpAll K G ws (ks.map PyData.int) → ws = ks.map V.int := fun {ks} => by
      induction ks with
      | nil => intro ws h; cases h; rfl
      | cons k ks ih =>
        intro ws h
        cases h with
        | cons a b => cases a; rw [ih b]; rfl
    have e := go rp
    subst e
    exact ⟨a, n, ns, rfl, ex_t c.ex hs, k _ _ _ _ (.d (.int (minOf n ns))) _ c (Nxt.refl ..) (Nat.le_refl _) (Dp.int _) q⟩
end
/-! a list or tuple of things told by F, own or not -/
def SeqS {α : Type} (F : α → PyData) (Ω : Om) (s : DV) (xs : List α) : Prop := (∃ i, s = .o i ∧ Ω[i]? = some (.lst ((xs.map F).map DV.d))) ∨ s = .d (.list (xs.map F)) ∨ s = .d (.tuple (xs.map F))
theorem SeqS.app {α : Type} {F : α → PyData} {Ω J : Om} {s : DV} {xs : List α} (h : SeqS F Ω s xs) : SeqS F (Ω ++ J) s xs := by
  rcases h with ⟨i, e, h⟩ | h
  · exact .inl ⟨i, e, get_app h⟩
  · exact .inr h
theorem SeqS.sq {α : Type} {F : α → PyData} {Ω : Om} {s : DV} {xs : List α} (h : SeqS F Ω s xs) : sq Ω s = some ((xs.map F).map DV.d) := by
  rcases h with ⟨i, rfl, h⟩ | rfl | rfl
  · show sqO _ = _; rw [h]; rfl
  · rfl
  · rfl
section
variable {K : KF} {W : WX} {Γ : Gm} {Ω : Om} {X : Exc → Om → Prop} {Rc : List DV → (Om → Prop) → Om → Prop} {te : TE}
theorem wi_S {α : Type} (F : α → PyData) (xs : List α) (h : WE K W te Γ Ω (fun d Ω1 => SeqS F Ω1 d xs ∧ Rc (xs.map fun a => .d (F a)) (fun Ω' => SeqS F Ω' d xs) Ω1) X) : WI K W (iSeq K te) Γ Ω Rc X := fun m G H σ R c s x k =>
  h m G H σ _ c s (fun m1 G1 Ω1 H1 d v c1 n1 l1 r1 ⟨e, q⟩ => by
    have e2 : (xs.map fun a => DV.d (F a)) = (xs.map F).map DV.d := by rw [List.map_map]; rfl
    rw [e2] at q
    have st : ∀ Ω', SeqS F Ω' d xs → d = .d (.tuple (xs.map F)) ∨ sqLs Ω' d = some ((xs.map F).map DV.d) := fun Ω' h => by
      rcases h with ⟨i, rfl, h⟩ | rfl | rfl
      · right; show sqO _ = _; rw [h]; rfl
      · right; rfl
      · left; rfl
    rcases st _ e with e' | e'
    · subst e'
      obtain ⟨a, vs, rfl, hs, rp⟩ := lsT_get c1 r1 rfl
      exact ⟨a, rfl, .inr ⟨⟨vs, ex_t c1.ex hs⟩, k m1 G1 Ω1 H1 _ _ _ c1 n1 l1 (fun m' G' Ω' H' c' n' l' _ i => itok_tup r1 m' G' Ω' H' c' n' l' trivial i) q⟩⟩
    · obtain ⟨a, vs, rfl, hs, rp⟩ := sqLs_get c1 r1 e'
      refine ⟨a, rfl, .inl ⟨⟨vs, hs⟩, k m1 G1 Ω1 H1 _ _ _ c1 n1 l1 (fun m' G' Ω' H' c' n' l' h i => ?_) q⟩⟩
      rcases st _ h with e2 | e2
      · subst e2; cases e'
      · exact itok_list r1 m' G' Ω' H' c' n' l' e2 i) x
end
/-! labels that go down along pairs -/
def stepL (p : List Int) (x : Nat × Nat) : List Int :=
  let m := if p.getD x.2 0 < p.getD x.1 0 then p.getD x.2 0 else p.getD x.1 0
  (p.set x.1 m).set x.2 m
def turnL (xs : List (Nat × Nat)) (p : List Int) : List Int := xs.foldl stepL p
def stepB (p : List Bool) (x : Nat × Nat) : List Bool := (p.set x.1 (p.getD x.1 false || p.getD x.2 false)).set x.2 (p.getD x.1 false || p.getD x.2 false)
def cntB : List Bool → Nat
  | [] => 0
  | true :: l => cntB l + 1
  | false :: l => cntB l
def iterN {α : Type} (f : α → α) : Nat → α → α
  | 0, a => a
  | n + 1, a => f (iterN f n a)
def belowL (l : Int) (p : List Int) : List Bool := p.map fun a => decide (a ≤ l)
def rangeI (n : Nat) : List Int := (List.range n).map fun (i : Nat) => (i : Int)
/-! sightings that weights do -/
structure SgE (n : Nat) (y : Sg) : Prop where
  ok : SgOk 60 y
  i0 : 0 ≤ y.i ∧ y.i < n
  j0 : 0 ≤ y.j ∧ y.j < n
def atW (ws : List Int) (i : Int) : Int := ws.getD i.toNat 0
def doneB (ws : List Int) (x : Sg) : Bool := x.reb && decide ((atW ws x.i : Rat) * x.lost = (atW ws x.j : Rat) * x.won)
def doesB (ws : List Int) (xs : List Sg) : Bool := (ws.all fun w => decide (1 ≤ w)) && xs.all (doneB ws)
theorem atW_ix {ws : List Int} {i : Int} (h0 : 0 ≤ i) (h : i < ws.length) : atI (ws.map PyData.int) i = some (.int (atW ws i)) := by
  obtain ⟨j, rfl⟩ : ∃ j : Nat, i = j := ⟨i.toNat, by omega⟩
  refine atI_nat ?_
  rw [List.getElem?_map, List.getElem?_eq_getElem (by omega)]
  unfold atW
  rw [Int.toNat_natCast, List.getD_eq_getElem?_getD, List.getElem?_eq_getElem (by omega)]
  rfl
theorem atW_mem {ws : List Int} {i : Int} (h0 : 0 ≤ i) (h : i < ws.length) : atW ws i ∈ ws := by
  obtain ⟨j, rfl⟩ : ∃ j : Nat, i = j := ⟨i.toNat, by omega⟩
  unfold atW
  rw [Int.toNat_natCast, List.getD_eq_getElem?_getD, List.getElem?_eq_getElem (by omega)]
  exact List.getElem_mem (by omega)
theorem done_share {ws : List Int} {x : Sg} (hi : 1 ≤ atW ws x.i) (hj : 1 ≤ atW ws x.j) : doneB ws x = match x.share with
    | none => false
    | some q => decide (atW ws x.j * (q.den : Int) = atW ws x.i * q.num) := by
  generalize hm : atW ws x.i = m at hi
  generalize hn : atW ws x.j = n at hj
  have m0 : (0 : Rat) < (m : Rat) := Rat.intCast_pos.mpr (by omega)
  have n0 : (0 : Rat) < (n : Rat) := Rat.intCast_pos.mpr (by omega)
  have e0 : doneB ws x = (x.reb && decide ((m : Rat) * x.lost = (n : Rat) * x.won)) := by unfold doneB; rw [hm, hn]
  rw [e0]
  unfold Sg.share
  cases hr : x.reb with
  | false => simp
  | true =>
    rw [Bool.true_and]
    obtain ⟨r1, r2⟩ := Bool.and_eq_true_iff.mp hr
    have r1 : ¬ x.v = x.w := fun e => by rw [decide_eq_true e] at r1; cases r1
    have r2 : x.b - x.a = x.v - x.w := of_decide_eq_true r2
    have cross : ∀ {q : Rat}, ((m : Rat) * q = (n : Rat)) ↔ n * (q.den : Int) = m * q.num := fun {q} => by
      have dp : (0 : Rat) < ((q.den : Int) : Rat) := Rat.intCast_pos.mpr (den_pos q)
      have eq : q * ((q.den : Int) : Rat) = (q.num : Rat) := by
        have h1 : q = (q.num : Rat) / ((q.den : Int) : Rat) := by
          rw [← Rat.divInt_eq_div]; exact (Rat.num_divInt_den q).symm
        have h2 := Rat.mul_inv_cancel ((q.den : Int) : Rat) (by grind)
        rw [Rat.div_def] at h1
        calc q * ((q.den : Int) : Rat) = (q.num : Rat) * (((q.den : Int) : Rat)⁻¹) * ((q.den : Int) : Rat) := by rw [← h1]
          _ = (q.num : Rat) * (((q.den : Int) : Rat) * (((q.den : Int) : Rat)⁻¹)) := by grind
          _ = (q.num : Rat) := by rw [h2, Rat.mul_one]
      constructor
      · intro h
        have : ((n * (q.den : Int) : Int) : Rat) = ((m * q.num : Int) : Rat) := by
          rw [Rat.intCast_mul, Rat.intCast_mul, ← eq, ← h]; grind
        exact Rat.intCast_inj.mp this
      · intro h
        have h : ((n * (q.den : Int) : Int) : Rat) = ((m * q.num : Int) : Rat) := by rw [h]
        rw [Rat.intCast_mul, Rat.intCast_mul, ← eq] at h
        have h3 : ((n : Rat) - (m : Rat) * q) * ((q.den : Int) : Rat) = 0 := by grind
        rcases Rat.mul_eq_zero.mp h3 with h4 | h4
        · grind
        · grind
    by_cases hw : x.won = 0
    · have hl : ¬ (m : Rat) * x.lost = (n : Rat) * x.won := fun e => by
        rw [hw, Rat.mul_zero] at e
        rcases Rat.mul_eq_zero.mp e with h | h
        · grind
        · unfold Sg.lost at h
          unfold Sg.won at hw
          grind
      rw [decide_eq_false hl, if_neg (fun z => by rw [hw, Rat.div_def, Rat.inv_zero, Rat.mul_zero] at z; exact absurd z.2 (by decide))]
    · have hi2 := Rat.mul_inv_cancel x.won hw
      have key : ((m : Rat) * x.lost = (n : Rat) * x.won) ↔ (m : Rat) * (x.lost / x.won) = (n : Rat) := by
        rw [Rat.div_def]
        constructor
        · intro h
          have : (m : Rat) * (x.lost * x.won⁻¹) = ((m : Rat) * x.lost) * x.won⁻¹ := by grind
          rw [this, h]
          have : (n : Rat) * x.won * x.won⁻¹ = (n : Rat) * (x.won * x.won⁻¹) := by grind
          rw [this, hi2, Rat.mul_one]
        · intro h
          rw [← h]
          have : (m : Rat) * (x.lost * x.won⁻¹) * x.won = (m : Rat) * x.lost * (x.won * x.won⁻¹) := by grind
          rw [this, hi2, Rat.mul_one]
      by_cases hp : 0 < x.lost / x.won
      · rw [if_pos ⟨rfl, hp⟩]
        exact decide_eq_decide.mpr (key.trans cross)
      · rw [if_neg (fun z => hp z.2)]
        refine decide_eq_false fun e => hp ?_
        have e := key.mp e
        by_cases h : 0 < x.lost / x.won
        · exact h
        · have := Rat.mul_nonneg (show 0 ≤ (m : Rat) by grind) (show 0 ≤ -(x.lost / x.won) by grind)
          grind
end HL
namespace HL
open PySem PySem.Spec PyProof.Rows L2 Evl RZ
/-! errors that carry a moment -/
/-- what the head tells of such a class -/
structure MC (K : KF) (x : Str) : Prop where
  oc : OexC K (He.ga K x)
  xf : XfC K (He.ga K x)
  no : PySem.W.findIn K (.ref (He.ga K x)) "moment" = some none
  ic : PySem.W.findIn K (.ref (He.ga K x)) "__init__" = some (some (.ref (He.fAd K (x, some "__init__"))))
  ti : PySem.W.typeIn K (.ref (He.fAd K (x, some "__init__"))) = some (.type "function")
/-- self.moment = moment -/
def spIni (K : KF) (x : Str) : Sp := fun vs H Q _ => ∃ (a : Addr) (v : V), vs = [.ref a, v] ∧ H a = some (exo a (He.ga K x) none) ∧
  ∀ dx, H dx = none → dx ≠ a → Q .non (upd (upd H dx (exd dx [("moment", v)])) a (exo a (He.ga K x) (some dx)))
def tRaiseM (K : KF) (x : Str) (te : TE) (W : WX) : TS := fun _ σ H => tMkO (He.ga K x) (spIni K x) [] (tCons te tNil) σ H fun c d H' => W c d σ H'
section
variable {K : KF} {W : WX} {Γ : Gm} {Ω : Om} {O : Outs} {R : DV → Om → Prop} {X : Exc → Om → Prop}
end
section
variable {X : Cx} {x n : Str} {i : Nat} {body suite : List Stmt} {b₀ : Stmt} {np pos pos' : Pos} {tb : WX → TS} {ts : Addr → Value → Option Addr → TS} {Wout : WX}
end
end HL
namespace HL
open PySem PySem.Spec PyProof.Rows L2 Evl RZ
/-! errors made and held as values -/
def tExV (K : KF) (x : Str) (te : TE) : TE := fun σ H Q => te σ H fun _ H1 => ∀ a, H1 a = none → Q (.ref a) (upd H1 a (ExO (.ref (He.ga K x)) a))
def tMkV (K : KF) (x : Str) (te : TE) : TE := fun σ H Q => te σ H fun v H1 => ∀ a dx, H1 a = none → H1 dx = none → dx ≠ a → Q (.ref a) (upd (upd H1 dx (exd dx [("moment", v)])) a (exo a (He.ga K x) (some dx)))
/-- isinstance of such a value -/
def rIsV (K : KF) : List V → Hp → VK → Prop := fun xs H Q => ∃ (a D : Addr) (c : V) (cv : Value) (b : Bool), xs = [.ref a, c] ∧ (∀ u, RelV c u → u = cv) ∧ ExcC K D ∧ PySem.W.kitOne K (.ref D) cv = some b ∧
  (H a = some (ExO (.ref D) a) ∨ ∃ d fs, H a = some (exo a D (some d)) ∧ H d = some (exd d fs)) ∧ Q (.bl b) H
/-- its moment -/
def tXfV (K : KF) (f : Str) (te : TE) : TE := fun σ H Q => te σ H fun x H1 => ∃ (a C d : Addr) (fs : List (Str × V)) (v : V), x = .ref a ∧ XfC K C ∧ PySem.W.findIn K (.ref C) f = some none ∧ H1 a = some (exo a C (some d)) ∧ H1 d = some (exd d fs) ∧ fs.lookup f = some v ∧ Q v H1
section
variable {K : KF} {W : WX} {Γ : Gm} {Ω : Om} {R : DV → Om → Prop} {X : Exc → Om → Prop} {te : TE} {x : Str}
end
/-- the twelve refusals -/
structure Ap (K : KF) (x : Str) : Prop where
  ec : ExcC K (He.ga K x)
  ka : KA K x "ClackError" true
  kv : KV K x "ValueError" true
  kk : ∀ y ∈ refusals, KA K x y (decide (x = y))
/-- held as a value -/
def Held (K : KF) (x : Str) (e : Exc) (a : Addr) (dd : Option Addr) : Prop := (e = .vo (He.ga K x) a ∧ dd = none) ∨ ∃ f y, e = .vl (He.ga K x) f y a
end HL
namespace HL
open PySem PySem.Spec PyProof.Rows L2 Evl RZ
/-! tuples with parts of one's own -/
def Pt.dv : Pt → DV
  | .d x => .d x
  | .o i => .o i
theorem pt_rv {K : KF} {m : Mp} {G : Hp} {n : Nat} : ∀ {ps : List Pt} {vs : List V}, Paired (RPt K m G n) ps vs → Paired (RV K m G n) (ps.map Pt.dv) vs
  | _, _, .nil => .nil
  | .d _ :: _, _, .cons a b => .cons a (pt_rv b)
  | .o _ :: _, _, .cons a b => .cons a (pt_rv b)
theorem rv_pt {K : KF} {m : Mp} {G : Hp} {n : Nat} : ∀ {ps : List Pt} {vs : List V}, Paired (RV K m G n) (ps.map Pt.dv) vs → Paired (RPt K m G n) ps vs
  | [], _, .nil => .nil
  | .d _ :: _, _, .cons a b => .cons a (rv_pt b)
  | .o _ :: _, _, .cons a b => .cons a (rv_pt b)
def tTupO : TA → TE := tTup
section
variable {K : KF} {W : WX} {Γ : Gm} {Ω : Om} {R : DV → Om → Prop} {X : Exc → Om → Prop} {tl : TA}
theorem we_tupO (h : WA K W tl Γ Ω (fun ds Ω1 => ∃ ps : List Pt, ds = ps.map Pt.dv ∧ ps.length ≤ 100000 ∧ R (.t ps) Ω1) X) : WE K W (tTupO tl) Γ Ω R X := fun m G H σ Q c s k x =>
  h m G H σ _ c s (fun m1 G1 Ω1 H1 ds vs c1 n1 l1 r1 ⟨ps, e, hl, q⟩ => by
    subst e
    have hlen := Paired.length r1
    rw [List.length_map] at hlen
    refine ⟨sz_of (by rw [← hlen]; exact hl), fun p hp => ?_⟩
    obtain ⟨c2, n2⟩ := c1.frz hp (.tup vs)
    exact k _ _ _ _ (.t ps) _ c2 (n1.trans l1 n2) l1 ⟨p, vs, rfl, upd_same, Paired.mono (fun _ _ q => RPt.mono n2 (Nat.le_refl _) q) (rv_pt r1)⟩ q) x
theorem wr_ixTO {ps : List Pt} {i : Int} {y : Pt} (hi : atI ps i = some y) (q : R y.dv Ω) : WR K (rIx K) (.t ps) (.d (.int i)) Ω R := fun m G H v w Q c r1 r2 k => by
  cases r2
  obtain ⟨a, vs, rfl, g, rp⟩ := r1
  obtain ⟨u, e, ru⟩ := atI_pair (pt_rv rp) (x := y.dv) (by rw [atI_map, hi]; rfl)
  exact .inr (.inl ⟨a, vs, i, u, rfl, rfl, st_of (c.ex _ _ g), e, k _ _ _ _ _ _ c (Nxt.refl ..) (Nat.le_refl _) ru q⟩)
/-- one's own list, another one of one's own behind it -/
theorem wm_extend {i j : Nat} {ds es : List DV} (hx : Ω[i]? = some (.lst ds)) (hy : Ω[j]? = some (.lst es)) (hl : ds.length + es.length ≤ 100000) (q : R (.d .none) (Ω.set i (.lst (ds ++ es)))) : WM K rExtend (.o i) [.o j] Ω R := fun m G H v vs Q c r1 r2 k => by
  obtain ⟨hi, rfl⟩ := r1
  cases r2 with
  | cons ry rn =>
    cases rn
    obtain ⟨hj, rfl⟩ := ry
    obtain ⟨_, ws, hw, rp⟩ := c.fr i _ hx (by intro z; cases z)
    obtain ⟨_, us, hu, rq⟩ := c.fr j _ hy (by intro z; cases z)
    refine ⟨m i, m j, ws, us, rfl, rfl, hw, hu, sz_of (by rw [← Paired.length rp, ← Paired.length rq]; exact hl), ?_⟩
    have c2 := c.write (y := .lst (ds ++ es)) (o := .lst (ws ++ us)) hx (by intro z; cases z) ⟨_, upd_same, Paired.app rp rq⟩
    exact k _ _ _ _ (.d .none) _ c2 (Nxt.refl ..) (by rw [List.length_set]; exact Nat.le_refl _) Dp.non q
end
/-! things on a line: balls and walls -/
structure Th where
  p : Rat
  s : Rat
  r : List PyData
def dTh (x : Th) : PyData := .tuple (dR x.p :: dR x.s :: x.r)
def thB (b : Bl) : Th := ⟨b.p, b.s, [.int b.w]⟩
def thW (w : Rat × Rat) : Th := ⟨w.1, w.2, []⟩
def meetT (x y : Th) : Option Rat := if y.s < x.s then some ((y.p - x.p) / (x.s - y.s)) else none
def onT (t : Rat) (x : Th) : Th := ⟨x.p + x.s * t, x.s, x.r⟩
def onB (t : Rat) (b : Bl) : Bl := ⟨b.p + b.s * t, b.s, b.w⟩
def onW (t : Rat) (w : Wl) : Wl := w.map fun x => (x.1 + x.2 * t, x.2)
structure ThSz (n : Nat) (x : Th) : Prop where
  p : Sz n x.p
  s : Sz n x.s
theorem ThSz.mono {n m : Nat} {x : Th} (h : ThSz n x) (l : n ≤ m) : ThSz m x := ⟨h.p.mono l, h.s.mono l⟩
section
variable {K : KF} {W : WX} {Γ : Gm} {Ω : Om} {R : DV → Om → Prop} {X : Exc → Om → Prop}
end
def stepM (b m : Option Rat) : Option Rat := match m with
  | none => b
  | some t => match b with
    | none => some t
    | some u => if t < u then some t else some u
def prsT (l : List Th) : List (Th × Th) := l.zip (l.drop 1)
def leastM (l : List Th) : Option Rat := (prsT l).foldl (fun b p => stepM b (meetT p.1 p.2)) none
def thingsL (a : Wl) (l : List Bl) (c : Wl) : List Th := a.toList.map thW ++ l.map thB ++ c.toList.map thW
def dOT : Option Th → PyData
  | none => .none
  | some x => dTh x
def lineO (a : Wl) (l : List Bl) (c : Wl) : List (Option Th) := [a.map thW] ++ l.map (fun b => some (thB b)) ++ [c.map thW]
def stepO (b : Option Rat) (p : Option Th × Option Th) : Option Rat := match p with
  | (some x, some y) => stepM b (meetT x y)
  | _ => b
def runT (b : Option Rat) : List Th → Option Rat
  | x :: y :: r => runT (stepM b (meetT x y)) (y :: r)
  | _ => b
def runO (b : Option Rat) : List (Option Th) → Option Rat
  | x :: y :: r => runO (stepO b (x, y)) (y :: r)
  | _ => b
def OSz (n : Nat) (b : Option Rat) : Prop := ∀ t, b = some t → Sz n t
/-! when walls meet -/
def meetW (a c : Wl) : Option Rat := match a, c with
  | some a, some c => meetT (thW a) (thW c)
  | _, _ => none
def shutB (a c : Wl) (t : Rat) : Bool := match a, c with
  | some a, some c => decide (a.1 + a.2 * t = c.1 + c.2 * t)
  | _, _ => false
structure LinedAt (m : Rat) (a : Wl) (l : List Bl) (c : Wl) : Prop where
  or : ∀ p ∈ prsT (thingsL a l c), p.1.p + p.1.s * m ≤ p.2.p + p.2.s * m
  ap : ∀ w1 w2 : Rat × Rat, a = some w1 → c = some w2 → w1.1 + w1.2 * m < w2.1 + w2.2 * m
/-- a drawn row between walls -/
structure DrawnOk (l : List Bl) (a c : Wl) : Prop where
  nz : l ≠ []
  le : l.length ≤ 8
  w0 : ∀ b ∈ l, 1 ≤ b.w ∧ b.w ≤ 1000
  zl : ∀ b ∈ l, Sz 320 b.p ∧ Sz 320 b.s
  za : WSz 320 a
  zc : WSz 320 c
  ln : (a = none ∨ c = none) ∨ ∃ m, LinedAt m a l c
/-! groups -/
abbrev Gp := Nat × Nat × Str
def dG (g : Gp) : PyData := .tuple [.int (g.1 : Int), .int (g.2.1 : Int), .str g.2.2]
def atB : Wl → Rat → Bool
  | some w, q => decide (w.1 = q)
  | none, _ => false
def thereW (a c : Wl) (q : Rat) : Str := if atB a q = true then "low" else if atB c q = true then "high" else ""
def comesB (b : Bl) (a c : Wl) (z : Str) : Bool := if z = "low" then (match a with | some w => decide (b.s < w.2) | none => false) else if z = "high" then (match c with | some w => decide (w.2 < b.s) | none => false) else false
def endB (b : Bl) : List Bl → Bool
  | [] => true
  | b' :: _ => !decide (b'.p = b.p)
def grp (a c : Wl) : Nat → Nat → List Bl → List Gp
  | _, _, [] => []
  | f, k, b :: r => if endB b r = true then
      (if (decide (f < k) || comesB b a c (thereW a c b.p)) = true then [(f, k, thereW a c b.p)] else []) ++ grp a c (k + 1) (k + 1) r
    else grp a c f (k + 1) r
def gsAt (a : Wl) (l : List Bl) (c : Wl) (t : Rat) : List Gp := grp (onW t a) (onW t c) 0 0 (l.map (onB t))
theorem eqv_self {x : PyData} (h : SeqAt.shaped x = true) : PyData.eqv x x = true := SeqAt.eqv_refl x (SeqAt.canLay_of_shaped h)
section
variable {K : KF} {Ω : Om} {R : DV → Om → Prop}
/-- the same on both sides -/
theorem wr_neSelf {x y : DV} {d : PyData} (hx : vw Ω x = some d) (hy : vw Ω y = some d) (s : SeqAt.shaped d = true) (q : R (.d (.bool false)) Ω) : WR K (rNeD K) x y Ω R := wr_ne hx hy s s (by rw [eqv_self s]; exact q)
end
/-- groups one behind the other, in a row of so many -/
def Where (z : Str) : Prop := z = "low" ∨ z = "high" ∨ z = ""
def GpsOk (N : Nat) : Nat → List Gp → Prop
  | _, [] => True
  | k, g :: gs => k ≤ g.1 ∧ g.1 ≤ g.2.1 ∧ g.2.1 < N ∧ Where g.2.2 ∧ GpsOk N (g.2.1 + 1) gs
theorem GpsOk.mono {N k k' : Nat} : ∀ {gs : List Gp}, GpsOk N k' gs → k ≤ k' → GpsOk N k gs
  | [], _, _ => trivial
  | _ :: _, ⟨h1, h2⟩, h => ⟨Nat.le_trans h h1, h2⟩
/-! isinstance of a caught error that bears a value -/
def rIsXD (K : KF) (cls : Value) (dd : Option Addr) (a : Addr) : List V → Hp → VK → Prop := fun xs H Q => ∃ (D d : Addr) (fs : List (Str × V)) (c : V) (cv : Value) (b : Bool), cls = .ref D ∧ dd = some d ∧ H d = some (.xd fs) ∧ ExcC K D ∧ xs = [.ref a, c] ∧ (∀ u, RelV c u → u = cv) ∧ PySem.W.kitOne K (.ref D) cv = some b ∧ Q (.bl b) H
def rIsTD (K : KF) (cls : Value) (dd : Option Addr) (a : Addr) : List V → Hp → VK → Prop := fun xs H Q => ∃ (D d : Addr) (fs : List (Str × V)), cls = .ref D ∧ dd = some d ∧ H d = some (.xd fs) ∧ ExcC K D ∧ ∃ (tp : Addr) (cs : List V) (us : List Value) (b : Bool), xs = [.ref a, .ref tp] ∧ H tp = some (.tup cs) ∧ Paired ClsV cs us ∧ PySem.W.kitAny K (.ref D) us = some b ∧ Q (.bl b) H
def tIsTD (K : KF) (cls : Value) (dd : Option Addr) (a : Addr) (te : TE) (cs : List Addr) : TE := tCB (rIsTD K cls dd a) (tCons te (tCons (tTup (tCs (cs.map V.ref))) tNil))
/-! all come together at one moment and place -/
/-! a call of what is taken out of a display of two functions -/
def tCallX (tf : TE) (f g : Addr) (sp sp2 : Sp) (E : L2.St → XK) (t : TA) : TE := fun σ H Q => tf σ H fun v H1 => (v = .ref f ∧ t σ H1 fun vs H2 => sp vs H2 Q (E σ)) ∨ (v = .ref g ∧ t σ H1 fun vs H2 => sp2 vs H2 Q (E σ))
/-! dicts of one's own, keys known ahead -/
def lookK (kvs : List (L2.Key × DV)) (k : L2.Key) : Option DV := (kvs.find? fun kv => decide (kv.1 = k)).map (·.2)
def keyD : DV → Option L2.Key
  | .d (.int i) => some (.inl i)
  | .d (.str z) => some (.inr z)
  | _ => none
theorem look_rel {K : KF} {m : Mp} {G : Hp} {n : Nat} {k : L2.Key} : ∀ {kvs : List (L2.Key × DV)} {vs : List (L2.Key × V)}, Paired (KRel K m G n) kvs vs → ∀ {d : DV}, lookK kvs k = some d → ∃ v, valV vs k = some v ∧ RV K m G n d v
  | [], _, _, d, h => by cases h
  | (k1, d1) :: kvs, _, .cons (b := (k2, v2)) (l₂ := vs) r rs, d, h => by
    obtain ⟨e, r⟩ := r
    have e : k2 = k1 := e
    subst e
    by_cases hk : k2 = k
    · have : lookK ((k2, d1) :: kvs) k = some d1 := by unfold lookK; rw [List.find?_cons_of_pos (by simp [hk])]; rfl
      rw [this] at h
      cases h
      exact ⟨v2, valV_pos hk, r⟩
    · have : lookK ((k2, d1) :: kvs) k = lookK kvs k := by unfold lookK; rw [List.find?_cons_of_neg (by simp [hk])]
      rw [this] at h
      obtain ⟨v, e, r⟩ := look_rel rs h
      exact ⟨v, (valV_neg hk).trans e, r⟩
theorem key_rel {K : KF} {m : Mp} {G : Hp} {n : Nat} {d : DV} {k : L2.Key} {v : V} (h : keyD d = some k) (r : RV K m G n d v) : v = kV k := by
  cases d with
  | d x =>
    cases x with
    | int i => cases h; cases r; rfl
    | str z => cases h; cases r; rfl
    | _ => cases h
  | _ => cases h
def tDispC (kts : List (L2.Key × TE)) : TE := tDisp (kts.map fun p => (tC (kV p.1), p.2))
def WPs (K : KF) (W : WX) : List (L2.Key × TE) → Gm → Om → (List (L2.Key × DV) → Om → Prop) → (Exc → Om → Prop) → Prop
  | [], _, Ω, S, _ => S [] Ω
  | (k, t) :: r, Γ, Ω, S, X => WE K W t Γ Ω (fun y Ω1 => WPs K W r Γ Ω1 (fun ps Ω2 => S ((k, y) :: ps) Ω2) X) X
theorem we_dget {K : KF} {W : WX} {Γ : Gm} {Ω : Om} {R : DV → Om → Prop} {X : Exc → Om → Prop} {td ty : TE}
    (h : WE K W td Γ Ω (fun x Ω1 => WE K W ty Γ Ω1 (fun y Ω2 => ∃ i kvs k v, x = .o i ∧ Ω2[i]? = some (.dic kvs) ∧ keyD y = some k ∧ lookK kvs k = some v ∧ R v Ω2) X) X) : WE K W (tDGet td ty) Γ Ω R X := fun m G H σ Q c s k x =>
  h m G H σ _ c s (fun m1 G1 Ω1 H1 d1 v1 c1 n1 l1 r1 h1 => h1 m1 G1 H1 σ _ c1 (s.mono n1 l1) (fun m2 G2 Ω2 H2 d2 v2 c2 n2 l2 r2 ⟨i, kvs, ky, v, e1, g, e2, e3, q⟩ => by
    subst e1
    obtain ⟨hi, ev⟩ := RV.mono n2 l2 r1
    obtain ⟨-, vs, eh, rs⟩ := c2.fr i _ g (by intro z; cases z)
    obtain ⟨w, ew, rw_⟩ := look_rel rs e3
    refine ⟨m2 i, w, ev, ?_, k m2 G2 Ω2 H2 v w c2 (n1.trans l1 n2) (Nat.le_trans l1 l2) rw_ q⟩
    rw [key_rel e2 r2, ← ew]
    exact DGet.k eh) (x.on n1 l1)) x
/-! what is behind a coming -/
def twoS (x y : Bl) : List Rat := [x.s - ((2 * y.w : Int) : Rat) * (x.s - y.s) / ((x.w + y.w : Int) : Rat), y.s + ((2 * x.w : Int) : Rat) * (x.s - y.s) / ((x.w + y.w : Int) : Rat)]
def insAt (x : Rat) : List Rat → Nat
  | [] => 0
  | y :: r => if y < x then insAt x r + 1 else 0
def insR (x : Rat) (l : List Rat) : List Rat := l.take (insAt x l) ++ [x] ++ l.drop (insAt x l)
def risingL (l : List Rat) : List Rat := l.foldl (fun acc x => insR x acc) []
def unlikeB (l : List Bl) : Bool := decide (1 < l.length) && (l.map fun b => !decide (b.w = (l.headD ⟨0, 0, 0⟩).w)).any id
def turnW (w : Wl) (s : Rat) : Rat := match w with
  | none => s
  | some w => 2 * w.2 - s
def togS (l : List Bl) (w : Wl) : List Rat := match l, w with
  | [x, y], none => twoS x y
  | l, w => risingL (l.map fun b => turnW w b.s)
def freeB (l : List Bl) (w : Wl) : Bool := (decide (l.length = 2) && w.isNone) || !unlikeB l
def namedW (a c : Wl) (z : Str) : Wl := if z = "low" then a else if z = "high" then c else none
def cutB (l : List Bl) (g : Gp) : List Bl := (l.drop g.1).take (g.2.1 + 1 - g.1)
def newB (bs : List Bl) (ss : List Rat) : List Bl := (bs.zip ss).map fun p => ⟨p.1.p, p.2, p.1.w⟩
def rebL (l : List Bl) (a c : Wl) : Nat → List Gp → Option (List Bl)
  | k, [] => some (l.drop k)
  | k, g :: gs => if freeB (cutB l g) (namedW a c g.2.2) = true then
      (rebL l a c (g.2.1 + 1) gs).map fun r => (l.drop k).take (g.1 - k) ++ newB (cutB l g) (togS (cutB l g) (namedW a c g.2.2)) ++ r
    else none
def behL (a : Wl) (l : List Bl) (c : Wl) (t : Rat) : Option (List Bl) := rebL (l.map (onB t)) (onW t a) (onW t c) 0 (gsAt a l c t)
/-! sorting -/
/-! one turn of a bubble sort -/
def passA (x : Rat) : List Rat → List Rat
  | [] => [x]
  | y :: r => if y < x then y :: passA x r else x :: passA y r
/-- the last so many in their places -/
def Srt (i : Nat) (l : List Rat) : Prop := ∃ P S, l = P ++ S ∧ S.length = i ∧ S.Pairwise (· ≤ ·) ∧ ∀ z ∈ P, ∀ s ∈ S, z ≤ s
end HL
namespace HL
open PySem PySem.Spec PyProof.Rows L2 Evl RZ
/-! dicts whose keys are tuples -/
def keysO (p a : Addr) : HO := .ext fun h => PySem.W.KdlKeysView h p a
abbrev ordI : List Int → List Int → Bool := PySem.W.dataLe false fun ns => .tuple (ns.map .int)
section
variable {X : Cx}
def rKeysT : V → List V → Hp → VK → Prop := fun x xs H Q => ∃ (a : Addr) (kvs : List (List L2.Key × V)), x = .ref a ∧ xs = [] ∧ H a = some (.dT kvs) ∧ ∀ p, H p = none → Q (.ref p) (upd H p (keysO p a))
def IsKs (H : Hp) : List (List Int) → List Addr → Prop := Paired fun ns b => H b = some (.tup (ns.map V.int))
def rSortKT : List V → Hp → VK → Prop := fun vs H Q => ∃ (p a : Addr) (kvs : List (List L2.Key × V)) (nss : List (List Int)), vs = [V.ref p] ∧ H p = some (keysO p a) ∧ H a = some (.dT kvs) ∧ kvs.map (·.1) = nss.map (List.map Sum.inl) ∧ (∀ ns ∈ nss, ns ≠ []) ∧
  ∀ q bs, H q = none → IsKs H (nss.mergeSort ordI) bs → Q (.ref q) (upd H q (.lst (bs.map V.ref)))
end
/-! on the layer -/
def keyPt : L2.Key → Pt
  | .inl n => .d (.int n)
  | .inr s => .d (.str s)
def putT {α : Type} (kvs : List (List L2.Key × α)) (k : List L2.Key) (v : α) : List (List L2.Key × α) :=
  if (kvs.any fun kv => decide (kv.1 = k)) = true then kvs.map (fun kv => if kv.1 = k then (kv.1, v) else kv) else kvs ++ [(k, v)]
section
variable {K : KF} {W : WX} {Γ : Gm} {Ω : Om} {R : DV → Om → Prop} {X : Exc → Om → Prop} {td ty tv : TE} {O : Outs}
def tSortK (K : KF) (td : TE) : TE := tCB rSortKT (tCons (tBM0 K "dict" rKeysT td) tNil)
end
end HL
namespace HL
open PySem PySem.Spec PyProof.Rows L2 Evl RZ
/-! lines: straight ways, folded; drawn worlds of balls of one weight -/
def dOI : Option Int → PyData
  | none => .none
  | some i => .int i
def dIP (x : Int × Int) : PyData := .tuple [.int x.1, .int x.2]
structure Wd where
  u : Int
  b : Int
  low : Option Int
  high : Option Int
  balls : List (Int × Int)
  w : Int
def dWd (x : Wd) : PyData := .tuple [.int x.u, .int x.b, dOI x.low, dOI x.high, .list (x.balls.map dIP), .int x.w]
def ltP (y z : Int × Int) : Prop := y.1 < z.1 ∨ (y.1 = z.1 ∧ y.2 < z.2)
structure WdOk (x : Wd) : Prop where
  u : 1 ≤ x.u ∧ x.u ≤ 9
  b : 1 ≤ x.b ∧ x.b ≤ 12
  w : 1 ≤ x.w ∧ x.w ≤ 1000
  nz : x.balls ≠ []
  len : x.balls.length ≤ 8
  sz : ∀ y ∈ x.balls, y.1.natAbs < 2 ^ 70 ∧ y.2.natAbs < 2 ^ 70
  lo : ∀ a, x.low = some a → a.natAbs < 2 ^ 70 ∧ ∀ y ∈ x.balls, a ≤ y.1 ∧ (y.1 = a → 0 ≤ y.2)
  hi : ∀ c, x.high = some c → c.natAbs < 2 ^ 70 ∧ ∀ y ∈ x.balls, y.1 ≤ c ∧ (y.1 = c → y.2 ≤ 0)
  ap : ∀ a c, x.low = some a → x.high = some c → a < c
  so : x.balls.Pairwise ltP
def Wd.bl (x : Wd) (y : Int × Int) : Bl := ⟨Rat.divInt y.1 x.u, Rat.divInt y.2 x.b, x.w⟩
def Wd.row (x : Wd) : List Bl := x.balls.map x.bl
def Wd.wl (x : Wd) (o : Option Int) : Wl := o.map fun a => (Rat.divInt a x.u, 0)
/-! ways as though alone -/
def absQ (q : Rat) : Rat := if q < 0 then -q else q
def phR (b : Bl) (a c : Rat) : Rat := if b.s < 0 then 2 * (c - a) - (b.p - a) else b.p - a
def passR (b v A t : Rat) : Int := ((b + v * t) / A).floor - (b / A).floor
def noughtR (b v t : Rat) : Int := if v = 0 ∨ 0 ≤ b * v then 0 else if t < -b / v then 0 else 1
def crR (b v A t : Rat) : Int := if v < 0 then passR (-b) (-v) A t else passR b v A t
def metBw (x y : Bl) (a c t : Rat) : Int :=
  if absQ x.s < absQ y.s then passR (phR y a c - phR x a c) (absQ y.s - absQ x.s) (2 * (c - a)) t + passR (phR y a c + phR x a c) (absQ y.s + absQ x.s) (2 * (c - a)) t
  else passR (phR x a c - phR y a c) (absQ x.s - absQ y.s) (2 * (c - a)) t + passR (phR x a c + phR y a c) (absQ x.s + absQ y.s) (2 * (c - a)) t
def metWl (x y : Bl) (w t : Rat) : Int := noughtR (x.p - w - (y.p - w)) (x.s - y.s) t + noughtR (x.p - w + (y.p - w)) (x.s + y.s) t
def metQ (a c : Wl) (x y : Bl) (t : Rat) : Int := match a, c with
  | some a, some c => metBw x y a.1 c.1 t
  | some a, none => metWl x y a.1 t
  | none, some c => metWl x y c.1 t
  | none, none => noughtR (x.p - y.p) (x.s - y.s) t
def knW (w : Wl) (b : Bl) (t : Rat) : Int := match w with
  | none => 0
  | some w => noughtR (b.p - w.1) b.s t
def knQ (a c : Wl) (b : Bl) (t : Rat) : Int × Int := match a, c with
  | some a, some c => (passR (phR b a.1 c.1) (absQ b.s) (2 * (c.1 - a.1)) t, passR (phR b a.1 c.1 - (c.1 - a.1)) (absQ b.s) (2 * (c.1 - a.1)) t)
  | _, _ => (knW a b t, knW c b t)
/-! the law's own numbers -/
def crossI (b v far t : Int) : Int :=
  if far = 0 then (if (if v < 0 then 0 - b else b) < 0 ∧ 0 ≤ (if v < 0 then 0 - b else b) + (if v < 0 then 0 - v else v) * t then 1 else 0)
  else ((if v < 0 then 0 - b else b) + (if v < 0 then 0 - v else v) * t) / far - (if v < 0 then 0 - b else b) / far
/-! the law's numbers are those of the ways -/
def Wd.edge (x : Wd) : Int := match x.low, x.high with
  | some a, _ => a
  | none, some c => c
  | none, none => 0
def Wd.far (x : Wd) (sc : Int) : Int := match x.low, x.high with
  | some a, some c => 2 * (c - a) * sc
  | _, _ => 0
def Wd.free (x : Wd) : Bool := x.low.isNone && x.high.isNone
def pairI (x : Wd) (y z : Int × Int) (T D : Int) : Int :=
  crossI ((y.1 - x.edge) * (x.b * D) - (z.1 - x.edge) * (x.b * D)) ((y.2 - z.2) * x.u) (x.far (x.b * D)) T + (if x.free = true then 0 else crossI ((y.1 - x.edge) * (x.b * D) + (z.1 - x.edge) * (x.b * D)) ((y.2 + z.2) * x.u) (x.far (x.b * D)) T)
def knI1 (x : Wd) (w : Option Int) (y : Int × Int) (T D : Int) : Int := match w with
  | none => 0
  | some w => crossI ((y.1 - w) * (x.b * D)) (y.2 * x.u) (x.far (x.b * D)) T
/-! over all pairs, the one ahead of the other -/
def pairAt {α : Type} (f : α → α → Int) (l : List α) (j i : Nat) : Int := match l[i]?, l[j]? with
  | some x, some y => f x y
  | _, _ => 0
def pairSum {α : Type} (f : α → α → Int) (l : List α) : Int := ((List.range l.length).map fun j => ((List.range j).map (pairAt f l j)).sum).sum
def countsQ (a c : Wl) (l : List Bl) (t : Rat) : Int × Int × Int := (pairSum (fun x y => metQ a c x y t) l, (l.map fun b => (knQ a c b t).1).sum, (l.map fun b => (knQ a c b t).2).sum)
def dI3 (x : Int × Int × Int) : PyData := .tuple [.int x.1, .int x.2.1, .int x.2.2]
section
variable {K : KF} {W : WX} {Γ : Gm} {Ω : Om} {R : DV → Om → Prop} {x : Wd} {S : Gm → Om → Prop} {gs : TGs}
theorem wg_Wd (h : WGs K gs [.d (.int x.u), .d (.int x.b), .d (dOI x.low), .d (dOI x.high), .d (.list (x.balls.map dIP)), .d (.int x.w)] Γ Ω S) : WG K (gTup K 6 gs) (.d (dWd x)) Γ Ω S := wg_tup (xs := [.int x.u, .int x.b, dOI x.low, dOI x.high, .list (x.balls.map dIP), .int x.w]) rfl h
theorem wsl_Wd (q : R (.d (.tuple ([x.low, x.high].map dOI))) Ω) : WSl K (rSlS K) (.d (dWd x)) (some 2) (some 4) Ω R := wsl_T (xs := [.int x.u, .int x.b, dOI x.low, dOI x.high, .list (x.balls.map dIP), .int x.w]) q
theorem wr_ixWd0 (q : R (.d (.int x.u)) Ω) : WR K (rIx K) (.d (dWd x)) (.d (.int 0)) Ω R := wr_ixT (xs := [.int x.u, .int x.b, dOI x.low, dOI x.high, .list (x.balls.map dIP), .int x.w]) rfl q
theorem wr_ixWd1 (q : R (.d (.int x.b)) Ω) : WR K (rIx K) (.d (dWd x)) (.d (.int 1)) Ω R := wr_ixT (xs := [.int x.u, .int x.b, dOI x.low, dOI x.high, .list (x.balls.map dIP), .int x.w]) rfl q
theorem wr_ixWd2 (q : R (.d (dOI x.low)) Ω) : WR K (rIx K) (.d (dWd x)) (.d (.int 2)) Ω R := wr_ixT (xs := [.int x.u, .int x.b, dOI x.low, dOI x.high, .list (x.balls.map dIP), .int x.w]) rfl q
theorem wr_ixWd3 (q : R (.d (dOI x.high)) Ω) : WR K (rIx K) (.d (dWd x)) (.d (.int 3)) Ω R := wr_ixT (xs := [.int x.u, .int x.b, dOI x.low, dOI x.high, .list (x.balls.map dIP), .int x.w]) rfl q
theorem wr_ixWd4 (q : R (.d (.list (x.balls.map dIP))) Ω) : WR K (rIx K) (.d (dWd x)) (.d (.int 4)) Ω R := wr_ixT (xs := [.int x.u, .int x.b, dOI x.low, dOI x.high, .list (x.balls.map dIP), .int x.w]) rfl q
theorem wr_ixWd5 (q : R (.d (.int x.w)) Ω) : WR K (rIx K) (.d (dWd x)) (.d (.int 5)) Ω R := wr_ixT (xs := [.int x.u, .int x.b, dOI x.low, dOI x.high, .list (x.balls.map dIP), .int x.w]) rfl q
theorem wr_ixIP0 {y : Int × Int} (q : R (.d (.int y.1)) Ω) : WR K (rIx K) (.d (dIP y)) (.d (.int 0)) Ω R := wr_ixT (xs := [.int y.1, .int y.2]) rfl q
theorem wr_ixIP1 {y : Int × Int} (q : R (.d (.int y.2)) Ω) : WR K (rIx K) (.d (dIP y)) (.d (.int 1)) Ω R := wr_ixT (xs := [.int y.1, .int y.2]) rfl q
theorem wg_tupIP {y : Int × Int} (h : WGs K gs [.d (.int y.1), .d (.int y.2)] Γ Ω S) : WG K (gTup K 2 gs) (.d (dIP y)) Γ Ω S := wg_tup2 h
theorem wr_notNI {o : Option Int} (q : R (.d (.bool o.isSome)) Ω) : WR K oNotN (.d (dOI o)) (.d .none) Ω R := by
  cases o with
  | none => exact wr_notN' rfl q
  | some a => exact wr_notN' rfl q
theorem wr_isNI {o : Option Int} (q : R (.d (.bool o.isNone)) Ω) : WR K oIsN (.d (dOI o)) (.d .none) Ω R := by
  cases o with
  | none => exact wr_isN' rfl q
  | some a => exact wr_isN' rfl q
end
section
variable {K : KF} {Ω : Om} {R : DV → Om → Prop}
end
theorem we_two {K : KF} {W : WX} {Γ : Gm} {Ω : Om} {R : DV → Om → Prop} {X : Exc → Om → Prop} (h : He.tupB K "TWO" [.int 2, .int 1] = true) (q : R (.d (dR 2)) Ω) : WE K W (tC (.ref (He.ga K "TWO"))) Γ Ω R X :=
  we_g (tup_dp h fun G => .cons (.int 2) (.cons (.int 1) .nil)) q
--TACB
local macro_rules | `(tactic| walk_at "hl1") => `(tactic| first
  | with_reducible refine wg_Wd ?_
  | with_reducible refine wsl_Wd ?_
  | with_reducible refine wr_ixWd0 ?_
  | with_reducible refine wr_ixWd1 ?_
  | with_reducible refine wr_ixWd2 ?_
  | with_reducible refine wr_ixWd3 ?_
  | with_reducible refine wr_ixWd4 ?_
  | with_reducible refine wr_ixWd5 ?_
  | with_reducible refine wr_ixIP0 ?_
  | with_reducible refine wr_ixIP1 ?_
  | with_reducible refine wg_tupIP ?_
  | with_reducible refine wr_notNI ?_
  | with_reducible refine wr_isNI ?_
  | ((with_reducible refine' we_two ?h1 ?_); (case h1 => assumption)))
--END TACB
end HL
namespace HL
open PySem PySem.Spec PyProof.Rows L2 Evl RZ
/-! ### a list, a tuple behind it -/
section
variable {X : Cx}
def rExtendT (K : KF) : V → List V → Hp → VK → Prop := fun x vs H Q => ∃ l b xs zs, x = .ref l ∧ vs = [.ref b] ∧ H l = some (.lst xs) ∧ SqT K H b zs ∧ xs.length + zs.length ≤ sizeLine ∧ Q .non (upd H l (.lst (xs ++ zs)))
end
section
variable {K : KF} {Ω : Om} {R : DV → Om → Prop}
end
/-! ### where lines are -/
def dLn (x : Rat × Rat) : PyData := .tuple [dR x.1, dR x.2]
def restR (p q : Rat) : Rat := p - ((p / q).floor : Rat) * q
def phaseR (b : Bl) (a c t : Rat) : Rat := restR (phR b a c + absQ b.s * t) (2 * (c - a))
def lineBw (b : Bl) (a c t : Rat) : Rat × Rat := if absQ b.s = 0 ∨ phaseR b a c t < c - a then (a + phaseR b a c t, absQ b.s) else (a + (2 * (c - a) - phaseR b a c t), -absQ b.s)
def hitLo : Wl → Rat → Rat → Bool
  | none, _, _ => false
  | some w, s, p => decide (s < 0) && !decide (w.1 < p)
def hitHi : Wl → Rat → Rat → Bool
  | none, _, _ => false
  | some w, s, p => decide (0 < s) && !decide (p < w.1)
def wlP : Wl → Rat
  | none => 0
  | some w => w.1
def lineBy (b : Bl) (a c : Wl) (t : Rat) : Rat × Rat :=
  if hitLo a b.s (b.p + b.s * t) = true then (2 * wlP a - (b.p + b.s * t), -b.s) else if hitHi c b.s (b.p + b.s * t) = true then (2 * wlP c - (b.p + b.s * t), -b.s) else (b.p + b.s * t, b.s)
def lineQ (a c : Wl) (b : Bl) (t : Rat) : Rat × Rat := match a, c with
  | some a, some c => lineBw b a.1 c.1 t
  | none, c => lineBy b none c t
  | a, none => lineBy b a none t
/-- by places, at one place by speeds -/
def leQ (x y : Rat × Rat) : Bool := decide (x.1 < y.1 ∨ (x.1 = y.1 ∧ x.2 ≤ y.2))
def atOnce (a c : Wl) (l : List Bl) (t : Rat) : List Bl := ((l.map fun b => lineQ a c b t).mergeSort leQ).map fun x => ⟨x.1, x.2, (l.head?.getD ⟨0, 0, 0⟩).w⟩
/-! ### the keys -/
def keyN (B : Int) (p : Rat) : Int := p.num * (B / p.den)
def keyLn (B : Int) : PyData → List Int
  | .tuple [.tuple [.int a, .int b], .tuple [.int c, .int d]] => [a * (B / b), c * (B / d)]
  | _ => []
/-! ### the law's lines -/
def lineB2 (a c k spot v : Int) : Int × Int :=
  if (spot - a * k) % (2 * ((c - a) * k)) = 0 ∨ (spot - a * k) % (2 * ((c - a) * k)) = (c - a) * k then (a * k + (spot - a * k) % (2 * ((c - a) * k)), (v.natAbs : Int) * (1 - 2 * (if (spot - a * k) % (2 * ((c - a) * k)) = (c - a) * k then 1 else 0)))
  else if (spot - a * k) % (2 * ((c - a) * k)) < (c - a) * k then (a * k + (spot - a * k) % (2 * ((c - a) * k)), v) else (a * k + 2 * ((c - a) * k) - (spot - a * k) % (2 * ((c - a) * k)), 0 - v)
def beyond (edge way spot v : Int) : Bool := decide ((spot - edge) * way < 0 ∨ (spot = edge ∧ v * way < 0))
def lineB1 (low high : Option Int) (k spot v : Int) : Int × Int :=
  match low with
  | some a => if beyond (a * k) 1 spot v = true then (2 * (a * k) - spot, 0 - v) else (spot, v)
  | none => match high with
    | some c => if beyond (c * k) (-1) spot v = true then (2 * (c * k) - spot, 0 - v) else (spot, v)
    | none => (spot, v)
def lineI (x : Wd) (y : Int × Int) (T D : Int) : Int × Int := match x.low, x.high with
  | some a, some c => lineB2 a c (x.b * D) (y.1 * x.b * D + y.2 * x.u * T) y.2
  | low, high => lineB1 low high (x.b * D) (y.1 * x.b * D + y.2 * x.u * T) y.2
/-! ### sorted: a list of pairs of whole numbers -/
def PairV (K : KF) (H : Hp) (x : V) (p : Int × Int) : Prop := ∃ b, x = .ref b ∧ SqT K H b [.int p.1, .int p.2]
def ordQ (p q : Int × Int) : Bool := decide (p.1 < q.1 ∨ (p.1 = q.1 ∧ p.2 ≤ q.2))
def rSortPI (K : KF) : List V → Hp → VK → Prop := fun vs H Q => ∃ (a : Addr) (xs : List V) (ps : List (Int × Int)) (Rl : V → Int × Int → Prop), vs = [V.ref a] ∧ SqL K H a xs ∧ (∀ x p, Rl x p → PairV K H x p) ∧ Paired Rl xs ps ∧
  ∀ (p : Addr) (ys : List V), H p = none → Paired Rl ys (ps.mergeSort ordQ) → Q (.ref p) (upd H p (.lst ys))
section
variable {K : KF} {Ω : Om} {R : DV → Om → Prop}
end
end HL
namespace HL
open PySem PySem.Spec PyProof.Rows L2 Evl RZ
/-! dicts keyed by tuples: setdefault, d[k] by any tuple, list(d) -/
/-- d.setdefault(k, x), the key a tuple -/
def tDSetT (td ty tx : TE) : TE := fun σ H Q => td σ H fun x H1 => ∃ a, x = .ref a ∧ IsD H1 a ∧ ty σ H1 fun y H2 => tx σ H2 fun z H3 => ∃ (kvs : List (List L2.Key × V)) (k : List L2.Key) (b : Addr), H3 a = some (.dT kvs) ∧ y = .ref b ∧ H3 b = some (.tup (k.map kV)) ∧ kvs.length < sizeLine ∧
  (∀ v, valV kvs k = some v → Q v H3) ∧ (valV kvs k = none → Q z (upd H3 a (.dT (putK kvs k z))))
section
variable {X : Cx} {pins : List (Addr × Obj)} {σ : L2.St} {H : Hp} {s : Shared} {a b : Addr} {r : Value} {d : V} {k : List L2.Key} {A : Around} {E : Value → Shared → Prop}
end
section
variable {X : Cx} {o e f i : Expr} {td ty tx : TE} {apos cpos pos : Pos}
/-- d[k], k any tuple of ints and texts -/
def tDGetT (K : KF) (td ty : TE) : TE := fun σ H Q => td σ H fun x H1 => ty σ H1 fun y H2 => ∃ (a b : Addr) (kvs : List (List L2.Key × V)) (k : List L2.Key) (v : V), x = .ref a ∧ H2 a = some (.dT kvs) ∧ y = .ref b ∧ SqT K H2 b (k.map kV) ∧ valV kvs k = some v ∧ Q v H2
end
/-- list(d) -/
def rListDT : List V → Hp → VK → Prop := fun xs H Q => ∃ d kvs, xs = [V.ref d] ∧ Rd H d (.dT kvs) ∧ ∀ p bs, H p = none → IsKeys H kvs bs → Q (.ref p) (upd H p (.lst (bs.map V.ref)))
/-! on the layer -/
def lookT {α : Type} (kvs : List (List L2.Key × α)) (k : List L2.Key) : Option α := (kvs.find? fun kv => decide (kv.1 = k)).map (·.2)
section
variable {K : KF} {W : WX} {Γ : Gm} {Ω : Om} {R : DV → Om → Prop} {X : Exc → Om → Prop} {td ty tx : TE} {O : Outs}
/-- ints as keys -/
def keysI (ns : List Int) : List L2.Key := ns.map Sum.inl
end
end HL
namespace HL
open PySem PySem.Spec PyProof.Rows L2 Evl RZ
/-! dicts keyed by tuples: get with a default, the loop that walks its keys -/
/-- d.get(k, x), the key a tuple -/
def tDGet2T (K : KF) (td ty tx : TE) : TE := fun σ H Q => td σ H fun x H1 => ∃ a, x = .ref a ∧ IsD H1 a ∧ ty σ H1 fun y H2 => tx σ H2 fun z H3 => ∃ (kvs : List (List L2.Key × V)) (k : List L2.Key) (b : Addr), H3 a = some (.dT kvs) ∧ y = .ref b ∧ SqT K H3 b (k.map kV) ∧ Q ((valV kvs k).getD z) H3
section
variable {X : Cx} {pins : List (Addr × Obj)} {σ : L2.St} {H : Hp} {s : Shared} {a b : Addr} {r : Value} {d : V} {k : List L2.Key} {A : Around} {E : Value → Shared → Prop}
end
section
variable {X : Cx} {o e f i : Expr} {td ty tx : TE} {apos cpos pos : Pos}
end
/-- d[k] while a loop walks d -/
def tDGetR (K : KF) (td ty : TE) : TE := fun σ H Q => td σ H fun x H1 => ty σ H1 fun y H2 => ∃ (a b : Addr) (kvs : List (List L2.Key × V)) (k : List L2.Key) (v : V), x = .ref a ∧ Rd H2 a (.dT kvs) ∧ y = .ref b ∧ SqT K H2 b (k.map kV) ∧ valV kvs k = some v ∧ Q v H2
section
variable {X : Cx} {o e f i : Expr} {td ty tx : TE} {apos cpos pos : Pos}
end
section
variable {K : KF} {W : WX} {Γ : Gm} {Ω : Om} {R : DV → Om → Prop} {X : Exc → Om → Prop} {td ty tx : TE} {O : Outs}
/-- a key that is a tuple of ints, made here or data -/
def KeyD (ns : List Int) (d : DV) : Prop := d = .d (.tuple (ns.map PyData.int)) ∨ d = .t ((keysI ns).map keyPt)
/-- what leads on behind a loop that has walked a dict -/
def lockO (i : Nat) (od : Obj) (us : List (List L2.Key × V)) (O : Outs) : Outs where
  nx := fun Γ' Ω' => ∃ kvs', Ω'[i]? = some (.lkt od us kvs') ∧ O.nx Γ' (Ω'.set i (.dit kvs'))
  rt := fun y Ω' => ∃ kvs', Ω'[i]? = some (.lkt od us kvs') ∧ O.rt y (Ω'.set i (.dit kvs'))
  bk := fun Γ' Ω' => ∃ kvs', Ω'[i]? = some (.lkt od us kvs') ∧ O.bk Γ' (Ω'.set i (.dit kvs'))
  ct := fun Γ' Ω' => ∃ kvs', Ω'[i]? = some (.lkt od us kvs') ∧ O.ct Γ' (Ω'.set i (.dit kvs'))
  er := O.er
end
end HL
namespace HL
open PySem PySem.Spec PyProof.Rows L2 Evl RZ
/-! dicts whose keys are whole numbers: sorted(d.keys()), dict([(n, True) ..]) -/
section
variable {X : Cx}
def rKeysI : V → List V → Hp → VK → Prop := fun x xs H Q => ∃ (a : Addr) (kvs : List (L2.Key × V)), x = .ref a ∧ xs = [] ∧ H a = some (.dK kvs) ∧ ∀ p, H p = none → Q (.ref p) (upd H p (keysO p a))
def rSortKI : List V → Hp → VK → Prop := fun xs H Q => ∃ (p a : Addr) (kvs : List (L2.Key × V)) (ks : List Int), xs = [.ref p] ∧ H p = some (keysO p a) ∧ H a = some (.dK kvs) ∧ kvs.map (·.1) = ks.map Sum.inl ∧ ks.length < 64 ∧
    ∀ (ys : List Int) (q : Addr), ys.Perm ks → ys.Pairwise (· ≤ ·) → H q = none → Q (.ref q) (upd H q (.lst (ys.map V.int)))
/-- dict(xs), xs a list of pairs -/
def rDictP (K : KF) : List V → Hp → VK → Prop := fun xs H Q => ∃ (a : Addr) (ps : List Addr) (kvs : List (L2.Key × V)), xs = [.ref a] ∧ SqL K H a (ps.map V.ref) ∧ Paired (fun p kv => SqT K H p [kV kv.1, kv.2]) ps kvs ∧
    ∀ p, H p = none → Q (.ref p) (upd H p (.dK (mergeK [] kvs)))
end
/-! on the layer -/
def uniqI (ns : List Int) : List Int := ns.foldl (fun acc n => if n ∈ acc then acc else acc ++ [n]) []
section
variable {K : KF} {W : WX} {Γ : Gm} {Ω : Om} {R : DV → Om → Prop} {X : Exc → Om → Prop} {td : TE}
theorem lookK_rel {K : KF} {m : Mp} {G : Hp} {n : Nat} (k : L2.Key) : ∀ {kvs : List (L2.Key × DV)} {vs : List (L2.Key × V)}, Paired (KRel K m G n) kvs vs → (lookK kvs k = none ∧ valV vs k = none) ∨ ∃ y v, lookK kvs k = some y ∧ valV vs k = some v ∧ RV K m G n y v
  | _, _, .nil => .inl ⟨rfl, rfl⟩
  | p :: ps, q :: qs, .cons a t => by
    by_cases e : p.1 = k
    · refine .inr ⟨p.2, q.2, ?_, valV_pos (by rw [a.1]; exact e), a.2⟩
      unfold lookK
      rw [List.find?_cons_of_pos (by exact decide_eq_true e)]; rfl
    · have e1 : lookK (p :: ps) k = lookK ps k := by
        unfold lookK
        rw [List.find?_cons_of_neg (by simp [e])]
      rw [e1, valV_neg (by rw [a.1]; exact e)]
      exact lookK_rel k t
theorem snoc_rel {α β : Type} {F : α → β → Prop} : ∀ {l : List α} {m : List β} {a : α} {b : β}, Paired F l m → F a b → Paired F (l ++ [a]) (m ++ [b])
  | _, _, _, _, .nil, r => .cons r .nil
  | _, _, _, _, .cons h t, r => .cons h (snoc_rel t r)
/-- sorted(d.keys()), the keys whole numbers -/
def tSortKI (K : KF) (td : TE) : TE := tCB rSortKI (tCons (tBM0 K "dict" rKeysI td) tNil)
end
/-- {} whose keys are whole numbers or texts -/
theorem we_dnewK {K : KF} {W : WX} {Γ : Gm} {Ω : Om} {R : DV → Om → Prop} {X : Exc → Om → Prop} (q : R (.o Ω.length) (Ω ++ [.dic []])) : WE K W tDNewK Γ Ω R X := fun m G H σ Q c s k x p hp => by
  obtain ⟨m1, c1, n1, e1⟩ := c.own (x := .dic []) (o := .dK []) hp ⟨[], upd_same, .nil⟩
  have le : Ω.length ≤ (Ω ++ [OC.dic []]).length := by simp
  exact k _ _ _ _ (.o Ω.length) (.ref p) c1 n1 le ⟨by simp, by rw [e1]⟩ q
end HL
namespace HL
open PySem PySem.Spec PyProof.Rows L2 Evl RZ
/-! own classes: instances with fields, methods -/
theorem clsB_ok {K : KF} {x : Str} (h : clsB K x = true) : Cls K (He.ga K x) := by
  obtain ⟨h1, h⟩ := Bool.and_eq_true_iff.mp h
  obtain ⟨h2, h⟩ := Bool.and_eq_true_iff.mp h
  obtain ⟨h3, h4⟩ := Bool.and_eq_true_iff.mp h
  exact ⟨h1, h2, h3, of_decide_eq_true h4⟩
theorem naB_ok {K : KF} {x f : Str} (h : naB K x f = true) : NoAttr K (He.ga K x) f := of_decide_eq_true (p := PySem.W.findIn K (.ref (He.ga K x)) f = some none) h
theorem metB_ok {K : KF} {x m : Str} (h : metB K x m = true) : Meth K (He.ga K x) m (He.fAd K (x, some m)) := by
  obtain ⟨h1, h⟩ := Bool.and_eq_true_iff.mp h
  obtain ⟨h2, h3⟩ := Bool.and_eq_true_iff.mp h
  exact ⟨of_decide_eq_true h1, h2, h3⟩
theorem makB_ok {K : KF} {x : Str} (h : makB K x = true) : Mk K (He.ga K x) (He.fAd K (x, some "__init__")) := by
  obtain ⟨h1, h⟩ := Bool.and_eq_true_iff.mp h
  obtain ⟨h2, h3⟩ := Bool.and_eq_true_iff.mp h
  obtain ⟨a, b, c⟩ := metB_ok h2
  exact ⟨h1, a, b, h3⟩
/-! readings -/
def tFldC (C : Addr) (ta : TE) (f : Str) : TE := fun σ H Q => ta σ H fun x H1 => ∃ a dx fs v, x = .ref a ∧ H1 a = some (.ins C dx fs) ∧ fs.lookup f = some v ∧ Q v H1
def sFldC (C : Addr) (ta tv : TE) (f : Str) : TS := fun D σ H => tv σ H fun y H1 => ta σ H1 fun x H2 => ∃ a dx fs, x = .ref a ∧ H2 a = some (.ins C dx fs) ∧ fs.length < 1000 ∧ D.nx σ (upd H2 a (.ins C dx (putF f y fs)))
def tMethE (C : Addr) (m : Str) (sp : Sp) (E : L2.St → XK) (ta : TE) (t : TA) : TE := fun σ H Q => ta σ H fun x H1 => ∃ a dx fs, x = .ref a ∧ H1 a = some (.ins C dx fs) ∧ fs.lookup m = none ∧ t σ H1 fun vs H2 => sp (x :: vs) H2 Q (E σ)
section
variable {X : Cx} {CX : CXT} {k : Nat} {f C : Addr} {fd : FuncData} {ps : List Str} {sp : Sp} {x m : Str} {p pos apos pos' : Pos} {e o value : Expr} {es : List Expr} {ta tv : TE} {t : TA} {E : L2.St → XK}
theorem pe_fldC {g : Str} (c : Cls X.K C) (n : NoAttr X.K C g) (he : PE X e ta) (hb : attributeBase e g X.env (eval e X.env) = eval e X.env := by rfl) : PE X (.Attribute e g pos) (tFldC C ta g) := by
  refine ⟨fun pins s σ H Q I h => ?_⟩
  refine attr_of hb (thn (he.run pins s σ H _ I h) fun u s1 ⟨x, H1, I1, rx, a, dx, fs, v, ex, ea, l, q⟩ => ?_)
  subst ex
  obtain rfl : u = Value.ref a := rx
  exact getattr_ok I1 ea c n l fun u' s2 I2 ru => ⟨v, H1, I2, ru, q⟩
theorem ps_fldC {g : Str} (c : Cls X.K C) (n : NoAttr X.K C g) (ha : PE X o ta) (hv : PE X value tv) (hs : swapsWith value (some (.Attribute o g pos')) pos.line X.env = pure false := by rfl) : PS X (.Assign [.Attribute o g pos'] value pos) (sFldC C ta tv g) := by
  refine ⟨fun pins s σ H D I h => ?_⟩
  refine plainObj_wpAny_Assign_Attribute (thn (hv.run pins s σ H _ I h) fun u s1 ⟨y, H1, I1, ry, q⟩ => thn (ha.run pins s1 σ H1 _ I1 q) fun ov s2 ⟨x, H2, I2, rx, a, dx, fs, ex, ea, l, q2⟩ => ?_) hs
  subst ex
  obtain rfl : ov = Value.ref a := rx
  exact setattr_ok I2 ea c n l ry fun s3 I3 => ⟨σ, _, I3, q2⟩
theorem passLS {X : Cx} (σ : L2.St) : PassesAt (L2.CX X.prog X.w) X σ E0 := fun pins H s e s' I h => passL pins σ H s e s' I h
/-- o.m(e, ..) that may raise -/
theorem pe_methE {pl : Sem Bool} (he : PE X o ta) (c : Cls X.K C) (hm : Meth X.K C m f) (F : FnOk X.prog X.w X.K X.mg X.base CX k f fd ps sp) (hr : Room k X.A) (hb : Binds X.K fd ps []) (hx : ∀ σ, PassesAt CX X σ (E σ)) (ha : PA X (e :: es) t)
    (hst : starEach (e :: es) X.env = (false, eval e X.env) :: starEach es X.env := by rfl) (hpl : (backTo pos (starEach es X.env)).any (·.1) = false := by rfl)
    (ht : eval (.Call (.Attribute o m apos) (e :: es) [] pos) X.env = (do
      let ov ← eval o X.env
      standAt apos.atName
      let (f, first) ← holding [ov] (getMethod ov m pl)
      callWith pos f first (backTo pos (starEach (e :: es) X.env)) (backToKw pos (keywordEach [] X.env))) := by rfl) :
    PE X (.Call (.Attribute o m apos) (e :: es) [] pos) (tMethE C m sp E ta t) := by
  refine ⟨fun pins s σ H Q I h => ?_⟩
  refine PySem.W.methodCall_KW (pl := pl) (thn (he.run pins s σ H _ I h) fun u s1 ⟨x, H1, I1, rx, a, dx, fs, ex, ea, l, q⟩ => ?_) ht
  subst ex
  obtain rfl : u = Value.ref a := rx
  refine getmeth_ok I1 ea c hm l ?_
  refine PySem.W.callWith_K (first := [.ref a]) (h₀ := X.base) I.ok.mod.kin hm.kp (thn (ha.run pos pins s1 σ H1 _ I1 q) fun us s2 ⟨vs, H2, I2, r, q2⟩ => ⟨I2.kIn, ?_⟩) hst hpl
  exact run_fnS (us := .ref a :: us) (vs := .ref a :: vs) F hr hb (hx σ) I2 (.cons rfl r) q2
/-- o.m() -/
theorem pe_methE0 {pl : Sem Bool} (he : PE X o ta) (c : Cls X.K C) (hm : Meth X.K C m f) (F : FnOk X.prog X.w X.K X.mg X.base CX k f fd ps sp) (hr : Room k X.A) (hb : Binds X.K fd ps []) (hx : ∀ σ, PassesAt CX X σ (E σ))
    (ht : eval (.Call (.Attribute o m apos) [] [] pos) X.env = (do
      let ov ← eval o X.env
      standAt apos.atName
      let (f, first) ← holding [ov] (getMethod ov m pl)
      callWith pos f first (backTo pos (starEach [] X.env)) (backToKw pos (keywordEach [] X.env))) := by rfl) :
    PE X (.Call (.Attribute o m apos) [] [] pos) (tMethE C m sp E ta tNil) := by
  refine ⟨fun pins s σ H Q I h => ?_⟩
  refine PySem.W.methodCall_KW (pl := pl) (thn (he.run pins s σ H _ I h) fun u s1 ⟨x, H1, I1, rx, a, dx, fs, ex, ea, l, q⟩ => ?_) ht
  subst ex
  obtain rfl : u = Value.ref a := rx
  refine getmeth_ok I1 ea c hm l ?_
  exact PySem.W.callWith_K0 (first := [.ref a]) I1.kIn hm.kp (run_fnS (us := [.ref a]) (vs := [.ref a]) F hr hb (hx σ) I1 (.cons rfl .nil) q)
end
/-! fields by name, of values and of what they mean -/
def putD (f : Str) (y : DV) : List (Str × DV) → List (Str × DV)
  | [] => [(f, y)]
  | (g, x) :: r => if g = f then (g, y) :: r else (g, x) :: putD f y r
theorem frel_look {K : KF} {m : Mp} {G : Hp} {n : Nat} {f : Str} : ∀ {fs : List (Str × DV)} {vs : List (Str × V)}, Paired (FRel K m G n) fs vs → (∀ d, fs.lookup f = some d → ∃ v, vs.lookup f = some v ∧ RV K m G n d v) ∧ (fs.lookup f = none → vs.lookup f = none)
  | _, _, .nil => ⟨(fun d h => by cases h), (fun _ => rfl)⟩
  | (g, x) :: fs, (g', v) :: vs, .cons a r => by
    obtain ⟨e, rv⟩ := a
    have e : g = g' := e
    subst e
    obtain ⟨i1, i2⟩ := frel_look (f := f) r
    by_cases h : f = g
    · subst h
      rw [List.lookup_cons_self, List.lookup_cons_self]
      exact ⟨fun d z => by cases z; exact ⟨v, rfl, rv⟩, fun z => by cases z⟩
    · have hb : (f == g) = false := by simpa using h
      rw [List.lookup_cons, List.lookup_cons, hb]
      exact ⟨i1, i2⟩
theorem frel_put {K : KF} {m : Mp} {G : Hp} {n : Nat} {f : Str} {y : DV} {w : V} (ry : RV K m G n y w) : ∀ {fs : List (Str × DV)} {vs : List (Str × V)}, Paired (FRel K m G n) fs vs → Paired (FRel K m G n) (putD f y fs) (putF f w vs)
  | _, _, .nil => .cons ⟨rfl, ry⟩ .nil
  | (g, x) :: fs, (g', v) :: vs, .cons a r => by
    obtain ⟨e, rv⟩ := a
    have e : g = g' := e
    subst e
    rw [show putD f y ((g, x) :: fs) = (if g = f then (g, y) :: fs else (g, x) :: putD f y fs) from rfl, show putF f w ((g, v) :: vs) = (if g = f then (g, w) :: vs else (g, v) :: putF f w vs) from rfl]
    by_cases h : g = f
    · rw [if_pos h, if_pos h]; exact .cons ⟨rfl, ry⟩ r
    · rw [if_neg h, if_neg h]; exact .cons ⟨rfl, rv⟩ (frel_put ry r)
theorem Core.skip {K : KF} {m : Mp} {G : Hp} {Ω : Om} {H : Hp} {p : Addr} (c : Core K m G Ω H) (hp : H p = none) (o : HO) : Core K m G Ω (upd H p o) := by
  have gp := fresh_g c hp
  refine ⟨fun a u e => ?_, fun i x h g => ?_, c.inj⟩
  · rw [upd_ne (ne_of_none e gp)]
    exact c.ex a u e
  · obtain ⟨q1, q2⟩ := c.fr i x h g
    have ne := c.ne hp h g
    exact ⟨q1, Holds.mono (Nxt.refl ..) (Nat.le_refl _) (fun o e => by rw [upd_ne ne]; exact e) q2⟩
section
variable {K : KF} {W : WX} {Γ : Gm} {Ω : Om} {R : DV → Om → Prop} {X : Exc → Om → Prop} {O : Outs} {te tv : TE} {tl : TA} {C : Addr} {f m : Str}
theorem we_fldC (h : WE K W te Γ Ω (fun d Ω1 => ∃ k fs y, d = .o k ∧ Ω1[k]? = some (.ins C fs) ∧ fs.lookup f = some y ∧ R y Ω1) X) : WE K W (tFldC C te f) Γ Ω R X := fun m G H σ Q c s k x =>
  h m G H σ _ c s (fun m1 G1 Ω1 H1 d1 v1 c1 n1 l1 r1 ⟨i, fs, y, ed, ho, hl, q⟩ => by
    subst ed
    obtain ⟨hi, er⟩ := r1
    obtain ⟨q1, dx, vs, hv, rp⟩ := c1.fr i _ ho (by intro z; cases z)
    obtain ⟨v, hlv, rv⟩ := (frel_look rp).1 y hl
    exact ⟨m1 i, dx, vs, v, er, hv, hlv, k _ _ _ _ y v c1 n1 l1 rv q⟩) x
theorem ws_fldC (h : WE K W tv Γ Ω (fun y Ω1 => WE K W te Γ Ω1 (fun d Ω2 => ∃ k fs, d = .o k ∧ Ω2[k]? = some (.ins C fs) ∧ fs.length < 1000 ∧ O.nx Γ (Ω2.set k (.ins C (putD f y fs)))) (fun e Ω2 => O.er Γ e Ω2)) (fun e Ω1 => O.er Γ e Ω1)) : WS K W (sFldC C te tv f) Γ Ω O := fun m G H σ D c s k1 k2 k3 k4 z =>
  h m G H σ _ c s (fun m1 G1 Ω1 H1 y w c1 n1 l1 ry h1 => h1 m1 G1 H1 σ _ c1 (s.mono n1 l1) (fun m2 G2 Ω2 H2 d2 v2 c2 n2 l2 r2 ⟨i, fs, ed, ho, hl, q⟩ => by
    subst ed
    obtain ⟨hi, er⟩ := r2
    obtain ⟨q1, dx, vs, hv, rp⟩ := c2.fr i _ ho (by intro z; cases z)
    have n12 := n1.trans l1 n2
    have l12 := Nat.le_trans l1 l2
    have c3 := c2.write (y := .ins C (putD f y fs)) (o := .ins C dx (putF f w vs)) ho (by intro z; cases z) ⟨dx, _, upd_same, frel_put (RV.mono n2 l2 ry) rp⟩
    have le : Ω2.length ≤ (Ω2.set i (OC.ins C (putD f y fs))).length := by rw [List.length_set]; exact Nat.le_refl _
    exact ⟨m2 i, dx, vs, er, hv, by rw [← Paired.length rp]; exact hl, k1 _ _ _ _ _ _ c3 n12 (Nat.le_trans l12 le) ((s.mono n12 l12).mono (Nxt.refl ..) le) q⟩) ((xok_of z s).on n1 l1)) (xok_of z s)
theorem we_methL {spec : Spec} (h : WE K W te Γ Ω (fun d Ω1 => ∃ k fs, d = .o k ∧ Ω1[k]? = some (.ins C fs) ∧ fs.lookup m = none ∧ WA K W tl Γ Ω1 (fun ds Ω2 => spec (d :: ds) Ω2 R (fun _ _ => False)) X) X) : WE K W (tMethE C m (FS K spec) (fun _ => E0) te tl) Γ Ω R X := fun mm G H σ Q c s k x =>
  h mm G H σ _ c s (fun m1 G1 Ω1 H1 d1 v1 c1 n1 l1 r1 ⟨i, fs, ed, ho, hl, h1⟩ => by
    subst ed
    obtain ⟨hi, er⟩ := r1
    obtain ⟨q1, dx, vs, hv, rp⟩ := c1.fr i _ ho (by intro z; cases z)
    refine ⟨m1 i, dx, vs, er, hv, (frel_look rp).2 hl, h1 m1 G1 H1 σ _ c1 (s.mono n1 l1) (fun m2 G2 Ω2 H2 ds ws c2 n2 l2 r2 q => ?_) (x.on n1 l1)⟩
    subst er
    exact ⟨m2, G2, Ω2, .o i :: ds, R, _, c2, .cons (RV.mono n2 l2 (d := .o i) ⟨hi, rfl⟩) r2, q, k.on (n1.trans l1 n2) (Nat.le_trans l1 l2), fun _ _ _ _ _ _ _ _ _ _ _ z => z⟩) x
theorem we_make {spec : Spec} (h : WA K W tl Γ Ω (fun ds Ω1 => spec (.o Ω1.length :: ds) (Ω1 ++ [.ins C []]) (fun v Ω2 => v = .d .none ∧ R (.o Ω1.length) Ω2) (fun _ _ => False)) X) : WE K W (tMake C (FS K spec) [] E0 tl) Γ Ω R X := fun mm G H σ Q c s k x =>
  h mm G H σ _ c s (fun m1 G1 Ω1 H1 ds vs c1 n1 l1 r1 h1 p dx np ndx ne => by
    rw [List.append_nil]
    have c1' := c1.skip ndx (.own p)
    have hp' : (upd H1 dx (.own p)) p = none := by rw [upd_ne (Ne.symm ne)]; exact np
    obtain ⟨m2, c2, n2, e2⟩ := c1'.own hp' (x := .ins C []) (o := .ins C dx []) ⟨dx, [], upd_same, .nil⟩
    have le : Ω1.length ≤ (Ω1 ++ [OC.ins C []]).length := by simp
    have lt : Ω1.length < (Ω1 ++ [OC.ins C []]).length := by simp
    refine ⟨m2, G1, Ω1 ++ [.ins C []], .o Ω1.length :: ds, _, _, c2, .cons ⟨lt, by rw [e2]⟩ (RVs.mono n2 le r1), h1, ?_, fun _ _ _ _ _ _ _ _ _ _ _ z => z⟩
    rintro m3 G3 Ω3 H3 d v c3 n3 l3 r3 ⟨rfl, q⟩
    have ev : v = .non := by cases r3; rfl
    refine ⟨ev, k m3 G3 Ω3 H3 (.o Ω1.length) (.ref p) c3 ((n1.trans l1 n2).trans (Nat.le_trans l1 le) n3) (Nat.le_trans l1 (Nat.le_trans le l3)) ⟨Nat.lt_of_lt_of_le lt l3, ?_⟩ q⟩
    rw [n3.mm _ lt, e2]) x
end
end HL
namespace HL
open PySem PySem.Spec PyProof.Rows L2 Evl RZ
/-! sorted(d), the keys whole numbers, any number of them -/
section
variable {X : Cx}
def rSortD : List V → Hp → VK → Prop := fun xs H Q => ∃ (a : Addr) (kvs : List (L2.Key × V)) (ks : List Int), xs = [.ref a] ∧ H a = some (.dK kvs) ∧ kvs.map (·.1) = ks.map Sum.inl ∧ ks.length ≤ 100000 ∧
    ∀ (ys : List Int) (q : Addr), ys.Perm ks → ys.Pairwise (· ≤ ·) → H q = none → Q (.ref q) (upd H q (.lst (ys.map V.int)))
end
/-! d[k] = v, the keys whole numbers or texts -/
def putKD (kvs : List (L2.Key × DV)) (k : L2.Key) (y : DV) : List (L2.Key × DV) := if (kvs.any fun kv => decide (kv.1 = k)) = true then kvs.map (fun kv => if kv.1 = k then (kv.1, y) else kv) else kvs ++ [(k, y)]
theorem any_relK {K : KF} {m : Mp} {G : Hp} {n : Nat} (k : L2.Key) : ∀ {kvs : List (L2.Key × DV)} {vs : List (L2.Key × V)}, Paired (KRel K m G n) kvs vs → (kvs.any fun kv => decide (kv.1 = k)) = (vs.any fun kv => decide (kv.1 = k))
  | _, _, .nil => rfl
  | p :: ps, q :: qs, .cons a t => by
    rw [List.any_cons, List.any_cons, any_relK k t, a.1]
theorem map_relK {K : KF} {m : Mp} {G : Hp} {n : Nat} {k : L2.Key} {y : DV} {v : V} (r : RV K m G n y v) : ∀ {kvs : List (L2.Key × DV)} {vs : List (L2.Key × V)}, Paired (KRel K m G n) kvs vs → Paired (KRel K m G n) (kvs.map fun kv => if kv.1 = k then (kv.1, y) else kv) (vs.map fun kv => if kv.1 = k then (kv.1, v) else kv)
  | _, _, .nil => .nil
  | p :: ps, q :: qs, .cons a t => by
    refine .cons ?_ (map_relK r t)
    show KRel K m G n (if p.1 = k then (p.1, y) else p) (if q.1 = k then (q.1, v) else q)
    by_cases e : p.1 = k
    · rw [if_pos e, if_pos (by rw [a.1]; exact e)]
      exact ⟨a.1, r⟩
    · rw [if_neg e, if_neg (by rw [a.1]; exact e)]
      exact a
theorem put_relK {K : KF} {m : Mp} {G : Hp} {n : Nat} {k : L2.Key} {y : DV} {v : V} (r : RV K m G n y v) {kvs : List (L2.Key × DV)} {vs : List (L2.Key × V)} (h : Paired (KRel K m G n) kvs vs) : Paired (KRel K m G n) (putKD kvs k y) (putK vs k v) := by
  unfold putKD putK
  rw [any_relK k h]
  split
  · exact map_relK r h
  · exact snoc_rel h ⟨rfl, r⟩
theorem wg_subD {K : KF} {W : WX} {Γ : Gm} {Ω : Om} {to ti : TE} {y : DV} {S : Gm → Om → Prop} (h : WE K W to Γ Ω (fun d Ω1 => WE K W ti Γ Ω1 (fun e Ω2 => ∃ kk kvs k, d = .o kk ∧ keyD e = some k ∧ Ω2[kk]? = some (.dic kvs) ∧ kvs.length < 100000 ∧ S Γ (Ω2.set kk (.dic (putKD kvs k y)))) (fun _ _ => False)) (fun _ _ => False)) : WG K (gSub to ti rSetD) y Γ Ω S := fun m G H σ v Q c s ry k => by
  have x0 : ∀ {m' : Mp} {G' : Hp} {n' : Nat}, XOk K m' G' n' (fun _ _ => False) (fun c d H' => W c d σ H') := fun {m' G' n'} _ _ _ _ _ _ _ _ _ _ _ z => z.elim
  refine h m G H σ _ c s (fun m1 G1 Ω1 H1 d1 v1 c1 n1 l1 r1 h1 => h1 m1 G1 H1 σ _ c1 (s.mono n1 l1) (fun m2 G2 Ω2 H2 d2 v2 c2 n2 l2 r2 ⟨kk, kvs, key, e1, e2, hx, hl, q⟩ => ?_) x0) x0
  subst e1
  have n12 := n1.trans l1 n2
  have l12 := Nat.le_trans l1 l2
  obtain ⟨_, er⟩ := RV.mono n2 l2 r1
  have ek := key_rel e2 r2
  obtain ⟨q1, ws, hw, rp⟩ := c2.fr kk _ hx (by intro z; cases z)
  have c3 := c2.write (y := .dic (putKD kvs key y)) (o := .dK (putK ws key v)) hx (by intro z; cases z) ⟨_, upd_same, put_relK (RV.mono n12 l12 ry) rp⟩
  have le : Ω2.length ≤ (Ω2.set kk (OC.dic (putKD kvs key y))).length := by rw [List.length_set]; exact Nat.le_refl _
  refine ⟨m2 kk, _, er, ?_, k _ _ _ _ _ _ c3 n12 (Nat.le_trans l12 le) ((s.mono n12 l12).mono (Nxt.refl ..) le) q⟩
  rw [ek]
  exact DPut.k hw (sz_lt (by rw [← Paired.length rp]; exact hl))
/-! the common bottom of ratios -/
def lcmW (qs : List Rat) : Nat := qs.foldl (fun f q => Nat.lcm f q.den) 1
theorem lcmW_snoc (qs : List Rat) (q : Rat) : lcmW (qs ++ [q]) = Nat.lcm (lcmW qs) q.den := by
  unfold lcmW
  rw [List.foldl_append]; rfl
theorem fold_lcmW {D : Nat} : ∀ (qs : List Rat) (f : Nat), 0 < f → f ∣ D → (∀ q ∈ qs, q.den ∣ D) → 0 < qs.foldl (fun f q => Nat.lcm f q.den) f ∧ qs.foldl (fun f q => Nat.lcm f q.den) f ∣ D ∧ f ∣ qs.foldl (fun f q => Nat.lcm f q.den) f ∧ ∀ q ∈ qs, q.den ∣ qs.foldl (fun f q => Nat.lcm f q.den) f
  | [], f, h0, h1, _ => ⟨h0, h1, Nat.dvd_refl _, fun q hq => by cases hq⟩
  | q :: qs, f, h0, h1, h => by
    obtain ⟨a1, a2, a3, a4⟩ := fold_lcmW qs (Nat.lcm f q.den) (Nat.lcm_pos h0 q.den_pos) (Nat.lcm_dvd h1 (h q (.head _))) fun x hx => h x (.tail _ hx)
    refine ⟨a1, a2, Nat.dvd_trans (Nat.dvd_lcm_left _ _) a3, fun x hx => ?_⟩
    rcases List.mem_cons.mp hx with rfl | hx
    · exact Nat.dvd_trans (Nat.dvd_lcm_right _ _) a3
    · exact a4 x hx
theorem lcmW_ok {D : Nat} {qs : List Rat} (h : ∀ q ∈ qs, q.den ∣ D) : 0 < lcmW qs ∧ lcmW qs ∣ D ∧ ∀ q ∈ qs, q.den ∣ lcmW qs :=
  let ⟨a, b, _, d⟩ := fold_lcmW qs 1 (by decide) (Nat.one_dvd _) h
  ⟨a, b, d⟩
end HL
namespace HL
open PySem PySem.Spec PyProof.Rows L2 Evl RZ
/-! range with a step -/
section
variable {K : KF} {W : WX} {Γ : Gm} {Ω : Om} {X : Exc → Om → Prop} {Rc : List DV → (Om → Prop) → Om → Prop} {ta : TA}
theorem itok_rngC {m1 : Mp} {G1 : Hp} {n1 : Nat} {lo c : Int} {n : Nat} : ItOk K (Itc lo c n) ((List.range n).map fun (i : Nat) => .d (.int (lo + (i : Int) * c))) (fun _ => True) m1 G1 n1 := fun m' G' Ω' H' c' n' l' st i => by
  refine ⟨fun h => ?_, fun y hy => ?_⟩
  · rw [List.length_map, List.length_range] at h
    exact h
  · rw [List.getElem?_map] at hy
    have hi : i < n := by
      by_cases h : i < n
      · exact h
      · rw [List.getElem?_eq_none (by rw [List.length_range]; omega)] at hy
        cases hy
    rw [List.getElem?_range hi] at hy
    cases hy
    refine ⟨hi, fun x H'' ⟨e, hx⟩ => ?_⟩
    subst e hx
    exact ⟨G', c', Ex.refl _, Dp.int _⟩
theorem wi_rng3 (h : WA K W ta Γ Ω (fun ds Ω1 => ∃ (i j c : Int) (n : Nat), ds = [.d (.int i), .d (.int j), .d (.int c)] ∧ RgC i j c n ∧ Rc ((List.range n).map fun (t : Nat) => .d (.int (i + (t : Int) * c))) (fun _ => True) Ω1) X) : WI K W (iRng3 ta) Γ Ω Rc X := fun m G H σ R c s x k =>
  h m G H σ _ c s (fun m1 G1 Ω1 H1 ds vs c1 n1 l1 r1 ⟨i, j, c, n, e, hr, q⟩ => by
    subst e
    cases r1 with
    | cons a b => cases b with | cons b d => cases d with | cons d e => cases e; cases a; cases b; cases d; exact ⟨i, j, c, n, rfl, hr, k m1 G1 Ω1 H1 _ _ _ c1 n1 l1 itok_rngC q⟩) x
end
theorem rg_up {b c : Int} (h0 : 0 < b) (h1 : b < 1073741824) (c0 : 0 < c) (c1 : c < 1073741824) : RgC 0 b c ((b - 1) / c + 1).toNat := by
  have hd : 0 ≤ (b - 1) / c := Int.ediv_nonneg (by omega) (by omega)
  have hs : Builtin.Range.rangeSize 0 b c = (((b - 1) / c + 1).toNat : Int) := by
    unfold Builtin.Range.rangeSize
    rw [if_pos (show c > 0 from c0), if_pos h0, Int.sub_zero]
    omega
  refine ⟨by omega, by omega, ?_, hs⟩
  have hle : (b - 1) / c ≤ b - 1 := Int.ediv_le_self _ (by omega)
  have hm : (b - 1) / c * c ≤ b - 1 := Int.ediv_mul_le _ (by omega)
  unfold Builtin.Range.small
  rw [hs]
  have e1 : (((b - 1) / c + 1).toNat : Int) = (b - 1) / c + 1 := by omega
  rw [e1, if_pos (show c > 0 from c0)]
  simp only [Builtin.Range.rangeFitsLong, Bool.and_eq_true, Bool.or_eq_true, decide_eq_true_eq, beq_iff_eq]
  generalize (b - 1) / c = d at *
  omega
theorem rngc_get {lo c : Int} {n i : Nat} {y : DV} (h : ((List.range n).map fun (t : Nat) => DV.d (.int (lo + (t : Int) * c)))[i]? = some y) : i < n ∧ y = .d (.int (lo + (i : Int) * c)) := by
  rw [List.getElem?_map] at h
  by_cases hi : i < n
  · rw [List.getElem?_range hi] at h
    cases h
    exact ⟨hi, rfl⟩
  · rw [List.getElem?_eq_none (by rw [List.length_range]; omega)] at h
    cases h
end HL
namespace HL
open PySem PySem.Spec PyProof.Rows L2 Evl RZ
/-! more of tuples with parts of one's own -/
section
variable {K : KF} {W : WX} {Γ : Gm} {Ω : Om} {R : DV → Om → Prop} {X : Exc → Om → Prop}
end
theorem vw_lstO {Ω : Om} {i : Nat} {xs : List PyData} (h : Ω[i]? = some (.lst (xs.map DV.d))) : vw Ω (.o i) = some (.list xs) := by
  show vwO Ω[i]? = _
  rw [h]
  show (asDs _).map PyData.list = _
  rw [asDs_data]; rfl
end HL
namespace HL
open PySem PySem.Spec PyProof.Rows L2 Evl RZ
/-! dicts with whole keys: k in d, {k: v}, values, items, update; list.clear -/
def rInD (neg : Bool) : R2 := fun x y H Q => ∃ a o, y = .ref a ∧ DGet H a x o ∧ Q (.bl (neg != o.isSome)) H
theorem op_niD {X : Cx} (hu : X.A.units + 1 < cLine) : OpR X (compareOp .NotIn) (rInD true) := by
  intro pins s σ H x y v u Q I rx ry ⟨a, o, ey, g, q⟩
  subst ey
  obtain rfl : u = Value.ref a := ry
  rw [Bool.true_bne] at q
  exact d_notIn hu I g rx fun s3 I3 => ⟨.bl (!o.isSome), H, I3, rfl, q⟩
/-- d.update(e), two dicts of one's own -/
def rUpd : V → List V → Hp → VK → Prop := fun x vs H Q => ∃ a b kvs more, x = .ref a ∧ vs = [.ref b] ∧ a ≠ b ∧ H a = some (.dK kvs) ∧ H b = some (.dK more) ∧ kvs.length + more.length ≤ sizeLine ∧ Q .non (upd H a (.dK (mergeK kvs more)))
theorem mt_upd {X : Cx} : MtM X "dict.update" rUpd := by
  intro pins s σ H x vs v us Q I rx rv h
  obtain ⟨a, b, kvs, more, rfl, rfl, ne, ea, eb, hl, q⟩ := h
  cases rx
  obtain ⟨u, rfl, ru⟩ := rv.one
  cases ru
  obtain ⟨z1, hd1, vs1, rel1, dd1⟩ := dk_of I.hok ea
  obtain ⟨z2, hd2, vs2, rel2, dd2⟩ := dk_of I.hok eb
  refine call_meetsIn PySem.F.slot_dict_update dd1.typeIs PySem.F.entry_dict_update (PySem.F.args_dict_update_2 _ _) (meets_dict_update (mixKind X.prog X.w) a b ne hd2) ⟨vs1, vs2, dd1, dd2, by rw [← rel1.length, ← rel2.length]; exact hl, fun h' dd' _ hs => ?_⟩
  have hz : (mergeK kvs more).length ≤ sizeLine := Nat.le_trans (length_mergeK more kvs) hl
  have he : ∃ q, h'.get? a = some q := let ⟨q, _, _, hq, _⟩ := dd'; ⟨q, hq⟩
  exact ⟨.non, _, d_write (t' := s.toks) I (by rw [ea]; exact True.intro) hs he (dk_new hz hd1 (rel2.merge rel1) dd'), rfl, q⟩
section
variable {K : KF} {W : WX} {Γ : Gm} {Ω : Om} {R : DV → Om → Prop} {X : Exc → Om → Prop} {td ty tk tv : TE} {O : Outs}
theorem wr_inD {neg : Bool} {x : DV} {i : Nat} {kvs : List (Key × DV)} {k : Key} (hx : keyD x = some k) (g : Ω[i]? = some (.dic kvs)) (q : R (.d (.bool (neg != (lookK kvs k).isSome))) Ω) : WR K (rInD neg) x (.o i) Ω R := fun m G H v w Q c r1 r2 kk => by
  obtain ⟨hi, rfl⟩ := r2
  obtain ⟨-, vs, eh, rs⟩ := c.fr i _ g (by intro z; cases z)
  have ek := key_rel hx r1
  refine ⟨m i, valV vs k, rfl, by rw [ek]; exact DGet.k eh, ?_⟩
  have e : (valV vs k).isSome = (lookK kvs k).isSome := by
    rcases lookK_rel k rs with ⟨z1, z2⟩ | ⟨y, v, z1, z2, _⟩ <;> rw [z1, z2] <;> rfl
  rw [e]
  exact kk _ _ _ _ (.d (.bool _)) _ c (Nxt.refl ..) (Nat.le_refl _) (Dp.bl _) q
theorem we_disp1 (h : WE K W tk Γ (Ω ++ [.dic []]) (fun d Ω1 => WE K W tv Γ Ω1 (fun y Ω2 => ∃ k, keyD d = some k ∧ Ω2[Ω.length]? = some (.dic []) ∧ R (.o Ω.length) (Ω2.set Ω.length (.dic [(k, y)]))) X) X) : WE K W (tDisp [(tk, tv)]) Γ Ω R X := fun m G H σ Q c s k x p hp => by
  obtain ⟨m1, c1, n1, e1⟩ := c.own (x := .dic []) (o := .dK []) hp ⟨[], upd_same, .nil⟩
  have le : Ω.length ≤ (Ω ++ [OC.dic []]).length := by simp
  refine h m1 G _ σ _ c1 (s.mono n1 le) (fun m2 G2 Ω2 H2 d v2 c2 n2 l2 r2 h2 => h2 m2 G2 H2 σ _ c2 ((s.mono n1 le).mono n2 l2) (fun m3 G3 Ω3 H3 y v3 c3 n3 l3 r3 ⟨k1, ek, g, q⟩ => ?_) ((x.on n1 le).on n2 l2)) (x.on n1 le)
  have n13 := n2.trans l2 n3
  have l13 := Nat.le_trans l2 l3
  have ep : m3 Ω.length = p := (n13.mm Ω.length (by simp)).trans e1
  have hd : H3 p = some (.dK []) := by
    obtain ⟨-, vs0, e, r0⟩ := c3.fr Ω.length _ g (by intro z; cases z)
    cases r0
    rw [← ep]; exact e
  refine ⟨hd, [(k1, v3)], ?_, (show 1 ≤ 15 by decide), ?_⟩
  · rw [key_rel ek r2]; rfl
  · have c4 := c3.write (y := .dic [(k1, y)]) (o := .dK [(k1, v3)]) g (by intro z; cases z) ⟨_, upd_same, .cons ⟨rfl, r3⟩ .nil⟩
    rw [ep] at c4
    show Q (.ref p) (upd H3 p (.dK [(k1, v3)]))
    exact k m3 G3 _ _ (.o Ω.length) (.ref p) c4 (n1.trans le n13) (by rw [List.length_set]; exact Nat.le_trans le l13) ⟨by rw [List.length_set]; exact Nat.lt_of_lt_of_le (by simp) l13, by rw [ep]⟩ q
theorem SOk.unlockK {m : Mp} {G : Hp} {i : Nat} {n : Nat} {od : Obj} {us : List (L2.Key × V)} {R : Gm → Om → Prop} {D : L2.St → Hp → Prop} (hi : i < n) (k : SOk K m G n R D) :
    SOk K m G n (fun Γ' Ω' => ∃ kvs', Ω'[i]? = some (.lkk od us kvs') ∧ R Γ' (Ω'.set i (.dic kvs'))) (fun σ' H' => H' (m i) = some (.frz od (.dK us)) ∧ D σ' (upd H' (m i) (.dK us))) := fun m1 G1 Ω1 H1 Γ1 σ1 c1 n1 l1 s1 ⟨kvs', g, q⟩ => by
  obtain ⟨-, eh, rs⟩ := c1.fr i _ g (by intro z; cases z)
  have em := n1.mm i hi
  have le : Ω1.length ≤ (Ω1.set i (OC.dic kvs')).length := by rw [List.length_set]; exact Nat.le_refl _
  have c2 := c1.write (y := .dic kvs') (o := .dK us) g (by intro z; cases z) ⟨us, upd_same, rs⟩
  refine ⟨by rw [← em]; exact eh, ?_⟩
  rw [← em]
  exact k _ _ _ _ _ _ c2 n1 (Nat.le_trans l1 le) (s1.mono (Nxt.refl ..) le) q
def lockOK (i : Nat) (od : Obj) (us : List (L2.Key × V)) (O : Outs) : Outs where
  nx := fun Γ' Ω' => ∃ kvs', Ω'[i]? = some (.lkk od us kvs') ∧ O.nx Γ' (Ω'.set i (.dic kvs'))
  rt := fun y Ω' => ∃ kvs', Ω'[i]? = some (.lkk od us kvs') ∧ O.rt y (Ω'.set i (.dic kvs'))
  bk := fun Γ' Ω' => ∃ kvs', Ω'[i]? = some (.lkk od us kvs') ∧ O.bk Γ' (Ω'.set i (.dic kvs'))
  ct := fun Γ' Ω' => ∃ kvs', Ω'[i]? = some (.lkk od us kvs') ∧ O.ct Γ' (Ω'.set i (.dic kvs'))
  er := O.er
theorem ws_lockK {t : TS} {i : Nat} {kvs : List (L2.Key × DV)} (g : Ω[i]? = some (.dic kvs))
    (h : ∀ od us, WS K W t Γ (Ω.set i (.lkk od us kvs)) (lockOK i od us O)) : WS K W (tLock t) Γ Ω O := fun m G H σ D c s k1 k2 k3 k4 z => by
  have hi := lt_of_get g
  obtain ⟨-, us, eh, rs⟩ := c.fr i _ g (by intro z; cases z)
  refine ⟨m i, _, eh, trivial, fun od => ?_⟩
  have le : Ω.length ≤ (Ω.set i (OC.lkk od us kvs)).length := by rw [List.length_set]; exact Nat.le_refl _
  have c2 := c.write (y := .lkk od us kvs) (o := .frz od (.dK us)) g (by intro z; cases z) ⟨upd_same, rs⟩
  have nr : Nxt m Ω.length G m G := Nxt.refl ..
  refine h od us m G _ σ _ c2 (s.mono nr le) ((k1.unlockK hi).on nr le) ?_ ((k3.unlockK hi).on nr le) ((k4.unlockK hi).on nr le) (z.on nr le)
  refine QOk.on (G := G) (n := Ω.length) ?_ nr le
  intro m1 G1 Ω1 H1 y v c1 n1 l1 r1 ⟨kvs', g', q⟩
  obtain ⟨-, eh', rs'⟩ := c1.fr i _ g' (by intro z; cases z)
  have em := n1.mm i hi
  have le' : Ω1.length ≤ (Ω1.set i (OC.dic kvs')).length := by rw [List.length_set]; exact Nat.le_refl _
  have c3 := c1.write (y := .dic kvs') (o := .dK us) g' (by intro z; cases z) ⟨us, upd_same, rs'⟩
  refine ⟨by rw [← em]; exact eh', ?_⟩
  rw [← em]
  exact k2 _ _ _ _ _ _ c3 n1 (Nat.le_trans l1 le') (r1.mono (Nxt.refl ..) le') q
theorem Paired.getK {m : Mp} {G : Hp} {n : Nat} : ∀ {kvs : List (L2.Key × DV)} {us : List (L2.Key × V)}, Paired (KRel K m G n) kvs us → ∀ {j : Nat} {p : L2.Key × V}, us[j]? = some p → ∃ y, kvs[j]? = some (p.1, y) ∧ RV K m G n y p.2
  | _, _, .nil, j, p, h => by cases h
  | _, _, .cons (a := a) (b := b) r rs, 0, p, h => by
    obtain rfl : b = p := Option.some.inj h
    exact ⟨a.2, by rw [r.1]; rfl, r.2⟩
  | _, _, .cons r rs, j + 1, p, h => Paired.getK rs (j := j) h
/-- for v in d.values(), the dict locked -/
theorem wi_vals {Rc : List DV → (Om → Prop) → Om → Prop} (h : WE K W td Γ Ω (fun d Ω1 => ∃ i od us kvs, d = .o i ∧ Ω1[i]? = some (.lkk od us kvs) ∧
      Rc (kvs.map (·.2)) (fun Ω' => Ω'[i]? = some (.lkk od us kvs)) Ω1) X) : WI K W (iVals td) Γ Ω Rc X := fun m G H σ R c s x k =>
  h m G H σ _ c s (fun m1 G1 Ω1 H1 d v c1 n1 l1 r1 ⟨i, od, us, kvs, e, g, q⟩ => by
    subst e
    obtain ⟨hi, rfl⟩ := r1
    obtain ⟨-, eh, rs⟩ := c1.fr i _ g (by intro z; cases z)
    refine ⟨m1 i, od, us, rfl, eh, k m1 G1 Ω1 H1 _ _ _ c1 n1 l1 (fun m' G' Ω' H' c' n' l' g' j => ?_) q⟩
    obtain ⟨-, eh', rs'⟩ := c'.fr i _ g' (by intro z; cases z)
    have em : m' i = m1 i := n'.mm i hi
    rw [em] at eh'
    have el := Paired.length rs'
    refine ⟨fun hj => ⟨eh', by rw [List.length_map] at hj; omega⟩, fun y hy => ?_⟩
    rw [List.getElem?_map] at hy
    obtain ⟨p, hp, rfl⟩ := Option.map_eq_some_iff.mp hy
    have hj := lt_of_get hp
    refine ⟨⟨eh', by omega⟩, fun x' H'' ⟨e2, ks, hk⟩ => ?_⟩
    subst e2
    obtain ⟨y2, hy2, ry⟩ := Paired.getK rs' hk
    rw [hp] at hy2
    obtain rfl := Option.some.inj hy2
    exact ⟨G', c', Ex.refl _, ry⟩) x
/-- for k, v in d.items(), the dict locked, its keys whole, its values data -/
theorem wi_items {Rc : List DV → (Om → Prop) → Om → Prop} (h : WE K W td Γ Ω (fun d Ω1 => ∃ i od us ps, d = .o i ∧ Ω1[i]? = some (.lkk od us ((ps : List (Int × PyData)).map fun p => (Sum.inl p.1, DV.d p.2))) ∧
      Rc (ps.map fun p => .d (.tuple [.int p.1, p.2])) (fun Ω' => Ω'[i]? = some (.lkk od us (ps.map fun p => (Sum.inl p.1, DV.d p.2)))) Ω1) X) : WI K W (iItems td) Γ Ω Rc X := fun m G H σ R c s x k =>
  h m G H σ _ c s (fun m1 G1 Ω1 H1 d v c1 n1 l1 r1 ⟨i, od, us, ps, e, g, q⟩ => by
    subst e
    obtain ⟨hi, rfl⟩ := r1
    obtain ⟨-, eh, rs⟩ := c1.fr i _ g (by intro z; cases z)
    refine ⟨m1 i, od, us, rfl, eh, k m1 G1 Ω1 H1 _ _ _ c1 n1 l1 (fun m' G' Ω' H' c' n' l' g' j => ?_) q⟩
    obtain ⟨-, eh', rs'⟩ := c'.fr i _ g' (by intro z; cases z)
    have em : m' i = m1 i := n'.mm i hi
    rw [em] at eh'
    have el := Paired.length rs'
    rw [List.length_map] at el
    refine ⟨fun hj => ⟨eh', by rw [List.length_map] at hj; omega⟩, fun y hy => ?_⟩
    rw [List.getElem?_map] at hy
    obtain ⟨p, hp, rfl⟩ := Option.map_eq_some_iff.mp hy
    have hj := lt_of_get hp
    refine ⟨⟨eh', by omega⟩, fun x' H'' ⟨T, ks, v, hk, ex, hT, eH⟩ => ?_⟩
    subst ex eH
    obtain ⟨y2, hy2, ry⟩ := Paired.getK rs' hk
    rw [List.getElem?_map, hp] at hy2
    have hy2 := Option.some.inj hy2
    have e1 : Sum.inl p.1 = ks := congrArg Prod.fst hy2
    have e2 : DV.d p.2 = y2 := congrArg Prod.snd hy2
    subst e1 e2
    obtain ⟨c2, n2⟩ := c'.frz hT (.tup [kV (Sum.inl p.1), v])
    refine ⟨_, c2, n2.gg, .tup (st_of upd_same) (.cons (.int _) (.cons ?_ .nil))⟩
    exact dp_ex n2.gg _ _ ry) x
def mergeD (kvs more : List (L2.Key × DV)) : List (L2.Key × DV) := more.foldl (fun acc kv => putKD acc kv.1 kv.2) kvs
theorem merge_relK {m : Mp} {G : Hp} {n : Nat} : ∀ {more : List (L2.Key × DV)} {us : List (L2.Key × V)} {kvs : List (L2.Key × DV)} {vs : List (L2.Key × V)}, Paired (KRel K m G n) more us → Paired (KRel K m G n) kvs vs → Paired (KRel K m G n) (mergeD kvs more) (mergeK vs us)
  | _, _, _, _, .nil, h => h
  | _, _, _, _, .cons (a := a) (b := b) r rs, h => by
    have e : b.1 = a.1 := r.1
    show Paired _ (mergeD (putKD _ a.1 a.2) _) (mergeK (putK _ b.1 b.2) _)
    rw [e]
    exact merge_relK rs (put_relK r.2 h)
theorem wm_upd {i j : Nat} {kvs more : List (L2.Key × DV)} (hx : Ω[i]? = some (.dic kvs)) (hy : Ω[j]? = some (.dic more)) (ne : i ≠ j) (hl : kvs.length + more.length ≤ 100000) (q : R (.d .none) (Ω.set i (.dic (mergeD kvs more)))) : WM K rUpd (.o i) [.o j] Ω R := fun m G H v vs Q c r1 r2 k => by
  obtain ⟨hi, rfl⟩ := r1
  cases r2 with
  | cons ry rn =>
    cases rn
    obtain ⟨hj, rfl⟩ := ry
    obtain ⟨_, ws, hw, rp⟩ := c.fr i _ hx (by intro z; cases z)
    obtain ⟨_, us, hu, rq⟩ := c.fr j _ hy (by intro z; cases z)
    refine ⟨m i, m j, ws, us, rfl, rfl, fun e => ne (c.inj i j _ _ hx hy (by intro z; cases z) (by intro z; cases z) e), hw, hu, sz_of (by rw [← Paired.length rp, ← Paired.length rq]; exact hl), ?_⟩
    have c2 := c.write (y := .dic (mergeD kvs more)) (o := .dK (mergeK ws us)) hx (by intro z; cases z) ⟨_, upd_same, merge_relK rq rp⟩
    exact k _ _ _ _ (.d .none) _ c2 (Nxt.refl ..) (by rw [List.length_set]; exact Nat.le_refl _) Dp.non q
theorem wm_clear {i : Nat} {ds : List DV} (hx : Ω[i]? = some (.lst ds)) (q : R (.d .none) (Ω.set i (.lst []))) : WM K rClear (.o i) [] Ω R := fun m G H v vs Q c r1 r2 k => by
  obtain ⟨hi, rfl⟩ := r1
  cases r2
  obtain ⟨q1, ws, hw, rp⟩ := c.fr i _ hx (by intro z; cases z)
  have c2 := c.write (y := .lst []) (o := .lst []) hx (by intro z; cases z) ⟨_, upd_same, .nil⟩
  exact ⟨m i, ws, rfl, rfl, hw, k _ _ _ _ (.d .none) _ c2 (Nxt.refl ..) (by rw [List.length_set]; exact Nat.le_refl _) Dp.non q⟩
theorem we_bmD {to : TE} {ta : TA} {r : V → List V → Hp → VK → Prop} (h : WE K W to Γ Ω (fun d Ω1 => (∃ i kvs, d = .o i ∧ Ω1[i]? = some (.dic kvs)) ∧ WA K W ta Γ Ω1 (fun ds Ω2 => WM K r d ds Ω2 R) X) X) : WE K W (tBM K "dict" r to ta) Γ Ω R X := fun m G H σ Q c s k x =>
  h m G H σ _ c s (fun m1 G1 Ω1 H1 d1 v1 c1 n1 l1 r1 ⟨⟨i, kvs, e1, e2⟩, h1⟩ => by
    refine ⟨?_, h1 m1 G1 H1 σ _ c1 (s.mono n1 l1) (fun m2 G2 Ω2 H2 es vs c2 n2 l2 r2 h2 => h2 m2 G2 H2 v1 vs Q c2 (RV.mono n2 l2 r1) r2 (k.on (n1.trans l1 n2) (Nat.le_trans l1 l2))) (x.on n1 l1)⟩
    subst e1
    obtain ⟨hi, rfl⟩ := r1
    obtain ⟨-, vs, eh, -⟩ := c1.fr i _ e2 (by intro z; cases z)
    exact .inr (.inr (.inl ⟨rfl, .inl ⟨vs, eh⟩⟩))) x
end
end HL
namespace HL
open PySem PySem.Spec PyProof.Rows L2 Evl RZ
/-! weights by sightings: the steps, the ways, the parts -/
def Sg.shr (x : Sg) : Rat := x.share.getD 1
structure St4 where
  n : Int
  w : Int
  o : Int
  q : Rat
def dS4 (s : St4) : PyData := .tuple [.int s.n, .int s.w, .int s.o, dR s.q]
def stepsX (b : Int) (p : Sg × Nat) : List St4 := (if p.1.i = b then [⟨p.2, 0, p.1.j, p.1.shr⟩] else []) ++ (if p.1.j = b then [⟨p.2, 1, p.1.i, 1 / p.1.shr⟩] else [])
def stepsL (xs : List Sg) (b : Int) : List St4 := xs.zipIdx.flatMap (stepsX b)
def AllS (xs : List Sg) : Prop := ∀ x ∈ xs, ∃ q, x.share = some q
theorem share_pos {x : Sg} {q : Rat} (h : x.share = some q) : 0 < q := by
  unfold Sg.share at h
  split at h
  · rename_i z; cases h; exact z.2
  · cases h
theorem stepF_get {xs : List Sg} {p : Int × Int} {b o : Int} {q : Rat} (h : stepF xs p = some (b, o, q)) : ∃ x q0, 0 ≤ p.1 ∧ xs[p.1.toNat]? = some x ∧ x.share = some q0 ∧ ((p.2 = 0 ∧ b = x.i ∧ o = x.j ∧ q = q0) ∨ (p.2 = 1 ∧ b = x.j ∧ o = x.i ∧ q = 1 / q0)) := by
  unfold stepF at h
  split at h
  · rename_i c
    split at h
    · cases h
    · rename_i x hx
      split at h
      · cases h
      · rename_i q0 hq
        refine ⟨x, q0, c.1, hx, hq, ?_⟩
        split at h
        · rename_i e
          cases h
          exact .inl ⟨e, rfl, rfl, rfl⟩
        · rename_i e
          cases h
          exact .inr ⟨c.2.2.resolve_left e, rfl, rfl, rfl⟩
  · cases h
theorem stepF_mk {xs : List Sg} {k : Nat} {x : Sg} {q : Rat} (h : xs[k]? = some x) (hq : x.share = some q) : stepF xs ((k : Int), 0) = some (x.i, x.j, q) ∧ stepF xs ((k : Int), 1) = some (x.j, x.i, 1 / q) := by
  have hk := lt_of_get h
  constructor
  · unfold stepF
    rw [if_pos ⟨by show (0 : Int) ≤ k; omega, by show (k : Int) < _; omega, .inl rfl⟩]
    simp [h, hq]
  · unfold stepF
    rw [if_pos ⟨by show (0 : Int) ≤ k; omega, by show (k : Int) < _; omega, .inr rfl⟩]
    simp [h, hq]
theorem mem_stepsL {xs : List Sg} {b : Int} {s : St4} (ha : AllS xs) (h : s ∈ stepsL xs b) : stepF xs (s.n, s.w) = some (b, s.o, s.q) := by
  unfold stepsL at h
  obtain ⟨⟨x, k⟩, hm, hs⟩ := List.mem_flatMap.mp h
  have hk : xs[k]? = some x := List.mk_mem_zipIdx_iff_getElem?.mp hm
  obtain ⟨q, hq⟩ := ha x (List.mem_of_getElem? hk)
  obtain ⟨m1, m2⟩ := stepF_mk hk hq
  have es : x.shr = q := by unfold Sg.shr; rw [hq]; rfl
  rcases List.mem_append.mp hs with z | z
  · split at z
    · rename_i e
      have e : x.i = b := e
      rw [List.mem_singleton.mp z, ← e, m1, es]
    · cases z
  · split at z
    · rename_i e
      have e : x.j = b := e
      rw [List.mem_singleton.mp z, ← e, m2, es]
    · cases z
theorem stepsL_mem {xs : List Sg} {p : Int × Int} {b o : Int} {q : Rat} (h : stepF xs p = some (b, o, q)) : (⟨p.1, p.2, o, q⟩ : St4) ∈ stepsL xs b := by
  obtain ⟨x, q0, h0, hx, hq, hc⟩ := stepF_get h
  have es : x.shr = q0 := by unfold Sg.shr; rw [hq]; rfl
  have ek : ((p.1.toNat : Nat) : Int) = p.1 := by omega
  refine List.mem_flatMap.mpr ⟨(x, p.1.toNat), List.mk_mem_zipIdx_iff_getElem?.mpr hx, ?_⟩
  unfold stepsX
  rcases hc with ⟨e1, e2, e3, e4⟩ | ⟨e1, e2, e3, e4⟩
  · refine List.mem_append.mpr (.inl ?_)
    rw [if_pos e2.symm, ek, es, e1, e3, e4]
    exact List.mem_singleton.mpr rfl
  · refine List.mem_append.mpr (.inr ?_)
    rw [if_pos e2.symm, ek, es, e1, e3, e4]
    exact List.mem_singleton.mpr rfl
theorem stepsL_snoc (xs : List Sg) (x : Sg) (b : Int) : stepsL (xs ++ [x]) b = stepsL xs b ++ stepsX b (x, xs.length) := by
  unfold stepsL
  rw [List.zipIdx_append, List.flatMap_append]
  simp
def turnP (p : Int × Int) : Int × Int := (p.1, 1 - p.2)
theorem inv_inv_rat {q : Rat} : 1 / (1 / q) = q := by
  rw [Rat.div_def, Rat.div_def, Rat.one_mul, Rat.one_mul, Rat.inv_inv]
theorem stepF_pos {xs : List Sg} {p : Int × Int} {b o : Int} {q : Rat} (h : stepF xs p = some (b, o, q)) : 0 < q := by
  obtain ⟨x, q0, h0, hx, hq, hc⟩ := stepF_get h
  have := share_pos hq
  rcases hc with ⟨_, _, _, rfl⟩ | ⟨_, _, _, rfl⟩
  · exact this
  · rw [Rat.div_def, Rat.one_mul]; exact Rat.inv_pos.mpr this
theorem stepF_turn {xs : List Sg} {p : Int × Int} {b o : Int} {q : Rat} (h : stepF xs p = some (b, o, q)) : stepF xs (turnP p) = some (o, b, 1 / q) := by
  obtain ⟨x, q0, h0, hx, hq, hc⟩ := stepF_get h
  obtain ⟨m1, m2⟩ := stepF_mk hx hq
  have ek : ((p.1.toNat : Nat) : Int) = p.1 := by omega
  rw [ek] at m1 m2
  unfold turnP
  rcases hc with ⟨e1, rfl, rfl, rfl⟩ | ⟨e1, rfl, rfl, rfl⟩
  · rw [e1]; exact m2
  · rw [e1, inv_inv_rat]; exact m1
/-- a way from ball to ball, by which share the last one weighs by the first -/
inductive Path (xs : List Sg) : Int → Int → List (Int × Int) → Rat → Prop
  | nil (a : Int) : Path xs a a [] 1
  | cons {a b c : Int} {p : Int × Int} {l : List (Int × Int)} {r q : Rat} : stepF xs p = some (a, b, r) → Path xs b c l q → Path xs a c (p :: l) (r * q)
theorem Path.app {xs : List Sg} {a b c : Int} {l m : List (Int × Int)} {q r : Rat} (h : Path xs a b l q) (g : Path xs b c m r) : Path xs a c (l ++ m) (q * r) := by
  induction h with
  | nil => rw [Rat.one_mul]; exact g
  | cons e _ ih => rw [Rat.mul_assoc]; exact .cons e (ih g)
theorem Path.one {xs : List Sg} {a b : Int} {p : Int × Int} {r : Rat} (h : stepF xs p = some (a, b, r)) : Path xs a b [p] r := by
  have := Path.cons h (.nil b)
  rwa [Rat.mul_one] at this
theorem Path.pos {xs : List Sg} {a b : Int} {l : List (Int × Int)} {q : Rat} (h : Path xs a b l q) : 0 < q := by
  induction h with
  | nil => decide
  | cons e _ ih => exact Rat.mul_pos (stepF_pos e) ih
theorem Path.rev {xs : List Sg} {a b : Int} {l : List (Int × Int)} {q : Rat} (h : Path xs a b l q) : Path xs b a (l.map turnP).reverse (1 / q) := by
  induction h with
  | nil a =>
    have : (1 : Rat) / 1 = 1 := by rw [Rat.div_def]; exact Rat.mul_inv_cancel 1 (by decide)
    rw [this]
    exact .nil a
  | @cons a b c p l r q e h ih =>
    rw [List.map_cons, List.reverse_cons]
    have := ih.app (Path.one (stepF_turn e))
    have e2 : 1 / q * (1 / r) = 1 / (r * q) := by
      rw [Rat.div_def, Rat.div_def, Rat.div_def, Rat.one_mul, Rat.one_mul, Rat.one_mul, Rat.inv_mul_rev]
    rw [← e2]; exact this
theorem Path.does {xs : List Sg} {f : Int → Rat} (hf : ∀ p a b r, stepF xs p = some (a, b, r) → f b = f a * r) {a b : Int} {l : List (Int × Int)} {q : Rat} (h : Path xs a b l q) : f b = f a * q := by
  induction h with
  | nil => rw [Rat.mul_one]
  | cons e _ ih => rw [ih, hf _ _ _ _ e, Rat.mul_assoc]
/-- a closed way whose shares' product is not 1 is a ring -/
theorem Path.steps {xs : List Sg} {a b : Int} {l : List (Int × Int)} {q : Rat} (h : Path xs a b l q) : (l.any fun p => (stepF xs p).isNone) = false ∧ (l.filterMap (stepF xs)).length = l.length ∧
    (∀ i, i < l.length → ((l.filterMap (stepF xs)).getD i d3).1 = (if i = 0 then a else ((l.filterMap (stepF xs)).getD (i - 1) d3).2.1)) ∧ (l ≠ [] → ((l.filterMap (stepF xs)).getD (l.length - 1) d3).2.1 = b) ∧ ∀ z : Rat, (l.filterMap (stepF xs)).foldl (fun q s => q * s.2.2) z = z * q := by
  induction h with
  | nil a => exact ⟨rfl, rfl, fun i h => absurd h (Nat.not_lt_zero _), fun h => absurd rfl h, fun z => (Rat.mul_one z).symm⟩
  | @cons a b c p l r q e h ih =>
    obtain ⟨h1, h2, h3, h4, h5⟩ := ih
    have ef : (p :: l).filterMap (stepF xs) = (a, b, r) :: l.filterMap (stepF xs) := by rw [List.filterMap_cons, e]
    rw [ef]
    refine ⟨by rw [List.any_cons, e, h1]; rfl, by rw [List.length_cons, List.length_cons, h2], fun i hi => ?_, fun _ => ?_, fun z => ?_⟩
    · cases i with
      | zero => rfl
      | succ i =>
        rw [List.length_cons] at hi
        rw [if_neg (by omega), List.getD_cons_succ, h3 i (by omega), Nat.add_sub_cancel]
        cases i with
        | zero => rfl
        | succ i => rw [if_neg (by omega), List.getD_cons_succ, Nat.add_sub_cancel]
    · rw [List.length_cons, Nat.add_sub_cancel]
      cases l with
      | nil =>
        cases h
        rfl
      | cons p' l' =>
        rw [List.length_cons, List.getD_cons_succ]
        exact h4 (by simp)
    · rw [List.foldl_cons, h5]
      show z * r * q = z * (r * q)
      rw [Rat.mul_assoc]
theorem Path.ring {xs : List Sg} {a : Int} {l : List (Int × Int)} {q : Rat} (h : Path xs a a l q) (hl : l ≠ []) (hq : q ≠ 1) : ringB xs l = true := by
  obtain ⟨h1, h2, h3, h4, h5⟩ := h.steps
  unfold ringB
  rw [if_neg (fun z => z.elim hl fun z => by rw [h1] at z; cases z)]
  have e1 : prodF (l.filterMap (stepF xs)) = q := by
    unfold prodF
    rw [h5, Rat.one_mul]
  rw [e1, decide_eq_false hq, Bool.not_false, Bool.and_true]
  unfold closes
  rw [List.all_eq_true]
  intro i hi
  rw [List.mem_range, h2] at hi
  rw [decide_eq_true_eq, h3 i hi, h2]
  by_cases e : i = 0
  · rw [if_pos e, if_pos e]
    exact h4 hl
  · rw [if_neg e, if_neg e]
/-! a part -/
structure Pa where
  wts : List (Int × Rat)
  came : List (Int × Option (Int × Int × Int))
  ring : Option (List (Int × Int))
def homeF : Nat → List (Int × Option (Int × Int × Int)) → Int → List (Int × Int)
  | 0, _, _ => []
  | f + 1, c, b => match c.lookup b with
    | some (some (n, w, o)) => (n, 1 - w) :: homeF f c o
    | _ => []
inductive HomeR (c : List (Int × Option (Int × Int × Int))) : Int → List (Int × Int) → Prop
  | nil {b : Int} : c.lookup b = some none → HomeR c b []
  | cons {b n w o : Int} {l : List (Int × Int)} : c.lookup b = some (some (n, w, o)) → HomeR c o l → HomeR c b ((n, 1 - w) :: l)
theorem homeF_eq {c : List (Int × Option (Int × Int × Int))} {b : Int} {l : List (Int × Int)} (h : HomeR c b l) : ∀ {f : Nat}, l.length < f → homeF f c b = l := by
  induction h with
  | nil e =>
    intro f hf
    cases f with
    | zero => cases hf
    | succ f => unfold homeF; rw [e]
  | cons e _ ih =>
    intro f hf
    cases f with
    | zero => cases hf
    | succ f => unfold homeF; rw [e]; show _ :: _ = _; rw [ih (by simpa using hf)]
theorem look_app {α : Type} {b : Int} {y : α} : ∀ {l m : List (Int × α)}, l.lookup b = some y → (l ++ m).lookup b = some y
  | (c, z) :: l, m, h => by
    rw [List.cons_append]
    rw [List.lookup_cons] at h ⊢
    split
    · rename_i e; rw [e] at h; exact h
    · rename_i e; rw [e] at h; exact look_app h
theorem look_app2 {α : Type} {b : Int} : ∀ {l m : List (Int × α)}, l.lookup b = none → (l ++ m).lookup b = m.lookup b
  | [], m, h => rfl
  | (c, z) :: l, m, h => by
    rw [List.cons_append]
    rw [List.lookup_cons] at h ⊢
    split
    · rename_i e; rw [e] at h; cases h
    · rename_i e; rw [e] at h; exact look_app2 h
theorem look_none {α : Type} {b : Int} : ∀ {l : List (Int × α)}, l.lookup b = none ↔ b ∉ l.map (·.1)
  | [] => by simp
  | (c, z) :: l => by
    rw [List.lookup_cons, List.map_cons, List.mem_cons]
    by_cases e : b = c
    · simp [e]
    · have : (b == c) = false := by simpa using e
      rw [this]
      simp only [e, false_or]
      exact look_none
theorem look_mem {α : Type} {b : Int} : ∀ {l : List (Int × α)}, b ∈ l.map (·.1) → ∃ y, l.lookup b = some y := fun {l} h => by
  cases e : l.lookup b with
  | none => exact absurd h (look_none.mp e)
  | some y => exact ⟨y, rfl⟩
theorem look_get {α : Type} {b : Int} {y : α} : ∀ {l : List (Int × α)}, l.lookup b = some y → ∃ k : Nat, l[k]? = some (b, y)
  | (c, z) :: l, h => by
    rw [List.lookup_cons] at h
    split at h
    · rename_i e
      have e : b = c := by simpa using e
      subst e
      cases h
      exact ⟨0, rfl⟩
    · obtain ⟨k, hk⟩ := look_get h
      exact ⟨k + 1, hk⟩
theorem get_look {α : Type} {b : Int} {y : α} : ∀ {l : List (Int × α)} {k : Nat}, (l.map (·.1)).Nodup → l[k]? = some (b, y) → l.lookup b = some y
  | (c, z) :: l, 0, nd, h => by cases h; exact List.lookup_cons_self
  | (c, z) :: l, k + 1, nd, h => by
    rw [List.map_cons, List.nodup_cons] at nd
    have h : l[k]? = some (b, y) := h
    have ne : ¬ b = c := fun e => nd.1 (by rw [← e]; exact List.mem_map.mpr ⟨_, List.mem_of_getElem? h, rfl⟩)
    have : (b == c) = false := by simpa using ne
    rw [List.lookup_cons, this]
    exact get_look nd.2 h
theorem HomeR.mono {c e : List (Int × Option (Int × Int × Int))} {b : Int} {l : List (Int × Int)} (h : HomeR c b l) : HomeR (c ++ e) b l := by
  induction h with
  | nil e => exact .nil (look_app e)
  | cons e _ ih => exact .cons (look_app e) ih
def toF (f : Nat) (c : List (Int × Option (Int × Int × Int))) (b : Int) : List (Int × Int) := ((homeF f c b).map turnP).reverse
def joinS (b : Int) (a : Pa × List Int) (s : St4) : Pa × List Int :=
  match a.1.wts.lookup s.o with
  | none => (⟨a.1.wts ++ [(s.o, (a.1.wts.lookup b).getD 0 * s.q)], a.1.came ++ [(s.o, some (s.n, s.w, b))], a.1.ring⟩, a.2 ++ [s.o])
  | some w' => if w' ≠ (a.1.wts.lookup b).getD 0 * s.q ∧ a.1.ring = none then (⟨a.1.wts, a.1.came, some (toF a.1.came.length a.1.came b ++ [(s.n, s.w)] ++ homeF a.1.came.length a.1.came s.o)⟩, a.2) else a
def joinL (xs : List Sg) (a : Pa) (b : Int) : Pa × List Int := (stepsL xs b).foldl (joinS b) (a, [])
def partS (xs : List Sg) (z : Pa × List Int) : Pa × List Int := match z.2 with
  | [] => z
  | h :: r => if z.1.ring = none then ((joinL xs z.1 h).1, r ++ (joinL xs z.1 h).2) else z
def part0 (b : Int) : Pa := ⟨[(b, 1)], [(b, none)], none⟩
def partF (n : Nat) (xs : List Sg) (b : Int) : Pa := (iterN (partS xs) (n + 1) (part0 b, [b])).1
def Pa.keys (a : Pa) : List Int := a.wts.map (·.1)
structure PI (n t : Nat) (xs : List Sg) (root : Int) (a : Pa) : Prop where
  ks : a.came.map (·.1) = a.keys
  nd : a.keys.Nodup
  rng : ∀ b ∈ a.keys, 0 ≤ b ∧ b < n
  ent : ∀ (k : Nat) (b : Int) (w : Rat), a.wts[k]? = some (b, w) → 0 < w ∧ Sz (1 + t * k) w ∧ ∃ l, HomeR a.came b l ∧ l.length ≤ k ∧ Path xs b root l (1 / w)
  rg : ∀ r, a.ring = some r → ∃ q, Path xs root root r q ∧ q ≠ 1 ∧ r ≠ [] ∧ r.length ≤ 2 * n + 1
  rt : a.wts.lookup root = some 1
theorem nodup_le : ∀ {n : Nat} {l : List Int}, l.Nodup → (∀ b ∈ l, 0 ≤ b ∧ b < n) → l.length ≤ n
  | 0, l, _, h => by
    cases l with
    | nil => exact Nat.le_refl _
    | cons b r => have := h b (.head _); omega
  | n + 1, l, nd, h => by
    by_cases hm : (n : Int) ∈ l
    · have := nodup_le (n := n) (nd.erase (n : Int)) fun b hb => by
        obtain ⟨ne, hb⟩ := (nd.mem_erase_iff).mp hb
        have := h b hb
        omega
      rw [List.length_erase_of_mem hm] at this
      omega
    · have := nodup_le (n := n) nd fun b hb => by
        have := h b hb
        have : b ≠ n := fun e => hm (by rw [← e]; exact hb)
        omega
      omega
theorem keys_look {a : Pa} {b : Int} (h : b ∈ a.keys) : ∃ w, a.wts.lookup b = some w := look_mem h
theorem look_keys {a : Pa} {b : Int} {w : Rat} (h : a.wts.lookup b = some w) : b ∈ a.keys := by
  by_cases c : b ∈ a.keys
  · exact c
  · rw [look_none.mpr c] at h; cases h
theorem PI.at_ {n t : Nat} {xs : List Sg} {root : Int} {a : Pa} (h : PI n t xs root a) {b : Int} {w : Rat} (e : a.wts.lookup b = some w) : ∃ k, k < a.wts.length ∧ 0 < w ∧ Sz (1 + t * k) w ∧ ∃ l, HomeR a.came b l ∧ l.length ≤ k ∧ Path xs b root l (1 / w) := by
  obtain ⟨k, hk⟩ := look_get e
  exact ⟨k, lt_of_get hk, h.ent k b w hk⟩
theorem PI.len {n t : Nat} {xs : List Sg} {root : Int} {a : Pa} (h : PI n t xs root a) : a.wts.length ≤ n ∧ a.came.length = a.wts.length := by
  have h1 := nodup_le h.nd h.rng
  have h2 := congrArg List.length h.ks
  unfold Pa.keys at h1 h2
  rw [List.length_map] at h1
  rw [List.length_map, List.length_map] at h2
  exact ⟨h1, h2⟩
theorem PI.home {n t : Nat} {xs : List Sg} {root : Int} {a : Pa} (h : PI n t xs root a) {b : Int} {w : Rat} (e : a.wts.lookup b = some w) : HomeR a.came b (homeF a.came.length a.came b) ∧ (homeF a.came.length a.came b).length < n ∧ Path xs b root (homeF a.came.length a.came b) (1 / w) := by
  obtain ⟨k, hk, _, _, l, hr, hl, hp⟩ := h.at_ e
  have := h.len
  rw [homeF_eq hr (by omega)]
  exact ⟨hr, by omega, hp⟩
/-- what a step of a ball leaves -/
structure Jn (n t : Nat) (xs : List Sg) (root b : Int) (a a' : Pa) (g : List Int) : Prop where
  pi : PI n t xs root a'
  ks : a'.keys = a.keys ++ g
  pr : ∀ c w, a.wts.lookup c = some w → a'.wts.lookup c = some w
  rn : a'.ring = none → a.ring = none
theorem joinS_ok {n t : Nat} {xs : List Sg} {root b : Int} {a : Pa} {s : St4} (f : List Int) (h : PI n t xs root a) (hb : b ∈ a.keys) (hs : stepF xs (s.n, s.w) = some (b, s.o, s.q)) (ho : 0 ≤ s.o ∧ s.o < n) (zs : Sz t s.q) :
    ∃ g, (joinS b (a, f) s).2 = f ++ g ∧ Jn n t xs root b a (joinS b (a, f) s).1 g ∧ s.o ∈ (joinS b (a, f) s).1.keys ∧ ((joinS b (a, f) s).1.ring = none → ∀ w, a.wts.lookup b = some w → (joinS b (a, f) s).1.wts.lookup s.o = some (w * s.q)) := by
  obtain ⟨wb, eb⟩ := keys_look hb
  have q0 := stepF_pos hs
  obtain ⟨k, hk, w0, zw, l, hr, hl, hp⟩ := h.at_ eb
  unfold joinS
  simp only [eb, Option.getD_some]
  cases eo : a.wts.lookup s.o with
  | none =>
    simp only
    have hno : s.o ∉ a.keys := look_none.mp eo
    have hn2 : s.o ∉ a.came.map (·.1) := by rw [h.ks]; exact hno
    have hcn : a.came.lookup s.o = none := look_none.mpr hn2
    have ek : Pa.keys ⟨a.wts ++ [(s.o, wb * s.q)], a.came ++ [(s.o, some (s.n, s.w, b))], a.ring⟩ = a.keys ++ [s.o] := by unfold Pa.keys; rw [List.map_append]; rfl
    have lo : (a.wts ++ [(s.o, wb * s.q)]).lookup s.o = some (wb * s.q) := by rw [look_app2 eo]; exact List.lookup_cons_self
    have lc : (a.came ++ [(s.o, some (s.n, s.w, b))]).lookup s.o = some (some (s.n, s.w, b)) := by rw [look_app2 hcn]; exact List.lookup_cons_self
    refine ⟨[s.o], rfl, ⟨⟨?_, ?_, ?_, ?_, h.rg, look_app h.rt⟩, ek, fun c w e => look_app e, fun e => e⟩, ?_, ?_⟩
    · rw [ek, List.map_append, h.ks]; rfl
    · rw [ek, List.nodup_append]
      exact ⟨h.nd, by simp, fun x hx y hy z => by rw [List.mem_singleton.mp hy] at z; rw [z] at hx; exact hno hx⟩
    · rw [ek]
      intro c hc
      rcases List.mem_append.mp hc with hc | hc
      · exact h.rng c hc
      · rw [List.mem_singleton.mp hc]; exact ho
    · intro j c w e
      by_cases hj : j < a.wts.length
      · rw [List.getElem?_append_left hj] at e
        obtain ⟨e1, e2, l', e3, e4, e5⟩ := h.ent j c w e
        exact ⟨e1, e2, l', e3.mono, e4, e5⟩
      · rw [List.getElem?_append_right (by omega)] at e
        obtain ⟨d, hd⟩ : ∃ d, j - a.wts.length = d := ⟨_, rfl⟩
        rw [hd] at e
        cases d with
        | succ d => cases e
        | zero =>
          cases e
          have ej : j = a.wts.length := by omega
          subst ej
          have ht : t * k + t ≤ t * a.wts.length := by
            rw [← Nat.mul_succ]
            exact Nat.mul_le_mul_left _ hk
          refine ⟨Rat.mul_pos w0 q0, (zw.mul zs).mono (by omega), (s.n, 1 - s.w) :: l, .cons lc hr.mono, by rw [List.length_cons]; omega, ?_⟩
          have := Path.cons (stepF_turn hs) hp
          have e2 : 1 / s.q * (1 / wb) = 1 / (wb * s.q) := by
            rw [Rat.div_def, Rat.div_def, Rat.div_def, Rat.one_mul, Rat.one_mul, Rat.one_mul, Rat.inv_mul_rev]
          rw [← e2]; exact this
    · rw [ek]; simp
    · intro _ w e
      cases e
      exact lo
  | some w' =>
    simp only
    by_cases c : w' ≠ wb * s.q ∧ a.ring = none
    · rw [if_pos c]
      obtain ⟨r1, r2, r3⟩ := h.home eb
      obtain ⟨r4, r5, r6⟩ := h.home eo
      refine ⟨[], (List.append_nil f).symm, ⟨⟨h.ks, h.nd, h.rng, h.ent, ?_, h.rt⟩, (List.append_nil _).symm, fun c w e => e, fun e => by cases e⟩, look_keys eo, fun e => by cases e⟩
      intro r er
      cases er
      have p1 := (r3.rev.app (Path.one hs)).app r6
      refine ⟨_, p1, ?_, by simp, ?_⟩
      · intro e1
        refine c.1 ?_
        have hw' := (h.at_ eo)
        obtain ⟨_, _, w1, _⟩ := hw'
        rw [inv_inv_rat, Rat.div_def, Rat.one_mul] at e1
        have h2 := Rat.mul_inv_cancel w' (by grind)
        calc w' = (wb * s.q * w'⁻¹) * w' := by rw [e1, Rat.one_mul]
          _ = wb * s.q * (w' * w'⁻¹) := by grind
          _ = wb * s.q := by rw [h2, Rat.mul_one]
      · unfold toF
        simp only [List.length_append, List.length_reverse, List.length_map, List.length_singleton]
        omega
    · rw [if_neg c]
      refine ⟨[], (List.append_nil f).symm, ⟨h, (List.append_nil _).symm, fun c w e => e, fun e => e⟩, look_keys eo, fun e w ew => ?_⟩
      cases ew
      rw [eo]
      by_cases c2 : w' = wb * s.q
      · rw [c2]
      · exact absurd ⟨c2, e⟩ c
theorem Jn.trans {n t : Nat} {xs : List Sg} {root b : Int} {a a' a2 : Pa} {g g2 : List Int} (h : Jn n t xs root b a a' g) (h2 : Jn n t xs root b a' a2 g2) : Jn n t xs root b a a2 (g ++ g2) :=
  ⟨h2.pi, by rw [h2.ks, h.ks, List.append_assoc], fun c w e => h2.pr c w (h.pr c w e), fun e => h.rn (h2.rn e)⟩
/-- steps of a ball are fit -/
def StOk (n t : Nat) (xs : List Sg) (b : Int) (ss : List St4) : Prop := ∀ s ∈ ss, stepF xs (s.n, s.w) = some (b, s.o, s.q) ∧ (0 ≤ s.o ∧ s.o < n) ∧ Sz t s.q
theorem joinF_ok {n t : Nat} {xs : List Sg} {root b : Int} : ∀ {ss : List St4} {a : Pa} (f : List Int), PI n t xs root a → b ∈ a.keys → StOk n t xs b ss → ∃ g, (ss.foldl (joinS b) (a, f)).2 = f ++ g ∧ Jn n t xs root b a (ss.foldl (joinS b) (a, f)).1 g ∧
    ∀ s ∈ ss, s.o ∈ (ss.foldl (joinS b) (a, f)).1.keys ∧ ((ss.foldl (joinS b) (a, f)).1.ring = none → ∀ w, a.wts.lookup b = some w → (ss.foldl (joinS b) (a, f)).1.wts.lookup s.o = some (w * s.q))
  | [], a, f, h, hb, hs => ⟨[], (List.append_nil f).symm, ⟨h, (List.append_nil _).symm, fun _ _ e => e, fun e => e⟩, fun s hs => by cases hs⟩
  | s :: ss, a, f, h, hb, hs => by
    obtain ⟨z1, z2, z3⟩ := hs s (.head _)
    obtain ⟨g1, e1, j1, m1, r1⟩ := joinS_ok f h hb z1 z2 z3
    have hb' : b ∈ (joinS b (a, f) s).1.keys := by rw [j1.ks]; exact List.mem_append.mpr (.inl hb)
    obtain ⟨g2, e2, j2, m2⟩ := joinF_ok (joinS b (a, f) s).2 j1.pi hb' fun x hx => hs x (.tail _ hx)
    rw [List.foldl_cons]
    have ep : joinS b (a, f) s = ((joinS b (a, f) s).1, (joinS b (a, f) s).2) := rfl
    rw [ep]
    refine ⟨g1 ++ g2, by rw [e2, e1, List.append_assoc], j1.trans j2, fun x hx => ?_⟩
    rcases List.mem_cons.mp hx with rfl | hx
    · refine ⟨by rw [j2.ks]; exact List.mem_append.mpr (.inl m1), fun er w ew => j2.pr _ _ (r1 (j2.rn er) w ew)⟩
    · obtain ⟨y1, y2⟩ := m2 x hx
      exact ⟨y1, fun er w ew => y2 er w (j1.pr _ _ ew)⟩
/-- the search: D are done, the rim is z.2 -/
structure JI (n t : Nat) (xs : List Sg) (root : Int) (D : List Int) (z : Pa × List Int) : Prop where
  pi : PI n t xs root z.1
  ks : z.1.keys = D ++ z.2
  cl : ∀ b ∈ D, ∀ p o q, stepF xs p = some (b, o, q) → o ∈ z.1.keys ∧ (z.1.ring = none → ∀ w, z.1.wts.lookup b = some w → z.1.wts.lookup o = some (w * q))
theorem JI.start {n t : Nat} {xs : List Sg} {root : Int} (h0 : 0 ≤ root) (h1 : root < n) : JI n t xs root [] (part0 root, [root]) := by
  refine ⟨⟨rfl, by simp [part0, Pa.keys], fun b hb => ?_, fun k b w e => ?_, fun r e => (by cases e), List.lookup_cons_self⟩, rfl, fun b hb => by cases hb⟩
  · have : b = root := by simpa [part0, Pa.keys] using hb
    omega
  · cases k with
    | succ k => cases e
    | zero =>
      cases e
      refine ⟨by decide, (by rw [Nat.mul_zero]; exact ⟨by decide, by decide⟩), [], .nil List.lookup_cons_self, Nat.le_refl _, ?_⟩
      have : (1 : Rat) / 1 = 1 := by rw [Rat.div_def]; exact Rat.mul_inv_cancel 1 (by decide)
      rw [this]
      exact .nil _
/-- all steps of all balls are fit -/
def XsOk (n t : Nat) (xs : List Sg) : Prop := AllS xs ∧ ∀ p b o q, stepF xs p = some (b, o, q) → (0 ≤ o ∧ o < n) ∧ Sz t q
theorem XsOk.st {n t : Nat} {xs : List Sg} (h : XsOk n t xs) (b : Int) : StOk n t xs b (stepsL xs b) := fun s hs => by
  have e := mem_stepsL h.1 hs
  exact ⟨e, h.2 _ _ _ _ e⟩
theorem JI.step {n t : Nat} {xs : List Sg} {root : Int} {D r : List Int} {h : Int} {a : Pa} (ok : XsOk n t xs) (j : JI n t xs root D (a, h :: r)) (hr : a.ring = none) :
    partS xs (a, h :: r) = ((joinL xs a h).1, r ++ (joinL xs a h).2) ∧ JI n t xs root (D ++ [h]) (partS xs (a, h :: r)) ∧ h ∈ a.keys := by
  have hk : h ∈ a.keys := by have := j.ks; rw [show a.keys = _ from this]; simp
  have ep : partS xs (a, h :: r) = ((joinL xs a h).1, r ++ (joinL xs a h).2) := by
    show (if a.ring = none then _ else _) = _
    rw [if_pos hr]
  obtain ⟨g, e1, j1, m1⟩ := joinF_ok [] j.pi hk (ok.st h)
  rw [ep]
  have e2 : (joinL xs a h).2 = g := e1
  refine ⟨rfl, ⟨j1.pi, ?_, ?_⟩, hk⟩
  · show (joinL xs a h).1.keys = D ++ [h] ++ (r ++ (joinL xs a h).2)
    have e3 : (joinL xs a h).1.keys = a.keys ++ g := j1.ks
    have e4 : a.keys = D ++ h :: r := j.ks
    rw [e3, e2, e4]
    simp
  · intro b hb p o q hs
    rcases List.mem_append.mp hb with hb | hb
    · obtain ⟨c1, c2⟩ := j.cl b hb p o q hs
      have hbk : b ∈ a.keys := by have := j.ks; rw [show a.keys = _ from this]; exact List.mem_append.mpr (.inl hb)
      obtain ⟨w0, ew0⟩ := keys_look hbk
      refine ⟨?_, fun er w ew => ?_⟩
      · show o ∈ (joinL xs a h).1.keys
        have e3 : (joinL xs a h).1.keys = a.keys ++ g := j1.ks
        rw [e3]; exact List.mem_append.mpr (.inl c1)
      · have ew2 := (j1.pr _ _ ew0).symm.trans ew
        cases ew2
        exact j1.pr _ _ (c2 hr _ ew0)
    · rw [List.mem_singleton.mp hb] at hs ⊢
      obtain ⟨y1, y2⟩ := m1 _ (stepsL_mem hs)
      refine ⟨y1, fun er w ew => ?_⟩
      obtain ⟨w0, ew0⟩ := keys_look hk
      have ew2 := (j1.pr _ _ ew0).symm.trans ew
      cases ew2
      exact y2 er _ ew0
def Stuck (z : Pa × List Int) : Prop := z.2 = [] ∨ z.1.ring ≠ none
theorem stuck_fix {xs : List Sg} {z : Pa × List Int} (h : Stuck z) : partS xs z = z := by
  obtain ⟨a, rim⟩ := z
  cases rim with
  | nil => rfl
  | cons b r =>
    have h := h.resolve_left (by simp)
    show (if a.ring = none then _ else _) = _
    rw [if_neg h]
theorem stuck_iter {xs : List Sg} {z : Pa × List Int} (h : Stuck z) : ∀ m, iterN (partS xs) m z = z
  | 0 => rfl
  | m + 1 => by show partS xs (iterN _ m z) = z; rw [stuck_iter h m, stuck_fix h]
theorem iterN_add {α : Type} (f : α → α) (a : α) (k : Nat) : ∀ m, iterN f (m + k) a = iterN f m (iterN f k a)
  | 0 => by rw [Nat.zero_add]; rfl
  | m + 1 => by
    rw [Nat.succ_add]
    show f (iterN f (m + k) a) = f (iterN f m _)
    rw [iterN_add f a k m]
theorem JI.dn {n t : Nat} {xs : List Sg} {root : Int} {D : List Int} {z : Pa × List Int} (j : JI n t xs root D z) : D.length + z.2.length ≤ n := by
  have h1 := j.pi.len.1
  have h2 := congrArg List.length j.ks
  unfold Pa.keys at h2
  rw [List.length_map, List.length_append] at h2
  omega
/-- where the search ends -/
theorem part_end {n t : Nat} {xs : List Sg} {root : Int} {D : List Int} {z : Pa × List Int} (j : JI n t xs root D z) (ez : z = iterN (partS xs) D.length (part0 root, [root])) (hs : Stuck z) : partF n xs root = z.1 := by
  unfold partF
  have hd := j.dn
  obtain ⟨m, hm⟩ : ∃ m, n + 1 = m + D.length := ⟨n + 1 - D.length, by omega⟩
  rw [hm, iterN_add, ← ez, stuck_iter hs m]
theorem part_reach {n t : Nat} {xs : List Sg} {root : Int} (ok : XsOk n t xs) (h0 : 0 ≤ root) (h1 : root < n) : ∀ k, (∃ D, JI n t xs root D (iterN (partS xs) D.length (part0 root, [root])) ∧ Stuck (iterN (partS xs) D.length (part0 root, [root]))) ∨ ∃ D, D.length = k ∧ JI n t xs root D (iterN (partS xs) k (part0 root, [root]))
  | 0 => .inr ⟨[], rfl, JI.start h0 h1⟩
  | k + 1 => by
    rcases part_reach ok h0 h1 k with h | ⟨D, hd, j⟩
    · exact .inl h
    · by_cases hs : Stuck (iterN (partS xs) k (part0 root, [root]))
      · exact .inl ⟨D, by rw [hd]; exact j, by rw [hd]; exact hs⟩
      · right
        show ∃ D, D.length = k + 1 ∧ JI n t xs root D (partS xs (iterN (partS xs) k (part0 root, [root])))
        generalize iterN (partS xs) k (part0 root, [root]) = z at *
        obtain ⟨a, rim⟩ := z
        cases rim with
        | nil => exact absurd (.inl rfl) hs
        | cons b r =>
          by_cases hr : a.ring = none
          · exact ⟨D ++ [b], by simp [hd], (j.step ok hr).2.1⟩
          · exact absurd (.inr hr) hs
/-- a part that is searched whole -/
structure PF (n t : Nat) (xs : List Sg) (root : Int) (a : Pa) : Prop where
  pi : PI n t xs root a
  cl : a.ring = none → ∀ p b o q, stepF xs p = some (b, o, q) → ∀ w, a.wts.lookup b = some w → a.wts.lookup o = some (w * q)
theorem partF_ok {n t : Nat} {xs : List Sg} {root : Int} (ok : XsOk n t xs) (h0 : 0 ≤ root) (h1 : root < n) : PF n t xs root (partF n xs root) := by
  rcases part_reach ok h0 h1 (n + 1) with ⟨D, j, hs⟩ | ⟨D, hd, j⟩
  · rw [part_end j rfl hs]
    refine ⟨j.pi, fun hr p b o q hst w ew => ?_⟩
    have hrim := hs.resolve_right fun z => z hr
    have hb : b ∈ D := by
      have := look_keys ew
      rw [j.ks, hrim, List.append_nil] at this
      exact this
    exact (j.cl b hb p o q hst).2 hr w ew
  · have := j.dn
    omega
end HL
namespace HL
open PySem PySem.Spec PyProof.Rows L2 Evl RZ
theorem rat_cross {m n : Int} {q : Rat} : ((n : Rat) = (m : Rat) * q) ↔ n * (q.den : Int) = m * q.num := by
  have dp : (0 : Rat) < ((q.den : Int) : Rat) := Rat.intCast_pos.mpr (den_pos q)
  have eq : q * ((q.den : Int) : Rat) = (q.num : Rat) := by
    have h1 : q = (q.num : Rat) / ((q.den : Int) : Rat) := by
      rw [← Rat.divInt_eq_div]; exact (Rat.num_divInt_den q).symm
    have h2 := Rat.mul_inv_cancel ((q.den : Int) : Rat) (by grind)
    rw [Rat.div_def] at h1
    calc q * ((q.den : Int) : Rat) = (q.num : Rat) * (((q.den : Int) : Rat)⁻¹) * ((q.den : Int) : Rat) := by rw [← h1]
      _ = (q.num : Rat) * (((q.den : Int) : Rat) * (((q.den : Int) : Rat)⁻¹)) := by grind
      _ = (q.num : Rat) := by rw [h2, Rat.mul_one]
  constructor
  · intro h
    have : ((n * (q.den : Int) : Int) : Rat) = ((m * q.num : Int) : Rat) := by
      rw [Rat.intCast_mul, Rat.intCast_mul, ← eq, h]; grind
    exact Rat.intCast_inj.mp this
  · intro h
    have h : ((n * (q.den : Int) : Int) : Rat) = ((m * q.num : Int) : Rat) := by rw [h]
    rw [Rat.intCast_mul, Rat.intCast_mul, ← eq] at h
    have h3 : ((n : Rat) - (m : Rat) * q) * ((q.den : Int) : Rat) = 0 := by grind
    rcases Rat.mul_eq_zero.mp h3 with h4 | h4
    · grind
    · grind
/-! whole numbers of a part -/
def vI (B : Nat) (w : Rat) : Int := w.num * ((B : Int) / (w.den : Int))
def byP (B : Nat) (ws : List Rat) : Nat := ws.foldl (fun g w => Int.gcd g (vI B w)) 0
def wholeF (a : Pa) : List (Int × Int) := a.wts.map fun p => (p.1, vI (lcmW (a.wts.map (·.2))) p.2 / (byP (lcmW (a.wts.map (·.2))) (a.wts.map (·.2)) : Nat))
theorem gcdV_dvd {B : Nat} : ∀ (ws : List Rat) (g : Nat), ws.foldl (fun g w => Int.gcd g (vI B w)) g ∣ g ∧ (∀ w ∈ ws, ((ws.foldl (fun g w => Int.gcd g (vI B w)) g : Nat) : Int) ∣ vI B w) ∧ ∀ d : Nat, d ∣ g → (∀ w ∈ ws, (d : Int) ∣ vI B w) → d ∣ ws.foldl (fun g w => Int.gcd g (vI B w)) g
  | [], g => ⟨Nat.dvd_refl _, fun _ h => (by cases h), fun d h _ => h⟩
  | x :: xs, g => by
    obtain ⟨h1, h2, h3⟩ := gcdV_dvd (B := B) xs (Int.gcd g (vI B x))
    rw [List.foldl_cons]
    have a1 : (Int.gcd g (vI B x)) ∣ g := Int.natCast_dvd_natCast.mp (Int.gcd_dvd_left ..)
    refine ⟨Nat.dvd_trans h1 a1, fun w hw => ?_, fun d hd hx => h3 d ?_ fun w hw => hx w (.tail _ hw)⟩
    · rcases List.mem_cons.mp hw with rfl | hw
      · exact Int.dvd_trans (Int.natCast_dvd_natCast.mpr h1) (Int.gcd_dvd_right ..)
      · exact h2 w hw
    · exact Int.dvd_gcd (Int.natCast_dvd_natCast.mpr hd) (hx x (.head _)) |> fun z => by exact_mod_cast z
theorem vI_eq {B : Nat} {w : Rat} (hd : w.den ∣ B) : ((vI B w : Int) : Rat) = w * (B : Int) := by
  obtain ⟨c, hc⟩ := hd
  have hdp := den_pos w
  have e : ((B : Int) / (w.den : Int)) = c := by
    rw [hc, Int.natCast_mul]
    exact Int.mul_ediv_cancel_left _ (by omega)
  have : ((vI B w : Int) : Rat) = (B : Int) * w := by
    rw [rat_cross]
    unfold vI
    rw [e, hc, Int.natCast_mul]
    grind
  rw [this, Rat.mul_comm]
theorem whole_ok {a : Pa} (hne : a.wts ≠ []) (hp : ∀ p ∈ a.wts, 0 < p.2) : 0 < byP (lcmW (a.wts.map (·.2))) (a.wts.map (·.2)) ∧ ∃ t : Rat, 0 < t ∧ (∀ p ∈ a.wts, 1 ≤ vI (lcmW (a.wts.map (·.2))) p.2 / (byP (lcmW (a.wts.map (·.2))) (a.wts.map (·.2)) : Nat) ∧
    ((vI (lcmW (a.wts.map (·.2))) p.2 / (byP (lcmW (a.wts.map (·.2))) (a.wts.map (·.2)) : Nat) : Int) : Rat) = p.2 * t) ∧
    ∀ d : Nat, (∀ p ∈ a.wts, (d : Int) ∣ vI (lcmW (a.wts.map (·.2))) p.2 / (byP (lcmW (a.wts.map (·.2))) (a.wts.map (·.2)) : Nat)) → d = 1 := by
  have hD : ∀ q ∈ a.wts.map (·.2), q.den ∣ (a.wts.map (·.2)).foldl (fun f q => f * q.den) 1 := by
    have : ∀ (l : List Rat) (f : Nat), f ∣ l.foldl (fun f q => f * q.den) f ∧ ∀ q ∈ l, q.den ∣ l.foldl (fun f q => f * q.den) f := fun l => by
      induction l with
      | nil => exact fun f => ⟨Nat.dvd_refl _, fun q hq => by cases hq⟩
      | cons x l ih =>
        intro f
        obtain ⟨i1, i2⟩ := ih (f * x.den)
        rw [List.foldl_cons]
        refine ⟨Nat.dvd_trans (Nat.dvd_mul_right ..) i1, fun q hq => ?_⟩
        rcases List.mem_cons.mp hq with rfl | hq
        · exact Nat.dvd_trans (Nat.dvd_mul_left ..) i1
        · exact i2 q hq
    exact (this _ 1).2
  obtain ⟨B0, _, hB⟩ := lcmW_ok hD
  generalize lcmW (a.wts.map (·.2)) = B at *
  obtain ⟨_, d2, d3⟩ := gcdV_dvd (B := B) (a.wts.map (·.2)) 0
  have ev : ∀ p ∈ a.wts, ((vI B p.2 : Int) : Rat) = p.2 * (B : Int) := fun p hm => vI_eq (hB _ (List.mem_map.mpr ⟨p, hm, rfl⟩))
  have Bp : (0 : Rat) < ((B : Int) : Rat) := Rat.intCast_pos.mpr (by omega)
  have vp : ∀ p ∈ a.wts, 0 < vI B p.2 := fun p hm => Rat.intCast_pos.mp (by rw [ev p hm]; exact Rat.mul_pos (hp p hm) Bp)
  have d2 : ∀ p ∈ a.wts, ((byP B (a.wts.map (·.2)) : Nat) : Int) ∣ vI B p.2 := fun p hm => d2 _ (List.mem_map.mpr ⟨p, hm, rfl⟩)
  have d3 : ∀ d : Nat, (∀ p ∈ a.wts, (d : Int) ∣ vI B p.2) → d ∣ byP B (a.wts.map (·.2)) := fun d hd => d3 d (Nat.dvd_zero _) fun w hw => by
    obtain ⟨p, hm, rfl⟩ := List.mem_map.mp hw
    exact hd p hm
  generalize byP B (a.wts.map (·.2)) = g at *
  obtain ⟨p0, r0, ew⟩ := List.exists_cons_of_ne_nil hne
  have m0 : p0 ∈ a.wts := by rw [ew]; exact .head _
  have g0 : 0 < g := Nat.pos_of_ne_zero fun e => by
    subst e
    have := d2 p0 m0
    have := vp p0 m0
    have : vI B p0.2 = 0 := Int.zero_dvd.mp (by simpa using d2 p0 m0)
    omega
  have gp : (0 : Rat) < ((g : Int) : Rat) := Rat.intCast_pos.mpr (by omega)
  have gi := Rat.mul_inv_cancel ((g : Int) : Rat) (by grind)
  refine ⟨g0, ((B : Int) : Rat) * ((g : Int) : Rat)⁻¹, Rat.mul_pos Bp (Rat.inv_pos.mpr gp), fun p hm => ?_, fun d hd => ?_⟩
  · obtain ⟨c, hc⟩ := d2 p hm
    have e1 : vI B p.2 / (g : Int) = c := by rw [hc]; exact Int.mul_ediv_cancel_left _ (by omega)
    have h1 := vp p hm
    have e2 := ev p hm
    rw [e1]
    rw [hc] at h1 e2
    refine ⟨?_, ?_⟩
    · by_cases hcc : 1 ≤ c
      · exact hcc
      · have : (g : Int) * c ≤ 0 := Int.mul_nonpos_of_nonneg_of_nonpos (by omega) (by omega)
        omega
    · rw [Rat.intCast_mul] at e2
      calc ((c : Int) : Rat) = (((g : Int) : Rat) * ((g : Int) : Rat)⁻¹) * (c : Rat) := by rw [gi, Rat.one_mul]
        _ = (((g : Int) : Rat) * (c : Rat)) * ((g : Int) : Rat)⁻¹ := by grind
        _ = _ := by rw [e2, Rat.mul_assoc]
  · have : d * g ∣ g := d3 (d * g) fun p hm => by
      obtain ⟨c, hc⟩ := d2 p hm
      have e1 : vI B p.2 / (g : Int) = c := by rw [hc]; exact Int.mul_ediv_cancel_left _ (by omega)
      have := hd p hm
      rw [e1] at this
      rw [hc, Int.natCast_mul, Int.mul_comm (d : Int)]
      exact Int.mul_dvd_mul_left _ this
    have h1 : d * g ≤ 1 * g := by rw [Nat.one_mul]; exact Nat.le_of_dvd g0 this
    have h2 : d ≤ 1 := Nat.le_of_mul_le_mul_right h1 g0
    have h3 : d ≠ 0 := fun e => by
      subst e
      rw [Nat.zero_mul] at this
      have := Nat.eq_zero_of_zero_dvd this
      omega
    omega
/-! dicts that are put together -/
def putA {α : Type} (l : List (Int × α)) (k : Int) (y : α) : List (Int × α) := if (l.any fun kv => decide (kv.1 = k)) = true then l.map (fun kv => if kv.1 = k then (kv.1, y) else kv) else l ++ [(k, y)]
def mergeA {α : Type} (l more : List (Int × α)) : List (Int × α) := more.foldl (fun acc kv => putA acc kv.1 kv.2) l
theorem look_put {α : Type} {l : List (Int × α)} {k c : Int} {y : α} : (putA l k y).lookup c = if c = k then some y else l.lookup c := by
  unfold putA
  by_cases h : (l.any fun kv => decide (kv.1 = k)) = true
  · rw [if_pos h]
    by_cases ck : c = k
    · rw [if_pos ck]
      subst ck
      induction l with
      | nil => cases h
      | cons p l ih =>
        rw [List.map_cons]
        by_cases e : p.1 = c
        · rw [if_pos e, e]; exact List.lookup_cons_self
        · rw [if_neg e]
          have : (c == p.1) = false := by simpa using fun z => e z.symm
          show List.lookup c (((p.1, p.2) : Int × α) :: _) = _
          rw [List.lookup_cons, this]
          refine ih ?_
          rw [List.any_cons, decide_eq_false e, Bool.false_or] at h
          exact h
    · rw [if_neg ck]
      clear h
      induction l with
      | nil => rfl
      | cons p l ih =>
        rw [List.map_cons]
        show List.lookup c _ = List.lookup c (((p.1, p.2) : Int × α) :: l)
        by_cases e : p.1 = k
        · rw [if_pos e]
          have : (c == p.1) = false := by simpa using fun z => ck (z.trans e)
          rw [List.lookup_cons, List.lookup_cons, this]
          exact ih
        · rw [if_neg e]
          show List.lookup c (((p.1, p.2) : Int × α) :: _) = _
          rw [List.lookup_cons, List.lookup_cons]
          split
          · rfl
          · exact ih
  · rw [if_neg h]
    have hn : l.lookup k = none := look_none.mpr fun hm => h (by
      obtain ⟨p, hp, e⟩ := List.mem_map.mp hm
      exact List.any_eq_true.mpr ⟨p, hp, decide_eq_true e⟩)
    by_cases ck : c = k
    · subst ck
      rw [if_pos rfl, look_app2 hn]; exact List.lookup_cons_self
    · rw [if_neg ck]
      cases e : l.lookup c with
      | some z => exact look_app e
      | none =>
        rw [look_app2 e, List.lookup_cons]
        have : (c == k) = false := by simpa using ck
        rw [this]; rfl
theorem look_merge {α : Type} {c : Int} : ∀ {more l : List (Int × α)}, (more.map (·.1)).Nodup → (mergeA l more).lookup c = match more.lookup c with
    | some y => some y
    | none => l.lookup c
  | [], l, _ => rfl
  | p :: more, l, nd => by
    rw [List.map_cons, List.nodup_cons] at nd
    show (mergeA (putA l p.1 p.2) more).lookup c = _
    rw [look_merge nd.2, look_put]
    show _ = match List.lookup c (((p.1, p.2) : Int × α) :: more) with
      | some y => some y
      | none => l.lookup c
    rw [List.lookup_cons]
    by_cases e : c = p.1
    · have : (c == p.1) = true := by simpa using e
      rw [this, if_pos e]
      have : more.lookup c = none := look_none.mpr (by rw [e]; exact nd.1)
      rw [this]
    · have : (c == p.1) = false := by simpa using e
      rw [this, if_neg e]
def wF (n : Nat) (xs : List Sg) : Nat → List (Int × Int) ⊕ List (Int × Int)
  | 0 => .inr []
  | k + 1 => match wF n xs k with
    | .inl r => .inl r
    | .inr f => if (f.lookup (k : Int)).isSome = true then .inr f else match (partF n xs k).ring with
      | some r => .inl r
      | none => .inr (mergeA f (wholeF (partF n xs k)))
/-- the first sighting that no weights do -/
def oddF : List Sg → Nat → Option Nat
  | [], _ => none
  | x :: r, k => if x.share = none then some k else oddF r (k + 1)
theorem oddF_none {xs : List Sg} : ∀ {k : Nat}, AllS xs → oddF xs k = none := by
  induction xs with
  | nil => exact fun _ => rfl
  | cons x r ih =>
    intro k h
    unfold oddF
    obtain ⟨q, hq⟩ := h x (.head _)
    rw [if_neg (by rw [hq]; intro z; cases z)]
    exact ih fun y hy => h y (.tail _ hy)
theorem oddF_some {xs : List Sg} : ∀ {k i : Nat} {x : Sg}, (∀ j y, j < i → xs[j]? = some y → ∃ q, y.share = some q) → xs[i]? = some x → x.share = none → oddF xs k = some (k + i) := by
  induction xs with
  | nil => intro k i x _ e; cases e
  | cons z r ih =>
    intro k i x h e hx
    unfold oddF
    cases i with
    | zero =>
      cases e
      rw [if_pos hx]; rfl
    | succ i =>
      obtain ⟨q, hq⟩ := h 0 z (by omega) rfl
      rw [if_neg (by rw [hq]; intro z; cases z), ih (i := i) (x := x) (fun j y hj hy => h (j + 1) y (by omega) hy) e hx]
      congr 1; omega
theorem wF_ring {n : Nat} {xs : List Sg} {k : Nat} {f : List (Int × Int)} {r : List (Int × Int)} (h : wF n xs k = .inr f) (c : (f.lookup (k : Int)).isSome = false) (er : (partF n xs k).ring = some r) : wF n xs (k + 1) = .inl r := by
  unfold wF
  rw [h]
  simp only
  rw [if_neg (by rw [c]; exact Bool.false_ne_true), er]
theorem wF_put {n : Nat} {xs : List Sg} {k : Nat} {f : List (Int × Int)} (h : wF n xs k = .inr f) (c : (f.lookup (k : Int)).isSome = false) (er : (partF n xs k).ring = none) : wF n xs (k + 1) = .inr (mergeA f (wholeF (partF n xs k))) := by
  unfold wF
  rw [h]
  simp only
  rw [if_neg (by rw [c]; exact Bool.false_ne_true), er]
theorem wF_stop {n : Nat} {xs : List Sg} {k : Nat} {r : List (Int × Int)} (h : wF n xs k = .inl r) : ∀ m, wF n xs (m + k) = .inl r
  | 0 => by rw [Nat.zero_add]; exact h
  | m + 1 => by
    rw [Nat.succ_add]
    unfold wF
    rw [wF_stop h m]
theorem mergeA_len {α : Type} : ∀ (more l : List (Int × α)), (mergeA l more).length ≤ l.length + more.length
  | [], l => Nat.le_refl _
  | p :: more, l => by
    show (mergeA (putA l p.1 p.2) more).length ≤ _
    have h1 := mergeA_len more (putA l p.1 p.2)
    have h2 : (putA l p.1 p.2).length ≤ l.length + 1 := by
      unfold putA
      split
      · rw [List.length_map]; omega
      · rw [List.length_append, List.length_singleton]; omega
    rw [List.length_cons]
    omega
/-- weights that fit all steps -/
def CnF (xs : List Sg) (f : List (Int × Int)) : Prop := (∀ b w, f.lookup b = some w → 1 ≤ w) ∧ ∀ p b o q, stepF xs p = some (b, o, q) → ∀ w, f.lookup b = some w → ∃ w', f.lookup o = some w' ∧ (w' : Rat) = (w : Rat) * q
theorem wts_map_look {α β : Type} {g : α → β} {c : Int} : ∀ {l : List (Int × α)}, (l.map fun p => (p.1, g p.2)).lookup c = (l.lookup c).map g
  | [] => rfl
  | p :: l => by
    rw [List.map_cons]
    show List.lookup c _ = Option.map g (List.lookup c (((p.1, p.2) : Int × α) :: l))
    rw [List.lookup_cons, List.lookup_cons]
    split
    · rfl
    · exact wts_map_look
theorem part_whole {n t : Nat} {xs : List Sg} {root : Int} {a : Pa} (h : PF n t xs root a) (hr : a.ring = none) : ∃ u : Rat, 0 < u ∧ ((wholeF a).map (·.1)).Nodup ∧ (∀ b, (wholeF a).lookup b = none ↔ a.wts.lookup b = none) ∧
    (∀ b w, a.wts.lookup b = some w → ∃ v, (wholeF a).lookup b = some v ∧ 1 ≤ v ∧ (v : Rat) = w * u) ∧ (∀ d : Nat, (∀ b v, (wholeF a).lookup b = some v → (d : Int) ∣ v) → d = 1) := by
  have hne : a.wts ≠ [] := fun e => by have := h.pi.rt; rw [e] at this; cases this
  have hp : ∀ p ∈ a.wts, 0 < p.2 := fun p hm => by
    obtain ⟨k, hk⟩ := List.mem_iff_getElem?.mp hm
    exact (h.pi.ent k p.1 p.2 hk).1
  obtain ⟨g0, u, u0, h1, h2⟩ := whole_ok hne hp
  have el : ∀ b, (wholeF a).lookup b = (a.wts.lookup b).map fun w => vI (lcmW (a.wts.map (·.2))) w / (byP (lcmW (a.wts.map (·.2))) (a.wts.map (·.2)) : Nat) := fun b => by
    unfold wholeF
    exact wts_map_look (g := fun w => vI (lcmW (a.wts.map (·.2))) w / (byP (lcmW (a.wts.map (·.2))) (a.wts.map (·.2)) : Nat))
  have em : ∀ {b w}, a.wts.lookup b = some w → (b, w) ∈ a.wts := fun {b w} e => by obtain ⟨k, hk⟩ := look_get e; exact List.mem_of_getElem? hk
  refine ⟨u, u0, ?_, fun b => by rw [el]; simp, fun b w e => ?_, fun d hd => h2 d fun p hm => ?_⟩
  · have : (wholeF a).map (·.1) = a.keys := by unfold wholeF Pa.keys; rw [List.map_map]; rfl
    rw [this]; exact h.pi.nd
  · exact ⟨_, by rw [el, e]; rfl, h1 _ (em e)⟩
  · obtain ⟨k, hk⟩ := List.mem_iff_getElem?.mp hm
    refine hd p.1 _ ?_
    rw [el, get_look h.pi.nd (b := p.1) (y := p.2) hk]; rfl
theorem wF_ok {n t : Nat} {xs : List Sg} (ok : XsOk n t xs) : ∀ {k : Nat}, k ≤ n → (∀ f, wF n xs k = .inr f → (∀ b : Nat, b < k → ∃ w, f.lookup (b : Int) = some w) ∧ CnF xs f ∧ ∀ b : Int, b ∈ f.map (·.1) → 0 ≤ b ∧ b < n) ∧
    ∀ r, wF n xs k = .inl r → ∃ root q, Path xs root root r q ∧ q ≠ 1 ∧ r ≠ [] ∧ r.length ≤ 2 * n + 1
  | 0, _ => ⟨fun f e => by cases e; exact ⟨fun b h => absurd h (Nat.not_lt_zero _), ⟨fun b w e => (by cases e), fun _ _ _ _ _ w e => (by cases e)⟩, fun b hb => (by cases hb)⟩, fun r e => (by cases e)⟩
  | k + 1, hk => by
    obtain ⟨i1, i2⟩ := wF_ok ok (k := k) (by omega)
    unfold wF
    cases ew : wF n xs k with
    | inl r => exact ⟨fun f e => (by cases e), fun r' e => (by cases e; exact i2 r ew)⟩
    | inr f =>
      obtain ⟨f1, f2, f3⟩ := i1 f ew
      simp only
      by_cases c : (f.lookup (k : Int)).isSome = true
      · rw [if_pos c]
        refine ⟨fun f' e => ?_, fun r e => (by cases e)⟩
        cases e
        refine ⟨fun b hb => ?_, f2, f3⟩
        by_cases e : b = k
        · subst e; exact Option.isSome_iff_exists.mp c
        · exact f1 b (by omega)
      · rw [if_neg c]
        have pf := partF_ok ok (root := (k : Int)) (by omega) (by omega)
        cases er : (partF n xs k).ring with
        | some r =>
          refine ⟨fun f' e => (by cases e), fun r' e => ?_⟩
          cases e
          obtain ⟨q, z⟩ := pf.pi.rg r er
          exact ⟨k, q, z⟩
        | none =>
          refine ⟨fun f' e => ?_, fun r e => (by cases e)⟩
          cases e
          obtain ⟨u, u0, nd, hnone, hsome, _⟩ := part_whole pf er
          have lk := fun c => look_merge (l := f) (c := c) nd
          have ks : ∀ b w, (mergeA f (wholeF (partF n xs k))).lookup b = some w → (∃ w0, (partF n xs k).wts.lookup b = some w0 ∧ 1 ≤ w ∧ (w : Rat) = w0 * u) ∨ ((partF n xs k).wts.lookup b = none ∧ f.lookup b = some w) := fun b w e => by
            rw [lk] at e
            cases ev : (partF n xs k).wts.lookup b with
            | none =>
              rw [(hnone b).mpr ev] at e
              exact .inr ⟨rfl, e⟩
            | some w0 =>
              obtain ⟨v, e1, e2, e3⟩ := hsome b w0 ev
              rw [e1] at e
              cases e
              exact .inl ⟨w0, rfl, e2, e3⟩
          refine ⟨fun b hb => ?_, ⟨fun b w e => ?_, fun p b o q hs w e => ?_⟩, fun b hb => ?_⟩
          · rw [lk]
            cases ev : (wholeF (partF n xs k)).lookup (b : Int) with
            | some v => exact ⟨v, rfl⟩
            | none =>
              refine f1 b ?_
              by_cases e : b = k
              · subst e
                rw [hnone, pf.pi.rt] at ev
                cases ev
              · omega
          · rcases ks b w e with ⟨_, _, h, _⟩ | ⟨_, h⟩
            · exact h
            · exact f2.1 b w h
          · rcases ks b w e with ⟨w0, e0, _, h⟩ | ⟨hn, h⟩
            · have e2 := pf.cl er p b o q hs w0 e0
              obtain ⟨v, e1, _, e3⟩ := hsome o _ e2
              refine ⟨v, by rw [lk, e1], ?_⟩
              rw [e3, h]; grind
            · obtain ⟨w', e1, e2⟩ := f2.2 p b o q hs w h
              refine ⟨w', ?_, e2⟩
              rw [lk]
              have : (partF n xs k).wts.lookup o = none := by
                cases ev : (partF n xs k).wts.lookup o with
                | none => rfl
                | some v =>
                  have := pf.cl er _ _ _ _ (stepF_turn hs) v ev
                  rw [hn] at this; cases this
              rw [(hnone o).mpr this]
              exact e1
          · by_cases hb2 : b ∈ f.map (·.1)
            · exact f3 b hb2
            · cases ev : (partF n xs k).wts.lookup b with
              | some v => exact pf.pi.rng b (look_keys ev)
              | none =>
                exfalso
                obtain ⟨w, e⟩ := look_mem hb
                rcases ks b w e with ⟨w0, e0, _⟩ | ⟨_, h⟩
                · rw [ev] at e0; cases e0
                · rw [look_none.mpr hb2] at h; cases h
/-- the weights told -/
def toldL (n : Nat) (f : List (Int × Int)) : List Int := (List.range n).map fun (b : Nat) => (f.lookup (b : Int)).getD 0
theorem told_at {n : Nat} {f : List (Int × Int)} {b : Int} (h0 : 0 ≤ b) (h1 : b < n) : atW (toldL n f) b = (f.lookup b).getD 0 := by
  obtain ⟨j, rfl⟩ : ∃ j : Nat, b = j := ⟨b.toNat, by omega⟩
  unfold atW toldL
  rw [Int.toNat_natCast, List.getD_eq_getElem?_getD, List.getElem?_map, List.getElem?_range (by omega)]; rfl
theorem told_len {n : Nat} {f : List (Int × Int)} : (toldL n f).length = n := by unfold toldL; simp
theorem does_step {ws : List Int} {xs : List Sg} (hd : doesB ws xs = true) (hr : ∀ x ∈ xs, (0 ≤ x.i ∧ x.i < ws.length) ∧ 0 ≤ x.j ∧ x.j < ws.length) {p : Int × Int} {b o : Int} {q : Rat} (h : stepF xs p = some (b, o, q)) : (atW ws o : Rat) = (atW ws b : Rat) * q := by
  obtain ⟨d1, d2⟩ := Bool.and_eq_true_iff.mp hd
  obtain ⟨x, q0, h0, hx, hq, hc⟩ := stepF_get h
  have hm := List.mem_of_getElem? hx
  obtain ⟨⟨i0, i1⟩, j0, j1⟩ := hr x hm
  have pos : ∀ i : Int, 0 ≤ i → i < ws.length → 1 ≤ atW ws i := fun i h0 h1 => by
    have : atW ws i ∈ ws := by
      unfold atW
      rw [List.getD_eq_getElem?_getD, List.getElem?_eq_getElem (show i.toNat < ws.length by omega)]
      exact List.getElem_mem _
    exact of_decide_eq_true (List.all_eq_true.mp d1 _ this)
  have e := List.all_eq_true.mp d2 x hm
  rw [done_share (pos _ i0 i1) (pos _ j0 j1), hq] at e
  have e := rat_cross.mpr (of_decide_eq_true e)
  rcases hc with ⟨_, rfl, rfl, rfl⟩ | ⟨_, rfl, rfl, rfl⟩
  · exact e
  · have q1 := share_pos hq
    have q2 := Rat.mul_inv_cancel q0 (by grind)
    rw [e, Rat.div_def, Rat.one_mul, Rat.mul_assoc, q2, Rat.mul_one]
theorem told_does {n t : Nat} {xs : List Sg} (ok : XsOk n t xs) (hr : ∀ x ∈ xs, (0 ≤ x.i ∧ x.i < n) ∧ 0 ≤ x.j ∧ x.j < n) {f : List (Int × Int)} (h : wF n xs n = .inr f) : doesB (toldL n f) xs = true := by
  obtain ⟨h1, ⟨h2, h3⟩, _⟩ := (wF_ok ok (Nat.le_refl n)).1 f h
  have at_ : ∀ b : Int, 0 ≤ b → b < n → ∃ w, f.lookup b = some w ∧ atW (toldL n f) b = w ∧ 1 ≤ w := fun b b0 b1 => by
    obtain ⟨w, e⟩ := h1 b.toNat (by omega)
    have eb : ((b.toNat : Nat) : Int) = b := by omega
    rw [eb] at e
    exact ⟨w, e, by rw [told_at b0 b1, e]; rfl, h2 _ _ e⟩
  unfold doesB
  refine Bool.and_eq_true_iff.mpr ⟨List.all_eq_true.mpr fun w hw => ?_, List.all_eq_true.mpr fun x hx => ?_⟩
  · obtain ⟨b, hb, rfl⟩ := List.mem_map.mp hw
    obtain ⟨w, e, _, hw⟩ := at_ b (by omega) (by have := List.mem_range.mp hb; omega)
    rw [e]
    exact decide_eq_true hw
  · obtain ⟨⟨i0, i1⟩, j0, j1⟩ := hr x hx
    obtain ⟨wi, e1, e2, e3⟩ := at_ _ i0 i1
    obtain ⟨wj, e4, e5, e6⟩ := at_ _ j0 j1
    obtain ⟨q, hq⟩ := ok.1 x hx
    rw [done_share (by rw [e2]; exact e3) (by rw [e5]; exact e6), hq, e2, e5]
    obtain ⟨k, hk⟩ := List.mem_iff_getElem?.mp hx
    obtain ⟨w', e7, e8⟩ := h3 _ _ _ _ (stepF_mk hk hq).1 _ e1
    rw [e4] at e7
    cases e7
    exact decide_eq_true (rat_cross.mp e8)
theorem does_told {n t : Nat} {xs : List Sg} (ok : XsOk n t xs) (hr : ∀ x ∈ xs, (0 ≤ x.i ∧ x.i < n) ∧ 0 ≤ x.j ∧ x.j < n) {ws : List Int} (hl : ws.length = n) (hd : doesB ws xs = true) : ∃ f, wF n xs n = .inr f := by
  cases e : wF n xs n with
  | inr f => exact ⟨f, rfl⟩
  | inl r =>
    exfalso
    obtain ⟨root, q, hp, hq, hne, _⟩ := (wF_ok ok (Nat.le_refl n)).2 r e
    have := Path.does (f := fun b => (atW ws b : Rat)) (fun p a b r h => does_step hd (by rw [hl]; exact hr) h) hp
    have pos : ∀ i : Int, 0 ≤ i → i < ws.length → 1 ≤ atW ws i := fun i h0 h1 => by
      have : atW ws i ∈ ws := by
        unfold atW
        rw [List.getD_eq_getElem?_getD, List.getElem?_eq_getElem (show i.toNat < ws.length by omega)]
        exact List.getElem_mem _
      exact of_decide_eq_true (List.all_eq_true.mp (Bool.and_eq_true_iff.mp hd).1 _ this)
    have rr : 0 ≤ root ∧ root < n := by
      cases hp with
      | nil => exact absurd rfl hne
      | cons hs _ => exact (ok.2 _ _ _ _ (stepF_turn hs)).1
    have w1 := pos root rr.1 (by omega)
    have w0 : ((atW ws root : Int) : Rat) ≠ 0 := fun z => by
      have := Rat.intCast_inj.mp (show ((atW ws root : Int) : Rat) = ((0 : Int) : Rat) from z)
      omega
    have wi := Rat.mul_inv_cancel _ w0
    have this : (atW ws root : Rat) = (atW ws root : Rat) * q := this
    apply hq
    calc q = ((atW ws root : Rat) * ((atW ws root : Rat))⁻¹) * q := by rw [wi, Rat.one_mul]
      _ = ((atW ws root : Rat) * q) * ((atW ws root : Rat))⁻¹ := by grind
      _ = 1 := by rw [← this, wi]
theorem seqS_lsB {α : Type} {F : α → PyData} {Ω : Om} {s : DV} {xs : List α} (h : SeqS F Ω s xs) : ∃ t, ∀ Ω', SeqS F Ω' s xs → lsB t Ω' s = some (xs.map F) := by
  have own : ∀ {Ω' : Om} {i : Nat}, Ω'[i]? = some (.lst ((xs.map F).map DV.d)) → lsL Ω' (.o i) = some (xs.map F) := fun {Ω' i} g => by
    show (sqO Ω'[i]?).bind asDs = _
    rw [g]; exact asDs_data _
  rcases h with ⟨i, rfl, _⟩ | rfl | rfl
  · exact ⟨false, fun Ω' h' => by
      rcases h' with ⟨i', e, g⟩ | e | e
      · cases e; exact own g
      · cases e
      · cases e⟩
  · exact ⟨false, fun Ω' h' => rfl⟩
  · exact ⟨true, fun Ω' h' => rfl⟩
theorem SeqS.frame {α : Type} {F : α → PyData} {Ω Ω' : Om} {s : DV} {xs : List α} (h : SeqS F Ω s xs) (e : ∀ (i : Nat) (ds : List DV), Ω[i]? = some (OC.lst ds) → Ω'[i]? = some (OC.lst ds)) : SeqS F Ω' s xs := by
  rcases h with ⟨i, rfl, g⟩ | rfl | rfl
  · exact .inl ⟨i, rfl, e _ _ g⟩
  · exact .inr (.inl rfl)
  · exact .inr (.inr rfl)
theorem stepsX_take {xs : List Sg} {i : Nat} {x : Sg} {b : Int} (h : xs[i]? = some x) : stepsL (xs.take (i + 1)) b = stepsL (xs.take i) b ++ stepsX b (x, i) := by
  have hi := lt_of_get h
  rw [List.take_succ, h, Option.toList_some, stepsL_snoc, List.length_take, Nat.min_eq_left (by omega)]
theorem sz_inv {n : Nat} {q : Rat} (h : Sz n q) (h0 : 0 < q) (hn : 0 < n) : Sz (n + 1) (1 / q) := (inv_sz h h0 hn).1
theorem xsOk_of {n : Nat} {xs : List Sg} (ha : AllS xs) (he : ∀ x ∈ xs, SgE n x) : XsOk n 121 xs := ⟨ha, fun p b o q h => by
  obtain ⟨x, q0, h0, hx, hq, hc⟩ := stepF_get h
  have e := he x (List.mem_of_getElem? hx)
  obtain ⟨zq, q1⟩ := share_sz e.ok (by decide) hq
  rcases hc with ⟨_, rfl, rfl, rfl⟩ | ⟨_, rfl, rfl, rfl⟩
  · exact ⟨e.j0, zq.mono (by decide)⟩
  · exact ⟨e.i0, sz_inv zq q1 (by decide)⟩⟩
theorem stepsL_len (xs : List Sg) (b : Int) : (stepsL xs b).length ≤ 2 * xs.length := by
  have : ∀ l : List (Sg × Nat), (l.flatMap (stepsX b)).length ≤ 2 * l.length := fun l => by
    induction l with
    | nil => exact Nat.le_refl _
    | cons p l ih =>
      have h1 : (stepsX b p).length ≤ 2 := by
        unfold stepsX
        rw [List.length_append]
        split <;> split <;> simp
      rw [List.flatMap_cons, List.length_append, List.length_cons]
      omega
  have := this xs.zipIdx
  rwa [List.length_zipIdx] at this
/-! one's own Part -/
def wtsD (a : Pa) : List (L2.Key × DV) := a.wts.map fun p => (Sum.inl p.1, DV.d (dR p.2))
def dCm : Option (Int × Int × Int) → PyData
  | none => .none
  | some (n, w, b) => .tuple [.int n, .int w, .int b]
def cameD (a : Pa) : List (L2.Key × DV) := a.came.map fun p => (Sum.inl p.1, DV.d (dCm p.2))
theorem lookK_int {α : Type} {g : α → DV} {b : Int} : ∀ {l : List (Int × α)}, lookK (l.map fun p => ((Sum.inl p.1 : L2.Key), g p.2)) (Sum.inl b) = (l.lookup b).map g
  | [] => rfl
  | p :: l => by
    rw [List.map_cons]
    show _ = Option.map g (List.lookup b (((p.1, p.2) : Int × α) :: l))
    rw [List.lookup_cons]
    unfold lookK
    by_cases e : p.1 = b
    · have : (b == p.1) = true := by simpa using e.symm
      rw [List.find?_cons_of_pos (by exact decide_eq_true (by show (Sum.inl p.1 : L2.Key) = Sum.inl b; rw [e])), this]; rfl
    · have : (b == p.1) = false := by simpa using fun z => e z.symm
      rw [List.find?_cons_of_neg (by simp [e]), this]
      exact lookK_int
theorem putKD_int {α : Type} {g : α → DV} {b : Int} {y : α} {l : List (Int × α)} : putKD (l.map fun p => ((Sum.inl p.1 : L2.Key), g p.2)) (Sum.inl b) (g y) = (putA l b y).map fun p => ((Sum.inl p.1 : L2.Key), g p.2) := by
  unfold putKD putA
  have e1 : ((l.map fun p => ((Sum.inl p.1 : L2.Key), g p.2)).any fun kv => decide (kv.1 = Sum.inl b)) = (l.any fun kv => decide (kv.1 = b)) := by
    rw [List.any_map]
    congr 1
    funext p
    exact decide_eq_decide.mpr ⟨fun h => (by injection h), fun h => (by show (Sum.inl p.1 : L2.Key) = Sum.inl b; rw [h])⟩
  rw [e1]
  split
  · rw [List.map_map, List.map_map]
    refine List.map_congr_left fun p _ => ?_
    show (if (Sum.inl p.1 : L2.Key) = Sum.inl b then ((Sum.inl p.1 : L2.Key), g y) else (Sum.inl p.1, g p.2)) = ((Sum.inl (if p.1 = b then (p.1, y) else p).1 : L2.Key), g (if p.1 = b then (p.1, y) else p).2)
    by_cases e : p.1 = b
    · rw [if_pos (by rw [e]), if_pos e]
    · rw [if_neg (by simp [e]), if_neg e]
  · rw [List.map_append]; rfl
theorem mergeD_int {α : Type} {g : α → DV} : ∀ {more l : List (Int × α)}, mergeD (l.map fun p => ((Sum.inl p.1 : L2.Key), g p.2)) (more.map fun p => ((Sum.inl p.1 : L2.Key), g p.2)) = (mergeA l more).map fun p => ((Sum.inl p.1 : L2.Key), g p.2)
  | [], l => rfl
  | p :: more, l => by
    show mergeD (putKD _ (Sum.inl p.1) (g p.2)) _ = _
    rw [putKD_int]
    exact mergeD_int
theorem putA_new {α : Type} {l : List (Int × α)} {b : Int} {y : α} (h : l.lookup b = none) : putA l b y = l ++ [(b, y)] := by
  unfold putA
  rw [if_neg]
  intro z
  obtain ⟨p, hp, e⟩ := List.any_eq_true.mp z
  have e := of_decide_eq_true e
  exact look_none.mp h (by rw [← e]; exact List.mem_map.mpr ⟨p, hp, rfl⟩)
def ringFld (lo : Nat) : Option (List (Int × Int)) → DV → Om → Prop
  | none, d, _ => d = .d .none
  | some r, d, Ω => ∃ i, lo ≤ i ∧ d = .o i ∧ Ω[i]? = some (.lst ((r.map dPr).map DV.d))
def pF (s : DV) (wi ci : Nat) (rd : DV) : List (Str × DV) := [("sightings", s), ("weights", .o wi), ("came", .o ci), ("ring", rd)]
section
variable (s : DV) (wi ci : Nat) (rd : DV)
theorem pf_s : (pF s wi ci rd).lookup ("sightings" : Str) = some s := by
  unfold pF; rw [List.lookup_cons, show ((("sightings" : Str) == "sightings") = true) from by decide +kernel]
theorem pf_w : (pF s wi ci rd).lookup ("weights" : Str) = some (.o wi) := by
  unfold pF; rw [List.lookup_cons, show ((("weights" : Str) == "sightings") = false) from by decide +kernel, List.lookup_cons, show ((("weights" : Str) == "weights") = true) from by decide +kernel]
theorem pf_c : (pF s wi ci rd).lookup ("came" : Str) = some (.o ci) := by
  unfold pF; rw [List.lookup_cons, show ((("came" : Str) == "sightings") = false) from by decide +kernel, List.lookup_cons, show ((("came" : Str) == "weights") = false) from by decide +kernel, List.lookup_cons, show ((("came" : Str) == "came") = true) from by decide +kernel]
theorem pf_r : (pF s wi ci rd).lookup ("ring" : Str) = some rd := by
  unfold pF; rw [List.lookup_cons, show ((("ring" : Str) == "sightings") = false) from by decide +kernel, List.lookup_cons, show ((("ring" : Str) == "weights") = false) from by decide +kernel, List.lookup_cons, show ((("ring" : Str) == "came") = false) from by decide +kernel, List.lookup_cons, show ((("ring" : Str) == "ring") = true) from by decide +kernel]
theorem pf_no {f : Str} (h1 : (f == "sightings") = false) (h2 : (f == "weights") = false) (h3 : (f == "came") = false) (h4 : (f == "ring") = false) : (pF s wi ci rd).lookup f = none := by
  unfold pF; rw [List.lookup_cons, h1, List.lookup_cons, h2, List.lookup_cons, h3, List.lookup_cons, h4]; rfl
theorem pf_joined : (pF s wi ci rd).lookup ("joined" : Str) = none := pf_no s wi ci rd (by decide +kernel) (by decide +kernel) (by decide +kernel) (by decide +kernel)
theorem pf_home : (pF s wi ci rd).lookup ("way_home" : Str) = none := pf_no s wi ci rd (by decide +kernel) (by decide +kernel) (by decide +kernel) (by decide +kernel)
theorem pf_to : (pF s wi ci rd).lookup ("way_to" : Str) = none := pf_no s wi ci rd (by decide +kernel) (by decide +kernel) (by decide +kernel) (by decide +kernel)
theorem pf_whole : (pF s wi ci rd).lookup ("whole" : Str) = none := pf_no s wi ci rd (by decide +kernel) (by decide +kernel) (by decide +kernel) (by decide +kernel)
theorem put_ring (rd' : DV) : putD "ring" rd' (pF s wi ci rd) = pF s wi ci rd' := by
  unfold pF
  show (if ("sightings" : Str) = "ring" then _ else _ :: (if ("weights" : Str) = "ring" then _ else _ :: (if ("came" : Str) = "ring" then _ else _ :: (if ("ring" : Str) = "ring" then _ else _))) : List (Str × DV)) = _
  rw [if_neg (by decide +kernel), if_neg (by decide +kernel), if_neg (by decide +kernel), if_pos rfl]
theorem put_p2 : putD "weights" (.o wi) ([("sightings", s)] : List (Str × DV)) = ([("sightings", s), ("weights", .o wi)] : List (Str × DV)) := by
  simp only [putD]
  rw [if_neg (by decide +kernel)]
theorem put_p3 : putD "came" (.o ci) ([("sightings", s), ("weights", .o wi)] : List (Str × DV)) = ([("sightings", s), ("weights", .o wi), ("came", .o ci)] : List (Str × DV)) := by
  simp only [putD]
  rw [if_neg (by decide +kernel), if_neg (by decide +kernel)]
theorem put_p4 : putD "ring" rd ([("sightings", s), ("weights", .o wi), ("came", .o ci)] : List (Str × DV)) = pF s wi ci rd := by
  unfold pF
  simp only [putD]
  rw [if_neg (by decide +kernel), if_neg (by decide +kernel), if_neg (by decide +kernel)]
end
/-- the object k bears the part a; a ring's list lies from lo on -/
structure PaAt (C : Addr) (Ω : Om) (lo k wi ci : Nat) (s rd : DV) (a : Pa) : Prop where
  ob : Ω[k]? = some (.ins C (pF s wi ci rd))
  ws : Ω[wi]? = some (.dic (wtsD a))
  cm : Ω[ci]? = some (.dic (cameD a))
  rg : ringFld lo a.ring rd Ω
  nwc : wi ≠ ci
theorem PaAt.ext {C : Addr} {Ω Ω' : Om} {lo k wi ci : Nat} {s rd : DV} {a : Pa} (h : PaAt C Ω lo k wi ci s rd a) (e : ∀ (i : Nat) (c : OC), i = k ∨ i = wi ∨ i = ci ∨ lo ≤ i → Ω[i]? = some c → Ω'[i]? = some c) : PaAt C Ω' lo k wi ci s rd a :=
  ⟨e _ _ (.inl rfl) h.ob, e _ _ (.inr (.inl rfl)) h.ws, e _ _ (.inr (.inr (.inl rfl))) h.cm, by
    have := h.rg
    unfold ringFld at this ⊢
    cases er : a.ring with
    | none => rw [er] at this; exact this
    | some r => rw [er] at this; obtain ⟨i, e0, e1, e2⟩ := this; exact ⟨i, e0, e1, e _ _ (.inr (.inr (.inr e0))) e2⟩, h.nwc⟩
theorem PaAt.app {C : Addr} {Ω J : Om} {lo k wi ci : Nat} {s rd : DV} {a : Pa} (h : PaAt C Ω lo k wi ci s rd a) : PaAt C (Ω ++ J) lo k wi ci s rd a := h.ext fun _ _ _ e => get_app e
theorem PaAt.ne {C : Addr} {Ω : Om} {lo k wi ci : Nat} {s rd : DV} {a : Pa} (h : PaAt C Ω lo k wi ci s rd a) : k ≠ wi ∧ k ≠ ci := by
  constructor
  · intro e
    have h1 := h.ob
    have h2 := h.ws
    rw [e, h2] at h1; cases h1
  · intro e
    have h1 := h.ob
    have h2 := h.cm
    rw [e, h2] at h1; cases h1
theorem PaAt.lo {C : Addr} {Ω : Om} {lo lo' k wi ci : Nat} {s rd : DV} {a : Pa} (h : PaAt C Ω lo k wi ci s rd a) (l : a.ring = none ∨ lo' ≤ lo) : PaAt C Ω lo' k wi ci s rd a :=
  ⟨h.ob, h.ws, h.cm, by
    have := h.rg
    unfold ringFld at this ⊢
    cases er : a.ring with
    | none => rw [er] at this; exact this
    | some r =>
      rw [er] at this
      obtain ⟨i, e0, e1, e2⟩ := this
      refine ⟨i, ?_, e1, e2⟩
      rcases l with l | l
      · rw [er] at l; cases l
      · omega, h.nwc⟩
/-- one's own objects that a part's search leaves as they are -/
def FrP (Ω Ω' : Om) (k wi ci : Nat) : Prop := Ω.length ≤ Ω'.length ∧ ∀ i, i < Ω.length → i ≠ k → i ≠ wi → i ≠ ci → Ω'[i]? = Ω[i]?
theorem FrP.refl (Ω : Om) (k wi ci : Nat) : FrP Ω Ω k wi ci := ⟨Nat.le_refl _, fun _ _ _ _ _ => rfl⟩
theorem FrP.app {Ω Ω' J : Om} {k wi ci : Nat} (h : FrP Ω Ω' k wi ci) : FrP Ω (Ω' ++ J) k wi ci := ⟨by rw [List.length_append]; have := h.1; omega, fun i hi a b c => by rw [List.getElem?_append_left (by have := h.1; omega)]; exact h.2 i hi a b c⟩
theorem FrP.set {Ω Ω' : Om} {k wi ci j : Nat} {c : OC} (h : FrP Ω Ω' k wi ci) (hj : Ω.length ≤ j ∨ j = k ∨ j = wi ∨ j = ci) : FrP Ω (Ω'.set j c) k wi ci := ⟨by rw [List.length_set]; exact h.1, fun i hi a b d => by
  rw [List.getElem?_set, if_neg (by omega)]
  exact h.2 i hi a b d⟩
theorem FrP.seq {α : Type} {F : α → PyData} {C : Addr} {Ω Ω' : Om} {lo k wi ci : Nat} {s s' rd : DV} {a : Pa} {xs : List α} (h : FrP Ω Ω' k wi ci) (pa : PaAt C Ω lo k wi ci s' rd a) (hs : SeqS F Ω s xs) : SeqS F Ω' s xs :=
  hs.frame fun i ds e => by
    rw [h.2 i (lt_of_get e)]
    · exact e
    · intro z; have := pa.ob; rw [z, this] at e; cases e
    · intro z; have := pa.ws; rw [z, this] at e; cases e
    · intro z; have := pa.cm; rw [z, this] at e; cases e
section
variable {K : KF} {W : WX} {Γ : Gm} {Ω : Om} {R : DV → Om → Prop} {X : Exc → Om → Prop} {C : Addr} {i j k wi : Nat} {fs : List (Str × DV)} {f : Str} {y v : DV} {kvs : List (L2.Key × DV)} {b : Int}
theorem we_fldV (hv : Γ[i]? = some (some (.o k))) (ob : Ω[k]? = some (.ins C fs)) (hl : fs.lookup f = some y) (q : R y Ω) : WE K W (tFldC C (tVar i) f) Γ Ω R X :=
  we_fldC (we_var hv ⟨k, fs, y, rfl, ob, hl, q⟩)
theorem we_dgetF (hv : Γ[i]? = some (some (.o k))) (ob : Ω[k]? = some (.ins C fs)) (hl : fs.lookup f = some (.o wi)) (hw : Ω[wi]? = some (.dic kvs)) (hj : Γ[j]? = some (some (.d (.int b)))) (hk : lookK kvs (Sum.inl b) = some v) (q : R v Ω) : WE K W (tDGet (tFldC C (tVar i) f) (tVar j)) Γ Ω R X :=
  we_dget (we_fldV hv ob hl (we_var hj ⟨wi, kvs, Sum.inl b, v, rfl, hw, rfl, hk, q⟩))
theorem wg_subDF {S : Gm → Om → Prop} (hv : Γ[i]? = some (some (.o k))) (ob : Ω[k]? = some (.ins C fs)) (hl : fs.lookup f = some (.o wi)) (hw : Ω[wi]? = some (.dic kvs)) (hj : Γ[j]? = some (some (.d (.int b)))) (hn : kvs.length < 100000) (q : S Γ (Ω.set wi (.dic (putKD kvs (Sum.inl b) y)))) : WG K (gSub (tFldC C (tVar i) f) (tVar j) rSetD) y Γ Ω S :=
  wg_subD (W := fun _ _ _ _ => True) (we_fldV hv ob hl (we_var hj ⟨wi, kvs, Sum.inl b, rfl, rfl, hw, hn, q⟩))
end
end HL
namespace HL
open PySem PySem.Spec PyProof.Rows L2 Evl RZ
/-! the least whole numbers of a part -/
def Conn (xs : List Sg) (a b : Int) : Prop := ∃ l q, Path xs a b l q
theorem Conn.trans {xs : List Sg} {a b c : Int} (h : Conn xs a b) (g : Conn xs b c) : Conn xs a c := let ⟨_, _, p⟩ := h; let ⟨_, _, q⟩ := g; ⟨_, _, p.app q⟩
theorem Conn.symm {xs : List Sg} {a b : Int} (h : Conn xs a b) : Conn xs b a := let ⟨_, _, p⟩ := h; ⟨_, _, p.rev⟩
/-- [x] * k, a list of one's own -/
theorem wr_repO {K : KF} {Ω : Om} {R : DV → Om → Prop} {x : PyData} {k : Nat} (h2 : k ≤ 100000) (q : R (.o (Ω.length + 1)) (Ω ++ [.lst [.d x]] ++ [.lst (List.replicate k (.d x))])) : WR K rRep (.o Ω.length) (.d (.int k)) (Ω ++ [.lst [.d x]]) R := fun m G H v w Q c r1 r2 k' => by
  obtain ⟨hi, rfl⟩ := r1
  cases r2
  obtain ⟨q1, ws, hw, rp⟩ := c.fr Ω.length _ (get_last Ω (.lst [.d x])) (by intro z; cases z)
  cases rp with
  | cons ra rn =>
    cases rn
    rename_i u
    refine ⟨m Ω.length, (k : Int), [u], rfl, rfl, hw, by omega, by omega, sz_of (by simpa using h2), fun p hp => ?_⟩
    rw [Int.toNat_natCast, flat_one]
    have rep : ∀ n : Nat, Paired (RV K m G (Ω ++ [OC.lst [.d x]]).length) (List.replicate n (DV.d x)) (List.replicate n u) := fun n => by
      induction n with
      | zero => exact .nil
      | succ n ih => rw [List.replicate_succ, List.replicate_succ]; exact .cons ra ih
    obtain ⟨m1, c1, n1, e1⟩ := c.own (x := .lst (List.replicate k (.d x))) (o := .lst (List.replicate k u)) hp ⟨_, upd_same, rep k⟩
    have el : (Ω ++ [OC.lst [.d x]]).length = Ω.length + 1 := by simp
    have q' : R (.o (Ω ++ [OC.lst [.d x]]).length) (Ω ++ [.lst [.d x]] ++ [.lst (List.replicate k (.d x))]) := by rw [el]; exact q
    exact k' m1 G _ _ (.o (Ω ++ [OC.lst [.d x]]).length) (.ref p) c1 n1 (by simp) ⟨by simp, by rw [e1]⟩ q'
end HL
namespace HL
open PySem PySem.Spec PyProof.Rows L2 Evl
theorem walk_ofW {l : PySem.W.OpenLaw} {n k : Nat} {q : Program} {loose : List Str} {XP : (Str → Option Value) → Heap → Prop} {YP : World → Heap → Prop} {d : DefRec} {CX : World → CXT} {x : Str}
    (hn : l.most = some n) (hn2 : n ≤ sizeLine) (hdf : d.params.defaults = []) (hr : Room k callerA)
    (F : ∀ (w : World) (mg : Str → Option Value) (fa : Addr) (h : Heap), YP w h → h.Ns mainGlobals mg → mg d.name = some (.ref fa) →
      ∃ (K : PySem.W.Frag) (fd : FuncData) (sp : Sp), K.In h ∧ (∀ (s : Shared) (u : Value), BindsTo s fd ⟨[u], []⟩ [(x, u)]) ∧
        (∀ (H : Hp) (a : Addr) (ns : List Int), ns.length ≤ n → L2.Only H → SqL K H a (ns.map V.int) → sp [.ref a] H (fun v _ => v = .bl true) fun _ _ _ => False) ∧
        ∀ base : Heap, K.In base → base.Ns mainGlobals mg → FnOk l.prog w K mg base (CX w) k fa fd [x] sp)
    (hCX : ∀ (w : World) (H : Hp) (s : Shared) (e : Value) (s' : Shared), CX w [] H s (fun _ _ _ => False) e s' → False) :
    PySem.W.WalkO q loose XP YP l.row.toRowW d [] (fun f vs => PySem.call f vs) := by
  refine Att.attach_call hn hdf fun w s₀ s₁ mg mb fa o pm cd doc a vs ns G Y ho hd hcd hmg hobj hints hlen hg => ?_
  obtain ⟨K, fd, sp, KX, hb, hsp, hF⟩ := F w mg fa _ Y G.T.g hmg
  exact law_call KX G.T.g G.T.b G.T.builtins G.T.nolimit hg hobj hints (Nat.le_trans hlen hn2) hr hF hb (fun H hO hS => hsp H a ns hlen hO hS) fun H e s' => hCX w H s₁ e s'
theorem cx_no {P : Program} {w : World} {H : Hp} {s : Shared} {e : Value} {s' : Shared} (h : L2.CX P w [] H s (fun _ _ _ => False) e s') : False := by
  obtain ⟨_, _, _, _, _, _, _, _, _, _, _, _, z⟩ := h
  exact z
theorem dps_of_ints {K : KF} {G : Hp} : ∀ ns : List Int, DpAll K G (ns.map V.int) (ns.map PyData.int)
  | [] => .nil
  | n :: ns => .cons (.int n) (dps_of_ints ns)
theorem law_start {K : KF} {spec : Spec} {H : Hp} {a : Addr} {ns : List Int} (hS : SqL K H a (ns.map V.int)) (h : spec [.d (.list (ns.map PyData.int))] [] (fun d _ => d = .d (.bool true)) (fun _ _ => False)) :
    FS K spec [.ref a] H (fun v _ => v = .bl true) fun _ _ _ => False := by
  refine ⟨fun _ => 0, H, [], [.d (.list (ns.map PyData.int))], _, _, ⟨Ex.refl H, fun i c e => by simp at e, fun i j ci cj e => by simp at e⟩, .cons (Dp.lst hS (dps_of_ints ns)) .nil, h, fun m' G' Ω' H' d v _ _ _ r q => ?_, fun _ _ _ _ _ _ _ _ _ _ _ z => z⟩
  subst q
  cases r
  rfl
end HL
namespace HL
open PySem PySem.Spec PyProof.Rows L2 Evl RZ
local macro_rules | `(tactic| walk_at "hl1") => `(tactic| first
  | with_reducible refine ws_seq ?_
  | with_reducible refine ws_asgL ?_
  | with_reducible refine ws_asg ?_
  | with_reducible refine ws_if ?_
  | with_reducible refine ws_ret ?_
  | with_reducible refine ws_drop ?_
  | with_reducible refine ws_par ?_
  | with_reducible refine we_int ?_
  | with_reducible refine we_bl ?_
  | with_reducible refine we_str ?_
  | with_reducible refine we_non ?_
  | with_reducible refine we_ty ?_
  | with_reducible refine we_ref ?_
  | with_reducible refine we_op ?_
  | with_reducible refine we_un ?_
  | with_reducible refine we_if ?_
  | with_reducible refine we_cb ?_
  | with_reducible refine we_call ?_
  | with_reducible refine we_callS ?_
  | with_reducible refine we_tup ?_
  | with_reducible refine we_lstD ?_
  | with_reducible refine we_chain ?_
  | with_reducible refine we_sl ?_
  | with_reducible refine wo_none ?_
  | with_reducible refine wo_some ?_
  | with_reducible refine wa_nil ?_
  | with_reducible refine wa_cons ?_
  | with_reducible refine wt_test ?_
  | with_reducible refine wt_B ?_
  | with_reducible refine wt_and ?_
  | with_reducible refine wt_or ?_
  | with_reducible refine wt_not ?_
  | with_reducible refine wt_yes ?_
  | with_reducible refine we_andV ?_
  | with_reducible refine we_orV ?_
  | with_reducible refine we_notV ?_
  | with_reducible refine wg_name ?_
  | with_reducible refine wgs_nil ?_
  | with_reducible refine wgs_cons ?_
  | with_reducible refine wr_sub ?_
  | with_reducible refine wr_addI ?_
  | with_reducible refine wr_lt ?_
  | with_reducible refine wr_le ?_
  | with_reducible refine wr_gt ?_
  | with_reducible refine wr_ge ?_
  | with_reducible refine wu_neg ?_
  | with_reducible refine wr_ixR0 ?_
  | with_reducible refine wr_eqR ?_
  | with_reducible refine wr_neR ?_
  | with_reducible refine wr_eqI ?_
  | with_reducible refine wr_neI ?_
  | with_reducible refine wr_eqB ?_
  | with_reducible refine wr_neB ?_
  | with_reducible refine wr_ixR1 ?_
  | ((with_reducible refine' wr_mul ?h1 ?_); (case h1 => first | exact .inr (by assumption) | exact .inl (.inl ⟨by decide, by decide⟩) | exact .inl (.inr ⟨by decide, by decide⟩) | assumption))
  | with_reducible refine wc_abs' ?_
  | with_reducible refine wc_max' ?_
  | with_reducible refine wc_min' ?_
  | with_reducible refine wc_intI' ?_
  | with_reducible refine wc_intB' ?_
  | with_reducible refine wsl_T ?_
  | with_reducible refine ex_b ?_
  | with_reducible refine ex_i ?_
  | with_reducible refine ex_p ?_
  | with_reducible refine ws_next ?_
  | with_reducible refine ws_rs ?_
  | with_reducible refine ws_retN ?_
  | with_reducible refine we_bm ?_
  | with_reducible refine we_bm0 ?_
  | ((with_reducible refine' we_var ?h1 ?_); (case h1 => rfl))
  | ((with_reducible refine' wg_tup ?h1 ?_); (case h1 => rfl))
  | ((with_reducible refine' wr_isN' ?h1 ?_); (case h1 => rfl))
  | ((with_reducible refine' wr_notN' ?h1 ?_); (case h1 => rfl))
  | ((with_reducible refine' wr_ixT ?h1 ?_); (case h1 => rfl))
  | ((with_reducible refine' wr_ixL ?h1 ?_); (case h1 => rfl))
  | ((with_reducible refine' wc_len' ?h1 ?_); (case h1 => rfl))
  | ((with_reducible refine' wc_isInt ?h1 ?h2 ?_); (case h1 => rfl); (case h2 => first | rfl | assumption))
  | ((with_reducible refine' wc_isBool ?h1 ?h2 ?_); (case h1 => rfl); (case h2 => first | rfl | assumption))
  | ((with_reducible refine' wc_isTuple ?h1 ?h2 ?_); (case h1 => rfl); (case h2 => first | rfl | assumption))
  | ((with_reducible refine' wc_isStr ?h1 ?h2 ?_); (case h1 => rfl); (case h2 => first | rfl | assumption))
  | ((with_reducible refine' wc_isList ?h1 ?h2 ?_); (case h1 => rfl); (case h2 => first | rfl | assumption))
  | ((with_reducible refine' ex_as ?h1 ?h2 ?_); (case h1 => rfl); (case h2 => exact Nat.le_of_ble_eq_true rfl)))
local macro_rules | `(tactic| walk_at "hl") => `(tactic| repeat walk_at "hl1")
local macro_rules | `(tactic| walk_at "hl1") => `(tactic| first
  | with_reducible refine wu_revT ?_
  | with_reducible refine wr_ixB0 ?_
  | with_reducible refine wg_tupS ?_
  | with_reducible refine wr_ixS0 ?_
  | with_reducible refine wr_ixS1 ?_
  | with_reducible refine wr_isNO ?_
  | with_reducible refine wr_notNO ?_
  | ((with_reducible refine' we_one ?h1 ?_); (case h1 => assumption))
  | with_reducible refine wr_isB ?_
  | with_reducible refine wr_isnB ?_
  | with_reducible refine wr_ixD0 ?_
  | with_reducible refine wr_ixD1 ?_
  | with_reducible refine wr_ixD2 ?_
  | with_reducible refine wr_ixD3 ?_
  | with_reducible refine wg_tupD ?_
  | with_reducible refine we_lstO' ?_
  | with_reducible refine wsl_B ?_
  | ((with_reducible refine' wc_listD' ?h1 ?_); (case h1 => rfl))
  | ((with_reducible refine' ex_len ?h1 ?_); (case h1 => exact Nat.le_of_ble_eq_true rfl))
  | with_reducible refine wr_ixRW0 ?_
  | with_reducible refine wr_ixRW1 ?_
  | with_reducible refine wg_tupRW ?_
  | with_reducible refine wg_tup2 ?_
  | with_reducible refine wg_tup3 ?_
  | with_reducible refine wg_tup4 ?_
  | ((with_reducible refine' we_nought ?h1 ?_); (case h1 => assumption))
  | with_reducible refine wsl_Row ?_
  | with_reducible refine wr_ixW0 ?_
  | with_reducible refine wr_ixW1 ?_
  | with_reducible refine wr_isNW ?_
  | with_reducible refine wr_notNW ?_
  | with_reducible refine wg_tupW ?_
  | with_reducible refine wr_ixw0 ?_
  | with_reducible refine wr_ixw1 ?_
  | with_reducible refine wu_revRow ?_
  | with_reducible refine wg_tupR ?_
  | with_reducible refine wg_tupB ?_
  | with_reducible refine wr_ixB1 ?_
  | with_reducible refine wr_ixB2 ?_
  | with_reducible refine we_un ?_)
local macro_rules | `(tactic| walk_at "hl1") => `(tactic| first
  | with_reducible refine wg_Wd ?_
  | with_reducible refine wsl_Wd ?_
  | with_reducible refine wr_ixWd0 ?_
  | with_reducible refine wr_ixWd1 ?_
  | with_reducible refine wr_ixWd2 ?_
  | with_reducible refine wr_ixWd3 ?_
  | with_reducible refine wr_ixWd4 ?_
  | with_reducible refine wr_ixWd5 ?_
  | with_reducible refine wr_ixIP0 ?_
  | with_reducible refine wr_ixIP1 ?_
  | with_reducible refine wg_tupIP ?_
  | with_reducible refine wr_notNI ?_
  | with_reducible refine wr_isNI ?_
  | ((with_reducible refine' we_two ?h1 ?_); (case h1 => assumption)))
def sp_law_lowest (K : KF) : Spec := fun ds Ω R X => ∃ a b : Int, ds = [.d (.int a), .d (.int b)] ∧ b ≠ 0 ∧ (∃ k, b.natAbs < 2 ^ k ∧ k ≤ 8990) ∧ R (.d (dR (Rat.divInt a b))) Ω
def t_law_lowest (K : KF) (W : WX) : TS :=
  (tSeq (tPar 2 3 (tCons (tCB rAbsI (tCons (tVar 0) tNil)) (tCons (tCB rAbsI (tCons (tVar 1) tNil)) tNil)))
    (tSeq (tWhile (tTest (tOp oGt (tVar 3) (tC (.int 0)))) (tPar 2 3 (tCons (tVar 3) (tCons (tOp oMod (tVar 2) (tVar 3)) tNil))))
    (tSeq (tIfS (tTest (tOp oLt (tVar 1) (tC (.int 0)))) (tAsg (tUn uNeg (tVar 2)) (gName 2)) tNext)
    (tRet (tTup (tCons (tOp oFdiv (tVar 0) (tVar 2)) (tCons (tOp oFdiv (tVar 1) (tVar 2)) tNil)))))))
theorem w_law_lowest {K : KF} (W : WX) (ds : List DV) (Ω : Om) (R : DV → Om → Prop) (X : Exc → Om → Prop) (h : sp_law_lowest K ds Ω R X) : WS K W (t_law_lowest K W) (startG 4 ds) Ω (fnO Ω R X) := by
  obtain ⟨a, b, rfl, hb, ⟨k, hk, hk2⟩, q⟩ := h
  show WS K W (t_law_lowest K W) [some (.d (.int a)), some (.d (.int b)), none, none] Ω _
  unfold t_law_lowest
  rw [dR_eq hb] at q
  walk_at "hl"
  rw [abs_if, abs_if]
  refine ws_while (fun n Γ Ω1 => ∃ c d : Int, Γ = [some (.d (.int a)), some (.d (.int b)), some (.d (.int c)), some (.d (.int d))] ∧ Ω1 = Ω ∧ Int.gcd c d = Int.gcd a b ∧ 0 ≤ c ∧ 0 ≤ d ∧ d.natAbs = n) b.natAbs ⟨a.natAbs, b.natAbs, rfl, rfl, by simp [Int.gcd], by omega, by omega, rfl⟩ ?_
  rintro n Γ Ω1 - ⟨c, d, rfl, rfl, hg, h0, h1, rfl⟩
  walk_at "hl"
  refine ⟨fun hd => ?_, fun hd => ?_⟩
  · have hd : 0 < d := of_decide_eq_true hd
    walk_at "hl"
    refine wr_mod (by omega) ?_
    walk_at "hl"
    exact ⟨_, fmod_natAbs_lt (a := c) (show d ≠ 0 by omega), d, _, rfl, rfl, (gcd_fmod c d).trans hg, h1, Int.fmod_nonneg_of_pos c hd, rfl⟩
  · have hd : d = 0 := by have := of_decide_eq_false hd; omega
    subst hd
    have hc : c = (Int.gcd a b : Int) := by rw [← hg, Int.gcd_zero_right]; omega
    subst hc
    walk_at "hl"
    refine ⟨fun h => ?_, fun h => ?_⟩
    · walk_at "hl"
      have e : (-((Int.gcd a b : Nat) : Int)) = byOf a b := by
        unfold byOf
        rw [if_pos (of_decide_eq_true h)]
        omega
      rw [e]
      refine wr_fdiv (cdiv_by hb hk hk2) ?_
      walk_at "hl"
      refine wr_fdiv (cdiv_by hb hk hk2) ?_
      walk_at "hl"
      exact dr_same q
    · walk_at "hl"
      have e : ((Int.gcd a b : Nat) : Int) = byOf a b := by
        unfold byOf
        rw [if_neg (of_decide_eq_false h)]
      rw [e]
      refine wr_fdiv (cdiv_by hb hk hk2) ?_
      walk_at "hl"
      refine wr_fdiv (cdiv_by hb hk hk2) ?_
      walk_at "hl"
      exact dr_same q
theorem sp_len_law_lowest {K : KF} (ds : List DV) (Ω : Om) (R : DV → Om → Prop) (X : Exc → Om → Prop) (h : sp_law_lowest K ds Ω R X) : ds.length = 2 := by
  unfold sp_law_lowest at h
  first
    | (obtain ⟨rfl, _⟩ := h; rfl)
    | (obtain ⟨_, rfl, _⟩ := h; rfl)
    | (obtain ⟨_, _, rfl, _⟩ := h; rfl)
    | (obtain ⟨_, _, _, rfl, _⟩ := h; rfl)
    | (obtain ⟨_, _, _, _, rfl, _⟩ := h; rfl)
    | (obtain ⟨_, _, _, _, _, rfl, _⟩ := h; rfl)
    | (obtain ⟨_, _, _, _, _, _, rfl, _⟩ := h; rfl)
    | (obtain ⟨_, _, _, _, _, _, _, rfl, _⟩ := h; rfl)
    | (obtain ⟨_, _, _, _, _, _, _, _, rfl, _⟩ := h; rfl)
    | (obtain ⟨_, _, _, _, _, _, _, _, _, rfl, _⟩ := h; rfl)
    | (obtain ⟨_, _, _, _, _, _, _, _, _, _, rfl, _⟩ := h; rfl)
    | (obtain ⟨_, _, _, _, _, _, _, _, _, _, _, rfl, _⟩ := h; rfl)
    | (obtain ⟨_, _, _, _, _, _, _, _, _, _, _, _, rfl, _⟩ := h; rfl)
    | (obtain ⟨_, _, _, _, _, _, _, _, _, _, _, _, _, rfl, _⟩ := h; rfl)
    | (obtain ⟨_, _, _, _, _, _, _, _, _, _, _, _, _, rfl, _⟩ := h; rfl)
    | (obtain ⟨_, _, _, _, _, _, _, _, _, _, _, _, _, _, rfl, _⟩ := h; rfl)
    | (obtain ⟨_, _, _, _, _, _, _, _, _, _, _, _, _, _, _, rfl, _⟩ := h; rfl)
    | (obtain ⟨_, _, _, _, _, _, _, _, _, _, _, _, _, _, _, _, rfl, _⟩ := h; rfl)
    | (obtain ⟨_, _, _, _, _, _, _, _, _, _, _, _, _, _, _, _, _, rfl, _⟩ := h; rfl)
    | (obtain ⟨_, _, _, _, _, _, _, _, _, _, _, _, _, _, _, _, _, _, rfl, _⟩ := h; rfl)
    | (obtain ⟨_, _, _, _, _, _, _, _, _, _, _, _, _, _, _, _, _, _, _, rfl, _⟩ := h; rfl)
    | (obtain ⟨_, _, _, _, _, _, _, _, _, _, _, _, _, _, _, _, _, _, _, _, rfl, _⟩ := h; rfl)
    | (obtain ⟨_, _, _, _, _, _, _, _, _, _, _, _, _, _, _, _, _, _, _, _, _, rfl, _⟩ := h; rfl)
def sp_law_product (K : KF) : Spec := fun ds Ω R X => ∃ p q : Rat, ds = [.d (dR p), .d (dR q)] ∧ Sz2 p q ∧ R (.d (dR (p * q))) Ω
def t_law_product (K : KF) (W : WX) : TS :=
  (tRet (tCall (FS K (sp_law_lowest K)) [] E0 (tCons (tOp oMul (tOp (rIx K) (tVar 0) (tC (.int 0))) (tOp (rIx K) (tVar 1) (tC (.int 0)))) (tCons (tOp oMul (tOp (rIx K) (tVar 0) (tC (.int 1))) (tOp (rIx K) (tVar 1) (tC (.int 1)))) tNil))))
theorem w_law_product {K : KF} (W : WX) (ds : List DV) (Ω : Om) (R : DV → Om → Prop) (X : Exc → Om → Prop) (h : sp_law_product K ds Ω R X) : WS K W (t_law_product K W) (startG 2 ds) Ω (fnO Ω R X) := by
  obtain ⟨p, q, rfl, ⟨n, m, hp, hq, hz⟩, k⟩ := h
  show WS K W (t_law_product K W) [some (.d (dR p)), some (.d (dR q))] Ω _
  unfold t_law_product
  obtain ⟨nn, nd, dn, dd⟩ := muls hp hq (by omega)
  obtain ⟨nn', nd', dn', dd'⟩ := muls hq hp (by omega)
  walk_at "hl"
  refine ⟨_, _, rfl, den_mul_ne p q, ⟨n + m, den_mul_lt hp hq, by omega⟩, ?_⟩
  walk_at "hl"
  rw [rat_mul]
  exact dr_same k
theorem sp_len_law_product {K : KF} (ds : List DV) (Ω : Om) (R : DV → Om → Prop) (X : Exc → Om → Prop) (h : sp_law_product K ds Ω R X) : ds.length = 2 := by
  unfold sp_law_product at h
  first
    | (obtain ⟨rfl, _⟩ := h; rfl)
    | (obtain ⟨_, rfl, _⟩ := h; rfl)
    | (obtain ⟨_, _, rfl, _⟩ := h; rfl)
    | (obtain ⟨_, _, _, rfl, _⟩ := h; rfl)
    | (obtain ⟨_, _, _, _, rfl, _⟩ := h; rfl)
    | (obtain ⟨_, _, _, _, _, rfl, _⟩ := h; rfl)
    | (obtain ⟨_, _, _, _, _, _, rfl, _⟩ := h; rfl)
    | (obtain ⟨_, _, _, _, _, _, _, rfl, _⟩ := h; rfl)
    | (obtain ⟨_, _, _, _, _, _, _, _, rfl, _⟩ := h; rfl)
    | (obtain ⟨_, _, _, _, _, _, _, _, _, rfl, _⟩ := h; rfl)
    | (obtain ⟨_, _, _, _, _, _, _, _, _, _, rfl, _⟩ := h; rfl)
    | (obtain ⟨_, _, _, _, _, _, _, _, _, _, _, rfl, _⟩ := h; rfl)
    | (obtain ⟨_, _, _, _, _, _, _, _, _, _, _, _, rfl, _⟩ := h; rfl)
    | (obtain ⟨_, _, _, _, _, _, _, _, _, _, _, _, _, rfl, _⟩ := h; rfl)
    | (obtain ⟨_, _, _, _, _, _, _, _, _, _, _, _, _, rfl, _⟩ := h; rfl)
    | (obtain ⟨_, _, _, _, _, _, _, _, _, _, _, _, _, _, rfl, _⟩ := h; rfl)
    | (obtain ⟨_, _, _, _, _, _, _, _, _, _, _, _, _, _, _, rfl, _⟩ := h; rfl)
    | (obtain ⟨_, _, _, _, _, _, _, _, _, _, _, _, _, _, _, _, rfl, _⟩ := h; rfl)
    | (obtain ⟨_, _, _, _, _, _, _, _, _, _, _, _, _, _, _, _, _, rfl, _⟩ := h; rfl)
    | (obtain ⟨_, _, _, _, _, _, _, _, _, _, _, _, _, _, _, _, _, _, rfl, _⟩ := h; rfl)
    | (obtain ⟨_, _, _, _, _, _, _, _, _, _, _, _, _, _, _, _, _, _, _, rfl, _⟩ := h; rfl)
    | (obtain ⟨_, _, _, _, _, _, _, _, _, _, _, _, _, _, _, _, _, _, _, _, rfl, _⟩ := h; rfl)
    | (obtain ⟨_, _, _, _, _, _, _, _, _, _, _, _, _, _, _, _, _, _, _, _, _, rfl, _⟩ := h; rfl)
def sp_law_sum (K : KF) : Spec := fun ds Ω R X => ∃ p q : Rat, ds = [.d (dR p), .d (dR q)] ∧ Sz2 p q ∧ R (.d (dR (p + q))) Ω
def t_law_sum (K : KF) (W : WX) : TS :=
  (tRet (tCall (FS K (sp_law_lowest K)) [] E0 (tCons (tOp (rAddX K) (tOp oMul (tOp (rIx K) (tVar 0) (tC (.int 0))) (tOp (rIx K) (tVar 1) (tC (.int 1)))) (tOp oMul (tOp (rIx K) (tVar 1) (tC (.int 0))) (tOp (rIx K) (tVar 0) (tC (.int 1))))) (tCons (tOp oMul (tOp (rIx K) (tVar 0) (tC (.int 1))) (tOp (rIx K) (tVar 1) (tC (.int 1)))) tNil))))
theorem w_law_sum {K : KF} (W : WX) (ds : List DV) (Ω : Om) (R : DV → Om → Prop) (X : Exc → Om → Prop) (h : sp_law_sum K ds Ω R X) : WS K W (t_law_sum K W) (startG 2 ds) Ω (fnO Ω R X) := by
  obtain ⟨p, q, rfl, ⟨n, m, hp, hq, hz⟩, k⟩ := h
  show WS K W (t_law_sum K W) [some (.d (dR p)), some (.d (dR q))] Ω _
  unfold t_law_sum
  obtain ⟨nn, nd, dn, dd⟩ := muls hp hq (by omega)
  obtain ⟨nn', nd', dn', dd'⟩ := muls hq hp (by omega)
  walk_at "hl"
  refine ⟨_, _, rfl, den_mul_ne p q, ⟨n + m, den_mul_lt hp hq, by omega⟩, ?_⟩
  walk_at "hl"
  rw [rat_add]
  exact dr_same k
theorem sp_len_law_sum {K : KF} (ds : List DV) (Ω : Om) (R : DV → Om → Prop) (X : Exc → Om → Prop) (h : sp_law_sum K ds Ω R X) : ds.length = 2 := by
  unfold sp_law_sum at h
  first
    | (obtain ⟨rfl, _⟩ := h; rfl)
    | (obtain ⟨_, rfl, _⟩ := h; rfl)
    | (obtain ⟨_, _, rfl, _⟩ := h; rfl)
    | (obtain ⟨_, _, _, rfl, _⟩ := h; rfl)
    | (obtain ⟨_, _, _, _, rfl, _⟩ := h; rfl)
    | (obtain ⟨_, _, _, _, _, rfl, _⟩ := h; rfl)
    | (obtain ⟨_, _, _, _, _, _, rfl, _⟩ := h; rfl)
    | (obtain ⟨_, _, _, _, _, _, _, rfl, _⟩ := h; rfl)
    | (obtain ⟨_, _, _, _, _, _, _, _, rfl, _⟩ := h; rfl)
    | (obtain ⟨_, _, _, _, _, _, _, _, _, rfl, _⟩ := h; rfl)
    | (obtain ⟨_, _, _, _, _, _, _, _, _, _, rfl, _⟩ := h; rfl)
    | (obtain ⟨_, _, _, _, _, _, _, _, _, _, _, rfl, _⟩ := h; rfl)
    | (obtain ⟨_, _, _, _, _, _, _, _, _, _, _, _, rfl, _⟩ := h; rfl)
    | (obtain ⟨_, _, _, _, _, _, _, _, _, _, _, _, _, rfl, _⟩ := h; rfl)
    | (obtain ⟨_, _, _, _, _, _, _, _, _, _, _, _, _, rfl, _⟩ := h; rfl)
    | (obtain ⟨_, _, _, _, _, _, _, _, _, _, _, _, _, _, rfl, _⟩ := h; rfl)
    | (obtain ⟨_, _, _, _, _, _, _, _, _, _, _, _, _, _, _, rfl, _⟩ := h; rfl)
    | (obtain ⟨_, _, _, _, _, _, _, _, _, _, _, _, _, _, _, _, rfl, _⟩ := h; rfl)
    | (obtain ⟨_, _, _, _, _, _, _, _, _, _, _, _, _, _, _, _, _, rfl, _⟩ := h; rfl)
    | (obtain ⟨_, _, _, _, _, _, _, _, _, _, _, _, _, _, _, _, _, _, rfl, _⟩ := h; rfl)
    | (obtain ⟨_, _, _, _, _, _, _, _, _, _, _, _, _, _, _, _, _, _, _, rfl, _⟩ := h; rfl)
    | (obtain ⟨_, _, _, _, _, _, _, _, _, _, _, _, _, _, _, _, _, _, _, _, rfl, _⟩ := h; rfl)
    | (obtain ⟨_, _, _, _, _, _, _, _, _, _, _, _, _, _, _, _, _, _, _, _, _, rfl, _⟩ := h; rfl)
def sp_law_minus (K : KF) : Spec := fun ds Ω R X => ∃ p q : Rat, ds = [.d (dR p), .d (dR q)] ∧ (∃ n m, Sz n p ∧ Sz m q ∧ n + m ≤ 8890) ∧ R (.d (dR (p - q))) Ω
def t_law_minus (K : KF) (W : WX) : TS :=
  (tRet (tCall (FS K (sp_law_sum K)) [] E0 (tCons (tVar 0) (tCons (tCall (FS K (sp_law_product K)) [] E0 (tCons (tVar 1) (tCons (tTup (tCons (tUn uNeg (tC (.int 1))) (tCons (tC (.int 1)) tNil))) tNil))) tNil))))
theorem w_law_minus {K : KF} (W : WX) (ds : List DV) (Ω : Om) (R : DV → Om → Prop) (X : Exc → Om → Prop) (h : sp_law_minus K ds Ω R X) : WS K W (t_law_minus K W) (startG 2 ds) Ω (fnO Ω R X) := by
  obtain ⟨p, q, rfl, ⟨n, m, zp, zq, hz⟩, r⟩ := h
  show WS K W (t_law_minus K W) [some (.d (dR p)), some (.d (dR q))] Ω _
  unfold t_law_minus
  have z1 : Sz 1 ((-1 : Int) : Rat) := .int (by decide) (by decide)
  walk_at "hl"
  refine ⟨q, ((-1 : Int) : Rat), rfl, ⟨m, 1, zq, z1, by omega⟩, ?_⟩
  walk_at "hl"
  refine ⟨p, _, rfl, ⟨n, m + 1, zp, zq.mul z1, by omega⟩, ?_⟩
  have e : p + q * ((-1 : Int) : Rat) = p - q := by
    have : ((-1 : Int) : Rat) = -1 := rfl
    rw [this]; grind
  rw [e]
  exact dr_same r
theorem sp_len_law_minus {K : KF} (ds : List DV) (Ω : Om) (R : DV → Om → Prop) (X : Exc → Om → Prop) (h : sp_law_minus K ds Ω R X) : ds.length = 2 := by
  unfold sp_law_minus at h
  first
    | (obtain ⟨rfl, _⟩ := h; rfl)
    | (obtain ⟨_, rfl, _⟩ := h; rfl)
    | (obtain ⟨_, _, rfl, _⟩ := h; rfl)
    | (obtain ⟨_, _, _, rfl, _⟩ := h; rfl)
    | (obtain ⟨_, _, _, _, rfl, _⟩ := h; rfl)
    | (obtain ⟨_, _, _, _, _, rfl, _⟩ := h; rfl)
    | (obtain ⟨_, _, _, _, _, _, rfl, _⟩ := h; rfl)
    | (obtain ⟨_, _, _, _, _, _, _, rfl, _⟩ := h; rfl)
    | (obtain ⟨_, _, _, _, _, _, _, _, rfl, _⟩ := h; rfl)
    | (obtain ⟨_, _, _, _, _, _, _, _, _, rfl, _⟩ := h; rfl)
    | (obtain ⟨_, _, _, _, _, _, _, _, _, _, rfl, _⟩ := h; rfl)
    | (obtain ⟨_, _, _, _, _, _, _, _, _, _, _, rfl, _⟩ := h; rfl)
    | (obtain ⟨_, _, _, _, _, _, _, _, _, _, _, _, rfl, _⟩ := h; rfl)
    | (obtain ⟨_, _, _, _, _, _, _, _, _, _, _, _, _, rfl, _⟩ := h; rfl)
    | (obtain ⟨_, _, _, _, _, _, _, _, _, _, _, _, _, rfl, _⟩ := h; rfl)
    | (obtain ⟨_, _, _, _, _, _, _, _, _, _, _, _, _, _, rfl, _⟩ := h; rfl)
    | (obtain ⟨_, _, _, _, _, _, _, _, _, _, _, _, _, _, _, rfl, _⟩ := h; rfl)
    | (obtain ⟨_, _, _, _, _, _, _, _, _, _, _, _, _, _, _, _, rfl, _⟩ := h; rfl)
    | (obtain ⟨_, _, _, _, _, _, _, _, _, _, _, _, _, _, _, _, _, rfl, _⟩ := h; rfl)
    | (obtain ⟨_, _, _, _, _, _, _, _, _, _, _, _, _, _, _, _, _, _, rfl, _⟩ := h; rfl)
    | (obtain ⟨_, _, _, _, _, _, _, _, _, _, _, _, _, _, _, _, _, _, _, rfl, _⟩ := h; rfl)
    | (obtain ⟨_, _, _, _, _, _, _, _, _, _, _, _, _, _, _, _, _, _, _, _, rfl, _⟩ := h; rfl)
    | (obtain ⟨_, _, _, _, _, _, _, _, _, _, _, _, _, _, _, _, _, _, _, _, _, rfl, _⟩ := h; rfl)
def sp_law_share (K : KF) : Spec := fun ds Ω R X => ∃ (x : Sg) (n : Nat), ds = [.d (dSg x)] ∧ SgOk n x ∧ n ≤ 1000 ∧ R (.d (dO x.share)) Ω
def t_law_share (K : KF) (W : WX) : TS :=
  (tSeq (tAsg (tVar 0) (gTup K 6 (gCons (gName 1) (gCons (gName 2) (gCons (gName 3) (gCons (gName 4) (gCons (gName 5) (gCons (gName 6) gNil))))))))
    (tSeq (tAsg (tCall (FS K (sp_law_minus K)) [] E0 (tCons (tVar 3) (tCons (tVar 5) tNil))) (gName 7))
    (tSeq (tAsg (tCall (FS K (sp_law_minus K)) [] E0 (tCons (tVar 6) (tCons (tVar 4) tNil))) (gName 8))
    (tSeq (tIfS (tOr (tTest (tOp (rEqD K) (tVar 3) (tVar 4))) (tOr (tTest (tOp (rNeD K) (tCall (FS K (sp_law_minus K)) [] E0 (tCons (tVar 6) (tCons (tVar 5) tNil))) (tCall (FS K (sp_law_minus K)) [] E0 (tCons (tVar 3) (tCons (tVar 4) tNil))))) (tTest (tOp oLe (tOp oMul (tOp (rIx K) (tVar 7) (tC (.int 0))) (tOp (rIx K) (tVar 8) (tC (.int 0)))) (tC (.int 0)))))) (tRet (tC .non)) tNext)
    (tRet (tCall (FS K (sp_law_lowest K)) [] E0 (tCons (tOp oMul (tOp (rIx K) (tVar 7) (tC (.int 0))) (tOp (rIx K) (tVar 8) (tC (.int 1)))) (tCons (tOp oMul (tOp (rIx K) (tVar 7) (tC (.int 1))) (tOp (rIx K) (tVar 8) (tC (.int 0)))) tNil))))))))
theorem num_sign {q : Rat} : (0 < q.num ↔ 0 < q) ∧ (q.num < 0 ↔ q < 0) ∧ (q.num = 0 ↔ q = 0) := by
  have h1 : 0 < q.num ↔ 0 < q := ⟨rat_pos_num, rat_num_pos⟩
  have h3 : q.num = 0 ↔ q = 0 := Rat.num_eq_zero
  refine ⟨h1, ⟨fun h => ?_, fun h => ?_⟩, h3⟩
  · have a : ¬ 0 < q := fun z => by have := h1.mpr z; omega
    have b : ¬ q = 0 := fun z => by have := h3.mpr z; omega
    grind
  · have a : ¬ 0 < q.num := fun z => by have := h1.mp z; grind
    have b : ¬ q.num = 0 := fun z => by have := h3.mp z; grind
    omega
theorem div_pos {p q : Rat} : 0 < p / q ↔ 0 < p.num * q.num := by
  obtain ⟨p1, p2, p3⟩ := num_sign (q := p)
  obtain ⟨q1, q2, q3⟩ := num_sign (q := q)
  have e : p / q = p * q⁻¹ := Rat.div_def p q
  have qi : 0 < q → 0 < q⁻¹ := fun h => Rat.inv_pos.mpr h
  have qn : q < 0 → q⁻¹ < 0 := fun h => by
    have h1 := Rat.mul_inv_cancel q (by grind)
    by_cases hn : q⁻¹ < 0
    · exact hn
    · have := Rat.mul_nonneg (show 0 ≤ -q by grind) (show 0 ≤ q⁻¹ by grind)
      grind
  rcases Int.lt_trichotomy p.num 0 with hp | hp | hp <;> rcases Int.lt_trichotomy q.num 0 with hq | hq | hq
  · have a := p2.mp hp
    have b := qn (q2.mp hq)
    have := Rat.mul_pos (show 0 < -p by grind) (show 0 < -q⁻¹ by grind)
    have := Int.mul_pos (show 0 < -p.num by omega) (show 0 < -q.num by omega)
    rw [Int.neg_mul_neg] at this
    rw [e]
    constructor <;> intro _ <;> grind
  · rw [e, hq, Int.mul_zero, q3.mp hq, Rat.inv_zero, Rat.mul_zero]; simp
  · have a := p2.mp hp
    have b := qi (q1.mp hq)
    have := Rat.mul_pos (show 0 < -p by grind) b
    have := Int.mul_pos (show 0 < -p.num by omega) hq
    rw [e]
    constructor <;> intro _ <;> grind
  · rw [e, hp, Int.zero_mul, p3.mp hp, Rat.zero_mul]; simp
  · rw [e, hp, Int.zero_mul, p3.mp hp, Rat.zero_mul]; simp
  · rw [e, hp, Int.zero_mul, p3.mp hp, Rat.zero_mul]; simp
  · have a := p1.mp hp
    have b := qn (q2.mp hq)
    have := Rat.mul_pos a (show 0 < -q⁻¹ by grind)
    have := Int.mul_pos hp (show 0 < -q.num by omega)
    rw [e]
    constructor <;> intro _ <;> grind
  · rw [e, hq, Int.mul_zero, q3.mp hq, Rat.inv_zero, Rat.mul_zero]; simp
  · have a := p1.mp hp
    have b := qi (q1.mp hq)
    have := Rat.mul_pos a b
    have := Int.mul_pos hp hq
    rw [e]
    constructor <;> intro _ <;> assumption
theorem w_law_share {K : KF} (W : WX) (ds : List DV) (Ω : Om) (R : DV → Om → Prop) (X : Exc → Om → Prop) (h : sp_law_share K ds Ω R X) : WS K W (t_law_share K W) (startG 9 ds) Ω (fnO Ω R X) := by
  obtain ⟨x, n, rfl, ok, hn, q⟩ := h
  show WS K W (t_law_share K W) [some (.d (dSg x)), none, none, none, none, none, none, none, none] Ω _
  unfold t_law_share
  have cm : CMulW x.lost.num x.won.num := cmul ok.lost.num ok.won.num (by omega)
  have cm1 : CMulW x.lost.num (x.won.den : Int) := cmul ok.lost.num (by simpa using ok.won.den) (by omega)
  have cm2 : CMulW (x.lost.den : Int) x.won.num := cmul (by simpa using ok.lost.den) ok.won.num (by omega)
  walk_at "hl"
  refine ⟨x.v, x.a, rfl, ⟨300, 600, ok.v, ok.a, by omega⟩, ?_⟩
  walk_at "hl"
  refine ⟨x.b, x.w, rfl, ⟨600, 300, ok.b, ok.w, by omega⟩, ?_⟩
  have cm : CMulW (x.v - x.a).num (x.b - x.w).num := cm
  have cm1 : CMulW (x.v - x.a).num ((x.b - x.w).den : Int) := cm1
  have cm2 : CMulW ((x.v - x.a).den : Int) (x.b - x.w).num := cm2
  walk_at "hl"
  refine ⟨fun h => ?_, fun h => ?_⟩
  · have h := of_decide_eq_true h
    refine bT rfl ?_
    walk_at "hl"
    refine dr_same ?_
    have e : x.share = none := if_neg fun z => by unfold Sg.reb at z; rw [decide_eq_true h] at z; exact absurd z.1 (by simp)
    rw [e] at q
    exact q
  have h1 := of_decide_eq_false h
  walk_at "hl"
  refine ⟨x.b, x.a, rfl, ⟨600, 600, ok.b, ok.a, by omega⟩, ?_⟩
  walk_at "hl"
  refine ⟨x.v, x.w, rfl, ⟨300, 300, ok.v, ok.w, by omega⟩, ?_⟩
  walk_at "hl"
  refine ⟨fun h => ?_, fun h => ?_⟩
  · have h : ¬ x.b - x.a = x.v - x.w := fun e => by rw [decide_eq_true e] at h; cases h
    refine bT rfl ?_
    walk_at "hl"
    refine dr_same ?_
    have e : x.share = none := if_neg fun z => by unfold Sg.reb at z; rw [decide_eq_false h, Bool.and_false] at z; exact absurd z.1 (by simp)
    rw [e] at q
    exact q
  have h2 : x.b - x.a = x.v - x.w := by
    have : decide (x.b - x.a = x.v - x.w) = true := by revert h; cases decide (x.b - x.a = x.v - x.w) <;> simp
    exact of_decide_eq_true this
  have rb : x.reb = true := by unfold Sg.reb; rw [decide_eq_false h1, decide_eq_true h2]; rfl
  walk_at "hl"
  refine ⟨fun h => ?_, fun h => ?_⟩
  · have h := of_decide_eq_true h
    walk_at "hl"
    refine dr_same ?_
    have e : x.share = none := if_neg fun z => by
      have := div_pos.mp z.2
      have h : x.lost.num * x.won.num ≤ 0 := h
      omega
    rw [e] at q
    exact q
  · have h : ¬ x.lost.num * x.won.num ≤ 0 := of_decide_eq_false h
    have hp : 0 < x.lost / x.won := div_pos.mpr (by omega)
    have e : x.share = some (x.lost / x.won) := if_pos ⟨rb, hp⟩
    rw [e] at q
    walk_at "hl"
    have hw : x.won.num ≠ 0 := fun z => by rw [z, Int.mul_zero] at h; omega
    refine ⟨_, _, rfl, Int.mul_ne_zero (den_ne _) hw, ⟨n + n, ?_, by omega⟩, ?_⟩
    · rw [Int.natAbs_mul, Int.natAbs_natCast]; exact mul_lt2 ok.lost.den ok.won.num
    · rw [show Rat.divInt ((x.v - x.a).num * ((x.b - x.w).den : Int)) (((x.v - x.a).den : Int) * (x.b - x.w).num) = x.lost / x.won from rat_div x.lost x.won]
      exact dr_same q
theorem sp_len_law_share {K : KF} (ds : List DV) (Ω : Om) (R : DV → Om → Prop) (X : Exc → Om → Prop) (h : sp_law_share K ds Ω R X) : ds.length = 1 := by
  unfold sp_law_share at h
  first
    | (obtain ⟨rfl, _⟩ := h; rfl)
    | (obtain ⟨_, rfl, _⟩ := h; rfl)
    | (obtain ⟨_, _, rfl, _⟩ := h; rfl)
    | (obtain ⟨_, _, _, rfl, _⟩ := h; rfl)
    | (obtain ⟨_, _, _, _, rfl, _⟩ := h; rfl)
    | (obtain ⟨_, _, _, _, _, rfl, _⟩ := h; rfl)
    | (obtain ⟨_, _, _, _, _, _, rfl, _⟩ := h; rfl)
    | (obtain ⟨_, _, _, _, _, _, _, rfl, _⟩ := h; rfl)
    | (obtain ⟨_, _, _, _, _, _, _, _, rfl, _⟩ := h; rfl)
    | (obtain ⟨_, _, _, _, _, _, _, _, _, rfl, _⟩ := h; rfl)
    | (obtain ⟨_, _, _, _, _, _, _, _, _, _, rfl, _⟩ := h; rfl)
    | (obtain ⟨_, _, _, _, _, _, _, _, _, _, _, rfl, _⟩ := h; rfl)
    | (obtain ⟨_, _, _, _, _, _, _, _, _, _, _, _, rfl, _⟩ := h; rfl)
    | (obtain ⟨_, _, _, _, _, _, _, _, _, _, _, _, _, rfl, _⟩ := h; rfl)
    | (obtain ⟨_, _, _, _, _, _, _, _, _, _, _, _, _, rfl, _⟩ := h; rfl)
    | (obtain ⟨_, _, _, _, _, _, _, _, _, _, _, _, _, _, rfl, _⟩ := h; rfl)
    | (obtain ⟨_, _, _, _, _, _, _, _, _, _, _, _, _, _, _, rfl, _⟩ := h; rfl)
    | (obtain ⟨_, _, _, _, _, _, _, _, _, _, _, _, _, _, _, _, rfl, _⟩ := h; rfl)
    | (obtain ⟨_, _, _, _, _, _, _, _, _, _, _, _, _, _, _, _, _, rfl, _⟩ := h; rfl)
    | (obtain ⟨_, _, _, _, _, _, _, _, _, _, _, _, _, _, _, _, _, _, rfl, _⟩ := h; rfl)
    | (obtain ⟨_, _, _, _, _, _, _, _, _, _, _, _, _, _, _, _, _, _, _, rfl, _⟩ := h; rfl)
    | (obtain ⟨_, _, _, _, _, _, _, _, _, _, _, _, _, _, _, _, _, _, _, _, rfl, _⟩ := h; rfl)
    | (obtain ⟨_, _, _, _, _, _, _, _, _, _, _, _, _, _, _, _, _, _, _, _, _, rfl, _⟩ := h; rfl)
--USE HMc
def ConsM (M : List Sg) : Prop := ∃ W : Int → Rat, (∀ b, 0 < W b) ∧ ∀ p a b r, stepF M p = some (a, b, r) → W b = W a * r
def sp_law_can (K : KF) : Spec := fun ds Ω R X => ∃ (n : Nat) (M : List Sg), ds = [.d (.int n), .d (.list (M.map dSg))] ∧ n ≤ 8 ∧ AllS M ∧ (∀ x ∈ M, SgE n x) ∧ M.length ≤ 1000 ∧ ∀ b : Bool, (b = true ↔ ConsM M) → R (.d (.bool b)) Ω
def t_law_can (K : KF) (W : WX) : TS :=
  (tSeq (tAsg (tOp rRep (tLstO (tCons (tC .non) tNil)) (tVar 0)) (gName 2))
    (tSeq (tAsg (tLc (iSeq K (tVar 1)) (gName 9) tYes (tTup (tCons (tOp (rIx K) (tVar 9) (tC (.int 0))) (tCons (tOp (rIx K) (tVar 9) (tC (.int 1))) (tCons (tCall (FS K (sp_law_share K)) [] E0 (tCons (tVar 9) tNil)) tNil)))) [9]) (gName 3))
    (tSeq (tFor (iRng1 (tCons (tVar 0) tNil)) (gName 4) (tSeq (tAsg (tOp oIsN (tOp (rIx K) (tVar 2) (tVar 4)) (tC .non)) (gName 5))
    (tSeqI (tIfS (tB (tVar 5)) (tAsg (tTup (tCons (tC (.int 1)) (tCons (tC (.int 1)) tNil))) (gSub (tVar 2) (tVar 4) rSetL)) tNext)
    (tWhile (tB (tVar 5)) (tSeq (tAsg (tC (.bl false)) (gName 5))
    (tFor (iSeq K (tVar 3)) (gTup K 3 (gCons (gName 6) (gCons (gName 7) (gCons (gName 8) gNil)))) (tSeqI (tIfS (tAnd (tTest (tOp oNotN (tOp (rIx K) (tVar 2) (tVar 6)) (tC .non))) (tTest (tOp oIsN (tOp (rIx K) (tVar 2) (tVar 7)) (tC .non)))) (tSeq (tAsg (tCall (FS K (sp_law_product K)) [] E0 (tCons (tOp (rIx K) (tVar 2) (tVar 6)) (tCons (tVar 8) tNil))) (gSub (tVar 2) (tVar 7) rSetL))
    (tAsg (tC (.bl true)) (gName 5))) tNext)
    (tIfS (tAnd (tTest (tOp oNotN (tOp (rIx K) (tVar 2) (tVar 7)) (tC .non))) (tTest (tOp oIsN (tOp (rIx K) (tVar 2) (tVar 6)) (tC .non)))) (tSeq (tAsg (tCall (FS K (sp_law_product K)) [] E0 (tCons (tOp (rIx K) (tVar 2) (tVar 7)) (tCons (tTup (tCons (tOp (rIx K) (tVar 8) (tC (.int 1))) (tCons (tOp (rIx K) (tVar 8) (tC (.int 0))) tNil))) tNil))) (gSub (tVar 2) (tVar 6) rSetL))
    (tAsg (tC (.bl true)) (gName 5))) tNext))))))))
    (tRet (tCB (rAll K) (tCons (tLc (iSeq K (tVar 3)) (gTup K 3 (gCons (gName 6) (gCons (gName 7) (gCons (gName 8) gNil)))) tYes (tOp (rEqD K) (tOp (rIx K) (tVar 2) (tVar 7)) (tCall (FS K (sp_law_product K)) [] E0 (tCons (tOp (rIx K) (tVar 2) (tVar 6)) (tCons (tVar 8) tNil)))) [6, 7, 8]) tNil))))))
def cntK (kn : List (Option Rat)) : Nat := kn.countP (·.isSome)
def dSh (x : Sg) : PyData := .tuple [.int x.i, .int x.j, dR x.shr]
structure CanI (n : Nat) (M : List Sg) (kn : List (Option Rat)) (rt : Nat → Int) : Prop where
  len : kn.length = n
  ent : ∀ (b : Nat) (w : Rat), kn[b]? = some (some w) → 0 < w ∧ Sz (1 + 121 * cntK kn) w ∧ ∃ l, Path M (rt b) b l w
  uni : ∀ (b c : Nat) (w v : Rat), kn[b]? = some (some w) → kn[c]? = some (some v) → Conn M b c → rt b = rt c
def ClosedK (M : List Sg) (kn : List (Option Rat)) : Prop := ∀ x ∈ M, (∃ w, kn[x.i.toNat]? = some (some w)) ↔ ∃ w, kn[x.j.toNat]? = some (some w)
theorem cnt_set : ∀ {kn : List (Option Rat)} {j : Nat} {w : Rat}, kn[j]? = some none → cntK (kn.set j (some w)) = cntK kn + 1
  | a :: kn, 0, w, h => by
    obtain rfl : a = none := Option.some.inj h
    show cntK (some w :: kn) = _
    unfold cntK
    simp
  | a :: kn, j + 1, w, h => by
    have ih := cnt_set (kn := kn) (j := j) (w := w) h
    show cntK (a :: kn.set j (some w)) = _
    unfold cntK at ih ⊢
    rw [List.countP_cons, List.countP_cons, ih]
    omega
theorem cnt_le (kn : List (Option Rat)) : cntK kn ≤ kn.length := List.countP_le_length
theorem CanI.edge {n : Nat} {M : List Sg} {kn : List (Option Rat)} {rt : Nat → Int} (h : CanI n M kn rt) {i j : Nat} {w q : Rat} {p : Int × Int} (hi : kn[i]? = some (some w)) (hj : kn[j]? = some none) (hs : stepF M p = some ((i : Int), (j : Int), q)) (zq : Sz 121 q) : CanI n M (kn.set j (some (w * q))) (fun b => if b = j then rt i else rt b) := by
  have lj := lt_of_get hj
  have ne : i ≠ j := fun e => by rw [e, hj] at hi; cases hi
  obtain ⟨w0, zw, l, hp⟩ := h.ent i w hi
  have cs := cnt_set (w := w * q) hj
  have old : ∀ {b : Nat} {v : Rat}, (kn.set j (some (w * q)))[b]? = some (some v) → (b = j ∧ v = w * q) ∨ (b ≠ j ∧ kn[b]? = some (some v)) := fun {b v} e => by
    rw [List.getElem?_set] at e
    by_cases c : j = b
    · rw [if_pos c, if_pos lj] at e
      cases e
      exact .inl ⟨c.symm, rfl⟩
    · rw [if_neg c] at e
      exact .inr ⟨fun z => c z.symm, e⟩
  refine ⟨by rw [List.length_set]; exact h.len, fun b v e => ?_, fun b c v u e1 e2 hc => ?_⟩
  · rw [cs]
    rcases old e with ⟨rfl, rfl⟩ | ⟨ne', e'⟩
    · rw [if_pos rfl]
      exact ⟨Rat.mul_pos w0 (stepF_pos hs), (zw.mul zq).mono (by omega), _, hp.app (Path.one hs)⟩
    · rw [if_neg ne']
      obtain ⟨a1, a2, a3⟩ := h.ent b v e'
      exact ⟨a1, a2.mono (by omega), a3⟩
  · have cij : Conn M i j := ⟨_, _, Path.one hs⟩
    rcases old e1 with ⟨rfl, rfl⟩ | ⟨ne1, e1'⟩ <;> rcases old e2 with ⟨rfl, rfl⟩ | ⟨ne2, e2'⟩
    · rfl
    · rw [if_pos rfl, if_neg ne2]
      exact h.uni i c w u hi e2' (cij.trans hc)
    · rw [if_neg ne1, if_pos rfl]
      exact h.uni b i v w e1' hi (hc.trans cij.symm)
    · rw [if_neg ne1, if_neg ne2]
      exact h.uni b c v u e1' e2' hc
theorem closed_conn {n t : Nat} {M : List Sg} {kn : List (Option Rat)} (hc : ClosedK M kn) {a b : Int} (h : Conn M a b) : (∃ w, kn[a.toNat]? = some (some w)) → ∃ w, kn[b.toNat]? = some (some w) := by
  obtain ⟨l, q, hp⟩ := h
  induction hp with
  | nil => exact fun h => h
  | cons hs _ ih =>
    intro h
    refine ih ?_
    obtain ⟨x, q0, h0, hx, hq, hcs⟩ := stepF_get hs
    have := hc x (List.mem_of_getElem? hx)
    rcases hcs with ⟨_, rfl, rfl, _⟩ | ⟨_, rfl, rfl, _⟩
    · exact this.mp h
    · exact this.mpr h
theorem CanI.root {n : Nat} {M : List Sg} {kn : List (Option Rat)} {rt : Nat → Int} (h : CanI n M kn rt) (hc : ClosedK M kn) {j : Nat} (hj : kn[j]? = some none) : CanI n M (kn.set j (some 1)) (fun b => if b = j then (j : Int) else rt b) := by
  have lj := lt_of_get hj
  have cs := cnt_set (w := 1) hj
  have old : ∀ {b : Nat} {v : Rat}, (kn.set j (some 1))[b]? = some (some v) → (b = j ∧ v = 1) ∨ (b ≠ j ∧ kn[b]? = some (some v)) := fun {b v} e => by
    rw [List.getElem?_set] at e
    by_cases c : j = b
    · rw [if_pos c, if_pos lj] at e
      cases e
      exact .inl ⟨c.symm, rfl⟩
    · rw [if_neg c] at e
      exact .inr ⟨fun z => c z.symm, e⟩
  have no : ∀ {b : Nat} {v : Rat}, kn[b]? = some (some v) → ¬ Conn M b j := fun {b v} e hcn => by
    obtain ⟨w, ew⟩ := closed_conn (n := 0) (t := 0) hc hcn ⟨v, by rw [Int.toNat_natCast]; exact e⟩
    rw [Int.toNat_natCast, hj] at ew
    cases ew
  refine ⟨by rw [List.length_set]; exact h.len, fun b v e => ?_, fun b c v u e1 e2 hcn => ?_⟩
  · rw [cs]
    rcases old e with ⟨rfl, rfl⟩ | ⟨ne', e'⟩
    · rw [if_pos rfl]
      exact ⟨by decide, (⟨by decide, by decide⟩ : Sz 1 1).mono (by omega), _, .nil _⟩
    · rw [if_neg ne']
      obtain ⟨a1, a2, a3⟩ := h.ent b v e'
      exact ⟨a1, a2.mono (by omega), a3⟩
  · rcases old e1 with ⟨rfl, rfl⟩ | ⟨ne1, e1'⟩ <;> rcases old e2 with ⟨rfl, rfl⟩ | ⟨ne2, e2'⟩
    · rfl
    · exact absurd hcn.symm (no e2')
    · exact absurd hcn (no e1')
    · rw [if_neg ne1, if_neg ne2]
      exact h.uni b c v u e1' e2' hcn
/-- all known: the last test tells whether weights do all -/
theorem can_end {n : Nat} {M : List Sg} {kn : List (Option Rat)} {rt : Nat → Int} (h : CanI n M kn rt) (ha : AllS M) (he : ∀ x ∈ M, SgE n x) (hk : ∀ b : Nat, b < n → ∃ w, kn[b]? = some (some w)) :
    (M.all fun x => decide (((kn[x.j.toNat]?.getD none).getD 0) = ((kn[x.i.toNat]?.getD none).getD 0) * x.shr)) = true ↔ ConsM M := by
  have at_ : ∀ x ∈ M, ∃ wi wj q, kn[x.i.toNat]? = some (some wi) ∧ kn[x.j.toNat]? = some (some wj) ∧ x.share = some q ∧ x.shr = q ∧ ((x.i.toNat : Nat) : Int) = x.i ∧ ((x.j.toNat : Nat) : Int) = x.j := fun x hx => by
    have hi := (he x hx).i0
    have hj := (he x hx).j0
    obtain ⟨wi, e1⟩ := hk x.i.toNat (by omega)
    obtain ⟨wj, e2⟩ := hk x.j.toNat (by omega)
    obtain ⟨q, hq⟩ := ha x hx
    exact ⟨wi, wj, q, e1, e2, hq, by unfold Sg.shr; rw [hq]; rfl, by omega, by omega⟩
  constructor
  · intro hall
    have hall := List.all_eq_true.mp hall
    refine ⟨fun b => if 0 < (kn[b.toNat]?.getD none).getD 0 then (kn[b.toNat]?.getD none).getD 0 else 1, fun b => ?_, fun p a b r hs => ?_⟩
    · show 0 < (if 0 < (kn[b.toNat]?.getD none).getD 0 then (kn[b.toNat]?.getD none).getD 0 else (1 : Rat))
      split
      · assumption
      · decide
    · obtain ⟨x, q0, h0, hx, hq, hc⟩ := stepF_get hs
      have mx := List.mem_of_getElem? hx
      obtain ⟨wi, wj, q, e1, e2, e3, e4, e5, e6⟩ := at_ x mx
      rw [hq] at e3
      cases e3
      have hd := of_decide_eq_true (hall x mx)
      rw [e1, e2, e4] at hd
      have hd : wj = wi * q0 := hd
      have p1 := (h.ent _ _ e1).1
      have p2 := (h.ent _ _ e2).1
      have s1 : (if 0 < (kn[x.i.toNat]?.getD none).getD 0 then (kn[x.i.toNat]?.getD none).getD 0 else 1) = wi := by rw [e1]; exact if_pos p1
      have s2 : (if 0 < (kn[x.j.toNat]?.getD none).getD 0 then (kn[x.j.toNat]?.getD none).getD 0 else 1) = wj := by rw [e2]; exact if_pos p2
      rcases hc with ⟨_, rfl, rfl, rfl⟩ | ⟨_, rfl, rfl, rfl⟩
      · simp only [s1, s2]; exact hd
      · simp only [s1, s2]
        have qi := Rat.mul_inv_cancel q0 (by have := share_pos hq; grind)
        rw [hd, Rat.div_def, Rat.one_mul, Rat.mul_assoc, qi, Rat.mul_one]
  · rintro ⟨W, hW0, hW⟩
    refine List.all_eq_true.mpr fun x hx => decide_eq_true ?_
    obtain ⟨wi, wj, q, e1, e2, e3, e4, e5, e6⟩ := at_ x hx
    rw [e1, e2, e4]
    show wj = wi * q
    obtain ⟨k, hk⟩ := List.mem_iff_getElem?.mp hx
    have hs := (stepF_mk hk e3).1
    obtain ⟨_, _, li, pi⟩ := h.ent _ _ e1
    obtain ⟨_, _, lj, pj⟩ := h.ent _ _ e2
    have cn : Conn M x.i x.j := ⟨_, _, Path.one hs⟩
    have hr := h.uni _ _ _ _ e1 e2 (by rw [e5, e6]; exact cn)
    have d1 := Path.does (f := W) (fun p a b r h => hW p a b r h) pi
    have d2 := Path.does (f := W) (fun p a b r h => hW p a b r h) pj
    have d3 := hW _ _ _ _ hs
    rw [e5] at d1
    rw [e6, ← hr] at d2
    have w0 := hW0 (rt x.i.toNat)
    have wc := Rat.mul_inv_cancel _ (show W (rt x.i.toNat) ≠ 0 by grind)
    generalize W (rt x.i.toNat) = c at *
    have : c * wj = c * (wi * q) := by rw [← d2, d3, d1, Rat.mul_assoc]
    calc wj = (c * c⁻¹) * wj := by rw [wc, Rat.one_mul]
      _ = (c * wj) * c⁻¹ := by grind
      _ = (c * (wi * q)) * c⁻¹ := by rw [this]
      _ = (c * c⁻¹) * (wi * q) := by grind
      _ = wi * q := by rw [wc, Rat.one_mul]
theorem dR_inv {q : Rat} (h : 0 < q) : PyData.tuple [.int (q.den : Int), .int q.num] = dR (1 / q) := by
  have hn := rat_num_pos h
  unfold dR
  rw [Rat.div_def, Rat.one_mul, Rat.num_inv, Rat.den_inv, Int.sign_eq_one_of_pos hn, Int.one_mul, if_neg (by omega)]
  have : ((q.num.natAbs : Nat) : Int) = q.num := by omega
  rw [this]
theorem ixN_int {m : Nat} {i : Int} (h0 : 0 ≤ i) (h1 : i < m) : ixN m i = some i.toNat := by
  obtain ⟨j, rfl⟩ : ∃ j : Nat, i = j := ⟨i.toNat, by omega⟩
  unfold ixN
  simp
  omega
theorem norep {n b : Nat} {w : Rat} : (List.replicate n (none : Option Rat))[b]? ≠ some (some w) := fun e => by
  rw [List.getElem?_replicate] at e
  split at e <;> cases e
theorem w_law_can {K : KF} (W : WX) (ds : List DV) (Ω : Om) (R : DV → Om → Prop) (X : Exc → Om → Prop) (h : sp_law_can K ds Ω R X) : WS K W (t_law_can K W) (startG 10 ds) Ω (fnO Ω R X) := by
  obtain ⟨n, M, rfl, hn, ha, he, hl, q⟩ := h
  show WS K W (t_law_can K W) [some (.d (.int n)), some (.d (.list (M.map dSg))), none, none, none, none, none, none, none, none] Ω _
  unfold t_law_can
  walk_at "hl"
  refine wr_repO (by omega) ?_
  walk_at "hl"
  obtain ⟨S0, hS0⟩ : ∃ S0, Ω ++ [OC.lst [.d .none]] = S0 := ⟨_, rfl⟩
  have eS : Ω.length + 1 = S0.length := by rw [← hS0]; simp
  rw [hS0, eS, show (List.replicate n (DV.d PyData.none)) = (List.replicate n (none : Option Rat)).map fun o => DV.d (dO o) by rw [List.map_replicate]; rfl]
  refine we_lcP (α := Sg) only1 (wi_L dSg M ?_)
  walk_at "hl"
  refine ⟨rfl, M, fun x => .d (dSg x), fun _ => true, fun x => dSh x, rfl, by omega, rfl, fun _ => trivial, ?_, ?_⟩
  · rintro x Ω' hx ⟨ds, rfl⟩
    walk_at "hl"
    refine ⟨rfl, rfl, fun _ => ?_⟩
    walk_at "hl"
    refine ⟨x, 60, rfl, (he x hx).ok, by decide, ?_⟩
    obtain ⟨qq, hq⟩ := ha x hx
    rw [hq]
    walk_at "hl"
    exact ⟨by show DV.d (.tuple [.int x.i, .int x.j, dO (some qq)]) = .d (.tuple [.int x.i, .int x.j, dR x.shr]); unfold Sg.shr; rw [hq]; rfl, rfl⟩
  rw [filter_yes]
  walk_at "hl"
  dsimp only [List.set]
  have rd : ∀ (kn : List (Option Rat)) (T : Om) (a : Int) (o : Option Rat) (R' : DV → Om → Prop), 0 ≤ a → kn[a.toNat]? = some o → R' (.d (dO o)) (S0 ++ [.lst (kn.map fun o => DV.d (dO o))]) → WR K (rIx K) (.o S0.length) (.d (.int a)) (S0 ++ [.lst (kn.map fun o => DV.d (dO o))]) R' := fun kn T a o R' h0 e hR =>
    wr_ix (sq_last _ _) (by
      obtain ⟨j, rfl⟩ : ∃ j : Nat, a = j := ⟨a.toNat, by omega⟩
      rw [Int.toNat_natCast] at e
      exact atI_nat (by rw [List.getElem?_map, e]; rfl)) hR
  refine ws_for (wi_rng1 ?_)
  walk_at "hl"
  refine ⟨n, rfl, by omega, by omega, ?_⟩
  refine ⟨fun i Γ Ω1 => ∃ (kn : List (Option Rat)) (rt : Nat → Int) (c4 c5 c6 c7 c8 c9 : Option DV), Γ = [some (.d (.int n)), some (.d (.list (M.map dSg))), some (.o S0.length), some (.d (.list (M.map dSh))), c4, c5, c6, c7, c8, c9] ∧ Ω1 = S0 ++ [.lst (kn.map fun o => DV.d (dO o))] ∧ CanI n M kn rt ∧ ClosedK M kn ∧ ∀ b : Nat, b < i → ∃ w, kn[b]? = some (some w),
    ⟨List.replicate n none, fun _ => 0, _, _, _, _, _, _, rfl, rfl, ?_, ?_, fun b hb => by omega⟩, ?_, ?_, ?_⟩
  · exact ⟨by simp, fun b w e => absurd e norep, fun b c w v e _ _ => absurd e norep⟩
  · exact fun x hx => ⟨fun ⟨w, e⟩ => absurd e norep, fun ⟨w, e⟩ => absurd e norep⟩
  · rintro i Γ Ω1 - ⟨kn, rt, c4, c5, c6, c7, c8, c9, rfl, rfl, -, -, -⟩
    exact ⟨trivial, by simp⟩
  · rintro i y Γ Ω1 hy ⟨kn, rt, c4, c5, c6, c7, c8, c9, rfl, rfl, ci, hcl, hkn⟩
    obtain ⟨hi, rfl⟩ := rng_get hy
    rw [Int.zero_add]
    have hil : i < kn.length := by rw [ci.len]; exact hi
    obtain ⟨o, ho⟩ : ∃ o, kn[i]? = some o := ⟨_, List.getElem?_eq_getElem hil⟩
    walk_at "hl"
    refine rd kn [] i o _ (by omega) (by rw [Int.toNat_natCast]; exact ho) ?_
    walk_at "hl"
    dsimp only [List.set]
    have ek : ∀ {kn' : List (Option Rat)} {b' j : Nat} {w : Rat}, (∃ w, kn'[b']? = some (some w)) → ∃ v, (kn'.set j (some w))[b']? = some (some v) := fun {kn' b' j w} ⟨v, e⟩ => by
      rw [List.getElem?_set]
      by_cases c : j = b'
      · rw [if_pos c, if_pos (by rw [c]; exact lt_of_get e)]; exact ⟨w, rfl⟩
      · rw [if_neg c]; exact ⟨v, e⟩
    refine ws_cut (fun Γ Ω1 => ∃ (kn' : List (Option Rat)) (rt' : Nat → Int) (g : Bool), Γ = [some (.d (.int n)), some (.d (.list (M.map dSg))), some (.o S0.length), some (.d (.list (M.map dSh))), some (.d (.int i)), some (.d (.bool g)), c6, c7, c8, c9] ∧ Ω1 = S0 ++ [.lst (kn'.map fun o => DV.d (dO o))] ∧ CanI n M kn' rt' ∧ (g = false → ClosedK M kn') ∧ ∀ b : Nat, b < i + 1 → ∃ w, kn'[b]? = some (some w)) ?_ ?_
    rotate_left
    · cases o with
      | some w =>
        walk_at "hl"
        refine bF rfl ?_
        walk_at "hl"
        refine ⟨kn, rt, false, rfl, rfl, ci, fun _ => hcl, fun b hb => ?_⟩
        by_cases e : b = i
        · subst e; exact ⟨w, ho⟩
        · exact hkn b (by omega)
      | none =>
        walk_at "hl"
        refine bT rfl ?_
        walk_at "hl"
        refine wg_subL (W := W) ?_ trivial
        walk_at "hl"
        refine ⟨S0.length, _, (i : Int), i, rfl, rfl, get_last _ _, by unfold ixN; rw [List.length_map, ci.len]; simp; omega, ?_⟩
        rw [set_last]
        refine ⟨kn.set i (some 1), fun b => if b = i then (i : Int) else rt b, true, rfl, ?_, ci.root hcl ho, fun h => (by cases h), fun b hb => ?_⟩
        · rw [List.map_set]; rfl
        · by_cases e : b = i
          · subst e
            exact ⟨1, by rw [List.getElem?_set, if_pos rfl, if_pos hil]⟩
          · exact ek (hkn b (by omega))
    rintro Γ Ω1 ⟨kn', rt', g, rfl, rfl, ci', hcl', hkn'⟩
    refine ws_while (fun m Γ Ω1 => ∃ (kn' : List (Option Rat)) (rt' : Nat → Int) (g : Bool) (c6 c7 c8 : Option DV), Γ = [some (.d (.int n)), some (.d (.list (M.map dSg))), some (.o S0.length), some (.d (.list (M.map dSh))), some (.d (.int i)), some (.d (.bool g)), c6, c7, c8, c9] ∧ Ω1 = S0 ++ [.lst (kn'.map fun o => DV.d (dO o))] ∧ CanI n M kn' rt' ∧ (g = false → ClosedK M kn') ∧ (∀ b : Nat, b < i + 1 → ∃ w, kn'[b]? = some (some w)) ∧ 2 * (n - cntK kn') + (if g = true then 1 else 0) = m) (2 * (n - cntK kn') + (if g = true then 1 else 0)) ⟨kn', rt', g, _, _, _, rfl, rfl, ci', hcl', hkn', rfl⟩ ?_
    clear hcl' hkn' ci'
    rintro m Γ Ω1 - ⟨kn', rt', g, d6, d7, d8, rfl, rfl, ci', hcl', hkn', em⟩
    cases g with
    | false =>
      walk_at "hl"
      refine bF rfl ?_
      exact ⟨kn', rt', _, _, _, _, _, _, rfl, rfl, ci', hcl' rfl, hkn'⟩
    | true =>
      walk_at "hl"
      refine bT rfl ?_
      walk_at "hl"
      dsimp only [List.set]
      refine ws_for (wi_L dSh M ?_)
      walk_at "hl"
      refine ⟨rfl, ?_⟩
      refine ⟨fun j Γ Ω1 => ∃ (k2 : List (Option Rat)) (rt2 : Nat → Int) (g : Bool) (c6 c7 c8 : Option DV), Γ = [some (.d (.int n)), some (.d (.list (M.map dSg))), some (.o S0.length), some (.d (.list (M.map dSh))), some (.d (.int i)), some (.d (.bool g)), c6, c7, c8, c9] ∧ Ω1 = S0 ++ [.lst (k2.map fun o => DV.d (dO o))] ∧ CanI n M k2 rt2 ∧ (∀ b : Nat, b < i + 1 → ∃ w, k2[b]? = some (some w)) ∧
        (g = false → k2 = kn' ∧ ∀ x ∈ M.take j, (∃ w, kn'[x.i.toNat]? = some (some w)) ↔ ∃ w, kn'[x.j.toNat]? = some (some w)) ∧ (g = true → cntK kn' < cntK k2), ⟨kn', rt', false, _, _, _, rfl, rfl, ci', hkn', fun _ => ⟨rfl, fun x hx => (by simp at hx)⟩, fun h => (by cases h)⟩, ?_, ?_, ?_⟩
      · rintro j Γ Ω1 - ⟨k2, rt2, g, c6, c7, c8, rfl, rfl, -⟩
        exact ⟨trivial, by simp⟩
      · rintro j y Γ Ω1 hy ⟨k2, rt2, g, c6, c7, c8, rfl, rfl, c2, hk2, hg0, hg1⟩
        obtain ⟨x, rfl, gx, mx, ix, tx⟩ := lmap_get hy
        have hxi := (he x mx).i0
        have hxj := (he x mx).j0
        have cl2 := c2.len
        obtain ⟨oi, hoi⟩ : ∃ o, k2[x.i.toNat]? = some o := ⟨_, List.getElem?_eq_getElem (by omega)⟩
        obtain ⟨oj, hoj⟩ : ∃ o, k2[x.j.toNat]? = some o := ⟨_, List.getElem?_eq_getElem (by omega)⟩
        have ei : ((x.i.toNat : Nat) : Int) = x.i := by omega
        have ej : ((x.j.toNat : Nat) : Int) = x.j := by omega
        obtain ⟨qq, hq⟩ := ha x mx
        have es : x.shr = qq := by unfold Sg.shr; rw [hq]; rfl
        obtain ⟨zq, q0⟩ := share_sz (he x mx).ok (by decide) hq
        have zq2 := sz_inv zq q0 (by decide)
        obtain ⟨s1, s2⟩ := stepF_mk gx hq
        have cle : cntK k2 ≤ 8 := by have := cnt_le k2; omega
        refine wg_tup (xs := [.int x.i, .int x.j, dR x.shr]) rfl (show WGs K _ [.d (.int x.i), .d (.int x.j), .d (dR x.shr)] _ _ _ from ?_)
        rw [es]
        walk_at "hl"
        dsimp only [List.set]
        refine ws_go ?_
        cases oi with
        | none =>
          cases oj with
          | none =>
            walk_at "hl"
            refine rd k2 [] x.i none _ hxi.1 hoi ?_
            walk_at "hl"
            refine bF rfl ?_
            walk_at "hl"
            try (refine bF rfl ?_; walk_at "hl")
            refine rd k2 [] x.j none _ hxj.1 hoj ?_
            walk_at "hl"
            refine bF rfl ?_
            walk_at "hl"
            try (refine bF rfl ?_; walk_at "hl")
            refine ⟨k2, rt2, g, _, _, _, rfl, rfl, c2, hk2, fun h => ?_, hg1⟩
            obtain ⟨rfl, h2⟩ := hg0 h
            refine ⟨rfl, fun x' hx' => ?_⟩
            rw [tx] at hx'
            rcases List.mem_append.mp hx' with hx' | hx'
            · exact h2 x' hx'
            · rw [List.mem_singleton.mp hx', hoi, hoj]
          | some wj =>
            obtain ⟨pj, zj, -⟩ := c2.ent _ _ hoj
            walk_at "hl"
            refine rd k2 [] x.i none _ hxi.1 hoi ?_
            walk_at "hl"
            refine bF rfl ?_
            walk_at "hl"
            try (refine bF rfl ?_; walk_at "hl")
            refine rd k2 [] x.j (some wj) _ hxj.1 hoj ?_
            walk_at "hl"
            refine bT rfl ?_
            walk_at "hl"
            refine rd k2 [] x.i none _ hxi.1 hoi ?_
            walk_at "hl"
            refine bT rfl ?_
            walk_at "hl"
            try (refine bT rfl ?_; walk_at "hl")
            refine rd k2 [] x.j (some wj) _ hxj.1 hoj ?_
            walk_at "hl"
            refine ⟨wj, 1 / qq, by rw [← dR_inv q0]; rfl, ⟨_, _, zj, zq2, by omega⟩, ?_⟩
            walk_at "hl"
            refine wg_subL (W := W) ?_ trivial
            walk_at "hl"
            refine ⟨S0.length, _, x.i, x.i.toNat, rfl, rfl, get_last _ _, ixN_int hxi.1 (by rw [List.length_map]; omega), ?_⟩
            rw [set_last]
            walk_at "hl"
            have cs := cnt_set (w := wj * (1 / qq)) hoi
            refine ⟨k2.set x.i.toNat (some (wj * (1 / qq))), _, true, _, _, _, rfl, by rw [List.map_set]; rfl, c2.edge hoj hoi (by rw [ei, ej]; exact s2) zq2, fun b hb => ek (hk2 b hb), fun h => (by cases h), fun _ => ?_⟩
            cases g with
            | false => obtain ⟨rfl, _⟩ := hg0 rfl; omega
            | true => have := hg1 rfl; omega
        | some wi =>
          obtain ⟨pi, zi, -⟩ := c2.ent _ _ hoi
          cases oj with
          | none =>
            walk_at "hl"
            refine rd k2 [] x.i (some wi) _ hxi.1 hoi ?_
            walk_at "hl"
            refine bT rfl ?_
            walk_at "hl"
            refine rd k2 [] x.j none _ hxj.1 hoj ?_
            walk_at "hl"
            refine bT rfl ?_
            walk_at "hl"
            try (refine bT rfl ?_; walk_at "hl")
            refine rd k2 [] x.i (some wi) _ hxi.1 hoi ?_
            walk_at "hl"
            refine ⟨wi, qq, rfl, ⟨_, _, zi, zq, by omega⟩, ?_⟩
            walk_at "hl"
            refine wg_subL (W := W) ?_ trivial
            walk_at "hl"
            refine ⟨S0.length, _, x.j, x.j.toNat, rfl, rfl, get_last _ _, ixN_int hxj.1 (by rw [List.length_map]; omega), ?_⟩
            rw [set_last]
            have cs := cnt_set (w := wi * qq) hoj
            have c3 := c2.edge hoi hoj (by rw [ei, ej]; exact s1) (zq.mono (by decide))
            have ne : x.i.toNat ≠ x.j.toNat := fun e => by rw [e, hoj] at hoi; cases hoi
            have hoi3 : (k2.set x.j.toNat (some (wi * qq)))[x.i.toNat]? = some (some wi) := by rw [List.getElem?_set_ne (Ne.symm ne)]; exact hoi
            have hoj3 : (k2.set x.j.toNat (some (wi * qq)))[x.j.toNat]? = some (some (wi * qq)) := get_set (by omega)
            have em3 : (k2.map fun o => DV.d (dO o)).set x.j.toNat (.d (dR (wi * qq))) = (k2.set x.j.toNat (some (wi * qq))).map fun o => DV.d (dO o) := by rw [List.map_set]; rfl
            rw [em3]
            walk_at "hl"
            refine rd _ [] x.j (some (wi * qq)) _ hxj.1 hoj3 ?_
            walk_at "hl"
            refine bT rfl ?_
            walk_at "hl"
            refine rd _ [] x.i (some wi) _ hxi.1 hoi3 ?_
            walk_at "hl"
            refine bF rfl ?_
            walk_at "hl"
            try (refine bF rfl ?_; walk_at "hl")
            refine ⟨k2.set x.j.toNat (some (wi * qq)), _, true, _, _, _, rfl, rfl, c3, fun b hb => ek (hk2 b hb), fun h => (by cases h), fun _ => ?_⟩
            cases g with
            | false => obtain ⟨rfl, _⟩ := hg0 rfl; omega
            | true => have := hg1 rfl; omega
          | some wj =>
            walk_at "hl"
            refine rd k2 [] x.i (some wi) _ hxi.1 hoi ?_
            walk_at "hl"
            refine bT rfl ?_
            walk_at "hl"
            refine rd k2 [] x.j (some wj) _ hxj.1 hoj ?_
            walk_at "hl"
            refine bF rfl ?_
            walk_at "hl"
            try (refine bF rfl ?_; walk_at "hl")
            refine rd k2 [] x.j (some wj) _ hxj.1 hoj ?_
            walk_at "hl"
            refine bT rfl ?_
            walk_at "hl"
            refine rd k2 [] x.i (some wi) _ hxi.1 hoi ?_
            walk_at "hl"
            refine bF rfl ?_
            walk_at "hl"
            try (refine bF rfl ?_; walk_at "hl")
            refine ⟨k2, rt2, g, _, _, _, rfl, rfl, c2, hk2, fun h => ?_, hg1⟩
            obtain ⟨rfl, h2⟩ := hg0 h
            refine ⟨rfl, fun x' hx' => ?_⟩
            rw [tx] at hx'
            rcases List.mem_append.mp hx' with hx' | hx'
            · exact h2 x' hx'
            · rw [List.mem_singleton.mp hx']
              exact ⟨fun _ => ⟨wj, hoj⟩, fun _ => ⟨wi, hoi⟩⟩
      · rintro Γ Ω1 ⟨k2, rt2, g, c6, c7, c8, rfl, rfl, c2, hk2, hg0, hg1⟩
        have cl2 := c2.len
        have cle : cntK k2 ≤ n := by have := cnt_le k2; omega
        rw [if_pos rfl] at em
        cases g with
        | false =>
          obtain ⟨rfl, hcl2⟩ := hg0 rfl
          rw [List.take_of_length_le (by rw [List.length_map]; exact Nat.le_refl _)] at hcl2
          exact ⟨2 * (n - cntK k2) + 0, by omega, k2, rt2, false, _, _, _, rfl, rfl, c2, fun _ => hcl2, hk2, rfl⟩
        | true =>
          have := hg1 rfl
          exact ⟨2 * (n - cntK k2) + 1, by omega, k2, rt2, true, _, _, _, rfl, rfl, c2, fun h => (by cases h), hk2, rfl⟩
  · rintro Γ Ω1 ⟨kn, rt, c4, c5, c6, c7, c8, c9, rfl, rfl, ci, hcl, hkn⟩
    have hkn : ∀ b : Nat, b < n → ∃ w, kn[b]? = some (some w) := fun b hb => hkn b (by rw [List.length_map, List.length_range]; exact hb)
    have fin := can_end ci ha he hkn
    show WS K W _ _ _ _
    refine ws_ret ?_
    walk_at "hl"
    refine we_lcP (α := Sg) only3 (wi_L dSh M ?_)
    walk_at "hl"
    refine ⟨rfl, M, fun x => .d (dSh x), fun _ => true, fun x => .bool (decide (((kn[x.j.toNat]?.getD none).getD 0) = ((kn[x.i.toNat]?.getD none).getD 0) * x.shr)), rfl, by omega, rfl, fun _ => trivial, ?_, ?_⟩
    · rintro x Ω' mx ⟨ds, rfl⟩
      have hxi := (he x mx).i0
      have hxj := (he x mx).j0
      obtain ⟨wi, ei⟩ := hkn x.i.toNat (by omega)
      obtain ⟨wj, ej⟩ := hkn x.j.toNat (by omega)
      obtain ⟨qq, hq⟩ := ha x mx
      have es : x.shr = qq := by unfold Sg.shr; rw [hq]; rfl
      obtain ⟨zq, q0⟩ := share_sz (he x mx).ok (by decide) hq
      obtain ⟨pi, zi, -⟩ := ci.ent _ _ ei
      have cle : cntK kn ≤ 8 := by have := cnt_le kn; have := ci.len; omega
      have rd2 : ∀ (a : Int) (o : Option Rat) (R' : DV → Om → Prop), 0 ≤ a → kn[a.toNat]? = some o → R' (.d (dO o)) (S0 ++ [.lst (kn.map fun o => DV.d (dO o))] ++ [OC.lst ds]) → WR K (rIx K) (.o S0.length) (.d (.int a)) (S0 ++ [.lst (kn.map fun o => DV.d (dO o))] ++ [OC.lst ds]) R' := fun a o R' h0 e hR =>
        wr_ix (ds := kn.map fun o => DV.d (dO o)) (by show sqO _ = _; rw [get_app (get_last S0 (.lst (kn.map fun o => DV.d (dO o))))]; rfl) (by
          obtain ⟨j, rfl⟩ : ∃ j : Nat, a = j := ⟨a.toNat, by omega⟩
          rw [Int.toNat_natCast] at e
          exact atI_nat (by rw [List.getElem?_map, e]; rfl)) hR
      refine wg_tup (xs := [.int x.i, .int x.j, dR x.shr]) rfl (show WGs K _ [.d (.int x.i), .d (.int x.j), .d (dR x.shr)] _ _ _ from ?_)
      rw [es]
      walk_at "hl"
      refine ⟨rfl, rfl, fun _ => ?_⟩
      walk_at "hl"
      refine rd2 x.j (some wj) _ hxj.1 ej ?_
      walk_at "hl"
      refine rd2 x.i (some wi) _ hxi.1 ei ?_
      walk_at "hl"
      refine ⟨wi, qq, rfl, ⟨_, _, zi, zq, by omega⟩, ?_⟩
      refine wr_eqR ?_
      exact ⟨by show DV.d (.bool (decide (wj = wi * qq))) = .d (.bool (decide (((kn[x.j.toNat]?.getD none).getD 0) = ((kn[x.i.toNat]?.getD none).getD 0) * x.shr))); rw [ei, ej, es]; rfl, rfl⟩
    rw [filter_yes]
    walk_at "hl"
    refine wc_all (bs := M.map fun x => decide (((kn[x.j.toNat]?.getD none).getD 0) = ((kn[x.i.toNat]?.getD none).getD 0) * x.shr)) (by show some (M.map _) = some _; rw [List.map_map]; rfl) ?_
    rw [List.all_map]
    have eΩ : S0 ++ [OC.lst (kn.map fun o => DV.d (dO o))] = Ω ++ ([OC.lst [.d .none]] ++ [OC.lst (kn.map fun o => DV.d (dO o))]) := by rw [← hS0, List.append_assoc]
    rw [eΩ]
    exact dr_app (q _ fin) (fun i z => by cases z)
theorem sp_len_law_can {K : KF} (ds : List DV) (Ω : Om) (R : DV → Om → Prop) (X : Exc → Om → Prop) (h : sp_law_can K ds Ω R X) : ds.length = 2 := by
  unfold sp_law_can at h
  first
    | (obtain ⟨rfl, _⟩ := h; rfl)
    | (obtain ⟨_, rfl, _⟩ := h; rfl)
    | (obtain ⟨_, _, rfl, _⟩ := h; rfl)
    | (obtain ⟨_, _, _, rfl, _⟩ := h; rfl)
    | (obtain ⟨_, _, _, _, rfl, _⟩ := h; rfl)
    | (obtain ⟨_, _, _, _, _, rfl, _⟩ := h; rfl)
    | (obtain ⟨_, _, _, _, _, _, rfl, _⟩ := h; rfl)
    | (obtain ⟨_, _, _, _, _, _, _, rfl, _⟩ := h; rfl)
    | (obtain ⟨_, _, _, _, _, _, _, _, rfl, _⟩ := h; rfl)
    | (obtain ⟨_, _, _, _, _, _, _, _, _, rfl, _⟩ := h; rfl)
    | (obtain ⟨_, _, _, _, _, _, _, _, _, _, rfl, _⟩ := h; rfl)
    | (obtain ⟨_, _, _, _, _, _, _, _, _, _, _, rfl, _⟩ := h; rfl)
    | (obtain ⟨_, _, _, _, _, _, _, _, _, _, _, _, rfl, _⟩ := h; rfl)
    | (obtain ⟨_, _, _, _, _, _, _, _, _, _, _, _, _, rfl, _⟩ := h; rfl)
    | (obtain ⟨_, _, _, _, _, _, _, _, _, _, _, _, _, rfl, _⟩ := h; rfl)
    | (obtain ⟨_, _, _, _, _, _, _, _, _, _, _, _, _, _, rfl, _⟩ := h; rfl)
    | (obtain ⟨_, _, _, _, _, _, _, _, _, _, _, _, _, _, _, rfl, _⟩ := h; rfl)
    | (obtain ⟨_, _, _, _, _, _, _, _, _, _, _, _, _, _, _, _, rfl, _⟩ := h; rfl)
    | (obtain ⟨_, _, _, _, _, _, _, _, _, _, _, _, _, _, _, _, _, rfl, _⟩ := h; rfl)
    | (obtain ⟨_, _, _, _, _, _, _, _, _, _, _, _, _, _, _, _, _, _, rfl, _⟩ := h; rfl)
    | (obtain ⟨_, _, _, _, _, _, _, _, _, _, _, _, _, _, _, _, _, _, _, rfl, _⟩ := h; rfl)
    | (obtain ⟨_, _, _, _, _, _, _, _, _, _, _, _, _, _, _, _, _, _, _, _, rfl, _⟩ := h; rfl)
    | (obtain ⟨_, _, _, _, _, _, _, _, _, _, _, _, _, _, _, _, _, _, _, _, _, rfl, _⟩ := h; rfl)
/-- any whole number -/
def sp_law_cell (K : KF) : Spec := fun ds Ω R X => ∃ (s : DV) (ns : List Int) (k : Int), ds = [s, .d (.int k)] ∧ lsL Ω s = some (ns.map PyData.int) ∧ 0 ≤ k ∧ k ≤ 1000 ∧ ∀ v : Int, R (.d (.int v)) Ω
def t_law_cell (K : KF) (W : WX) : TS :=
  (tSeq (tIfS (tTest (tOp oLt (tVar 1) (tCB (rLenQ K) (tCons (tVar 0) tNil)))) (tRet (tOp (rIx K) (tVar 0) (tVar 1))) tNext)
    (tRet (tOp (rAddX K) (tOp oMul (tOp oMul (tC (.int 7919)) (tVar 1)) (tVar 1)) (tOp oMul (tC (.int 31)) (tVar 1)))))
theorem lsL_sq {Ω : Om} {s : DV} {xs : List PyData} (h : lsL Ω s = some xs) : sq Ω s = some (xs.map DV.d) := by
  cases s with
  | o i =>
    have h : (sqO Ω[i]?).bind asDs = some xs := h
    show sqO Ω[i]? = _
    cases e : sqO Ω[i]? with
    | none => rw [e] at h; cases h
    | some ds => rw [e] at h; rw [asDs_eq (ds := ds) (xs := xs) h]
  | d y => cases y <;> cases h <;> rfl
  | v y => cases h
  | e _ _ _ _ => cases h
  | t _ => cases h
theorem w_law_cell {K : KF} (W : WX) (ds : List DV) (Ω : Om) (R : DV → Om → Prop) (X : Exc → Om → Prop) (h : sp_law_cell K ds Ω R X) : WS K W (t_law_cell K W) (startG 2 ds) Ω (fnO Ω R X) := by
  obtain ⟨s, ns, k, rfl, hs, h0, h1, q⟩ := h
  show WS K W (t_law_cell K W) [some s, some (.d (.int k))] Ω _
  unfold t_law_cell
  walk_at "hl"
  refine wc_len' (lsL_sq hs) ?_
  walk_at "hl"
  refine ⟨fun h => ?_, fun h => ?_⟩
  · have hk := of_decide_eq_true h
    simp only [List.length_map] at hk
    walk_at "hl"
    obtain ⟨j, rfl⟩ : ∃ j : Nat, k = (j : Int) := ⟨k.toNat, by omega⟩
    have hj : j < ns.length := by omega
    refine wr_ix (lsL_sq hs) (atI_nat (j := j) (v := .d (.int ns[j])) (by simp [hj])) ?_
    exact dr_same (q _)
  · walk_at "hl"
    have hk : CMulX (7919 * k) k := .inl (.inl ⟨by omega, by omega⟩)
    refine wr_mul hk ?_
    walk_at "hl"
    exact dr_same (q _)
theorem sp_len_law_cell {K : KF} (ds : List DV) (Ω : Om) (R : DV → Om → Prop) (X : Exc → Om → Prop) (h : sp_law_cell K ds Ω R X) : ds.length = 2 := by
  unfold sp_law_cell at h
  first
    | (obtain ⟨rfl, _⟩ := h; rfl)
    | (obtain ⟨_, rfl, _⟩ := h; rfl)
    | (obtain ⟨_, _, rfl, _⟩ := h; rfl)
    | (obtain ⟨_, _, _, rfl, _⟩ := h; rfl)
    | (obtain ⟨_, _, _, _, rfl, _⟩ := h; rfl)
    | (obtain ⟨_, _, _, _, _, rfl, _⟩ := h; rfl)
    | (obtain ⟨_, _, _, _, _, _, rfl, _⟩ := h; rfl)
    | (obtain ⟨_, _, _, _, _, _, _, rfl, _⟩ := h; rfl)
    | (obtain ⟨_, _, _, _, _, _, _, _, rfl, _⟩ := h; rfl)
    | (obtain ⟨_, _, _, _, _, _, _, _, _, rfl, _⟩ := h; rfl)
    | (obtain ⟨_, _, _, _, _, _, _, _, _, _, rfl, _⟩ := h; rfl)
    | (obtain ⟨_, _, _, _, _, _, _, _, _, _, _, rfl, _⟩ := h; rfl)
    | (obtain ⟨_, _, _, _, _, _, _, _, _, _, _, _, rfl, _⟩ := h; rfl)
    | (obtain ⟨_, _, _, _, _, _, _, _, _, _, _, _, _, rfl, _⟩ := h; rfl)
    | (obtain ⟨_, _, _, _, _, _, _, _, _, _, _, _, _, rfl, _⟩ := h; rfl)
    | (obtain ⟨_, _, _, _, _, _, _, _, _, _, _, _, _, _, rfl, _⟩ := h; rfl)
    | (obtain ⟨_, _, _, _, _, _, _, _, _, _, _, _, _, _, _, rfl, _⟩ := h; rfl)
    | (obtain ⟨_, _, _, _, _, _, _, _, _, _, _, _, _, _, _, _, rfl, _⟩ := h; rfl)
    | (obtain ⟨_, _, _, _, _, _, _, _, _, _, _, _, _, _, _, _, _, rfl, _⟩ := h; rfl)
    | (obtain ⟨_, _, _, _, _, _, _, _, _, _, _, _, _, _, _, _, _, _, rfl, _⟩ := h; rfl)
    | (obtain ⟨_, _, _, _, _, _, _, _, _, _, _, _, _, _, _, _, _, _, _, rfl, _⟩ := h; rfl)
    | (obtain ⟨_, _, _, _, _, _, _, _, _, _, _, _, _, _, _, _, _, _, _, _, rfl, _⟩ := h; rfl)
    | (obtain ⟨_, _, _, _, _, _, _, _, _, _, _, _, _, _, _, _, _, _, _, _, _, rfl, _⟩ := h; rfl)
/-- a pool of one's own -/
def sp_law_dig (K : KF) : Spec := fun ds Ω R X => ∃ c : Int, ds = [.d (.int c)] ∧ ∀ p, IsPool p → R (.o Ω.length) (Ω ++ [p])
def t_law_dig (K : KF) (W : WX) : TS :=
  (tRet (tLst (tCons (tCB rMaxI (tCons (tC (.int 0)) (tCons (tOp oSub (tVar 0) (tOp oPow (tC (.int 10)) (tC (.int 18)))) tNil))) (tCons (tOp oMod (tVar 0) (tOp oPow (tC (.int 10)) (tC (.int 18)))) (tCons (tC (.int 0)) tNil)))))
theorem w_law_dig {K : KF} (W : WX) (ds : List DV) (Ω : Om) (R : DV → Om → Prop) (X : Exc → Om → Prop) (h : sp_law_dig K ds Ω R X) : WS K W (t_law_dig K W) (startG 1 ds) Ω (fnO Ω R X) := by
  obtain ⟨c, rfl, q⟩ := h
  show WS K W (t_law_dig K W) [some (.d (.int c))] Ω _
  unfold t_law_dig
  refine ws_ret (we_lstO ?_)
  walk_at "hl"
  refine wr_pow ⟨by decide, by decide, by decide⟩ ?_
  walk_at "hl"
  refine wr_pow ⟨by decide, by decide, by decide⟩ ?_
  refine wr_modP (by decide) ?_
  walk_at "hl"
  refine dr_same (q _ ?_)
  exact ⟨_, _, _, rfl, by split <;> omega, Int.emod_nonneg _ (by decide), by omega⟩
theorem sp_len_law_dig {K : KF} (ds : List DV) (Ω : Om) (R : DV → Om → Prop) (X : Exc → Om → Prop) (h : sp_law_dig K ds Ω R X) : ds.length = 1 := by
  unfold sp_law_dig at h
  first
    | (obtain ⟨rfl, _⟩ := h; rfl)
    | (obtain ⟨_, rfl, _⟩ := h; rfl)
    | (obtain ⟨_, _, rfl, _⟩ := h; rfl)
    | (obtain ⟨_, _, _, rfl, _⟩ := h; rfl)
    | (obtain ⟨_, _, _, _, rfl, _⟩ := h; rfl)
    | (obtain ⟨_, _, _, _, _, rfl, _⟩ := h; rfl)
    | (obtain ⟨_, _, _, _, _, _, rfl, _⟩ := h; rfl)
    | (obtain ⟨_, _, _, _, _, _, _, rfl, _⟩ := h; rfl)
    | (obtain ⟨_, _, _, _, _, _, _, _, rfl, _⟩ := h; rfl)
    | (obtain ⟨_, _, _, _, _, _, _, _, _, rfl, _⟩ := h; rfl)
    | (obtain ⟨_, _, _, _, _, _, _, _, _, _, rfl, _⟩ := h; rfl)
    | (obtain ⟨_, _, _, _, _, _, _, _, _, _, _, rfl, _⟩ := h; rfl)
    | (obtain ⟨_, _, _, _, _, _, _, _, _, _, _, _, rfl, _⟩ := h; rfl)
    | (obtain ⟨_, _, _, _, _, _, _, _, _, _, _, _, _, rfl, _⟩ := h; rfl)
    | (obtain ⟨_, _, _, _, _, _, _, _, _, _, _, _, _, rfl, _⟩ := h; rfl)
    | (obtain ⟨_, _, _, _, _, _, _, _, _, _, _, _, _, _, rfl, _⟩ := h; rfl)
    | (obtain ⟨_, _, _, _, _, _, _, _, _, _, _, _, _, _, _, rfl, _⟩ := h; rfl)
    | (obtain ⟨_, _, _, _, _, _, _, _, _, _, _, _, _, _, _, _, rfl, _⟩ := h; rfl)
    | (obtain ⟨_, _, _, _, _, _, _, _, _, _, _, _, _, _, _, _, _, rfl, _⟩ := h; rfl)
    | (obtain ⟨_, _, _, _, _, _, _, _, _, _, _, _, _, _, _, _, _, _, rfl, _⟩ := h; rfl)
    | (obtain ⟨_, _, _, _, _, _, _, _, _, _, _, _, _, _, _, _, _, _, _, rfl, _⟩ := h; rfl)
    | (obtain ⟨_, _, _, _, _, _, _, _, _, _, _, _, _, _, _, _, _, _, _, _, rfl, _⟩ := h; rfl)
    | (obtain ⟨_, _, _, _, _, _, _, _, _, _, _, _, _, _, _, _, _, _, _, _, _, rfl, _⟩ := h; rfl)
--USE HLv
def sp_law_does (K : KF) : Spec := fun ds Ω R X => ∃ (ws : List Int) (s : DV) (xs : List Sg), ds = [.d (.tuple (ws.map PyData.int)), s] ∧ (∀ w ∈ ws, w.natAbs < 2 ^ 8000) ∧ ws ≠ [] ∧ ws.length ≤ 1000 ∧ xs.length ≤ 1000 ∧ SeqS dSg Ω s xs ∧ (∀ x ∈ xs, SgE ws.length x) ∧ R (.d (.bool (doesB ws xs))) Ω
def t_law_does (K : KF) (W : WX) : TS :=
  (tSeq (tIfS (tTest (tOp oLt (tCB (rMinT K) (tCons (tVar 0) tNil)) (tC (.int 1)))) (tRet (tC (.bl false))) tNext)
    (tSeq (tFor (iSeq K (tVar 1)) (gName 2) (tSeq (tAsg (tCall (FS K (sp_law_share K)) [] E0 (tCons (tVar 2) tNil)) (gName 3))
    (tSeq (tIfS (tTest (tOp oIsN (tVar 3) (tC .non))) (tRet (tC (.bl false))) tNext)
    (tSeq (tAsg (tOp oMul (tOp (rIx K) (tVar 0) (tOp (rIx K) (tVar 2) (tC (.int 0)))) (tOp (rIx K) (tVar 3) (tC (.int 0)))) (gName 4))
    (tIfS (tTest (tOp (rNeD K) (tOp oMul (tOp (rIx K) (tVar 0) (tOp (rIx K) (tVar 2) (tC (.int 1)))) (tOp (rIx K) (tVar 3) (tC (.int 1)))) (tVar 4))) (tRet (tC (.bl false))) tNext)))))
    (tRet (tC (.bl true)))))
theorem w_law_does {K : KF} (W : WX) (ds : List DV) (Ω : Om) (R : DV → Om → Prop) (X : Exc → Om → Prop) (h : sp_law_does K ds Ω R X) : WS K W (t_law_does K W) (startG 5 ds) Ω (fnO Ω R X) := by
  obtain ⟨ws, s, xs, rfl, hw, hne, hl, hl2, hs, he, q⟩ := h
  show WS K W (t_law_does K W) [some (.d (.tuple (ws.map PyData.int))), some s, none, none, none] Ω _
  unfold t_law_does
  obtain ⟨w0, wr, hw0⟩ := List.exists_cons_of_ne_nil hne
  walk_at "hl"
  refine wc_minT (n := w0) (ns := wr) (by rw [hw0]) ?_
  walk_at "hl"
  refine ⟨fun h => ?_, fun h => ?_⟩
  · have h := (minOf_lt wr w0).mp (of_decide_eq_true h)
    rw [← hw0] at h
    obtain ⟨w, hm, hlt⟩ := h
    have e : doesB ws xs = false := by
      unfold doesB
      have : (ws.all fun w => decide (1 ≤ w)) = false := Bool.eq_false_iff.mpr fun z => by
        have := of_decide_eq_true (List.all_eq_true.mp z w hm)
        omega
      rw [this, Bool.false_and]
    rw [e] at q
    walk_at "hl"
    exact dr_same q
  have h1 : ∀ w ∈ ws, 1 ≤ w := fun w hm => by
    by_cases hlt : w < 1
    · have := (minOf_lt wr w0).mpr ⟨w, by rw [← hw0]; exact hm, hlt⟩
      rw [decide_eq_true this] at h; cases h
    · omega
  have e : doesB ws xs = xs.all (doneB ws) := by
    unfold doesB
    rw [List.all_eq_true.mpr fun w hm => decide_eq_true (h1 w hm), Bool.true_and]
  rw [e] at q
  walk_at "hl"
  refine ws_for (wi_S dSg xs ?_)
  walk_at "hl"
  refine ⟨hs, ?_⟩
  refine ⟨fun i Γ Ω1 => ∃ c2 c3 c4, Γ = [some (.d (.tuple (ws.map PyData.int))), some s, c2, c3, c4] ∧ Ω1 = Ω ∧ ∀ x ∈ xs.take i, doneB ws x = true, ⟨_, _, _, rfl, rfl, by simp⟩, ?_, ?_, ?_⟩
  · rintro i Γ Ω1 - ⟨c2, c3, c4, rfl, rfl, -⟩
    exact ⟨hs, Nat.le_refl _⟩
  · rintro i y Γ Ω1 hy ⟨c2, c3, c4, rfl, rfl, ha⟩
    obtain ⟨x, rfl, gx, mx, ix, tx⟩ := lmap_get hy
    have hx := he x mx
    have a1 := h1 _ (atW_mem hx.i0.1 hx.i0.2)
    have a2 := h1 _ (atW_mem hx.j0.1 hx.j0.2)
    have ed := done_share a1 a2
    have no : doneB ws x = false → R (.d (.bool false)) Ω1 := fun e => by
      have : xs.all (doneB ws) = false := Bool.eq_false_iff.mpr fun z => by
        rw [List.all_eq_true.mp z x mx] at e; cases e
      rw [this] at q; exact q
    walk_at "hl"
    refine ⟨x, 60, rfl, hx.ok, by decide, ?_⟩
    walk_at "hl"
    cases e : x.share with
    | none =>
      rw [e] at ed
      refine bT rfl ?_
      walk_at "hl"
      exact dr_same (no ed)
    | some sh =>
      rw [e] at ed
      have ed : doneB ws x = decide (atW ws x.j * (sh.den : Int) = atW ws x.i * sh.num) := ed
      obtain ⟨zs, ps⟩ := share_sz hx.ok (by decide) e
      have cm1 : CMulW (atW ws x.i) sh.num := cmul (hw _ (atW_mem hx.i0.1 hx.i0.2)) zs.num (by decide)
      have cm2 : CMulW (atW ws x.j) (sh.den : Int) := cmul (m := 120) (hw _ (atW_mem hx.j0.1 hx.j0.2)) (by rw [Int.natAbs_natCast]; exact zs.den) (by decide)
      refine bF rfl ?_
      show WS K W _ ((([some (.d (.tuple (ws.map PyData.int))), some s, c2, c3, c4].set 2 (some (.d (dSg x)))).set 3 (some (.d (dR sh))))) _ _
      walk_at "hl"
      refine wr_ixT (atW_ix hx.i0.1 hx.i0.2) ?_
      walk_at "hl"
      refine wr_ixT (atW_ix hx.j0.1 hx.j0.2) ?_
      walk_at "hl"
      refine ⟨fun h => ?_, fun h => ?_⟩
      · have h : ¬ atW ws x.j * (sh.den : Int) = atW ws x.i * sh.num := fun e => by rw [decide_eq_true e] at h; cases h
        rw [decide_eq_false h] at ed
        walk_at "hl"
        exact dr_same (no ed)
      · have h : atW ws x.j * (sh.den : Int) = atW ws x.i * sh.num := by
          have : decide (atW ws x.j * (sh.den : Int) = atW ws x.i * sh.num) = true := by revert h; cases decide (atW ws x.j * (sh.den : Int) = atW ws x.i * sh.num) <;> simp
          exact of_decide_eq_true this
        rw [decide_eq_true h] at ed
        walk_at "hl"
        refine ⟨_, _, _, rfl, rfl, ?_⟩
        rw [tx]
        exact all_app ha (all_cons ed all_nil)
  · rintro Γ Ω1 ⟨c2, c3, c4, rfl, rfl, ha⟩
    rw [List.length_map, List.take_length] at ha
    rw [List.all_eq_true.mpr ha] at q
    walk_at "hl"
    exact dr_same q
theorem sp_len_law_does {K : KF} (ds : List DV) (Ω : Om) (R : DV → Om → Prop) (X : Exc → Om → Prop) (h : sp_law_does K ds Ω R X) : ds.length = 2 := by
  unfold sp_law_does at h
  first
    | (obtain ⟨rfl, _⟩ := h; rfl)
    | (obtain ⟨_, rfl, _⟩ := h; rfl)
    | (obtain ⟨_, _, rfl, _⟩ := h; rfl)
    | (obtain ⟨_, _, _, rfl, _⟩ := h; rfl)
    | (obtain ⟨_, _, _, _, rfl, _⟩ := h; rfl)
    | (obtain ⟨_, _, _, _, _, rfl, _⟩ := h; rfl)
    | (obtain ⟨_, _, _, _, _, _, rfl, _⟩ := h; rfl)
    | (obtain ⟨_, _, _, _, _, _, _, rfl, _⟩ := h; rfl)
    | (obtain ⟨_, _, _, _, _, _, _, _, rfl, _⟩ := h; rfl)
    | (obtain ⟨_, _, _, _, _, _, _, _, _, rfl, _⟩ := h; rfl)
    | (obtain ⟨_, _, _, _, _, _, _, _, _, _, rfl, _⟩ := h; rfl)
    | (obtain ⟨_, _, _, _, _, _, _, _, _, _, _, rfl, _⟩ := h; rfl)
    | (obtain ⟨_, _, _, _, _, _, _, _, _, _, _, _, rfl, _⟩ := h; rfl)
    | (obtain ⟨_, _, _, _, _, _, _, _, _, _, _, _, _, rfl, _⟩ := h; rfl)
    | (obtain ⟨_, _, _, _, _, _, _, _, _, _, _, _, _, rfl, _⟩ := h; rfl)
    | (obtain ⟨_, _, _, _, _, _, _, _, _, _, _, _, _, _, rfl, _⟩ := h; rfl)
    | (obtain ⟨_, _, _, _, _, _, _, _, _, _, _, _, _, _, _, rfl, _⟩ := h; rfl)
    | (obtain ⟨_, _, _, _, _, _, _, _, _, _, _, _, _, _, _, _, rfl, _⟩ := h; rfl)
    | (obtain ⟨_, _, _, _, _, _, _, _, _, _, _, _, _, _, _, _, _, rfl, _⟩ := h; rfl)
    | (obtain ⟨_, _, _, _, _, _, _, _, _, _, _, _, _, _, _, _, _, _, rfl, _⟩ := h; rfl)
    | (obtain ⟨_, _, _, _, _, _, _, _, _, _, _, _, _, _, _, _, _, _, _, rfl, _⟩ := h; rfl)
    | (obtain ⟨_, _, _, _, _, _, _, _, _, _, _, _, _, _, _, _, _, _, _, _, rfl, _⟩ := h; rfl)
    | (obtain ⟨_, _, _, _, _, _, _, _, _, _, _, _, _, _, _, _, _, _, _, _, _, rfl, _⟩ := h; rfl)
/-- any number from 0 on, below the base -/
def sp_law_next (K : KF) : Spec := fun ds Ω R X => ∃ (k : Nat) (p : OC) (b : Int), ds = [.o k, .d (.int b)] ∧ Ω[k]? = some p ∧ IsPool p ∧ 0 < b ∧ b ≤ 10 ^ 30 ∧ Drawn k Ω b R
def t_law_next (K : KF) (W : WX) : TS :=
  (tSeq (tIfS (tTest (tOp oGt (tOp (rIx K) (tVar 0) (tC (.int 0))) (tC (.int 0)))) (tSeq (tAsg (tOp oMod (tOp (rIx K) (tVar 0) (tC (.int 0))) (tVar 1)) (gName 2))
    (tSeq (tAsg (tOp oFdiv (tOp (rIx K) (tVar 0) (tC (.int 0))) (tVar 1)) (gSub (tVar 0) (tC (.int 0)) rSetL))
    (tRet (tVar 2)))) tNext)
    (tSeq (tAsg (tOp (rAddX K) (tOp (rIx K) (tVar 0) (tC (.int 2))) (tC (.int 1))) (gSub (tVar 0) (tC (.int 2)) rSetL))
    (tSeq (tAsg (tOp oMod (tOp (rAddX K) (tOp (rIx K) (tVar 0) (tC (.int 1))) (tOp oMul (tC (.int 7919)) (tOp (rIx K) (tVar 0) (tC (.int 2))))) (tC (.int 1000000007))) (gName 3))
    (tSeq (tAsg (tOp oMod (tOp oMul (tOp (rAddX K) (tVar 3) (tC (.int 11))) (tOp (rAddX K) (tVar 3) (tC (.int 48271)))) (tC (.int 998244353))) (gName 4))
    (tRet (tOp oMod (tOp oFdiv (tOp oMod (tOp oMul (tVar 4) (tVar 4)) (tC (.int 2147483647))) (tC (.int 8))) (tVar 1)))))))
theorem small_log {b : Int} (h0 : 0 < b) (h : b ≤ 10 ^ 30) : b.natAbs.log2 < 9000 :=
  Nat.lt_of_lt_of_le (log2_lt (n := 100) (by omega) (by decide)) (by decide)
theorem w_law_next {K : KF} (W : WX) (ds : List DV) (Ω : Om) (R : DV → Om → Prop) (X : Exc → Om → Prop) (h : sp_law_next K ds Ω R X) : WS K W (t_law_next K W) (startG 5 ds) Ω (fnO Ω R X) := by
  obtain ⟨k, p, b, rfl, hp, ⟨a0, a1, a2, rfl, h0, h1, h2⟩, hb, hb2, q⟩ := h
  have hk := lt_of_get hp
  have hs : sq Ω (.o k) = some [.d (.int a0), .d (.int a1), .d (.int a2)] := by show sqO Ω[k]? = _; rw [hp]; rfl
  show WS K W (t_law_next K W) [some (.o k), some (.d (.int b)), none, none, none] Ω _
  unfold t_law_next
  walk_at "hl"
  refine wr_ix hs rfl ?_
  walk_at "hl"
  refine ⟨fun h => ?_, fun h => ?_⟩
  · have ha := of_decide_eq_true h
    walk_at "hl"
    refine wr_ix hs rfl ?_
    walk_at "hl"
    refine wr_modP hb ?_
    walk_at "hl"
    refine wr_ix hs rfl ?_
    walk_at "hl"
    refine wr_fdivP hb (small_log hb hb2) ?_
    refine wg_subL (W := W) ?_ trivial
    walk_at "hl"
    refine ⟨k, _, 0, 0, rfl, rfl, hp, rfl, ?_⟩
    walk_at "hl"
    exact dr_same (q _ _ (Int.emod_nonneg _ (by omega)) (Int.emod_lt_of_pos _ hb) ⟨_, _, _, rfl, Int.ediv_nonneg h0 (by omega), h1, h2⟩)
  · walk_at "hl"
    refine wr_ix hs rfl ?_
    walk_at "hl"
    refine wg_subL (W := W) ?_ trivial
    walk_at "hl"
    refine ⟨k, _, 2, 2, rfl, rfl, hp, rfl, ?_⟩
    have hs' : sq (Ω.set k (.lst [.d (.int a0), .d (.int a1), .d (.int (a2 + 1))])) (.o k) = some [.d (.int a0), .d (.int a1), .d (.int (a2 + 1))] := by
      show sqO _ = _
      rw [get_set hk]
      rfl
    walk_at "hl"
    refine wr_ix hs' rfl ?_
    walk_at "hl"
    refine wr_ix hs' rfl ?_
    walk_at "hl"
    refine wr_modP (by decide) ?_
    have m0 := Int.emod_nonneg (a1 + 7919 * (a2 + 1)) (show (1000000007 : Int) ≠ 0 by decide)
    have m1 := Int.emod_lt_of_pos (a1 + 7919 * (a2 + 1)) (show (0 : Int) < 1000000007 by decide)
    generalize (a1 + 7919 * (a2 + 1)) % 1000000007 = mixed at *
    walk_at "hl"
    refine wr_mul (.inl (.inl ⟨by omega, by omega⟩)) ?_
    walk_at "hl"
    refine wr_modP (by decide) ?_
    have s0 := Int.emod_nonneg ((mixed + 11) * (mixed + 48271)) (show (998244353 : Int) ≠ 0 by decide)
    have s1 := Int.emod_lt_of_pos ((mixed + 11) * (mixed + 48271)) (show (0 : Int) < 998244353 by decide)
    generalize (mixed + 11) * (mixed + 48271) % 998244353 = stir at *
    walk_at "hl"
    refine wr_mul (.inl (.inl ⟨by omega, by omega⟩)) ?_
    walk_at "hl"
    refine wr_modP (by decide) ?_
    walk_at "hl"
    refine wr_fdivP (by decide) (by decide +kernel) ?_
    walk_at "hl"
    refine wr_modP hb ?_
    exact dr_same (q _ _ (Int.emod_nonneg _ (by omega)) (Int.emod_lt_of_pos _ hb) ⟨_, _, _, rfl, h0, h1, by omega⟩)
theorem dn {K : KF} {Ω J : Om} {k : Nat} {p : OC} {b : Int} {R : DV → Om → Prop} {X : Exc → Om → Prop} (hk : k < Ω.length) (ip : IsPool p) (h0 : 0 < b) (h1 : b ≤ 10 ^ 30) (q : ∀ (r : Int) (p' : OC), 0 ≤ r → r < b → IsPool p' → R (.d (.int r)) (Ω.set k p' ++ J)) :
    sp_law_next K [.o k, .d (.int b)] (Ω.set k p ++ J) R X := ⟨k, p, b, rfl, get_app (get_set hk), ip, h0, h1, fun r p' r0 r1 ip' => by rw [set_app hk]; exact q r p' r0 r1 ip'⟩
theorem dn0 {K : KF} {Ω : Om} {k : Nat} {p : OC} {b : Int} {R : DV → Om → Prop} {X : Exc → Om → Prop} (hk : k < Ω.length) (ip : IsPool p) (h0 : 0 < b) (h1 : b ≤ 10 ^ 30) (q : ∀ (r : Int) (p' : OC), 0 ≤ r → r < b → IsPool p' → R (.d (.int r)) (Ω.set k p')) :
    sp_law_next K [.o k, .d (.int b)] (Ω.set k p) R X := ⟨k, p, b, rfl, get_set hk, ip, h0, h1, fun r p' r0 r1 ip' => by rw [List.set_set]; exact q r p' r0 r1 ip'⟩
theorem sp_len_law_next {K : KF} (ds : List DV) (Ω : Om) (R : DV → Om → Prop) (X : Exc → Om → Prop) (h : sp_law_next K ds Ω R X) : ds.length = 2 := by
  unfold sp_law_next at h
  first
    | (obtain ⟨rfl, _⟩ := h; rfl)
    | (obtain ⟨_, rfl, _⟩ := h; rfl)
    | (obtain ⟨_, _, rfl, _⟩ := h; rfl)
    | (obtain ⟨_, _, _, rfl, _⟩ := h; rfl)
    | (obtain ⟨_, _, _, _, rfl, _⟩ := h; rfl)
    | (obtain ⟨_, _, _, _, _, rfl, _⟩ := h; rfl)
    | (obtain ⟨_, _, _, _, _, _, rfl, _⟩ := h; rfl)
    | (obtain ⟨_, _, _, _, _, _, _, rfl, _⟩ := h; rfl)
    | (obtain ⟨_, _, _, _, _, _, _, _, rfl, _⟩ := h; rfl)
    | (obtain ⟨_, _, _, _, _, _, _, _, _, rfl, _⟩ := h; rfl)
    | (obtain ⟨_, _, _, _, _, _, _, _, _, _, rfl, _⟩ := h; rfl)
    | (obtain ⟨_, _, _, _, _, _, _, _, _, _, _, rfl, _⟩ := h; rfl)
    | (obtain ⟨_, _, _, _, _, _, _, _, _, _, _, _, rfl, _⟩ := h; rfl)
    | (obtain ⟨_, _, _, _, _, _, _, _, _, _, _, _, _, rfl, _⟩ := h; rfl)
    | (obtain ⟨_, _, _, _, _, _, _, _, _, _, _, _, _, rfl, _⟩ := h; rfl)
    | (obtain ⟨_, _, _, _, _, _, _, _, _, _, _, _, _, _, rfl, _⟩ := h; rfl)
    | (obtain ⟨_, _, _, _, _, _, _, _, _, _, _, _, _, _, _, rfl, _⟩ := h; rfl)
    | (obtain ⟨_, _, _, _, _, _, _, _, _, _, _, _, _, _, _, _, rfl, _⟩ := h; rfl)
    | (obtain ⟨_, _, _, _, _, _, _, _, _, _, _, _, _, _, _, _, _, rfl, _⟩ := h; rfl)
    | (obtain ⟨_, _, _, _, _, _, _, _, _, _, _, _, _, _, _, _, _, _, rfl, _⟩ := h; rfl)
    | (obtain ⟨_, _, _, _, _, _, _, _, _, _, _, _, _, _, _, _, _, _, _, rfl, _⟩ := h; rfl)
    | (obtain ⟨_, _, _, _, _, _, _, _, _, _, _, _, _, _, _, _, _, _, _, _, rfl, _⟩ := h; rfl)
    | (obtain ⟨_, _, _, _, _, _, _, _, _, _, _, _, _, _, _, _, _, _, _, _, _, rfl, _⟩ := h; rfl)
def sp_law_meeting (K : KF) : Spec := fun ds Ω R X => ∃ (i j m n : Int) (v w : Rat), ds = [.d (.int i), .d (.int j), .d (.int m), .d (.int n), .d (dR v), .d (dR w)] ∧ 1 ≤ m ∧ m ≤ 1000 ∧ 1 ≤ n ∧ n ≤ 1000 ∧ Sz 300 v ∧ Sz 300 w ∧ R (.d (dSg (mkMeet i j m n v w))) Ω
def t_law_meeting (K : KF) (W : WX) : TS :=
  (tSeq (tAsg (tCall (FS K (sp_law_minus K)) [] E0 (tCons (tVar 4) (tCons (tVar 5) tNil))) (gName 6))
    (tSeq (tAsg (tCall (FS K (sp_law_minus K)) [] E0 (tCons (tVar 4) (tCons (tCall (FS K (sp_law_product K)) [] E0 (tCons (tVar 6) (tCons (tCall (FS K (sp_law_lowest K)) [] E0 (tCons (tOp oMul (tC (.int 2)) (tVar 3)) (tCons (tOp (rAddX K) (tVar 2) (tVar 3)) tNil))) tNil))) tNil))) (gName 7))
    (tSeq (tAsg (tCall (FS K (sp_law_sum K)) [] E0 (tCons (tVar 5) (tCons (tCall (FS K (sp_law_product K)) [] E0 (tCons (tVar 6) (tCons (tCall (FS K (sp_law_lowest K)) [] E0 (tCons (tOp oMul (tC (.int 2)) (tVar 2)) (tCons (tOp (rAddX K) (tVar 2) (tVar 3)) tNil))) tNil))) tNil))) (gName 8))
    (tRet (tTup (tCons (tVar 0) (tCons (tVar 1) (tCons (tVar 4) (tCons (tVar 5) (tCons (tVar 7) (tCons (tVar 8) tNil)))))))))))
theorem w_law_meeting {K : KF} (W : WX) (ds : List DV) (Ω : Om) (R : DV → Om → Prop) (X : Exc → Om → Prop) (h : sp_law_meeting K ds Ω R X) : WS K W (t_law_meeting K W) (startG 9 ds) Ω (fnO Ω R X) := by
  obtain ⟨i, j, m, n, v, w, rfl, m0, m1, n0, n1, zv, zw, q⟩ := h
  show WS K W (t_law_meeting K W) [some (.d (.int i)), some (.d (.int j)), some (.d (.int m)), some (.d (.int n)), some (.d (dR v)), some (.d (dR w)), none, none, none] Ω _
  unfold t_law_meeting
  have c1 : CMulW 2 n := cmul (n := 2) (m := 10) (by decide) (by omega) (by decide)
  have c2 : CMulW 2 m := cmul (n := 2) (m := 10) (by decide) (by omega) (by decide)
  have z1 : Sz 11 (Rat.divInt (2 * n) (m + n)) := sz_of_divInt (by omega) (by omega) (by omega)
  have z2 : Sz 11 (Rat.divInt (2 * m) (m + n)) := sz_of_divInt (by omega) (by omega) (by omega)
  walk_at "hl"
  refine ⟨v, w, rfl, ⟨300, 300, zv, zw, by omega⟩, ?_⟩
  walk_at "hl"
  refine ⟨_, _, rfl, by omega, ⟨11, by omega, by decide⟩, ?_⟩
  walk_at "hl"
  refine ⟨v - w, _, rfl, ⟨601, 11, zv.sub zw, z1, by omega⟩, ?_⟩
  walk_at "hl"
  refine ⟨v, _, rfl, ⟨300, 612, zv, (zv.sub zw).mul z1, by omega⟩, ?_⟩
  walk_at "hl"
  refine ⟨_, _, rfl, by omega, ⟨11, by omega, by decide⟩, ?_⟩
  walk_at "hl"
  refine ⟨v - w, _, rfl, ⟨601, 11, zv.sub zw, z2, by omega⟩, ?_⟩
  walk_at "hl"
  refine ⟨w, _, rfl, ⟨300, 612, zw, (zv.sub zw).mul z2, by omega⟩, ?_⟩
  walk_at "hl"
  exact dr_same q
theorem sp_len_law_meeting {K : KF} (ds : List DV) (Ω : Om) (R : DV → Om → Prop) (X : Exc → Om → Prop) (h : sp_law_meeting K ds Ω R X) : ds.length = 6 := by
  unfold sp_law_meeting at h
  first
    | (obtain ⟨rfl, _⟩ := h; rfl)
    | (obtain ⟨_, rfl, _⟩ := h; rfl)
    | (obtain ⟨_, _, rfl, _⟩ := h; rfl)
    | (obtain ⟨_, _, _, rfl, _⟩ := h; rfl)
    | (obtain ⟨_, _, _, _, rfl, _⟩ := h; rfl)
    | (obtain ⟨_, _, _, _, _, rfl, _⟩ := h; rfl)
    | (obtain ⟨_, _, _, _, _, _, rfl, _⟩ := h; rfl)
    | (obtain ⟨_, _, _, _, _, _, _, rfl, _⟩ := h; rfl)
    | (obtain ⟨_, _, _, _, _, _, _, _, rfl, _⟩ := h; rfl)
    | (obtain ⟨_, _, _, _, _, _, _, _, _, rfl, _⟩ := h; rfl)
    | (obtain ⟨_, _, _, _, _, _, _, _, _, _, rfl, _⟩ := h; rfl)
    | (obtain ⟨_, _, _, _, _, _, _, _, _, _, _, rfl, _⟩ := h; rfl)
    | (obtain ⟨_, _, _, _, _, _, _, _, _, _, _, _, rfl, _⟩ := h; rfl)
    | (obtain ⟨_, _, _, _, _, _, _, _, _, _, _, _, _, rfl, _⟩ := h; rfl)
    | (obtain ⟨_, _, _, _, _, _, _, _, _, _, _, _, _, rfl, _⟩ := h; rfl)
    | (obtain ⟨_, _, _, _, _, _, _, _, _, _, _, _, _, _, rfl, _⟩ := h; rfl)
    | (obtain ⟨_, _, _, _, _, _, _, _, _, _, _, _, _, _, _, rfl, _⟩ := h; rfl)
    | (obtain ⟨_, _, _, _, _, _, _, _, _, _, _, _, _, _, _, _, rfl, _⟩ := h; rfl)
    | (obtain ⟨_, _, _, _, _, _, _, _, _, _, _, _, _, _, _, _, _, rfl, _⟩ := h; rfl)
    | (obtain ⟨_, _, _, _, _, _, _, _, _, _, _, _, _, _, _, _, _, _, rfl, _⟩ := h; rfl)
    | (obtain ⟨_, _, _, _, _, _, _, _, _, _, _, _, _, _, _, _, _, _, _, rfl, _⟩ := h; rfl)
    | (obtain ⟨_, _, _, _, _, _, _, _, _, _, _, _, _, _, _, _, _, _, _, _, rfl, _⟩ := h; rfl)
    | (obtain ⟨_, _, _, _, _, _, _, _, _, _, _, _, _, _, _, _, _, _, _, _, _, rfl, _⟩ := h; rfl)
/-- a number of up to twenty-one figures -/
def sp_law_far (K : KF) : Spec := fun ds Ω R X => ∃ (k : Nat) (p : OC), ds = [.o k] ∧ Ω[k]? = some p ∧ IsPool p ∧ Drawn k Ω (10 ^ 21) R
def t_law_far (K : KF) (W : WX) : TS :=
  (tSeq (tAsg (tC (.int 0)) (gName 1))
    (tSeq (tFor (iRng1 (tCons (tOp (rAddX K) (tC (.int 1)) (tCall (FS K (sp_law_next K)) [] E0 (tCons (tVar 0) (tCons (tC (.int 3)) tNil)))) tNil)) (gName 2) (tAsg (tOp (rAddX K) (tOp oMul (tVar 1) (tOp oPow (tC (.int 10)) (tC (.int 7)))) (tCall (FS K (sp_law_next K)) [] E0 (tCons (tVar 0) (tCons (tOp oPow (tC (.int 10)) (tC (.int 7))) tNil)))) (gName 1)))
    (tRet (tVar 1))))
theorem far_step {f r : Int} {i : Nat} (h0 : 0 ≤ f) (h : f < (10 : Int) ^ (7 * i)) (r0 : 0 ≤ r) (r1 : r < 10 ^ 7) : 0 ≤ f * 10 ^ 7 + r ∧ f * 10 ^ 7 + r < (10 : Int) ^ (7 * (i + 1)) := by
  rw [show 7 * (i + 1) = 7 * i + 7 by omega, Int.pow_add]
  generalize (10 : Int) ^ (7 * i) = t at *
  omega
theorem w_law_far {K : KF} (W : WX) (ds : List DV) (Ω : Om) (R : DV → Om → Prop) (X : Exc → Om → Prop) (h : sp_law_far K ds Ω R X) : WS K W (t_law_far K W) (startG 3 ds) Ω (fnO Ω R X) := by
  obtain ⟨k, p, rfl, hp, ip, q⟩ := h
  have hk := lt_of_get hp
  show WS K W (t_law_far K W) [some (.o k), none, none] Ω _
  unfold t_law_far
  walk_at "hl"
  refine ws_for (wi_rng1 ?_)
  walk_at "hl"
  refine ⟨k, p, 3, rfl, hp, ip, by decide, by decide, fun r p1 r0 r1 ip1 => ?_⟩
  walk_at "hl"
  refine ⟨_, rfl, by omega, by omega, ?_⟩
  refine ⟨fun i Γ Ω1 => ∃ f p2 s, Γ = [some (.o k), some (.d (.int f)), s] ∧ Ω1 = Ω.set k p2 ∧ IsPool p2 ∧ 0 ≤ f ∧ f < (10 : Int) ^ (7 * i), ⟨0, p1, none, rfl, rfl, ip1, by decide, by decide⟩, ?_, ?_, ?_⟩
  · rintro i Γ Ω1 - ⟨f, p2, s, rfl, rfl, ip2, -⟩
    exact ⟨trivial, by simp⟩
  · rintro i y Γ Ω1 hy ⟨f, p2, s, rfl, rfl, ip2, f0, f1⟩
    have hi := lt_of_get hy
    rw [List.length_map, List.length_range] at hi
    walk_at "hl"
    refine wr_pow ⟨by decide, by decide, by decide⟩ ?_
    walk_at "hl"
    refine wr_pow ⟨by decide, by decide, by decide⟩ ?_
    walk_at "hl"
    refine ⟨k, p2, _, rfl, get_set hk, ip2, by decide, by decide, fun r2 p3 r20 r21 ip3 => ?_⟩
    walk_at "hl"
    have st := far_step f0 f1 r20 r21
    exact ⟨_, p3, _, rfl, by rw [List.set_set], ip3, st.1, st.2⟩
  · rintro Γ Ω1 ⟨f, p2, s, rfl, rfl, ip2, f0, f1⟩
    walk_at "hl"
    refine dr_same (q f p2 f0 (Int.lt_of_lt_of_le f1 ?_) ip2)
    rw [List.length_map, List.length_range]
    have hj : (1 + r).toNat ≤ 3 := by omega
    generalize (1 + r).toNat = j at *
    match j, hj with
    | 0, _ => decide
    | 1, _ => decide
    | 2, _ => decide
    | 3, _ => decide
theorem sp_len_law_far {K : KF} (ds : List DV) (Ω : Om) (R : DV → Om → Prop) (X : Exc → Om → Prop) (h : sp_law_far K ds Ω R X) : ds.length = 1 := by
  unfold sp_law_far at h
  first
    | (obtain ⟨rfl, _⟩ := h; rfl)
    | (obtain ⟨_, rfl, _⟩ := h; rfl)
    | (obtain ⟨_, _, rfl, _⟩ := h; rfl)
    | (obtain ⟨_, _, _, rfl, _⟩ := h; rfl)
    | (obtain ⟨_, _, _, _, rfl, _⟩ := h; rfl)
    | (obtain ⟨_, _, _, _, _, rfl, _⟩ := h; rfl)
    | (obtain ⟨_, _, _, _, _, _, rfl, _⟩ := h; rfl)
    | (obtain ⟨_, _, _, _, _, _, _, rfl, _⟩ := h; rfl)
    | (obtain ⟨_, _, _, _, _, _, _, _, rfl, _⟩ := h; rfl)
    | (obtain ⟨_, _, _, _, _, _, _, _, _, rfl, _⟩ := h; rfl)
    | (obtain ⟨_, _, _, _, _, _, _, _, _, _, rfl, _⟩ := h; rfl)
    | (obtain ⟨_, _, _, _, _, _, _, _, _, _, _, rfl, _⟩ := h; rfl)
    | (obtain ⟨_, _, _, _, _, _, _, _, _, _, _, _, rfl, _⟩ := h; rfl)
    | (obtain ⟨_, _, _, _, _, _, _, _, _, _, _, _, _, rfl, _⟩ := h; rfl)
    | (obtain ⟨_, _, _, _, _, _, _, _, _, _, _, _, _, rfl, _⟩ := h; rfl)
    | (obtain ⟨_, _, _, _, _, _, _, _, _, _, _, _, _, _, rfl, _⟩ := h; rfl)
    | (obtain ⟨_, _, _, _, _, _, _, _, _, _, _, _, _, _, _, rfl, _⟩ := h; rfl)
    | (obtain ⟨_, _, _, _, _, _, _, _, _, _, _, _, _, _, _, _, rfl, _⟩ := h; rfl)
    | (obtain ⟨_, _, _, _, _, _, _, _, _, _, _, _, _, _, _, _, _, rfl, _⟩ := h; rfl)
    | (obtain ⟨_, _, _, _, _, _, _, _, _, _, _, _, _, _, _, _, _, _, rfl, _⟩ := h; rfl)
    | (obtain ⟨_, _, _, _, _, _, _, _, _, _, _, _, _, _, _, _, _, _, _, rfl, _⟩ := h; rfl)
    | (obtain ⟨_, _, _, _, _, _, _, _, _, _, _, _, _, _, _, _, _, _, _, _, rfl, _⟩ := h; rfl)
    | (obtain ⟨_, _, _, _, _, _, _, _, _, _, _, _, _, _, _, _, _, _, _, _, _, rfl, _⟩ := h; rfl)
/-- a ratio, not too great -/
def sp_law_ratio (K : KF) : Spec := fun ds Ω R X => ∃ (k : Nat) (p : OC), ds = [.o k] ∧ Ω[k]? = some p ∧ IsPool p ∧ ∀ (x : Rat) (p' : OC), Sz 80 x → IsPool p' → R (.d (dR x)) (Ω.set k p')
def t_law_ratio (K : KF) (W : WX) : TS :=
  (tSeq (tAsg (tOp (rIx K) (tLst (tCons (tC (.int 1)) (tCons (tC (.int 1)) (tCons (tC (.int 1)) (tCons (tC (.int 2)) (tCons (tC (.int 2)) (tCons (tC (.int 3)) (tCons (tC (.int 4)) (tCons (tC (.int 6)) tNil))))))))) (tCall (FS K (sp_law_next K)) [] E0 (tCons (tVar 0) (tCons (tC (.int 8)) tNil)))) (gName 1))
    (tSeq (tAsg (tOp oSub (tCall (FS K (sp_law_next K)) [] E0 (tCons (tVar 0) (tCons (tC (.int 25)) tNil))) (tC (.int 12))) (gName 2))
    (tSeq (tAsg (tCall (FS K (sp_law_next K)) [] E0 (tCons (tVar 0) (tCons (tC (.int 12)) tNil))) (gName 3))
    (tSeq (tIfS (tTest (tOp (rEqD K) (tVar 3) (tC (.int 0)))) (tSeq (tAsg (tOp oMul (tCall (FS K (sp_law_far K)) [] E0 (tCons (tVar 0) tNil)) (tOp (rIx K) (tLst (tCons (tC (.int 1)) (tCons (tUn uNeg (tC (.int 1))) tNil))) (tCall (FS K (sp_law_next K)) [] E0 (tCons (tVar 0) (tCons (tC (.int 2)) tNil))))) (gName 2))
    (tAsg (tOp (rAddX K) (tC (.int 1)) (tCall (FS K (sp_law_next K)) [] E0 (tCons (tVar 0) (tCons (tC (.int 12)) tNil)))) (gName 1))) tNext)
    (tSeq (tIfS (tTest (tOp (rEqD K) (tVar 3) (tC (.int 1)))) (tAsg (tC (.int 0)) (gName 2)) tNext)
    (tRet (tCall (FS K (sp_law_lowest K)) [] E0 (tCons (tVar 2) (tCons (tVar 1) tNil)))))))))
theorem w_law_ratio {K : KF} (W : WX) (ds : List DV) (Ω : Om) (R : DV → Om → Prop) (X : Exc → Om → Prop) (h : sp_law_ratio K ds Ω R X) : WS K W (t_law_ratio K W) (startG 4 ds) Ω (fnO Ω R X) := by
  obtain ⟨k, p, rfl, hp, ip, q⟩ := h
  have hk := lt_of_get hp
  show WS K W (t_law_ratio K W) [some (.o k), none, none, none] Ω _
  unfold t_law_ratio
  generalize hT : (tSeq (tIfS (tTest (tOp (rEqD K) (tVar 3) (tC (.int 1)))) (tAsg (tC (.int 0)) (gName 2)) tNext) (tRet (tCall (FS K (sp_law_lowest K)) [] E0 (tCons (tVar 2) (tCons (tVar 1) tNil))))) = tail
  have fin : ∀ (t b : Int) (way : Int) (p' : OC), (way = 1 → True) → -(10 ^ 21) ≤ t → t ≤ 10 ^ 21 → 1 ≤ b → b ≤ 12 → IsPool p' → WS K W tail [some (.o k), some (.d (.int b)), some (.d (.int t)), some (.d (.int way))] (Ω.set k p') (fnO Ω R X) := by
    intro t b way p' _ t0 t1 b0 b1 ip'
    subst hT
    have lo : ∀ t : Int, -(10 ^ 21) ≤ t → t ≤ 10 ^ 21 → sp_law_lowest K [.d (.int t), .d (.int b)] (Ω.set k p') (fnO Ω R X).rt (fun _ _ => False) := fun t t0 t1 =>
      ⟨t, b, rfl, by omega, ⟨80, by omega, by decide⟩, dr_same (q _ p' (sz_of_divInt (by omega) (by omega) (by omega)) ip')⟩
    walk_at "hl"
    refine ⟨fun _ => ?_, fun _ => ?_⟩
    · walk_at "hl"
      exact lo 0 (by decide) (by decide)
    · walk_at "hl"
      exact lo t t0 t1
  walk_at "hl"
  refine ⟨k, p, 8, rfl, hp, ip, by decide, by decide, fun r p1 r0 r1 ip1 => ?_⟩
  walk_at "hl"
  refine wr_ix_ints (ns := [1, 1, 1, 2, 2, 3, 4, 6]) rfl r0 (by simpa using r1) fun b hb => ?_
  have hb : 1 ≤ b ∧ b ≤ 6 := by simp at hb; omega
  walk_at "hl"
  refine ⟨k, p1, 25, rfl, get_set hk, ip1, by decide, by decide, fun r2 p2 r20 r21 ip2 => ?_⟩
  walk_at "hl"
  refine ⟨k, p2, 12, rfl, by rw [List.set_set]; exact get_set hk, ip2, by decide, by decide, fun way p3 r30 r31 ip3 => ?_⟩
  rw [List.set_set, List.set_set]
  walk_at "hl"
  refine ⟨fun _ => ?_, fun _ => ?_⟩
  · walk_at "hl"
    refine ⟨k, p3, rfl, get_set hk, ip3, fun f p4 f0 f1 ip4 => ?_⟩
    walk_at "hl"
    refine ⟨k, p4, 2, rfl, by rw [List.set_set]; exact get_set hk, ip4, by decide, by decide, fun r5 p5 r50 r51 ip5 => ?_⟩
    walk_at "hl"
    refine wr_ix_ints (ns := [1, -1]) rfl r50 (by simpa using r51) fun s hs => ?_
    have hs : s = 1 ∨ s = -1 := by simpa using hs
    refine wr_mul (.inl (.inr ⟨by omega, by omega⟩)) ?_
    walk_at "hl"
    refine ⟨k, p5, 12, rfl, by rw [List.set_set, List.set_set]; exact get_set hk, ip5, by decide, by decide, fun r6 p6 r60 r61 ip6 => ?_⟩
    rw [List.set_set, List.set_set, List.set_set]
    walk_at "hl"
    refine fin (f * s) (1 + r6) way p6 (fun _ => trivial) ?_ ?_ (by omega) (by omega) ip6
    · rcases hs with rfl | rfl <;> omega
    · rcases hs with rfl | rfl <;> omega
  · walk_at "hl"
    exact fin (r2 - 12) b way p3 (fun _ => trivial) (by omega) (by omega) hb.1 (by omega) ip3
theorem sp_len_law_ratio {K : KF} (ds : List DV) (Ω : Om) (R : DV → Om → Prop) (X : Exc → Om → Prop) (h : sp_law_ratio K ds Ω R X) : ds.length = 1 := by
  unfold sp_law_ratio at h
  first
    | (obtain ⟨rfl, _⟩ := h; rfl)
    | (obtain ⟨_, rfl, _⟩ := h; rfl)
    | (obtain ⟨_, _, rfl, _⟩ := h; rfl)
    | (obtain ⟨_, _, _, rfl, _⟩ := h; rfl)
    | (obtain ⟨_, _, _, _, rfl, _⟩ := h; rfl)
    | (obtain ⟨_, _, _, _, _, rfl, _⟩ := h; rfl)
    | (obtain ⟨_, _, _, _, _, _, rfl, _⟩ := h; rfl)
    | (obtain ⟨_, _, _, _, _, _, _, rfl, _⟩ := h; rfl)
    | (obtain ⟨_, _, _, _, _, _, _, _, rfl, _⟩ := h; rfl)
    | (obtain ⟨_, _, _, _, _, _, _, _, _, rfl, _⟩ := h; rfl)
    | (obtain ⟨_, _, _, _, _, _, _, _, _, _, rfl, _⟩ := h; rfl)
    | (obtain ⟨_, _, _, _, _, _, _, _, _, _, _, rfl, _⟩ := h; rfl)
    | (obtain ⟨_, _, _, _, _, _, _, _, _, _, _, _, rfl, _⟩ := h; rfl)
    | (obtain ⟨_, _, _, _, _, _, _, _, _, _, _, _, _, rfl, _⟩ := h; rfl)
    | (obtain ⟨_, _, _, _, _, _, _, _, _, _, _, _, _, rfl, _⟩ := h; rfl)
    | (obtain ⟨_, _, _, _, _, _, _, _, _, _, _, _, _, _, rfl, _⟩ := h; rfl)
    | (obtain ⟨_, _, _, _, _, _, _, _, _, _, _, _, _, _, _, rfl, _⟩ := h; rfl)
    | (obtain ⟨_, _, _, _, _, _, _, _, _, _, _, _, _, _, _, _, rfl, _⟩ := h; rfl)
    | (obtain ⟨_, _, _, _, _, _, _, _, _, _, _, _, _, _, _, _, _, rfl, _⟩ := h; rfl)
    | (obtain ⟨_, _, _, _, _, _, _, _, _, _, _, _, _, _, _, _, _, _, rfl, _⟩ := h; rfl)
    | (obtain ⟨_, _, _, _, _, _, _, _, _, _, _, _, _, _, _, _, _, _, _, rfl, _⟩ := h; rfl)
    | (obtain ⟨_, _, _, _, _, _, _, _, _, _, _, _, _, _, _, _, _, _, _, _, rfl, _⟩ := h; rfl)
    | (obtain ⟨_, _, _, _, _, _, _, _, _, _, _, _, _, _, _, _, _, _, _, _, _, rfl, _⟩ := h; rfl)
def sp_law_sighting (K : KF) : Spec := fun ds Ω R X => ∃ (k : Nat) (p : OC) (s : DV) (ws : List Int), ds = [.o k, s] ∧ Ω[k]? = some p ∧ IsPool p ∧ (∀ p', sq (Ω.set k p') s = some ((ws.map PyData.int).map DV.d)) ∧ 2 ≤ ws.length ∧ ws.length ≤ 1000 ∧ (∀ w ∈ ws, 1 ≤ w ∧ w ≤ 1000) ∧
  ∀ (i j : Nat) (m n : Int) (v w : Rat) (p' : OC), i < ws.length → j < ws.length → i ≠ j → ws[i]? = some m → ws[j]? = some n → Sz 80 v → Sz 86 w → Sz 4 (v - w) → v ≠ w → IsPool p' → R (.d (dSg (mkMeet i j m n v w))) (Ω.set k p')
def t_law_sighting (K : KF) (W : WX) : TS :=
  (tSeq (tAsg (tCall (FS K (sp_law_next K)) [] E0 (tCons (tVar 0) (tCons (tCB (rLenQ K) (tCons (tVar 1) tNil)) tNil))) (gName 2))
    (tSeq (tAsg (tOp oMod (tOp (rAddX K) (tOp (rAddX K) (tVar 2) (tC (.int 1))) (tCall (FS K (sp_law_next K)) [] E0 (tCons (tVar 0) (tCons (tOp oSub (tCB (rLenQ K) (tCons (tVar 1) tNil)) (tC (.int 1))) tNil)))) (tCB (rLenQ K) (tCons (tVar 1) tNil))) (gName 3))
    (tSeq (tAsg (tCall (FS K (sp_law_ratio K)) [] E0 (tCons (tVar 0) tNil)) (gName 4))
    (tSeq (tAsg (tCall (FS K (sp_law_sum K)) [] E0 (tCons (tVar 4) (tCons (tCall (FS K (sp_law_lowest K)) [] E0 (tCons (tOp oMul (tOp (rIx K) (tLst (tCons (tUn uNeg (tC (.int 1))) (tCons (tC (.int 1)) tNil))) (tCall (FS K (sp_law_next K)) [] E0 (tCons (tVar 0) (tCons (tC (.int 2)) tNil)))) (tOp (rAddX K) (tC (.int 1)) (tCall (FS K (sp_law_next K)) [] E0 (tCons (tVar 0) (tCons (tC (.int 12)) tNil))))) (tCons (tOp (rAddX K) (tC (.int 1)) (tCall (FS K (sp_law_next K)) [] E0 (tCons (tVar 0) (tCons (tC (.int 3)) tNil)))) tNil))) tNil))) (gName 5))
    (tRet (tCall (FS K (sp_law_meeting K)) [] E0 (tCons (tVar 2) (tCons (tVar 3) (tCons (tOp (rIx K) (tVar 1) (tVar 2)) (tCons (tOp (rIx K) (tVar 1) (tVar 3)) (tCons (tVar 4) (tCons (tVar 5) tNil))))))))))))
theorem w_law_sighting {K : KF} (W : WX) (ds : List DV) (Ω : Om) (R : DV → Om → Prop) (X : Exc → Om → Prop) (h : sp_law_sighting K ds Ω R X) : WS K W (t_law_sighting K W) (startG 6 ds) Ω (fnO Ω R X) := by
  obtain ⟨k, p, s, ws, rfl, hp, ip, hs, l2, l1000, hw, q⟩ := h
  have hk := lt_of_get hp
  have hs0 : sq Ω s = some ((ws.map PyData.int).map DV.d) := by have := hs p; rw [set_self hp] at this; exact this
  show WS K W (t_law_sighting K W) [some (.o k), some s, none, none, none, none] Ω _
  unfold t_law_sighting
  walk_at "hl"
  refine wc_len' hs0 ?_
  walk_at "hl"
  rw [List.length_map, List.length_map]
  refine ⟨k, p, _, rfl, hp, ip, by omega, by omega, fun i p1 i0 i1 ip => ?_⟩
  obtain ⟨i, rfl⟩ : ∃ i' : Nat, i = i' := ⟨i.toNat, by omega⟩
  have hi : i < ws.length := by omega
  walk_at "hl"
  refine wc_len' (hs _) ?_
  walk_at "hl"
  rw [List.length_map, List.length_map]
  refine dn0 hk ip (by omega) (by omega) fun r p1 r0 r1 ip => ?_
  walk_at "hl"
  refine wc_len' (hs _) ?_
  rw [List.length_map, List.length_map]
  refine wr_modP (by omega) ?_
  obtain ⟨j, hj⟩ : ∃ j : Nat, ((i : Int) + 1 + r) % (ws.length : Int) = j := ⟨(((i : Int) + 1 + r) % (ws.length : Int)).toNat, by have := Int.emod_nonneg ((i : Int) + 1 + r) (show (ws.length : Int) ≠ 0 by omega); omega⟩
  have hj1 : j < ws.length := by have := Int.emod_lt_of_pos ((i : Int) + 1 + r) (show (0 : Int) < ws.length by omega); omega
  have hij : i ≠ j := fun e => by
    subst e
    by_cases h : (i : Int) + 1 + r < ws.length
    · rw [Int.emod_eq_of_lt (by omega) h] at hj; omega
    · have : ((i : Int) + 1 + r) % (ws.length : Int) = (i : Int) + 1 + r - ws.length := by
        rw [show (i : Int) + 1 + r = ((i : Int) + 1 + r - ws.length) + ws.length by omega]
        first | rw [Int.add_emod_right, Int.emod_eq_of_lt (by omega) (by omega)] | rw [Int.add_emod_self, Int.emod_eq_of_lt (by omega) (by omega)]
        omega
      omega
  rw [hj]
  obtain ⟨m, em⟩ : ∃ m, ws[i]? = some m := ⟨_, List.getElem?_eq_getElem hi⟩
  obtain ⟨n, en⟩ : ∃ n, ws[j]? = some n := ⟨_, List.getElem?_eq_getElem hj1⟩
  have hm := hw m (List.mem_of_getElem? em)
  have hn := hw n (List.mem_of_getElem? en)
  walk_at "hl"
  refine ⟨k, p1, rfl, get_set hk, ip, fun v p1 zv ip => ?_⟩
  rw [List.set_set]
  walk_at "hl"
  refine dn0 hk ip (by decide) (by decide) fun r p1 r0 r1 ip => ?_
  refine wr_ix_ints (ns := [-1, 1]) rfl r0 (by simpa using r1) fun sg hsg => ?_
  have hsg : sg = -1 ∨ sg = 1 := by simp at hsg; exact hsg
  walk_at "hl"
  refine dn0 hk ip (by decide) (by decide) fun a p1 a0 a1 ip => ?_
  have cm : CMulW sg (1 + a) := cmul (n := 1) (m := 4) (by omega) (by omega) (by decide)
  walk_at "hl"
  refine dn0 hk ip (by decide) (by decide) fun b p1 b0 b1 ip => ?_
  walk_at "hl"
  have hx : (sg * (1 + a)).natAbs < 2 ^ 4 ∧ sg * (1 + a) ≠ 0 := by rcases hsg with rfl | rfl <;> omega
  refine ⟨_, 1 + b, rfl, by omega, ⟨3, by omega, by decide⟩, ?_⟩
  have zx : Sz 4 (Rat.divInt (sg * (1 + a)) (1 + b)) := sz_of_divInt (by omega) hx.1 (by omega)
  have x0 : Rat.divInt (sg * (1 + a)) (1 + b) ≠ 0 := fun e => by
    rw [show (0 : Rat) = Rat.divInt 0 1 from rfl, Rat.divInt_eq_divInt_iff (by omega) (by decide)] at e
    have := hx.2
    omega
  generalize Rat.divInt (sg * (1 + a)) (1 + b) = x at zx x0
  walk_at "hl"
  refine ⟨v, x, rfl, ⟨80, 4, zv, zx, by omega⟩, ?_⟩
  walk_at "hl"
  have em2 : atI ((ws.map PyData.int).map DV.d) (i : Int) = some (.d (.int m)) := atI_nat (by rw [List.getElem?_map, List.getElem?_map, em]; rfl)
  have en2 : atI ((ws.map PyData.int).map DV.d) (j : Int) = some (.d (.int n)) := atI_nat (by rw [List.getElem?_map, List.getElem?_map, en]; rfl)
  refine wr_ix (hs _) em2 ?_
  walk_at "hl"
  refine wr_ix (hs _) en2 ?_
  walk_at "hl"
  have zw : Sz 86 (v + x) := (zv.add zx).mono (by omega)
  refine ⟨i, j, m, n, v, v + x, rfl, hm.1, hm.2, hn.1, hn.2, zv.mono (by omega), zw.mono (by omega), ?_⟩
  have e : v - (v + x) = -x := by grind
  exact dr_same (q i j m n v (v + x) p1 hi hj1 hij em en zv zw (by rw [e]; exact zx.neg) (by grind) ip)
theorem sp_len_law_sighting {K : KF} (ds : List DV) (Ω : Om) (R : DV → Om → Prop) (X : Exc → Om → Prop) (h : sp_law_sighting K ds Ω R X) : ds.length = 2 := by
  unfold sp_law_sighting at h
  first
    | (obtain ⟨rfl, _⟩ := h; rfl)
    | (obtain ⟨_, rfl, _⟩ := h; rfl)
    | (obtain ⟨_, _, rfl, _⟩ := h; rfl)
    | (obtain ⟨_, _, _, rfl, _⟩ := h; rfl)
    | (obtain ⟨_, _, _, _, rfl, _⟩ := h; rfl)
    | (obtain ⟨_, _, _, _, _, rfl, _⟩ := h; rfl)
    | (obtain ⟨_, _, _, _, _, _, rfl, _⟩ := h; rfl)
    | (obtain ⟨_, _, _, _, _, _, _, rfl, _⟩ := h; rfl)
    | (obtain ⟨_, _, _, _, _, _, _, _, rfl, _⟩ := h; rfl)
    | (obtain ⟨_, _, _, _, _, _, _, _, _, rfl, _⟩ := h; rfl)
    | (obtain ⟨_, _, _, _, _, _, _, _, _, _, rfl, _⟩ := h; rfl)
    | (obtain ⟨_, _, _, _, _, _, _, _, _, _, _, rfl, _⟩ := h; rfl)
    | (obtain ⟨_, _, _, _, _, _, _, _, _, _, _, _, rfl, _⟩ := h; rfl)
    | (obtain ⟨_, _, _, _, _, _, _, _, _, _, _, _, _, rfl, _⟩ := h; rfl)
    | (obtain ⟨_, _, _, _, _, _, _, _, _, _, _, _, _, rfl, _⟩ := h; rfl)
    | (obtain ⟨_, _, _, _, _, _, _, _, _, _, _, _, _, _, rfl, _⟩ := h; rfl)
    | (obtain ⟨_, _, _, _, _, _, _, _, _, _, _, _, _, _, _, rfl, _⟩ := h; rfl)
    | (obtain ⟨_, _, _, _, _, _, _, _, _, _, _, _, _, _, _, _, rfl, _⟩ := h; rfl)
    | (obtain ⟨_, _, _, _, _, _, _, _, _, _, _, _, _, _, _, _, _, rfl, _⟩ := h; rfl)
    | (obtain ⟨_, _, _, _, _, _, _, _, _, _, _, _, _, _, _, _, _, _, rfl, _⟩ := h; rfl)
    | (obtain ⟨_, _, _, _, _, _, _, _, _, _, _, _, _, _, _, _, _, _, _, rfl, _⟩ := h; rfl)
    | (obtain ⟨_, _, _, _, _, _, _, _, _, _, _, _, _, _, _, _, _, _, _, _, rfl, _⟩ := h; rfl)
    | (obtain ⟨_, _, _, _, _, _, _, _, _, _, _, _, _, _, _, _, _, _, _, _, _, rfl, _⟩ := h; rfl)
def sp_law_weights (K : KF) : Spec := fun ds Ω R X => ∃ (k : Nat) (p : OC) (many : Nat), ds = [.o k, .d (.int many)] ∧ Ω[k]? = some p ∧ IsPool p ∧ many ≤ 1000 ∧ ∀ (ws : List Int) (p' : OC), ws.length = many → (∀ w ∈ ws, 1 ≤ w ∧ w ≤ 1000) → IsPool p' → R (.d (.list (ws.map PyData.int))) (Ω.set k p')
def t_law_weights (K : KF) (W : WX) : TS :=
  (tRet (tLc (iRng1 (tCons (tVar 1) tNil)) (gName 2) tYes (tOp (rIx K) (tLst (tCons (tOp (rAddX K) (tC (.int 1)) (tCall (FS K (sp_law_next K)) [] E0 (tCons (tVar 0) (tCons (tC (.int 9)) tNil)))) (tCons (tOp (rAddX K) (tC (.int 1)) (tCall (FS K (sp_law_next K)) [] E0 (tCons (tVar 0) (tCons (tC (.int 1000)) tNil)))) tNil))) (tCall (FS K (sp_law_next K)) [] E0 (tCons (tVar 0) (tCons (tC (.int 2)) tNil)))) [2]))
theorem w_law_weights {K : KF} (W : WX) (ds : List DV) (Ω : Om) (R : DV → Om → Prop) (X : Exc → Om → Prop) (h : sp_law_weights K ds Ω R X) : WS K W (t_law_weights K W) (startG 3 ds) Ω (fnO Ω R X) := by
  obtain ⟨k, p, many, rfl, hp, ip, hm, q⟩ := h
  have hk := lt_of_get hp
  show WS K W (t_law_weights K W) [some (.o k), some (.d (.int many)), none] Ω _
  unfold t_law_weights
  walk_at "hl"
  refine we_lcK (k := k) only1 hk (wi_rng1 ?_)
  walk_at "hl"
  refine ⟨many, rfl, by omega, by omega, p, fun i acc => ∃ ws : List Int, acc = ws.map PyData.int ∧ ∀ w ∈ ws, 1 ≤ w ∧ w ≤ 1000, (set_self hp).symm, ip, by simp; omega, fun _ _ _ => trivial, ⟨[], rfl, fun _ h => by cases h⟩, ?_, ?_⟩
  · rintro i y acc p2 hy ip2 hi ⟨ws, rfl, hws⟩
    walk_at "hl"
    refine ⟨rfl, ?_⟩
    walk_at "hl"
    refine dn hk ip2 (by decide) (by decide) fun r p3 r0 r1 ip3 => ?_
    walk_at "hl"
    refine dn hk ip3 (by decide) (by decide) fun r' p3 r0' r1' ip3 => ?_
    walk_at "hl"
    refine dn hk ip3 (by decide) (by decide) fun c p3 c0 c1 ip3 => ?_
    refine wr_ix_ints (ns := [1 + r, 1 + r']) rfl c0 (by simpa using c1) fun w hw => ?_
    have hw : 1 ≤ w ∧ w ≤ 1000 := by simp at hw; omega
    exact ⟨.int w, p3, rfl, rfl, ip3, ws ++ [w], by simp, all_app hws (all_cons hw all_nil)⟩
  · rintro acc p2 ip2 hl ⟨ws, rfl, hws⟩
    refine dr_same (q ws p2 ?_ hws ip2)
    rw [List.length_map] at hl
    rw [hl]
    simp
theorem sp_len_law_weights {K : KF} (ds : List DV) (Ω : Om) (R : DV → Om → Prop) (X : Exc → Om → Prop) (h : sp_law_weights K ds Ω R X) : ds.length = 2 := by
  unfold sp_law_weights at h
  first
    | (obtain ⟨rfl, _⟩ := h; rfl)
    | (obtain ⟨_, rfl, _⟩ := h; rfl)
    | (obtain ⟨_, _, rfl, _⟩ := h; rfl)
    | (obtain ⟨_, _, _, rfl, _⟩ := h; rfl)
    | (obtain ⟨_, _, _, _, rfl, _⟩ := h; rfl)
    | (obtain ⟨_, _, _, _, _, rfl, _⟩ := h; rfl)
    | (obtain ⟨_, _, _, _, _, _, rfl, _⟩ := h; rfl)
    | (obtain ⟨_, _, _, _, _, _, _, rfl, _⟩ := h; rfl)
    | (obtain ⟨_, _, _, _, _, _, _, _, rfl, _⟩ := h; rfl)
    | (obtain ⟨_, _, _, _, _, _, _, _, _, rfl, _⟩ := h; rfl)
    | (obtain ⟨_, _, _, _, _, _, _, _, _, _, rfl, _⟩ := h; rfl)
    | (obtain ⟨_, _, _, _, _, _, _, _, _, _, _, rfl, _⟩ := h; rfl)
    | (obtain ⟨_, _, _, _, _, _, _, _, _, _, _, _, rfl, _⟩ := h; rfl)
    | (obtain ⟨_, _, _, _, _, _, _, _, _, _, _, _, _, rfl, _⟩ := h; rfl)
    | (obtain ⟨_, _, _, _, _, _, _, _, _, _, _, _, _, rfl, _⟩ := h; rfl)
    | (obtain ⟨_, _, _, _, _, _, _, _, _, _, _, _, _, _, rfl, _⟩ := h; rfl)
    | (obtain ⟨_, _, _, _, _, _, _, _, _, _, _, _, _, _, _, rfl, _⟩ := h; rfl)
    | (obtain ⟨_, _, _, _, _, _, _, _, _, _, _, _, _, _, _, _, rfl, _⟩ := h; rfl)
    | (obtain ⟨_, _, _, _, _, _, _, _, _, _, _, _, _, _, _, _, _, rfl, _⟩ := h; rfl)
    | (obtain ⟨_, _, _, _, _, _, _, _, _, _, _, _, _, _, _, _, _, _, rfl, _⟩ := h; rfl)
    | (obtain ⟨_, _, _, _, _, _, _, _, _, _, _, _, _, _, _, _, _, _, _, rfl, _⟩ := h; rfl)
    | (obtain ⟨_, _, _, _, _, _, _, _, _, _, _, _, _, _, _, _, _, _, _, _, rfl, _⟩ := h; rfl)
    | (obtain ⟨_, _, _, _, _, _, _, _, _, _, _, _, _, _, _, _, _, _, _, _, _, rfl, _⟩ := h; rfl)
--USE HMc
structure SgJ (x : Sg) : Prop where
  i0 : 0 ≤ x.i ∧ x.i ≤ 1000
  j0 : 0 ≤ x.j ∧ x.j ≤ 1000
  v : Sz 100 x.v
  w : Sz 100 x.w
  a : Sz 110 x.a
  b : Sz 110 x.b
  lost : Sz 15 x.lost
  won : Sz 15 x.won
  gap : Sz 4 (x.v - x.w)
theorem dnE {K : KF} {S : Om} {p : OC} {b : Int} {R : DV → Om → Prop} {X : Exc → Om → Prop} {n : Nat} (e : n = S.length) (ip : IsPool p) (h0 : 0 < b) (h1 : b ≤ 10 ^ 30) (q : ∀ (r : Int) (p' : OC), 0 ≤ r → r < b → IsPool p' → R (.d (.int r)) (S ++ [p'])) :
    sp_law_next K [.o n, .d (.int b)] (S ++ [p]) R X := by
  subst e
  exact ⟨S.length, p, b, rfl, by simp, ip, h0, h1, fun r p' r0 r1 ip' => by rw [set_last]; exact q r p' r0 r1 ip'⟩
structure Meet (ws : List Int) (x : Sg) : Prop where
  ex : ∃ (i j : Nat) (m n : Int) (v w : Rat), x = mkMeet i j m n v w ∧ i < ws.length ∧ j < ws.length ∧ ws.getD i 0 = m ∧ ws.getD j 0 = n ∧ 1 ≤ m ∧ m ≤ 1000 ∧ 1 ≤ n ∧ n ≤ 1000 ∧ v ≠ w ∧ Sz 80 v ∧ Sz 86 w ∧ Sz 4 (v - w)
theorem halves {m n : Int} (hm : 1 ≤ m) (hn : 1 ≤ n) : (m : Rat) * Rat.divInt (2 * n) (m + n) = (n : Rat) * Rat.divInt (2 * m) (m + n) ∧ Rat.divInt (2 * n) (m + n) + Rat.divInt (2 * m) (m + n) = 2 := by
  have hs : (0 : Rat) < ((m + n : Int) : Rat) := Rat.intCast_pos.mpr (by omega)
  have hi := Rat.mul_inv_cancel ((m + n : Int) : Rat) (by grind)
  have e1 : Rat.divInt (2 * n) (m + n) = 2 * (n : Rat) * ((m + n : Int) : Rat)⁻¹ := by rw [Rat.divInt_eq_div, Rat.div_def, Rat.intCast_mul]; rfl
  have e2 : Rat.divInt (2 * m) (m + n) = 2 * (m : Rat) * ((m + n : Int) : Rat)⁻¹ := by rw [Rat.divInt_eq_div, Rat.div_def, Rat.intCast_mul]; rfl
  rw [e1, e2]
  have ec : ((m + n : Int) : Rat) = (m : Rat) + (n : Rat) := Rat.intCast_add m n
  rw [ec] at hi ⊢
  constructor <;> grind
theorem Meet.facts {ws : List Int} {x : Sg} (h : Meet ws x) : ∃ (m n : Int), atW ws x.i = m ∧ atW ws x.j = n ∧ 1 ≤ m ∧ 1 ≤ n ∧ (0 ≤ x.i ∧ x.i < ws.length) ∧ (0 ≤ x.j ∧ x.j < ws.length) ∧ x.v ≠ x.w ∧ x.b - x.a = x.v - x.w ∧ (m : Rat) * x.lost = (n : Rat) * x.won := by
  obtain ⟨i, j, m, n, v, w, rfl, hi, hj, em, en, m0, m1, n0, n1, hne, -⟩ := h.ex
  obtain ⟨h1, h2⟩ := halves m0 n0
  refine ⟨m, n, ?_, ?_, m0, n0, ?_, ?_, hne, ?_, ?_⟩
  · show ws.getD (i : Int).toNat 0 = m; rw [Int.toNat_natCast]; exact em
  · show ws.getD (j : Int).toNat 0 = n; rw [Int.toNat_natCast]; exact en
  · show 0 ≤ (i : Int) ∧ (i : Int) < ws.length; omega
  · show 0 ≤ (j : Int) ∧ (j : Int) < ws.length; omega
  · show w + (v - w) * Rat.divInt (2 * m) (m + n) - (v - (v - w) * Rat.divInt (2 * n) (m + n)) = v - w
    generalize Rat.divInt (2 * m) (m + n) = a at *
    generalize Rat.divInt (2 * n) (m + n) = b at *
    have : (v - w) * a + (v - w) * b = (v - w) * 2 := by rw [← Rat.mul_add, Rat.add_comm a b, h2]
    grind
  · show (m : Rat) * (v - (v - (v - w) * Rat.divInt (2 * n) (m + n))) = (n : Rat) * (w + (v - w) * Rat.divInt (2 * m) (m + n) - w)
    generalize Rat.divInt (2 * m) (m + n) = a at *
    generalize Rat.divInt (2 * n) (m + n) = b at *
    have e1 : (m : Rat) * (v - (v - (v - w) * b)) = (v - w) * ((m : Rat) * b) := by grind
    have e2 : (n : Rat) * (w + (v - w) * a - w) = (v - w) * ((n : Rat) * a) := by grind
    rw [e1, e2, h1]
theorem reb_of {x : Sg} (h1 : x.v ≠ x.w) (h2 : x.b - x.a = x.v - x.w) : x.reb = true := by unfold Sg.reb; rw [decide_eq_false h1, decide_eq_true h2]; rfl
theorem Meet.done {ws : List Int} {x : Sg} (h : Meet ws x) : doneB ws x = true := by
  obtain ⟨m, n, em, en, _, _, _, _, h1, h2, h3⟩ := h.facts
  unfold doneB
  rw [reb_of h1 h2, em, en, decide_eq_true h3]; rfl
theorem Meet.j {ws : List Int} {x : Sg} (h : Meet ws x) (hl : ws.length ≤ 1000) : SgJ x := by
  obtain ⟨i, j, m, n, v, w, rfl, hi, hj, em, en, m0, m1, n0, n1, hne, zv, zw, zg⟩ := h.ex
  have z1 : Sz 11 (Rat.divInt (2 * n) (m + n)) := sz_of_divInt (by omega) (by omega) (by omega)
  have z2 : Sz 11 (Rat.divInt (2 * m) (m + n)) := sz_of_divInt (by omega) (by omega) (by omega)
  refine ⟨?_, ?_, zv.mono (by decide), zw.mono (by decide), (zv.sub (zg.mul z1)).mono (by decide), (zw.add (zg.mul z2)).mono (by decide), ?_, ?_, zg⟩
  · show 0 ≤ (i : Int) ∧ (i : Int) ≤ 1000; omega
  · show 0 ≤ (j : Int) ∧ (j : Int) ≤ 1000; omega
  · have : (mkMeet i j m n v w).lost = (v - w) * Rat.divInt (2 * n) (m + n) := by show v - (v - (v - w) * Rat.divInt (2 * n) (m + n)) = _; grind
    rw [this]
    exact zg.mul z1
  · have : (mkMeet i j m n v w).won = (v - w) * Rat.divInt (2 * m) (m + n) := by show w + (v - w) * Rat.divInt (2 * m) (m + n) - w = _; grind
    rw [this]
    exact zg.mul z2
theorem SgJ.e {x : Sg} (h : SgJ x) {n : Nat} (hi : 0 ≤ x.i ∧ x.i < n) (hj : 0 ≤ x.j ∧ x.j < n) : SgE n x :=
  ⟨⟨h.i0, h.j0, h.v.mono (by decide), h.w.mono (by decide), h.a.mono (by decide), h.b.mono (by decide), h.lost.mono (by decide), h.won.mono (by decide)⟩, hi, hj⟩
theorem Meet.share {ws : List Int} {x : Sg} (h : Meet ws x) : ∃ q, x.share = some q := by
  obtain ⟨m, n, em, en, m1, n1, _⟩ := h.facts
  have hd := h.done
  rw [done_share (by rw [em]; exact m1) (by rw [en]; exact n1)] at hd
  cases e : x.share with
  | none => rw [e] at hd; cases hd
  | some q => exact ⟨q, rfl⟩
theorem Meet.sge {ws : List Int} {x : Sg} (h : Meet ws x) (hl : ws.length ≤ 1000) : SgE ws.length x := by
  obtain ⟨_, _, _, _, _, _, a, b, _⟩ := h.facts
  exact (h.j hl).e a b
theorem rg_le {b c : Int} {i : Nat} (h0 : 0 < b) (c0 : 0 < c) (h : i < ((b - 1) / c + 1).toNat) : 0 ≤ (i : Int) * c ∧ (i : Int) * c ≤ b - 1 := by
  have hd : 0 ≤ (b - 1) / c := Int.ediv_nonneg (by omega) (by omega)
  have hm : (b - 1) / c * c ≤ b - 1 := Int.ediv_mul_le _ (by omega)
  have h2 : (i : Int) * c ≤ (b - 1) / c * c := Int.mul_le_mul_of_nonneg_right (by omega) (by omega)
  exact ⟨Int.mul_nonneg (by omega) (by omega), by omega⟩
def sp_law_drawn (K : KF) : Spec := fun ds Ω R X => ∃ (ns : List Int) (n : Nat), ds = [.d (.list (ns.map PyData.int)), .d (.int n)] ∧ ns.length ≤ 63 ∧ 2 ≤ n ∧ n ≤ 8 ∧ ∀ (ws : List Int) (L : List Sg), ws.length = n → (∀ w ∈ ws, 1 ≤ w ∧ w ≤ 1000) → 1 ≤ L.length → L.length ≤ 62 → AllS L → (∀ x ∈ L, SgE n x) → R (.d (.tuple [.list (ws.map PyData.int), .list (L.map dSg)])) Ω
def t_law_drawn (K : KF) (W : WX) : TS :=
  (tSeq (tAsg (tCall (FS K (sp_law_weights K)) [] E0 (tCons (tCall (FS K (sp_law_dig K)) [] E0 (tCons (tOp (rAddX K) (tCall (FS K (sp_law_cell K)) [] E0 (tCons (tVar 0) (tCons (tC (.int 0)) tNil))) (tC (.int 1))) tNil)) (tCons (tVar 1) tNil))) (gName 2))
    (tSeq (tAsg (tLst tNil) (gName 3))
    (tSeq (tFor (iRng2 (tCons (tC (.int 1)) (tCons (tCB rMaxI (tCons (tC (.int 9)) (tCons (tCB rMinI (tCons (tC (.int 41)) (tCons (tCB (rLenQ K) (tCons (tVar 0) tNil)) tNil))) tNil))) tNil))) (gName 4) (tSeq (tAsg (tCall (FS K (sp_law_dig K)) [] E0 (tCons (tCall (FS K (sp_law_cell K)) [] E0 (tCons (tVar 0) (tCons (tVar 4) tNil))) tNil)) (gName 5))
    (tSeq (tAsg (tCB (rListO K) (tCons (tVar 2) tNil)) (gName 6))
    (tSeqI (tIfS (tTest (tOp (rEqD K) (tCall (FS K (sp_law_next K)) [] E0 (tCons (tVar 5) (tCons (tC (.int 5)) tNil))) (tC (.int 0)))) (tAsg (tOp (rAddX K) (tC (.int 1)) (tCall (FS K (sp_law_next K)) [] E0 (tCons (tVar 5) (tCons (tC (.int 1000)) tNil)))) (gSub (tVar 6) (tCall (FS K (sp_law_next K)) [] E0 (tCons (tVar 5) (tCons (tVar 1) tNil))) rSetL)) tNext)
    (tDrop (tBM K "list" rAppend (tVar 3) (tCons (tCall (FS K (sp_law_sighting K)) [] E0 (tCons (tVar 5) (tCons (tVar 6) tNil))) tNil)))))))
    (tRet (tTup (tCons (tVar 2) (tCons (tVar 3) tNil)))))))
theorem dnM {K : KF} {S L : Om} {p : OC} {b : Int} {R : DV → Om → Prop} {X : Exc → Om → Prop} {n : Nat} (e : n = S.length) (ip : IsPool p) (h0 : 0 < b) (h1 : b ≤ 10 ^ 30) (q : ∀ (r : Int) (p' : OC), 0 ≤ r → r < b → IsPool p' → R (.d (.int r)) (S ++ [p'] ++ L)) :
    sp_law_next K [.o n, .d (.int b)] (S ++ [p] ++ L) R X := by
  subst e
  exact ⟨S.length, p, b, rfl, by simp, ip, h0, h1, fun r p' r0 r1 ip' => by
    rw [show (S ++ [p] ++ L).set S.length p' = S ++ [p'] ++ L by simp]; exact q r p' r0 r1 ip'⟩
theorem w_law_drawn {K : KF} (W : WX) (ds : List DV) (Ω : Om) (R : DV → Om → Prop) (X : Exc → Om → Prop) (h : sp_law_drawn K ds Ω R X) : WS K W (t_law_drawn K W) (startG 7 ds) Ω (fnO Ω R X) := by
  obtain ⟨ns, n, rfl, hl, n1, n8, q⟩ := h
  show WS K W (t_law_drawn K W) [some (.d (.list (ns.map PyData.int))), some (.d (.int n)), none, none, none, none, none] Ω _
  unfold t_law_drawn
  generalize hT : tRet (tTup (tCons (tVar 2) (tCons (tVar 3) tNil))) = tl
  walk_at "hl"
  refine ⟨_, ns, 0, rfl, rfl, by decide, by decide, fun v => ?_⟩
  walk_at "hl"
  refine ⟨v + 1, rfl, fun p2 ip2 => ?_⟩
  walk_at "hl"
  refine ⟨Ω.length, p2, n, rfl, get_last _ _, ip2, by omega, fun ws p2 lw hw ip2 => ?_⟩
  rw [set_last]
  walk_at "hl"
  obtain ⟨S0, hS0⟩ : ∃ S0, Ω ++ [p2] = S0 := ⟨_, rfl⟩
  rw [hS0]
  refine ws_for (wi_rng2 ?_)
  walk_at "hl"
  refine ⟨_, _, rfl, ⟨by decide, by decide, ?_, ?_⟩, ?_⟩
  · (repeat' split) <;> omega
  · (repeat' split) <;> simp only [List.length_map] at * <;> omega
  refine ⟨fun i Γ Ω1 => ∃ (L : List Sg) (J : Om) (c4 c5 c6 : Option DV), Γ = [some (.d (.list (ns.map PyData.int))), some (.d (.int n)), some (.d (.list (ws.map PyData.int))), some (.o S0.length), c4, c5, c6] ∧
    Ω1 = S0 ++ [.lst ((L.map dSg).map DV.d)] ++ J ∧ L.length = i ∧ AllS L ∧ ∀ x ∈ L, SgE n x, ⟨[], [], none, none, none, rfl, by simp, rfl, fun x hx => (by cases hx), all_nil⟩, ?_, ?_, ?_⟩
  · rintro i Γ Ω1 - ⟨L, J, c4, c5, c6, rfl, rfl, -, -⟩
    exact ⟨trivial, by simp⟩
  · rintro i e Γ Ω1 he ⟨L, J, c4, c5, c6, rfl, rfl, hi, hA, hL⟩
    obtain ⟨hi1, rfl⟩ := rng_get he
    have hi2 : i ≤ 62 := by
      revert hi1
      (repeat' split) <;> simp only [List.length_map] at * <;> omega
    walk_at "hl"
    refine ⟨_, ns, 1 + (i : Int), rfl, rfl, by omega, by omega, fun v => ?_⟩
    walk_at "hl"
    refine ⟨v, rfl, fun p ip => ?_⟩
    walk_at "hl"
    refine wc_listO'' (xs := ws.map PyData.int) rfl ?_
    walk_at "hl"
    obtain ⟨B, hB⟩ : ∃ B, S0 ++ [OC.lst ((L.map dSg).map DV.d)] ++ J = B := ⟨_, rfl⟩
    rw [hB]
    rw [show (B ++ [p]).length = B.length + 1 by simp]
    refine ws_cut (fun Γ Ω1 => ∃ (vs : List Int) (p1 : OC), Γ = [some (.d (.list (ns.map PyData.int))), some (.d (.int n)), some (.d (.list (ws.map PyData.int))), some (.o S0.length), some (.d (.int (1 + (i : Int)))), some (.o B.length), some (.o (B.length + 1))] ∧ Ω1 = B ++ [p1] ++ [.lst ((vs.map PyData.int).map DV.d)] ∧ IsPool p1 ∧ vs.length = n ∧ ∀ w ∈ vs, 1 ≤ w ∧ w ≤ 1000) ?_ ?_
    rotate_left
    · walk_at "hl"
      refine dnM rfl ip (by decide) (by decide) fun r p1 r0 r1 ip => ?_
      walk_at "hl"
      refine ⟨fun _ => ?_, fun _ => ?_⟩
      · walk_at "hl"
        refine dnM rfl ip (by decide) (by decide) fun c p1 c0 c1 ip => ?_
        walk_at "hl"
        refine wg_subL (W := W) ?_ trivial
        walk_at "hl"
        refine dnM rfl ip (by omega) (by omega) fun at_ p1 a0 a1 ip => ?_
        obtain ⟨j, rfl⟩ : ∃ j : Nat, at_ = j := ⟨at_.toNat, by omega⟩
        refine ⟨B.length + 1, (ws.map PyData.int).map DV.d, j, j, rfl, rfl, by simp, ?_, ?_⟩
        · unfold ixN
          rw [List.length_map, List.length_map, lw]
          simp; omega
        · refine ⟨ws.set j (1 + c), p1, rfl, ?_, ip, by simp [lw], fun w hw' => ?_⟩
          · simp [List.map_set]
          · rcases List.mem_or_eq_of_mem_set hw' with h | rfl
            · exact hw w h
            · omega
      · walk_at "hl"
        exact ⟨ws, p1, rfl, rfl, ip, lw, hw⟩
    rintro Γ Ω1 ⟨vs, p1, rfl, rfl, ip, elv, hv⟩
    have gS : ∀ T, (B ++ T)[S0.length]? = some (.lst ((L.map dSg).map DV.d)) := fun T => by rw [← hB]; simp
    walk_at "hl"
    rw [List.append_assoc]
    refine ⟨⟨_, by show sqO _ = _; rw [gS]; rfl, rfl⟩, ?_⟩
    rw [← List.append_assoc]
    walk_at "hl"
    have st : ∀ p1 p2 (A : OC), (B ++ [p1] ++ [A]).set B.length p2 = B ++ [p2] ++ [A] := fun p1 p2 A => by simp
    refine ⟨B.length, p1, .o (B.length + 1), vs, rfl, by simp, ip, fun p' => by show sqO _ = _; simp [sqO], by omega, by omega, hv, fun i1 j1 m1 n1 v1 w1 p1 hi1 hj1 _ em en zv zw zg hvw ip => ?_⟩
    rw [st]
    have hm1 := hv m1 (List.mem_of_getElem? em)
    have hn1' := hv n1 (List.mem_of_getElem? en)
    have mt : Meet vs (mkMeet i1 j1 m1 n1 v1 w1) := ⟨⟨i1, j1, m1, n1, v1, w1, rfl, hi1, hj1, by rw [List.getD_eq_getElem?_getD, em]; rfl, by rw [List.getD_eq_getElem?_getD, en]; rfl, hm1.1, hm1.2, hn1'.1, hn1'.2, hvw, zv, zw, zg⟩⟩
    have hd : SgE n (mkMeet i1 j1 m1 n1 v1 w1) := by rw [← elv]; exact mt.sge (by omega)
    have hs := mt.share
    generalize mkMeet i1 j1 m1 n1 v1 w1 = y at hd hs
    walk_at "hl"
    rw [List.append_assoc]
    refine wm_append (gS _) (by simp; omega) ?_
    refine ⟨L ++ [y], J ++ ([p1] ++ [.lst ((vs.map PyData.int).map DV.d)]), _, _, _, rfl, by rw [← hB]; simp, by simp [hi], all_app hA (all_cons hs all_nil), all_app hL (all_cons hd all_nil)⟩
  · rintro Γ Ω1 ⟨L, J, c4, c5, c6, rfl, rfl, hi, hA, hL⟩
    subst hT
    have hi3 : 1 ≤ L.length ∧ L.length ≤ 62 := by
      revert hi
      (repeat' split) <;> simp only [List.length_map, List.length_range] at * <;> omega
    have g3 : (S0 ++ [OC.lst ((L.map dSg).map DV.d)] ++ J)[S0.length]? = some (.lst ((L.map dSg).map DV.d)) := by simp
    refine ws_ret (we_tup (wa_cons (we_var rfl (wa_cons (we_varF (xs := L.map dSg) rfl (by rw [g3]; exact asDs_data _) (wa_nil ?_))))))
    refine ⟨_, rfl, (by show 2 ≤ 100000; decide), ?_⟩
    have e3 : (S0 ++ [OC.lst ((L.map dSg).map DV.d)] ++ J).set S0.length OC.gone = Ω ++ ([p2] ++ [OC.gone] ++ J) := by rw [← hS0]; simp
    rw [e3]
    exact dr_app (q ws L lw hw hi3.1 hi3.2 hA hL) (fun i z => by cases z)
theorem sp_len_law_drawn {K : KF} (ds : List DV) (Ω : Om) (R : DV → Om → Prop) (X : Exc → Om → Prop) (h : sp_law_drawn K ds Ω R X) : ds.length = 2 := by
  unfold sp_law_drawn at h
  first
    | (obtain ⟨rfl, _⟩ := h; rfl)
    | (obtain ⟨_, rfl, _⟩ := h; rfl)
    | (obtain ⟨_, _, rfl, _⟩ := h; rfl)
    | (obtain ⟨_, _, _, rfl, _⟩ := h; rfl)
    | (obtain ⟨_, _, _, _, rfl, _⟩ := h; rfl)
    | (obtain ⟨_, _, _, _, _, rfl, _⟩ := h; rfl)
    | (obtain ⟨_, _, _, _, _, _, rfl, _⟩ := h; rfl)
    | (obtain ⟨_, _, _, _, _, _, _, rfl, _⟩ := h; rfl)
    | (obtain ⟨_, _, _, _, _, _, _, _, rfl, _⟩ := h; rfl)
    | (obtain ⟨_, _, _, _, _, _, _, _, _, rfl, _⟩ := h; rfl)
    | (obtain ⟨_, _, _, _, _, _, _, _, _, _, rfl, _⟩ := h; rfl)
    | (obtain ⟨_, _, _, _, _, _, _, _, _, _, _, rfl, _⟩ := h; rfl)
    | (obtain ⟨_, _, _, _, _, _, _, _, _, _, _, _, rfl, _⟩ := h; rfl)
    | (obtain ⟨_, _, _, _, _, _, _, _, _, _, _, _, _, rfl, _⟩ := h; rfl)
    | (obtain ⟨_, _, _, _, _, _, _, _, _, _, _, _, _, rfl, _⟩ := h; rfl)
    | (obtain ⟨_, _, _, _, _, _, _, _, _, _, _, _, _, _, rfl, _⟩ := h; rfl)
    | (obtain ⟨_, _, _, _, _, _, _, _, _, _, _, _, _, _, _, rfl, _⟩ := h; rfl)
    | (obtain ⟨_, _, _, _, _, _, _, _, _, _, _, _, _, _, _, _, rfl, _⟩ := h; rfl)
    | (obtain ⟨_, _, _, _, _, _, _, _, _, _, _, _, _, _, _, _, _, rfl, _⟩ := h; rfl)
    | (obtain ⟨_, _, _, _, _, _, _, _, _, _, _, _, _, _, _, _, _, _, rfl, _⟩ := h; rfl)
    | (obtain ⟨_, _, _, _, _, _, _, _, _, _, _, _, _, _, _, _, _, _, _, rfl, _⟩ := h; rfl)
    | (obtain ⟨_, _, _, _, _, _, _, _, _, _, _, _, _, _, _, _, _, _, _, _, rfl, _⟩ := h; rfl)
    | (obtain ⟨_, _, _, _, _, _, _, _, _, _, _, _, _, _, _, _, _, _, _, _, _, rfl, _⟩ := h; rfl)
def sp_law_is_ring (K : KF) : Spec := fun ds Ω R X => ∃ (xs : List Sg) (ring : List (Int × Int)), ds = [.d (.list (xs.map dSg)), .d (.list (ring.map dPr))] ∧ (∀ x ∈ xs, SgOk 60 x) ∧ ring.length ≤ 60 ∧ R (.d (.bool (ringB xs ring))) Ω
def t_law_is_ring (K : KF) (W : WX) : TS :=
  (tSeq (tAsg (tLst tNil) (gName 2))
    (tSeq (tAsg (tTup (tCons (tC (.int 1)) (tCons (tC (.int 1)) tNil))) (gTup K 2 (gCons (gName 3) (gCons (gName 4) gNil))))
    (tSeq (tFor (iSeq K (tVar 1)) (gTup K 2 (gCons (gName 5) (gCons (gName 6) gNil))) (tSeq (tIfS (tOr (tNot (tTest (tChain oLe oLt (tC (.int 0)) (tVar 5) (tCB (rLenQ K) (tCons (tVar 0) tNil))))) (tOr (tTest (tOp (rInA K true) (tVar 6) (tTup (tCons (tC (.int 0)) (tCons (tC (.int 1)) tNil))))) (tTest (tOp oIsN (tCall (FS K (sp_law_share K)) [] E0 (tCons (tOp (rIx K) (tVar 0) (tVar 5)) tNil)) (tC .non))))) (tRet (tC (.bl false))) tNext)
    (tSeq (tAsg (tCall (FS K (sp_law_share K)) [] E0 (tCons (tOp (rIx K) (tVar 0) (tVar 5)) tNil)) (gName 7))
    (tSeq (tDrop (tBM K "list" rAppend (tVar 2) (tCons (tTup (tCons (tOp (rIx K) (tOp (rIx K) (tVar 0) (tVar 5)) (tVar 6)) (tCons (tOp (rIx K) (tOp (rIx K) (tVar 0) (tVar 5)) (tOp oSub (tC (.int 1)) (tVar 6))) tNil))) tNil)))
    (tPar 3 4 (tCons (tOp oMul (tVar 3) (tOp (rIx K) (tVar 7) (tVar 6))) (tCons (tOp oMul (tVar 4) (tOp (rIx K) (tVar 7) (tOp oSub (tC (.int 1)) (tVar 6)))) tNil)))))))
    (tSeq (tIfS (tOr (tTest (tOp (rEqD K) (tVar 2) (tLst tNil))) (tTest (tOp (rEqD K) (tVar 3) (tVar 4)))) (tRet (tC (.bl false))) tNext)
    (tRet (tCB (rAll K) (tCons (tLc (iRng1 (tCons (tCB (rLenQ K) (tCons (tVar 2) tNil)) tNil)) (gName 8) tYes (tOp (rEqD K) (tOp (rIx K) (tOp (rIx K) (tVar 2) (tOp oSub (tVar 8) (tC (.int 1)))) (tC (.int 1))) (tOp (rIx K) (tOp (rIx K) (tVar 2) (tVar 8)) (tC (.int 0)))) [8]) tNil)))))))
def dEnd (s : St3) : PyData := .tuple [.int s.1, .int s.2.1]
theorem divInt_one_iff {a b : Int} (h : b ≠ 0) : Rat.divInt a b = 1 ↔ a = b := by
  rw [show (1 : Rat) = Rat.divInt 1 1 from rfl, Rat.divInt_eq_divInt_iff h (by decide)]
  omega
theorem atI_prev {α : Type} {l : List α} {k : Nat} (h : k < l.length) : atI l ((0 + (k : Int)) - 1) = l[(if k = 0 then l.length - 1 else k - 1)]? := by
  cases k with
  | zero =>
    rw [if_pos rfl]
    have hne : l ≠ [] := fun e => by rw [e] at h; simp at h
    obtain ⟨z, hz⟩ : ∃ z, l.getLast? = some z := ⟨_, List.getLast?_eq_getLast hne⟩
    show atI l (-1) = _
    rw [at_last hz, ← hz, List.getLast?_eq_getElem?]
  | succ k =>
    rw [if_neg (by omega), show (0 + ((k + 1 : Nat) : Int)) - 1 = (k : Int) by omega, show k + 1 - 1 = k by omega, List.getElem?_eq_getElem (by omega)]
    exact atI_nat (List.getElem?_eq_getElem (by omega))
theorem w_law_is_ring {K : KF} (W : WX) (ds : List DV) (Ω : Om) (R : DV → Om → Prop) (X : Exc → Om → Prop) (h : sp_law_is_ring K ds Ω R X) : WS K W (t_law_is_ring K W) (startG 9 ds) Ω (fnO Ω R X) := by
  obtain ⟨xs, ring, rfl, ok, hl, q⟩ := h
  show WS K W (t_law_is_ring K W) [some (.d (.list (xs.map dSg))), some (.d (.list (ring.map dPr))), none, none, none, none, none, none, none] Ω _
  unfold t_law_is_ring
  generalize hT : tSeq (tIfS (tOr (tTest (tOp (rEqD K) (tVar 2) (tLst tNil))) _) _ _) _ = tl
  walk_at "hl"
  refine ws_for (wi_L dPr ring ?_)
  walk_at "hl"
  refine ⟨rfl, ?_⟩
  have bad : (∃ p ∈ ring, stepF xs p = none) → ringB xs ring = false := fun ⟨p, hp, e⟩ => by
    unfold ringB
    rw [if_pos (.inr (List.any_eq_true.mpr ⟨p, hp, by rw [e]; rfl⟩))]
  refine ⟨fun i Γ Ω1 => ∃ (top bot : Int) (c5 c6 c7 : Option DV) (J : Om), Γ = [some (.d (.list (xs.map dSg))), some (.d (.list (ring.map dPr))), some (.o Ω.length), some (.d (.int top)), some (.d (.int bot)), c5, c6, c7, none] ∧
    Ω1 = Ω ++ [.lst ((((ring.take i).filterMap (stepF xs)).map dEnd).map DV.d)] ++ J ∧ (∀ p ∈ ring.take i, stepF xs p ≠ none) ∧ 0 < top ∧ 0 < bot ∧ Rat.divInt top bot = prodF ((ring.take i).filterMap (stepF xs)) ∧ top.natAbs < 2 ^ (121 * i + 1) ∧ bot.natAbs < 2 ^ (121 * i + 1),
    ⟨1, 1, none, none, none, [], rfl, by simp, by simp, by decide, by decide, by rfl, by decide, by decide⟩, ?_, ?_, ?_⟩
  · rintro i Γ Ω1 - ⟨top, bot, c5, c6, c7, J, rfl, rfl, -⟩
    exact ⟨trivial, by simp⟩
  · rintro i y Γ Ω1 hy ⟨top, bot, c5, c6, c7, J, rfl, rfl, ha, ht, hb, hp, zt, zb⟩
    obtain ⟨p, rfl, gp, mp, hi, tp⟩ := lmap_get hy
    have lo : ∀ ds, (Ω ++ [OC.lst ds] ++ J)[Ω.length]? = some (.lst ds) := fun ds => by simp
    have so : ∀ ds ds', (Ω ++ [OC.lst ds] ++ J).set Ω.length (.lst ds') = Ω ++ [.lst ds'] ++ J := fun ds ds' => by simp
    have no : stepF xs p = none → R (.d (.bool false)) Ω := fun e => by rw [bad ⟨p, mp, e⟩] at q; exact q
    have noF : ¬ (0 ≤ p.1 ∧ p.1 < xs.length ∧ (p.2 = 0 ∨ p.2 = 1)) → R (.d (.bool false)) Ω := fun h => no (by unfold stepF; rw [if_neg h])
    have dr : ∀ {J' : Om}, R (.d (.bool false)) Ω → Dr Ω R (.d (.bool false)) (Ω ++ J') := fun h => dr_app h (fun i h => by cases h)
    walk_at "hl"
    refine wg_tup2 (a := .int p.1) (b := .int p.2) ?_
    walk_at "hl"
    refine ⟨fun h1 => ?_, fun h1 => ?_⟩
    rotate_left
    · have h1 := of_decide_eq_false h1
      walk_at "hl"
      refine bT rfl (bT rfl ?_)
      walk_at "hl"
      rw [List.append_assoc]
      exact dr (noF (by omega))
    have h1 := of_decide_eq_true h1
    walk_at "hl"
    rw [List.length_map, List.length_map]
    refine ⟨fun h2 => ?_, fun h2 => ?_⟩
    · have h2 : ¬ p.1 < xs.length := fun e => by rw [decide_eq_true e] at h2; cases h2
      refine bT rfl ?_
      walk_at "hl"
      rw [List.append_assoc]
      exact dr (noF (by omega))
    have h2 : p.1 < xs.length := by
      have : decide (p.1 < (xs.length : Int)) = true := by revert h2; cases decide (p.1 < (xs.length : Int)) <;> simp
      exact of_decide_eq_true this
    walk_at "hl"
    refine wr_inI [0, 1] rfl ?_
    walk_at "hl"
    refine ⟨fun h => ?_, fun h => ?_⟩
    · have h : ¬ (p.2 = 0 ∨ p.2 = 1) := fun e => by
        have : p.2 ∈ [(0 : Int), 1] := by simpa using e
        rw [decide_eq_true this] at h; cases h
      refine bT rfl ?_
      walk_at "hl"
      rw [List.append_assoc]
      exact dr (noF fun z => h z.2.2)
    have h3 : p.2 = 0 ∨ p.2 = 1 := by
      have : decide (p.2 ∈ [(0 : Int), 1]) = true := by revert h; cases decide (p.2 ∈ [(0 : Int), 1]) <;> simp
      simpa using of_decide_eq_true this
    obtain ⟨pn, pw⟩ := p
    obtain ⟨j, rfl⟩ : ∃ j : Nat, pn = j := ⟨pn.toNat, by have : 0 ≤ pn := h1; omega⟩
    have h2 : j < xs.length := by have : (j : Int) < xs.length := h2; omega
    obtain ⟨x, ex⟩ : ∃ x, xs[j]? = some x := ⟨_, List.getElem?_eq_getElem h2⟩
    have okx := ok x (List.mem_of_getElem? ex)
    have ix : atI (xs.map dSg) (j : Int) = some (dSg x) := atI_nat (by rw [List.getElem?_map, ex]; rfl)
    have eF : stepF xs ((j : Int), pw) = match x.share with
        | none => none
        | some q => if pw = 0 then some (x.i, x.j, q) else some (x.j, x.i, 1 / q) := by
      unfold stepF
      rw [if_pos ⟨by simp, by simp; omega, h3⟩]
      show (match xs[((j : Int)).toNat]? with | none => none | some x => _) = _
      rw [Int.toNat_natCast, ex]
      try rfl
    walk_at "hl"
    refine wr_ixL ix ?_
    walk_at "hl"
    refine ⟨x, 60, rfl, okx, by decide, ?_⟩
    walk_at "hl"
    cases e : x.share with
    | none =>
      rw [e] at eF
      refine bT rfl ?_
      walk_at "hl"
      rw [List.append_assoc]
      exact dr (no eF)
    | some sh =>
      rw [e] at eF
      obtain ⟨zs, ps⟩ := share_sz okx (by decide) e
      have sn : 0 < sh.num := rat_num_pos ps
      have sd := den_pos sh
      have hi61 : i ≤ 60 := by omega
      have cm : ∀ {a b : Int}, a.natAbs < 2 ^ (121 * i + 1) → b.natAbs < 2 ^ 120 → CMulW a b := fun ha hb => cmul ha hb (by omega)
      have zsd : (sh.den : Int).natAbs < 2 ^ 120 := by simpa using zs.den
      have c1 := cm zt zs.num
      have c2 := cm zt zsd
      have c3 := cm zb zs.num
      have c4 := cm zb zsd
      have up : ∀ {a b : Int}, a.natAbs < 2 ^ (121 * i + 1) → b.natAbs < 2 ^ 120 → (a * b).natAbs < 2 ^ (121 * (i + 1) + 1) := fun ha hb => by
        rw [Int.natAbs_mul]
        exact Nat.lt_of_lt_of_le (mul_lt2 ha hb) (Nat.pow_le_pow_right (by decide) (by omega))
      have len : (((ring.take i).filterMap (stepF xs)).map dEnd).length ≤ 60 := by
        rw [List.length_map]
        refine Nat.le_trans (List.length_filterMap_le _ _) ?_
        rw [List.length_take]; omega
      have all : ∀ {s : St3}, stepF xs ((j : Int), pw) = some s → ∀ p ∈ ring.take (i + 1), stepF xs p ≠ none := fun h => by
        rw [tp]
        exact all_app ha (all_cons (by rw [h]; simp) all_nil)
      have fm : ∀ {s : St3}, stepF xs ((j : Int), pw) = some s → (ring.take (i + 1)).filterMap (stepF xs) = (ring.take i).filterMap (stepF xs) ++ [s] := fun h => by
        rw [tp, List.filterMap_append, List.filterMap_cons, h]; rfl
      refine bF rfl ?_
      walk_at "hl"
      refine wr_ixL ix ?_
      walk_at "hl"
      refine ⟨x, 60, rfl, okx, by decide, ?_⟩
      rw [show dO x.share = dR sh by rw [e]; rfl]
      walk_at "hl"
      refine ⟨⟨_, by show sqO _ = _; rw [lo]; rfl, rfl⟩, ?_⟩
      walk_at "hl"
      refine wr_ixL ix ?_
      walk_at "hl"
      rcases h3 with h3 | h3
      · have h3 : pw = 0 := h3
        subst h3
        have eF : stepF xs ((j : Int), 0) = some (x.i, x.j, sh) := eF
        refine wr_ixT (xs := [.int x.i, .int x.j, dR x.v, dR x.w, dR x.a, dR x.b]) rfl ?_
        walk_at "hl"
        refine wr_ixL ix ?_
        walk_at "hl"
        refine wr_ixT (xs := [.int x.i, .int x.j, dR x.v, dR x.w, dR x.a, dR x.b]) (y := .int x.j) rfl ?_
        walk_at "hl"
        refine wm_append (lo _) (by rw [List.length_map]; omega) ?_
        rw [so]
        walk_at "hl"
        refine wr_ixT (xs := [.int sh.num, .int sh.den]) (y := .int sh.den) rfl ?_
        walk_at "hl"
        refine ⟨_, _, _, _, _, J, rfl, ?_, all eF, Int.mul_pos ht sn, Int.mul_pos hb sd, ?_, up zt zs.num, up zb zsd⟩
        · rw [fm eF]; simp [dEnd]
        · rw [fm eF, prodF_snoc, ← hp]
          show _ = Rat.divInt top bot * sh
          conv => rhs; rhs; rw [← Rat.num_divInt_den sh]
          rw [Rat.divInt_mul_divInt]
      · have h3 : pw = 1 := h3
        subst h3
        have eF : stepF xs ((j : Int), 1) = some (x.j, x.i, 1 / sh) := eF
        refine wr_ixT (xs := [.int x.i, .int x.j, dR x.v, dR x.w, dR x.a, dR x.b]) rfl ?_
        walk_at "hl"
        refine wr_ixL ix ?_
        walk_at "hl"
        refine wr_ixT (xs := [.int x.i, .int x.j, dR x.v, dR x.w, dR x.a, dR x.b]) (y := .int x.i) rfl ?_
        walk_at "hl"
        refine wm_append (lo _) (by rw [List.length_map]; omega) ?_
        rw [so]
        walk_at "hl"
        refine wr_ixT (xs := [.int sh.num, .int sh.den]) (y := .int sh.num) rfl ?_
        walk_at "hl"
        refine ⟨_, _, _, _, _, J, rfl, ?_, all eF, Int.mul_pos ht sd, Int.mul_pos hb sn, ?_, up zt zsd, up zb zs.num⟩
        · rw [fm eF]; simp [dEnd]
        · rw [fm eF, prodF_snoc, ← hp]
          show _ = Rat.divInt top bot * (1 / sh)
          rw [← rat_div 1 sh, Rat.divInt_mul_divInt]
          simp
  · rintro Γ Ω1 ⟨top, bot, c5, c6, c7, J, rfl, rfl, ha, ht, hb, hp, zt, zb⟩
    clear zt zb
    rw [List.length_map, List.take_length] at ha hp
    rw [List.length_map, List.take_length]
    have el : (ring.filterMap (stepF xs)).length = ring.length := by
      have h2 : (ring.any fun p => (stepF xs p).isNone) = false := Bool.eq_false_iff.mpr fun h => by
        obtain ⟨p, hp, e⟩ := List.any_eq_true.mp h
        exact ha p hp (Option.isNone_iff_eq_none.mp e)
      have := congrArg List.length (steps_some h2)
      rw [List.length_map, List.length_map] at this
      exact this.symm
    have q' : R (.d (.bool (if ring = [] then false else closes (ring.filterMap (stepF xs)) && !decide (prodF (ring.filterMap (stepF xs)) = 1)))) Ω := by
      unfold ringB at q
      by_cases e : ring = []
      · rw [if_pos (.inl e)] at q
        rw [if_pos e]; exact q
      · rw [if_neg (fun z => z.elim e fun h => by
          obtain ⟨p, hp, e⟩ := List.any_eq_true.mp h
          exact ha p hp (Option.isNone_iff_eq_none.mp e))] at q
        rw [if_neg e]; exact q
    clear q
    generalize ring.filterMap (stepF xs) = st at q' hp el
    have lo : ∀ L : Om, (Ω ++ [OC.lst ((st.map dEnd).map DV.d)] ++ J ++ L)[Ω.length]? = some (.lst ((st.map dEnd).map DV.d)) := fun L => by simp
    have lo0 : (Ω ++ [OC.lst ((st.map dEnd).map DV.d)] ++ J)[Ω.length]? = some (.lst ((st.map dEnd).map DV.d)) := by simp
    have dr : ∀ {b : Bool} {J' : Om}, R (.d (.bool b)) Ω → Dr Ω R (.d (.bool b)) (Ω ++ J') := fun h => dr_app h (fun i h => by cases h)
    have s1 : SeqAt.shaped (.list (st.map dEnd)) = true := shaped_of ((shp_list (n := 1) (shp_map (f := dEnd) fun s => shp_tup (n := 0) (shp_cons shp_int (shp_cons shp_int shp_nil)))).mono (by decide))
    subst hT
    walk_at "hl"
    refine wr_eq (a := .list (st.map dEnd)) (b := .list []) (by show vwO _ = _; rw [lo0]; show (asDs _).map _ = _; rw [asDs_data]; rfl) rfl s1 rfl ?_
    rw [show PyData.eqv (.list (st.map dEnd)) (.list []) = st.isEmpty by cases st <;> rfl]
    walk_at "hl"
    refine ⟨fun h => ?_, fun h => ?_⟩
    · have h : ring = [] := List.eq_nil_of_length_eq_zero (by rw [← el, List.isEmpty_iff.mp h]; rfl)
      rw [if_pos h] at q'
      refine bT rfl ?_
      walk_at "hl"
      rw [List.append_assoc]
      exact dr q'
    have hne : ring ≠ [] := fun e => by
      rw [e] at el
      rw [List.eq_nil_of_length_eq_zero el] at h; cases h
    rw [if_neg hne] at q'
    walk_at "hl"
    refine ⟨fun h => ?_, fun h => ?_⟩
    · have h := of_decide_eq_true h
      rw [decide_eq_true (hp.symm.trans ((divInt_one_iff (by omega)).mpr h)), Bool.not_true, Bool.and_false] at q'
      walk_at "hl"
      rw [List.append_assoc]
      exact dr q'
    have h := of_decide_eq_false h
    rw [decide_eq_false (fun z => h ((divInt_one_iff (by omega)).mp (hp.trans z))), Bool.not_false, Bool.and_true] at q'
    walk_at "hl"
    refine we_lcP (α := Nat) only1 (wi_rng1 ?_)
    walk_at "hl"
    refine wc_len' (ds := (st.map dEnd).map DV.d) (by show sqO _ = _; rw [lo0]; rfl) ?_
    walk_at "hl"
    rw [List.length_map, List.length_map]
    refine ⟨st.length, rfl, by omega, by omega, List.range st.length, _, fun _ => true, fun k => .bool (decide ((st.getD (if k = 0 then st.length - 1 else k - 1) d3).2.1 = (st.getD k d3).1)), rfl, by simp; omega, rfl, fun _ => trivial, ?_, ?_⟩
    · rintro k Ω' hk ⟨ds, rfl⟩
      have hk := List.mem_range.mp hk
      have g : ∀ k', k' < st.length → st[k']? = some (st.getD k' d3) := fun k' h => by rw [List.getD_eq_getElem?_getD, List.getElem?_eq_getElem h]; rfl
      have ix1 : atI ((st.map dEnd).map DV.d) ((0 + (k : Int)) - 1) = some (.d (dEnd (st.getD (if k = 0 then st.length - 1 else k - 1) d3))) := by
        rw [atI_map, atI_map, atI_prev hk, g _ (by split <;> omega)]; rfl
      have ix2 : atI ((st.map dEnd).map DV.d) (0 + (k : Int)) = some (.d (dEnd (st.getD k d3))) := by
        rw [Int.zero_add]
        exact atI_nat (by rw [List.getElem?_map, List.getElem?_map, g k hk]; rfl)
      obtain ⟨s, es⟩ : ∃ s, st.getD (if k = 0 then st.length - 1 else k - 1) d3 = s := ⟨_, rfl⟩
      obtain ⟨s', es'⟩ : ∃ s', st.getD k d3 = s' := ⟨_, rfl⟩
      rw [es] at ix1
      rw [es'] at ix2
      walk_at "hl"
      refine ⟨rfl, rfl, fun _ => ?_⟩
      walk_at "hl"
      refine wr_ix (by show sqO _ = _; rw [lo]; rfl) ix1 ?_
      walk_at "hl"
      refine wr_ixT (xs := [.int s.1, .int s.2.1]) rfl ?_
      walk_at "hl"
      refine wr_ix (by show sqO _ = _; rw [lo]; rfl) ix2 ?_
      walk_at "hl"
      refine wr_ixT (xs := [.int s'.1, .int s'.2.1]) rfl ?_
      walk_at "hl"
      refine ⟨?_, rfl⟩
      show _ = DV.d (PyData.bool (decide ((st.getD (if k = 0 then st.length - 1 else k - 1) d3).2.1 = (st.getD k d3).1)))
      rw [es, es']
    rw [filter_yes]
    walk_at "hl"
    refine wc_all (bs := (List.range st.length).map fun k => decide ((st.getD (if k = 0 then st.length - 1 else k - 1) d3).2.1 = (st.getD k d3).1)) (by show some ((List.range st.length).map _) = some _; rw [List.map_map]; rfl) ?_
    rw [List.all_map, List.append_assoc]
    exact dr q'
theorem sp_len_law_is_ring {K : KF} (ds : List DV) (Ω : Om) (R : DV → Om → Prop) (X : Exc → Om → Prop) (h : sp_law_is_ring K ds Ω R X) : ds.length = 2 := by
  unfold sp_law_is_ring at h
  first
    | (obtain ⟨rfl, _⟩ := h; rfl)
    | (obtain ⟨_, rfl, _⟩ := h; rfl)
    | (obtain ⟨_, _, rfl, _⟩ := h; rfl)
    | (obtain ⟨_, _, _, rfl, _⟩ := h; rfl)
    | (obtain ⟨_, _, _, _, rfl, _⟩ := h; rfl)
    | (obtain ⟨_, _, _, _, _, rfl, _⟩ := h; rfl)
    | (obtain ⟨_, _, _, _, _, _, rfl, _⟩ := h; rfl)
    | (obtain ⟨_, _, _, _, _, _, _, rfl, _⟩ := h; rfl)
    | (obtain ⟨_, _, _, _, _, _, _, _, rfl, _⟩ := h; rfl)
    | (obtain ⟨_, _, _, _, _, _, _, _, _, rfl, _⟩ := h; rfl)
    | (obtain ⟨_, _, _, _, _, _, _, _, _, _, rfl, _⟩ := h; rfl)
    | (obtain ⟨_, _, _, _, _, _, _, _, _, _, _, rfl, _⟩ := h; rfl)
    | (obtain ⟨_, _, _, _, _, _, _, _, _, _, _, _, rfl, _⟩ := h; rfl)
    | (obtain ⟨_, _, _, _, _, _, _, _, _, _, _, _, _, rfl, _⟩ := h; rfl)
    | (obtain ⟨_, _, _, _, _, _, _, _, _, _, _, _, _, rfl, _⟩ := h; rfl)
    | (obtain ⟨_, _, _, _, _, _, _, _, _, _, _, _, _, _, rfl, _⟩ := h; rfl)
    | (obtain ⟨_, _, _, _, _, _, _, _, _, _, _, _, _, _, _, rfl, _⟩ := h; rfl)
    | (obtain ⟨_, _, _, _, _, _, _, _, _, _, _, _, _, _, _, _, rfl, _⟩ := h; rfl)
    | (obtain ⟨_, _, _, _, _, _, _, _, _, _, _, _, _, _, _, _, _, rfl, _⟩ := h; rfl)
    | (obtain ⟨_, _, _, _, _, _, _, _, _, _, _, _, _, _, _, _, _, _, rfl, _⟩ := h; rfl)
    | (obtain ⟨_, _, _, _, _, _, _, _, _, _, _, _, _, _, _, _, _, _, _, rfl, _⟩ := h; rfl)
    | (obtain ⟨_, _, _, _, _, _, _, _, _, _, _, _, _, _, _, _, _, _, _, _, rfl, _⟩ := h; rfl)
    | (obtain ⟨_, _, _, _, _, _, _, _, _, _, _, _, _, _, _, _, _, _, _, _, _, rfl, _⟩ := h; rfl)
def sp_divisor_of (K : KF) : Spec := fun ds Ω R X => ∃ a b : Int, ds = [.d (.int a), .d (.int b)] ∧ R (.d (.int (Int.gcd a b))) Ω
def t_divisor_of (K : KF) (W : WX) : TS :=
  (tSeq (tWhile (tTest (tOp (rNeD K) (tVar 1) (tC (.int 0)))) (tPar 0 1 (tCons (tVar 1) (tCons (tOp oMod (tVar 0) (tVar 1)) tNil))))
    (tRet (tCB rAbsI (tCons (tVar 0) tNil))))
theorem w_divisor_of {K : KF} (W : WX) (ds : List DV) (Ω : Om) (R : DV → Om → Prop) (X : Exc → Om → Prop) (h : sp_divisor_of K ds Ω R X) : WS K W (t_divisor_of K W) (startG 2 ds) Ω (fnO Ω R X) := by
  obtain ⟨a, b, rfl, q⟩ := h
  show WS K W (t_divisor_of K W) [some (.d (.int a)), some (.d (.int b))] Ω _
  unfold t_divisor_of
  refine ws_seq (ws_while (fun n Γ Ω1 => ∃ c d : Int, Γ = [some (.d (.int c)), some (.d (.int d))] ∧ Ω1 = Ω ∧ Int.gcd c d = Int.gcd a b ∧ d.natAbs = n) b.natAbs ⟨a, b, rfl, rfl, rfl, rfl⟩ ?_)
  rintro n Γ Ω1 - ⟨c, d, rfl, rfl, hg, rfl⟩
  walk_at "hl"
  refine ⟨fun hb => ?_, fun hb => ?_⟩
  · have hd : d ≠ 0 := by
      intro e
      subst e
      simp at hb
    walk_at "hl"
    refine wr_mod hd ?_
    walk_at "hl"
    exact ⟨_, fmod_natAbs_lt hd, d, _, rfl, rfl, (gcd_fmod c d).trans hg, rfl⟩
  · have hd : d = 0 := by
      simpa using hb
    subst hd
    walk_at "hl"
    rw [abs_if, ← Int.gcd_zero_right c, hg]
    exact dr_same q
theorem sp_len_divisor_of {K : KF} (ds : List DV) (Ω : Om) (R : DV → Om → Prop) (X : Exc → Om → Prop) (h : sp_divisor_of K ds Ω R X) : ds.length = 2 := by
  unfold sp_divisor_of at h
  first
    | (obtain ⟨rfl, _⟩ := h; rfl)
    | (obtain ⟨_, rfl, _⟩ := h; rfl)
    | (obtain ⟨_, _, rfl, _⟩ := h; rfl)
    | (obtain ⟨_, _, _, rfl, _⟩ := h; rfl)
    | (obtain ⟨_, _, _, _, rfl, _⟩ := h; rfl)
    | (obtain ⟨_, _, _, _, _, rfl, _⟩ := h; rfl)
    | (obtain ⟨_, _, _, _, _, _, rfl, _⟩ := h; rfl)
    | (obtain ⟨_, _, _, _, _, _, _, rfl, _⟩ := h; rfl)
    | (obtain ⟨_, _, _, _, _, _, _, _, rfl, _⟩ := h; rfl)
    | (obtain ⟨_, _, _, _, _, _, _, _, _, rfl, _⟩ := h; rfl)
    | (obtain ⟨_, _, _, _, _, _, _, _, _, _, rfl, _⟩ := h; rfl)
    | (obtain ⟨_, _, _, _, _, _, _, _, _, _, _, rfl, _⟩ := h; rfl)
    | (obtain ⟨_, _, _, _, _, _, _, _, _, _, _, _, rfl, _⟩ := h; rfl)
    | (obtain ⟨_, _, _, _, _, _, _, _, _, _, _, _, _, rfl, _⟩ := h; rfl)
    | (obtain ⟨_, _, _, _, _, _, _, _, _, _, _, _, _, rfl, _⟩ := h; rfl)
    | (obtain ⟨_, _, _, _, _, _, _, _, _, _, _, _, _, _, rfl, _⟩ := h; rfl)
    | (obtain ⟨_, _, _, _, _, _, _, _, _, _, _, _, _, _, _, rfl, _⟩ := h; rfl)
    | (obtain ⟨_, _, _, _, _, _, _, _, _, _, _, _, _, _, _, _, rfl, _⟩ := h; rfl)
    | (obtain ⟨_, _, _, _, _, _, _, _, _, _, _, _, _, _, _, _, _, rfl, _⟩ := h; rfl)
    | (obtain ⟨_, _, _, _, _, _, _, _, _, _, _, _, _, _, _, _, _, _, rfl, _⟩ := h; rfl)
    | (obtain ⟨_, _, _, _, _, _, _, _, _, _, _, _, _, _, _, _, _, _, _, rfl, _⟩ := h; rfl)
    | (obtain ⟨_, _, _, _, _, _, _, _, _, _, _, _, _, _, _, _, _, _, _, _, rfl, _⟩ := h; rfl)
    | (obtain ⟨_, _, _, _, _, _, _, _, _, _, _, _, _, _, _, _, _, _, _, _, _, rfl, _⟩ := h; rfl)
def wholeB : PyData → Bool
  | .int _ => true
  | _ => false
def sp_is_whole (K : KF) : Spec := fun ds Ω R X => ∃ x, ds = [.d x] ∧ known x = true ∧ R (.d (.bool (wholeB x))) Ω
def t_is_whole (K : KF) (W : WX) : TS :=
  (tRet (tAndV (tCB (rIsi K) (tCons (tVar 0) (tCons (tC (.ty "int")) tNil))) (tNotV (tCB (rIsi K) (tCons (tVar 0) (tCons (tC (.ty "bool")) tNil))))))
theorem w_is_whole {K : KF} (W : WX) (ds : List DV) (Ω : Om) (R : DV → Om → Prop) (X : Exc → Om → Prop) (h : sp_is_whole K ds Ω R X) : WS K W (t_is_whole K W) (startG 1 ds) Ω (fnO Ω R X) := by
  obtain ⟨x, rfl, hn, q⟩ := h
  show WS K W (t_is_whole K W) [some (.d x)] Ω _
  unfold t_is_whole
  walk_at "hl"
  refine ⟨fun h => ?_, fun h => ?_⟩
  · walk_at "hl"
    have e : (!isBool x) = wholeB x := by cases x <;> first | rfl | cases h
    rw [e]
    exact dr_same q
  · have e : false = wholeB x := by cases x <;> first | rfl | cases h
    rw [e]
    exact dr_same q
theorem sp_len_is_whole {K : KF} (ds : List DV) (Ω : Om) (R : DV → Om → Prop) (X : Exc → Om → Prop) (h : sp_is_whole K ds Ω R X) : ds.length = 1 := by
  unfold sp_is_whole at h
  first
    | (obtain ⟨rfl, _⟩ := h; rfl)
    | (obtain ⟨_, rfl, _⟩ := h; rfl)
    | (obtain ⟨_, _, rfl, _⟩ := h; rfl)
    | (obtain ⟨_, _, _, rfl, _⟩ := h; rfl)
    | (obtain ⟨_, _, _, _, rfl, _⟩ := h; rfl)
    | (obtain ⟨_, _, _, _, _, rfl, _⟩ := h; rfl)
    | (obtain ⟨_, _, _, _, _, _, rfl, _⟩ := h; rfl)
    | (obtain ⟨_, _, _, _, _, _, _, rfl, _⟩ := h; rfl)
    | (obtain ⟨_, _, _, _, _, _, _, _, rfl, _⟩ := h; rfl)
    | (obtain ⟨_, _, _, _, _, _, _, _, _, rfl, _⟩ := h; rfl)
    | (obtain ⟨_, _, _, _, _, _, _, _, _, _, rfl, _⟩ := h; rfl)
    | (obtain ⟨_, _, _, _, _, _, _, _, _, _, _, rfl, _⟩ := h; rfl)
    | (obtain ⟨_, _, _, _, _, _, _, _, _, _, _, _, rfl, _⟩ := h; rfl)
    | (obtain ⟨_, _, _, _, _, _, _, _, _, _, _, _, _, rfl, _⟩ := h; rfl)
    | (obtain ⟨_, _, _, _, _, _, _, _, _, _, _, _, _, rfl, _⟩ := h; rfl)
    | (obtain ⟨_, _, _, _, _, _, _, _, _, _, _, _, _, _, rfl, _⟩ := h; rfl)
    | (obtain ⟨_, _, _, _, _, _, _, _, _, _, _, _, _, _, _, rfl, _⟩ := h; rfl)
    | (obtain ⟨_, _, _, _, _, _, _, _, _, _, _, _, _, _, _, _, rfl, _⟩ := h; rfl)
    | (obtain ⟨_, _, _, _, _, _, _, _, _, _, _, _, _, _, _, _, _, rfl, _⟩ := h; rfl)
    | (obtain ⟨_, _, _, _, _, _, _, _, _, _, _, _, _, _, _, _, _, _, rfl, _⟩ := h; rfl)
    | (obtain ⟨_, _, _, _, _, _, _, _, _, _, _, _, _, _, _, _, _, _, _, rfl, _⟩ := h; rfl)
    | (obtain ⟨_, _, _, _, _, _, _, _, _, _, _, _, _, _, _, _, _, _, _, _, rfl, _⟩ := h; rfl)
    | (obtain ⟨_, _, _, _, _, _, _, _, _, _, _, _, _, _, _, _, _, _, _, _, _, rfl, _⟩ := h; rfl)
def badR : PyData → PyData → Bool
  | .int _, .int b => decide (b = 0)
  | _, _ => true
/-- a ratio made: of a whole number and one that is not 0; else refused -/
def sp_ratio (K : KF) : Spec := fun ds Ω R X => ∃ x y, ds = [.d x, .d y] ∧ known x = true ∧ known y = true ∧
  ((∃ a b : Int, x = .int a ∧ y = .int b ∧ b ≠ 0 ∧ (∃ k, b.natAbs < 2 ^ k ∧ k ≤ 8990) ∧ R (.d (dR (Rat.divInt a b))) Ω) ∨ (badR x y = true ∧ X (.own (He.ga K "NoRatio")) Ω))
def t_ratio (K : KF) (W : WX) : TS :=
  (tSeq (tIfS (tOr (tNot (tB (tCall (FS K (sp_is_whole K)) [] E0 (tCons (tVar 0) tNil)))) (tOr (tNot (tB (tCall (FS K (sp_is_whole K)) [] E0 (tCons (tVar 1) tNil)))) (tTest (tOp (rEqD K) (tVar 1) (tC (.int 0)))))) (tRaise K "NoRatio" W) tNext)
    (tSeq (tAsg (tCall (FS K (sp_divisor_of K)) [] E0 (tCons (tVar 0) (tCons (tVar 1) tNil))) (gName 2))
    (tSeq (tIfS (tTest (tOp oLt (tVar 1) (tC (.int 0)))) (tAsg (tOp oSub (tC (.int 0)) (tVar 2)) (gName 2)) tNext)
    (tRet (tTup (tCons (tOp oFdiv (tVar 0) (tVar 2)) (tCons (tOp oFdiv (tVar 1) (tVar 2)) tNil)))))))
theorem w_ratio {K : KF} (W : WX) (ds : List DV) (Ω : Om) (R : DV → Om → Prop) (X : Exc → Om → Prop) (h : sp_ratio K ds Ω R X) : WS K W (t_ratio K W) (startG 3 ds) Ω (fnO Ω R X) := by
  obtain ⟨x, y, rfl, hn, hm, h⟩ := h
  show WS K W (t_ratio K W) [some (.d x), some (.d y), none] Ω _
  unfold t_ratio
  rcases h with ⟨a, b, rfl, rfl, hb, ⟨k, hk, hk2⟩, q⟩ | ⟨hbad, q⟩
  · walk_at "hl"
    refine ⟨_, rfl, hn, ?_⟩
    walk_at "hl"
    refine bF rfl ?_
    walk_at "hl"
    refine ⟨_, rfl, hm, ?_⟩
    walk_at "hl"
    refine bF rfl ?_
    walk_at "hl"
    refine ⟨fun h => absurd (of_decide_eq_true h) hb, fun _ => ?_⟩
    walk_at "hl"
    refine ⟨a, b, rfl, ?_⟩
    walk_at "hl"
    rw [dR_eq hb] at q
    refine ⟨fun h => ?_, fun h => ?_⟩
    · walk_at "hl"
      have e : (0 - ((Int.gcd a b : Nat) : Int)) = byOf a b := by
        unfold byOf
        rw [if_pos (of_decide_eq_true h)]
      rw [e]
      refine wr_fdiv (cdiv_by hb hk hk2) ?_
      walk_at "hl"
      refine wr_fdiv (cdiv_by hb hk hk2) ?_
      walk_at "hl"
      exact dr_same q
    · walk_at "hl"
      have e : ((Int.gcd a b : Nat) : Int) = byOf a b := by
        unfold byOf
        rw [if_neg (of_decide_eq_false h)]
      rw [e]
      refine wr_fdiv (cdiv_by hb hk hk2) ?_
      walk_at "hl"
      refine wr_fdiv (cdiv_by hb hk hk2) ?_
      walk_at "hl"
      exact dr_same q
  · have bad : ∀ {O : Outs}, O.er [some (.d x), some (.d y), none] (.own (He.ga K "NoRatio")) Ω → WS K W (tRaise K "NoRatio" W) [some (.d x), some (.d y), none] Ω O := fun z => ws_rs z
    walk_at "hl"
    refine ⟨_, rfl, hn, ?_⟩
    walk_at "hl"
    cases hx : wholeB x with
    | false => exact bT rfl (bT rfl (bad (.inl q)))
    | true =>
      refine bF rfl ?_
      walk_at "hl"
      refine ⟨_, rfl, hm, ?_⟩
      walk_at "hl"
      cases hy : wholeB y with
      | false => exact bT rfl (bT rfl (bad (.inl q)))
      | true =>
        refine bF rfl ?_
        walk_at "hl"
        cases x <;> cases hx
        cases y <;> cases hy
        rename_i a b
        have e : b = 0 := of_decide_eq_true hbad
        subst e
        walk_at "hl"
        exact bT rfl (bad (.inl q))
theorem sp_len_ratio {K : KF} (ds : List DV) (Ω : Om) (R : DV → Om → Prop) (X : Exc → Om → Prop) (h : sp_ratio K ds Ω R X) : ds.length = 2 := by
  unfold sp_ratio at h
  first
    | (obtain ⟨rfl, _⟩ := h; rfl)
    | (obtain ⟨_, rfl, _⟩ := h; rfl)
    | (obtain ⟨_, _, rfl, _⟩ := h; rfl)
    | (obtain ⟨_, _, _, rfl, _⟩ := h; rfl)
    | (obtain ⟨_, _, _, _, rfl, _⟩ := h; rfl)
    | (obtain ⟨_, _, _, _, _, rfl, _⟩ := h; rfl)
    | (obtain ⟨_, _, _, _, _, _, rfl, _⟩ := h; rfl)
    | (obtain ⟨_, _, _, _, _, _, _, rfl, _⟩ := h; rfl)
    | (obtain ⟨_, _, _, _, _, _, _, _, rfl, _⟩ := h; rfl)
    | (obtain ⟨_, _, _, _, _, _, _, _, _, rfl, _⟩ := h; rfl)
    | (obtain ⟨_, _, _, _, _, _, _, _, _, _, rfl, _⟩ := h; rfl)
    | (obtain ⟨_, _, _, _, _, _, _, _, _, _, _, rfl, _⟩ := h; rfl)
    | (obtain ⟨_, _, _, _, _, _, _, _, _, _, _, _, rfl, _⟩ := h; rfl)
    | (obtain ⟨_, _, _, _, _, _, _, _, _, _, _, _, _, rfl, _⟩ := h; rfl)
    | (obtain ⟨_, _, _, _, _, _, _, _, _, _, _, _, _, rfl, _⟩ := h; rfl)
    | (obtain ⟨_, _, _, _, _, _, _, _, _, _, _, _, _, _, rfl, _⟩ := h; rfl)
    | (obtain ⟨_, _, _, _, _, _, _, _, _, _, _, _, _, _, _, rfl, _⟩ := h; rfl)
    | (obtain ⟨_, _, _, _, _, _, _, _, _, _, _, _, _, _, _, _, rfl, _⟩ := h; rfl)
    | (obtain ⟨_, _, _, _, _, _, _, _, _, _, _, _, _, _, _, _, _, rfl, _⟩ := h; rfl)
    | (obtain ⟨_, _, _, _, _, _, _, _, _, _, _, _, _, _, _, _, _, _, rfl, _⟩ := h; rfl)
    | (obtain ⟨_, _, _, _, _, _, _, _, _, _, _, _, _, _, _, _, _, _, _, rfl, _⟩ := h; rfl)
    | (obtain ⟨_, _, _, _, _, _, _, _, _, _, _, _, _, _, _, _, _, _, _, _, rfl, _⟩ := h; rfl)
    | (obtain ⟨_, _, _, _, _, _, _, _, _, _, _, _, _, _, _, _, _, _, _, _, _, rfl, _⟩ := h; rfl)
def sp_minus (K : KF) : Spec := fun ds Ω R X => ∃ p q : Rat, ds = [.d (dR p), .d (dR q)] ∧ Sz2 p q ∧ R (.d (dR (p - q))) Ω
def t_minus (K : KF) (W : WX) : TS :=
  (tRet (tCall (FS K (sp_ratio K)) [] E0 (tCons (tOp oSub (tOp oMul (tOp (rIx K) (tVar 0) (tC (.int 0))) (tOp (rIx K) (tVar 1) (tC (.int 1)))) (tOp oMul (tOp (rIx K) (tVar 1) (tC (.int 0))) (tOp (rIx K) (tVar 0) (tC (.int 1))))) (tCons (tOp oMul (tOp (rIx K) (tVar 0) (tC (.int 1))) (tOp (rIx K) (tVar 1) (tC (.int 1)))) tNil))))
theorem w_minus {K : KF} (W : WX) (ds : List DV) (Ω : Om) (R : DV → Om → Prop) (X : Exc → Om → Prop) (h : sp_minus K ds Ω R X) : WS K W (t_minus K W) (startG 2 ds) Ω (fnO Ω R X) := by
  obtain ⟨p, q, rfl, ⟨n, m, hp, hq, hz⟩, k⟩ := h
  show WS K W (t_minus K W) [some (.d (dR p)), some (.d (dR q))] Ω _
  unfold t_minus
  obtain ⟨nn, nd, dn, dd⟩ := muls hp hq (by omega)
  obtain ⟨nn', nd', dn', dd'⟩ := muls hq hp (by omega)
  walk_at "hl"
  refine ⟨_, _, rfl, rfl, rfl, .inl ⟨_, _, rfl, rfl, den_mul_ne p q, ⟨n + m, den_mul_lt hp hq, by omega⟩, ?_⟩⟩
  walk_at "hl"
  rw [rat_sub]
  exact dr_same k
theorem sp_len_minus {K : KF} (ds : List DV) (Ω : Om) (R : DV → Om → Prop) (X : Exc → Om → Prop) (h : sp_minus K ds Ω R X) : ds.length = 2 := by
  unfold sp_minus at h
  first
    | (obtain ⟨rfl, _⟩ := h; rfl)
    | (obtain ⟨_, rfl, _⟩ := h; rfl)
    | (obtain ⟨_, _, rfl, _⟩ := h; rfl)
    | (obtain ⟨_, _, _, rfl, _⟩ := h; rfl)
    | (obtain ⟨_, _, _, _, rfl, _⟩ := h; rfl)
    | (obtain ⟨_, _, _, _, _, rfl, _⟩ := h; rfl)
    | (obtain ⟨_, _, _, _, _, _, rfl, _⟩ := h; rfl)
    | (obtain ⟨_, _, _, _, _, _, _, rfl, _⟩ := h; rfl)
    | (obtain ⟨_, _, _, _, _, _, _, _, rfl, _⟩ := h; rfl)
    | (obtain ⟨_, _, _, _, _, _, _, _, _, rfl, _⟩ := h; rfl)
    | (obtain ⟨_, _, _, _, _, _, _, _, _, _, rfl, _⟩ := h; rfl)
    | (obtain ⟨_, _, _, _, _, _, _, _, _, _, _, rfl, _⟩ := h; rfl)
    | (obtain ⟨_, _, _, _, _, _, _, _, _, _, _, _, rfl, _⟩ := h; rfl)
    | (obtain ⟨_, _, _, _, _, _, _, _, _, _, _, _, _, rfl, _⟩ := h; rfl)
    | (obtain ⟨_, _, _, _, _, _, _, _, _, _, _, _, _, rfl, _⟩ := h; rfl)
    | (obtain ⟨_, _, _, _, _, _, _, _, _, _, _, _, _, _, rfl, _⟩ := h; rfl)
    | (obtain ⟨_, _, _, _, _, _, _, _, _, _, _, _, _, _, _, rfl, _⟩ := h; rfl)
    | (obtain ⟨_, _, _, _, _, _, _, _, _, _, _, _, _, _, _, _, rfl, _⟩ := h; rfl)
    | (obtain ⟨_, _, _, _, _, _, _, _, _, _, _, _, _, _, _, _, _, rfl, _⟩ := h; rfl)
    | (obtain ⟨_, _, _, _, _, _, _, _, _, _, _, _, _, _, _, _, _, _, rfl, _⟩ := h; rfl)
    | (obtain ⟨_, _, _, _, _, _, _, _, _, _, _, _, _, _, _, _, _, _, _, rfl, _⟩ := h; rfl)
    | (obtain ⟨_, _, _, _, _, _, _, _, _, _, _, _, _, _, _, _, _, _, _, _, rfl, _⟩ := h; rfl)
    | (obtain ⟨_, _, _, _, _, _, _, _, _, _, _, _, _, _, _, _, _, _, _, _, _, rfl, _⟩ := h; rfl)
def sp_changes (K : KF) : Spec := fun ds Ω R X => ∃ (x : Sg) (n : Nat), ds = [.d (dSg x)] ∧ SgOk n x ∧ R (.d (.tuple [dR x.lost, dR x.won])) Ω
def t_changes (K : KF) (W : WX) : TS :=
  (tSeq (tAsg (tVar 0) (gTup K 6 (gCons (gName 1) (gCons (gName 2) (gCons (gName 3) (gCons (gName 4) (gCons (gName 5) (gCons (gName 6) gNil))))))))
    (tRet (tTup (tCons (tCall (FS K (sp_minus K)) [] E0 (tCons (tVar 3) (tCons (tVar 5) tNil))) (tCons (tCall (FS K (sp_minus K)) [] E0 (tCons (tVar 6) (tCons (tVar 4) tNil))) tNil)))))
theorem w_changes {K : KF} (W : WX) (ds : List DV) (Ω : Om) (R : DV → Om → Prop) (X : Exc → Om → Prop) (h : sp_changes K ds Ω R X) : WS K W (t_changes K W) (startG 7 ds) Ω (fnO Ω R X) := by
  obtain ⟨x, n, rfl, ok, q⟩ := h
  show WS K W (t_changes K W) [some (.d (dSg x)), none, none, none, none, none, none] Ω _
  unfold t_changes
  walk_at "hl"
  refine ⟨x.v, x.a, rfl, ⟨300, 600, ok.v, ok.a, by omega⟩, ?_⟩
  walk_at "hl"
  refine ⟨x.b, x.w, rfl, ⟨600, 300, ok.b, ok.w, by omega⟩, ?_⟩
  walk_at "hl"
  exact dr_same q
theorem sp_len_changes {K : KF} (ds : List DV) (Ω : Om) (R : DV → Om → Prop) (X : Exc → Om → Prop) (h : sp_changes K ds Ω R X) : ds.length = 1 := by
  unfold sp_changes at h
  first
    | (obtain ⟨rfl, _⟩ := h; rfl)
    | (obtain ⟨_, rfl, _⟩ := h; rfl)
    | (obtain ⟨_, _, rfl, _⟩ := h; rfl)
    | (obtain ⟨_, _, _, rfl, _⟩ := h; rfl)
    | (obtain ⟨_, _, _, _, rfl, _⟩ := h; rfl)
    | (obtain ⟨_, _, _, _, _, rfl, _⟩ := h; rfl)
    | (obtain ⟨_, _, _, _, _, _, rfl, _⟩ := h; rfl)
    | (obtain ⟨_, _, _, _, _, _, _, rfl, _⟩ := h; rfl)
    | (obtain ⟨_, _, _, _, _, _, _, _, rfl, _⟩ := h; rfl)
    | (obtain ⟨_, _, _, _, _, _, _, _, _, rfl, _⟩ := h; rfl)
    | (obtain ⟨_, _, _, _, _, _, _, _, _, _, rfl, _⟩ := h; rfl)
    | (obtain ⟨_, _, _, _, _, _, _, _, _, _, _, rfl, _⟩ := h; rfl)
    | (obtain ⟨_, _, _, _, _, _, _, _, _, _, _, _, rfl, _⟩ := h; rfl)
    | (obtain ⟨_, _, _, _, _, _, _, _, _, _, _, _, _, rfl, _⟩ := h; rfl)
    | (obtain ⟨_, _, _, _, _, _, _, _, _, _, _, _, _, rfl, _⟩ := h; rfl)
    | (obtain ⟨_, _, _, _, _, _, _, _, _, _, _, _, _, _, rfl, _⟩ := h; rfl)
    | (obtain ⟨_, _, _, _, _, _, _, _, _, _, _, _, _, _, _, rfl, _⟩ := h; rfl)
    | (obtain ⟨_, _, _, _, _, _, _, _, _, _, _, _, _, _, _, _, rfl, _⟩ := h; rfl)
    | (obtain ⟨_, _, _, _, _, _, _, _, _, _, _, _, _, _, _, _, _, rfl, _⟩ := h; rfl)
    | (obtain ⟨_, _, _, _, _, _, _, _, _, _, _, _, _, _, _, _, _, _, rfl, _⟩ := h; rfl)
    | (obtain ⟨_, _, _, _, _, _, _, _, _, _, _, _, _, _, _, _, _, _, _, rfl, _⟩ := h; rfl)
    | (obtain ⟨_, _, _, _, _, _, _, _, _, _, _, _, _, _, _, _, _, _, _, _, rfl, _⟩ := h; rfl)
    | (obtain ⟨_, _, _, _, _, _, _, _, _, _, _, _, _, _, _, _, _, _, _, _, _, rfl, _⟩ := h; rfl)
def sp_is_rebound (K : KF) : Spec := fun ds Ω R X => ∃ (x : Sg) (n : Nat), ds = [.d (dSg x)] ∧ SgOk n x ∧ R (.d (.bool x.reb)) Ω
def t_is_rebound (K : KF) (W : WX) : TS :=
  (tSeq (tAsg (tVar 0) (gTup K 6 (gCons (gName 1) (gCons (gName 2) (gCons (gName 3) (gCons (gName 4) (gCons (gName 5) (gCons (gName 6) gNil))))))))
    (tRet (tAndV (tOp (rNeD K) (tVar 3) (tVar 4)) (tOp (rEqD K) (tCall (FS K (sp_minus K)) [] E0 (tCons (tVar 6) (tCons (tVar 5) tNil))) (tCall (FS K (sp_minus K)) [] E0 (tCons (tVar 3) (tCons (tVar 4) tNil)))))))
theorem w_is_rebound {K : KF} (W : WX) (ds : List DV) (Ω : Om) (R : DV → Om → Prop) (X : Exc → Om → Prop) (h : sp_is_rebound K ds Ω R X) : WS K W (t_is_rebound K W) (startG 7 ds) Ω (fnO Ω R X) := by
  obtain ⟨x, n, rfl, ok, q⟩ := h
  show WS K W (t_is_rebound K W) [some (.d (dSg x)), none, none, none, none, none, none] Ω _
  unfold t_is_rebound
  walk_at "hl"
  unfold Sg.reb at q
  refine ⟨fun h => ?_, fun h => ?_⟩
  · rw [h, Bool.true_and] at q
    walk_at "hl"
    refine ⟨x.b, x.a, rfl, ⟨600, 600, ok.b, ok.a, by omega⟩, ?_⟩
    walk_at "hl"
    refine ⟨x.v, x.w, rfl, ⟨300, 300, ok.v, ok.w, by omega⟩, ?_⟩
    walk_at "hl"
    exact dr_same q
  · rw [h, Bool.false_and] at q
    exact dr_same q
theorem sp_len_is_rebound {K : KF} (ds : List DV) (Ω : Om) (R : DV → Om → Prop) (X : Exc → Om → Prop) (h : sp_is_rebound K ds Ω R X) : ds.length = 1 := by
  unfold sp_is_rebound at h
  first
    | (obtain ⟨rfl, _⟩ := h; rfl)
    | (obtain ⟨_, rfl, _⟩ := h; rfl)
    | (obtain ⟨_, _, rfl, _⟩ := h; rfl)
    | (obtain ⟨_, _, _, rfl, _⟩ := h; rfl)
    | (obtain ⟨_, _, _, _, rfl, _⟩ := h; rfl)
    | (obtain ⟨_, _, _, _, _, rfl, _⟩ := h; rfl)
    | (obtain ⟨_, _, _, _, _, _, rfl, _⟩ := h; rfl)
    | (obtain ⟨_, _, _, _, _, _, _, rfl, _⟩ := h; rfl)
    | (obtain ⟨_, _, _, _, _, _, _, _, rfl, _⟩ := h; rfl)
    | (obtain ⟨_, _, _, _, _, _, _, _, _, rfl, _⟩ := h; rfl)
    | (obtain ⟨_, _, _, _, _, _, _, _, _, _, rfl, _⟩ := h; rfl)
    | (obtain ⟨_, _, _, _, _, _, _, _, _, _, _, rfl, _⟩ := h; rfl)
    | (obtain ⟨_, _, _, _, _, _, _, _, _, _, _, _, rfl, _⟩ := h; rfl)
    | (obtain ⟨_, _, _, _, _, _, _, _, _, _, _, _, _, rfl, _⟩ := h; rfl)
    | (obtain ⟨_, _, _, _, _, _, _, _, _, _, _, _, _, rfl, _⟩ := h; rfl)
    | (obtain ⟨_, _, _, _, _, _, _, _, _, _, _, _, _, _, rfl, _⟩ := h; rfl)
    | (obtain ⟨_, _, _, _, _, _, _, _, _, _, _, _, _, _, _, rfl, _⟩ := h; rfl)
    | (obtain ⟨_, _, _, _, _, _, _, _, _, _, _, _, _, _, _, _, rfl, _⟩ := h; rfl)
    | (obtain ⟨_, _, _, _, _, _, _, _, _, _, _, _, _, _, _, _, _, rfl, _⟩ := h; rfl)
    | (obtain ⟨_, _, _, _, _, _, _, _, _, _, _, _, _, _, _, _, _, _, rfl, _⟩ := h; rfl)
    | (obtain ⟨_, _, _, _, _, _, _, _, _, _, _, _, _, _, _, _, _, _, _, rfl, _⟩ := h; rfl)
    | (obtain ⟨_, _, _, _, _, _, _, _, _, _, _, _, _, _, _, _, _, _, _, _, rfl, _⟩ := h; rfl)
    | (obtain ⟨_, _, _, _, _, _, _, _, _, _, _, _, _, _, _, _, _, _, _, _, _, rfl, _⟩ := h; rfl)
def sp_times (K : KF) : Spec := fun ds Ω R X => ∃ p q : Rat, ds = [.d (dR p), .d (dR q)] ∧ Sz2 p q ∧ R (.d (dR (p * q))) Ω
def t_times (K : KF) (W : WX) : TS :=
  (tRet (tCall (FS K (sp_ratio K)) [] E0 (tCons (tOp oMul (tOp (rIx K) (tVar 0) (tC (.int 0))) (tOp (rIx K) (tVar 1) (tC (.int 0)))) (tCons (tOp oMul (tOp (rIx K) (tVar 0) (tC (.int 1))) (tOp (rIx K) (tVar 1) (tC (.int 1)))) tNil))))
theorem w_times {K : KF} (W : WX) (ds : List DV) (Ω : Om) (R : DV → Om → Prop) (X : Exc → Om → Prop) (h : sp_times K ds Ω R X) : WS K W (t_times K W) (startG 2 ds) Ω (fnO Ω R X) := by
  obtain ⟨p, q, rfl, ⟨n, m, hp, hq, hz⟩, k⟩ := h
  show WS K W (t_times K W) [some (.d (dR p)), some (.d (dR q))] Ω _
  unfold t_times
  obtain ⟨nn, nd, dn, dd⟩ := muls hp hq (by omega)
  obtain ⟨nn', nd', dn', dd'⟩ := muls hq hp (by omega)
  walk_at "hl"
  refine ⟨_, _, rfl, rfl, rfl, .inl ⟨_, _, rfl, rfl, den_mul_ne p q, ⟨n + m, den_mul_lt hp hq, by omega⟩, ?_⟩⟩
  walk_at "hl"
  rw [rat_mul]
  exact dr_same k
theorem sp_len_times {K : KF} (ds : List DV) (Ω : Om) (R : DV → Om → Prop) (X : Exc → Om → Prop) (h : sp_times K ds Ω R X) : ds.length = 2 := by
  unfold sp_times at h
  first
    | (obtain ⟨rfl, _⟩ := h; rfl)
    | (obtain ⟨_, rfl, _⟩ := h; rfl)
    | (obtain ⟨_, _, rfl, _⟩ := h; rfl)
    | (obtain ⟨_, _, _, rfl, _⟩ := h; rfl)
    | (obtain ⟨_, _, _, _, rfl, _⟩ := h; rfl)
    | (obtain ⟨_, _, _, _, _, rfl, _⟩ := h; rfl)
    | (obtain ⟨_, _, _, _, _, _, rfl, _⟩ := h; rfl)
    | (obtain ⟨_, _, _, _, _, _, _, rfl, _⟩ := h; rfl)
    | (obtain ⟨_, _, _, _, _, _, _, _, rfl, _⟩ := h; rfl)
    | (obtain ⟨_, _, _, _, _, _, _, _, _, rfl, _⟩ := h; rfl)
    | (obtain ⟨_, _, _, _, _, _, _, _, _, _, rfl, _⟩ := h; rfl)
    | (obtain ⟨_, _, _, _, _, _, _, _, _, _, _, rfl, _⟩ := h; rfl)
    | (obtain ⟨_, _, _, _, _, _, _, _, _, _, _, _, rfl, _⟩ := h; rfl)
    | (obtain ⟨_, _, _, _, _, _, _, _, _, _, _, _, _, rfl, _⟩ := h; rfl)
    | (obtain ⟨_, _, _, _, _, _, _, _, _, _, _, _, _, rfl, _⟩ := h; rfl)
    | (obtain ⟨_, _, _, _, _, _, _, _, _, _, _, _, _, _, rfl, _⟩ := h; rfl)
    | (obtain ⟨_, _, _, _, _, _, _, _, _, _, _, _, _, _, _, rfl, _⟩ := h; rfl)
    | (obtain ⟨_, _, _, _, _, _, _, _, _, _, _, _, _, _, _, _, rfl, _⟩ := h; rfl)
    | (obtain ⟨_, _, _, _, _, _, _, _, _, _, _, _, _, _, _, _, _, rfl, _⟩ := h; rfl)
    | (obtain ⟨_, _, _, _, _, _, _, _, _, _, _, _, _, _, _, _, _, _, rfl, _⟩ := h; rfl)
    | (obtain ⟨_, _, _, _, _, _, _, _, _, _, _, _, _, _, _, _, _, _, _, rfl, _⟩ := h; rfl)
    | (obtain ⟨_, _, _, _, _, _, _, _, _, _, _, _, _, _, _, _, _, _, _, _, rfl, _⟩ := h; rfl)
    | (obtain ⟨_, _, _, _, _, _, _, _, _, _, _, _, _, _, _, _, _, _, _, _, _, rfl, _⟩ := h; rfl)
--USE HLv
def sp_is_done (K : KF) : Spec := fun ds Ω R X => ∃ (ws : List Int) (x : Sg), ds = [.d (.tuple (ws.map PyData.int)), .d (dSg x)] ∧ (∀ w ∈ ws, w.natAbs < 2 ^ 8000) ∧ SgE ws.length x ∧ R (.d (.bool (doneB ws x))) Ω
def t_is_done (K : KF) (W : WX) : TS :=
  (tSeq (tAsg (tCall (FS K (sp_changes K)) [] E0 (tCons (tVar 1) tNil)) (gTup K 2 (gCons (gName 2) (gCons (gName 3) gNil))))
    (tSeq (tAsg (tCall (FS K (sp_times K)) [] E0 (tCons (tCall (FS K (sp_ratio K)) [.int 1] E0 (tCons (tOp (rIx K) (tVar 0) (tOp (rIx K) (tVar 1) (tC (.int 0)))) tNil)) (tCons (tVar 2) tNil))) (gName 4))
    (tRet (tAndV (tCall (FS K (sp_is_rebound K)) [] E0 (tCons (tVar 1) tNil)) (tOp (rEqD K) (tVar 4) (tCall (FS K (sp_times K)) [] E0 (tCons (tCall (FS K (sp_ratio K)) [.int 1] E0 (tCons (tOp (rIx K) (tVar 0) (tOp (rIx K) (tVar 1) (tC (.int 1)))) tNil)) (tCons (tVar 3) tNil))))))))
theorem w_is_done {K : KF} (W : WX) (ds : List DV) (Ω : Om) (R : DV → Om → Prop) (X : Exc → Om → Prop) (h : sp_is_done K ds Ω R X) : WS K W (t_is_done K W) (startG 5 ds) Ω (fnO Ω R X) := by
  obtain ⟨ws, x, rfl, hw, he, q⟩ := h
  show WS K W (t_is_done K W) [some (.d (.tuple (ws.map PyData.int))), some (.d (dSg x)), none, none, none] Ω _
  unfold t_is_done
  have zi : Sz 8000 (atW ws x.i : Rat) := .int (hw _ (atW_mem he.i0.1 he.i0.2)) (by decide)
  have zj : Sz 8000 (atW ws x.j : Rat) := .int (hw _ (atW_mem he.j0.1 he.j0.2)) (by decide)
  walk_at "hl"
  refine ⟨x, 60, rfl, he.ok, ?_⟩
  walk_at "hl"
  refine we_callD (xs := [.int 1]) (fun G => .cons (.int 1) .nil) ?_
  walk_at "hl"
  refine wr_ixT (atW_ix he.i0.1 he.i0.2) ?_
  walk_at "hl"
  refine ⟨_, _, rfl, rfl, rfl, .inl ⟨_, _, rfl, rfl, by decide, ⟨1, by decide, by decide⟩, ?_⟩⟩
  rw [divInt_one]
  walk_at "hl"
  refine ⟨_, x.lost, rfl, ⟨8000, 60, zi, he.ok.lost, by omega⟩, ?_⟩
  walk_at "hl"
  refine ⟨x, 60, rfl, he.ok, ?_⟩
  walk_at "hl"
  unfold doneB at q
  cases hr : x.reb with
  | false =>
    rw [hr, Bool.false_and] at q
    refine bF rfl ?_
    exact dr_same q
  | true =>
    rw [hr, Bool.true_and] at q
    refine bT rfl ?_
    walk_at "hl"
    refine we_callD (xs := [.int 1]) (fun G => .cons (.int 1) .nil) ?_
    walk_at "hl"
    refine wr_ixT (atW_ix he.j0.1 he.j0.2) ?_
    walk_at "hl"
    refine ⟨_, _, rfl, rfl, rfl, .inl ⟨_, _, rfl, rfl, by decide, ⟨1, by decide, by decide⟩, ?_⟩⟩
    rw [divInt_one]
    walk_at "hl"
    refine ⟨_, x.won, rfl, ⟨8000, 60, zj, he.ok.won, by omega⟩, ?_⟩
    walk_at "hl"
    exact dr_same q
theorem sp_len_is_done {K : KF} (ds : List DV) (Ω : Om) (R : DV → Om → Prop) (X : Exc → Om → Prop) (h : sp_is_done K ds Ω R X) : ds.length = 2 := by
  unfold sp_is_done at h
  first
    | (obtain ⟨rfl, _⟩ := h; rfl)
    | (obtain ⟨_, rfl, _⟩ := h; rfl)
    | (obtain ⟨_, _, rfl, _⟩ := h; rfl)
    | (obtain ⟨_, _, _, rfl, _⟩ := h; rfl)
    | (obtain ⟨_, _, _, _, rfl, _⟩ := h; rfl)
    | (obtain ⟨_, _, _, _, _, rfl, _⟩ := h; rfl)
    | (obtain ⟨_, _, _, _, _, _, rfl, _⟩ := h; rfl)
    | (obtain ⟨_, _, _, _, _, _, _, rfl, _⟩ := h; rfl)
    | (obtain ⟨_, _, _, _, _, _, _, _, rfl, _⟩ := h; rfl)
    | (obtain ⟨_, _, _, _, _, _, _, _, _, rfl, _⟩ := h; rfl)
    | (obtain ⟨_, _, _, _, _, _, _, _, _, _, rfl, _⟩ := h; rfl)
    | (obtain ⟨_, _, _, _, _, _, _, _, _, _, _, rfl, _⟩ := h; rfl)
    | (obtain ⟨_, _, _, _, _, _, _, _, _, _, _, _, rfl, _⟩ := h; rfl)
    | (obtain ⟨_, _, _, _, _, _, _, _, _, _, _, _, _, rfl, _⟩ := h; rfl)
    | (obtain ⟨_, _, _, _, _, _, _, _, _, _, _, _, _, rfl, _⟩ := h; rfl)
    | (obtain ⟨_, _, _, _, _, _, _, _, _, _, _, _, _, _, rfl, _⟩ := h; rfl)
    | (obtain ⟨_, _, _, _, _, _, _, _, _, _, _, _, _, _, _, rfl, _⟩ := h; rfl)
    | (obtain ⟨_, _, _, _, _, _, _, _, _, _, _, _, _, _, _, _, rfl, _⟩ := h; rfl)
    | (obtain ⟨_, _, _, _, _, _, _, _, _, _, _, _, _, _, _, _, _, rfl, _⟩ := h; rfl)
    | (obtain ⟨_, _, _, _, _, _, _, _, _, _, _, _, _, _, _, _, _, _, rfl, _⟩ := h; rfl)
    | (obtain ⟨_, _, _, _, _, _, _, _, _, _, _, _, _, _, _, _, _, _, _, rfl, _⟩ := h; rfl)
    | (obtain ⟨_, _, _, _, _, _, _, _, _, _, _, _, _, _, _, _, _, _, _, _, rfl, _⟩ := h; rfl)
    | (obtain ⟨_, _, _, _, _, _, _, _, _, _, _, _, _, _, _, _, _, _, _, _, _, rfl, _⟩ := h; rfl)
--USE HLv
def sp_does_all (K : KF) : Spec := fun ds Ω R X => ∃ (ws : List Int) (s : DV) (xs : List Sg), ds = [.d (.tuple (ws.map PyData.int)), s] ∧ (∀ w ∈ ws, w.natAbs < 2 ^ 8000) ∧ ws.length ≤ 1000 ∧ xs.length ≤ 1000 ∧ SeqS dSg Ω s xs ∧ (∀ x ∈ xs, SgE ws.length x) ∧ R (.d (.bool (doesB ws xs))) Ω
def t_does_all (K : KF) (W : WX) : TS :=
  (tSeq (tIfS (tNot (tB (tCB (rAll K) (tCons (tLc (iSeq K (tVar 0)) (gName 2) tYes (tOp oGe (tVar 2) (tC (.int 1))) [2]) tNil)))) (tRet (tC (.bl false))) tNext)
    (tRet (tCB (rAll K) (tCons (tLc (iSeq K (tVar 1)) (gName 3) tYes (tCall (FS K (sp_is_done K)) [] E0 (tCons (tVar 0) (tCons (tVar 3) tNil))) [3]) tNil))))
theorem w_does_all {K : KF} (W : WX) (ds : List DV) (Ω : Om) (R : DV → Om → Prop) (X : Exc → Om → Prop) (h : sp_does_all K ds Ω R X) : WS K W (t_does_all K W) (startG 4 ds) Ω (fnO Ω R X) := by
  obtain ⟨ws, s, xs, rfl, hw, hl, hl2, hs, he, q⟩ := h
  show WS K W (t_does_all K W) [some (.d (.tuple (ws.map PyData.int))), some s, none, none] Ω _
  unfold t_does_all
  unfold doesB at q
  walk_at "hl"
  refine we_lcP (α := Int) only1 (wi_T PyData.int ws ?_)
  walk_at "hl"
  refine ⟨rfl, ws, _, fun _ => true, fun w => .bool (decide (1 ≤ w)), rfl, by omega, rfl, fun _ => trivial, ?_, ?_⟩
  · rintro w Ω' _ -
    walk_at "hl"
    refine ⟨rfl, rfl, fun _ => ?_⟩
    walk_at "hl"
    exact ⟨rfl, rfl⟩
  rw [filter_yes]
  walk_at "hl"
  refine wc_all (bs := ws.map fun w => decide (1 ≤ w)) (by show some (ws.map _) = some _; rw [List.map_map]; rfl) ?_
  rw [List.all_map]
  have e1 : (ws.all (id ∘ fun w => decide (1 ≤ w))) = ws.all fun w => decide (1 ≤ w) := rfl
  rw [e1]
  walk_at "hl"
  cases h1 : ws.all fun w => decide (1 ≤ w) with
  | false =>
    rw [h1, Bool.false_and] at q
    refine bT rfl ?_
    walk_at "hl"
    exact dr_same q
  | true =>
    rw [h1, Bool.true_and] at q
    refine bF rfl ?_
    walk_at "hl"
    refine we_lcP (α := Sg) only1 (wi_S dSg xs ?_)
    walk_at "hl"
    refine ⟨hs, xs, _, fun _ => true, fun x => .bool (doneB ws x), rfl, by omega, rfl, fun _ => hs.app, ?_, ?_⟩
    · rintro x Ω' hx -
      walk_at "hl"
      refine ⟨rfl, rfl, fun _ => ?_⟩
      walk_at "hl"
      exact ⟨ws, x, rfl, hw, he x hx, rfl, rfl⟩
    rw [filter_yes]
    walk_at "hl"
    refine wc_all (bs := xs.map (doneB ws)) (by show some (xs.map _) = some _; rw [List.map_map]; rfl) ?_
    rw [List.all_map]
    exact dr_same q
theorem sp_len_does_all {K : KF} (ds : List DV) (Ω : Om) (R : DV → Om → Prop) (X : Exc → Om → Prop) (h : sp_does_all K ds Ω R X) : ds.length = 2 := by
  unfold sp_does_all at h
  first
    | (obtain ⟨rfl, _⟩ := h; rfl)
    | (obtain ⟨_, rfl, _⟩ := h; rfl)
    | (obtain ⟨_, _, rfl, _⟩ := h; rfl)
    | (obtain ⟨_, _, _, rfl, _⟩ := h; rfl)
    | (obtain ⟨_, _, _, _, rfl, _⟩ := h; rfl)
    | (obtain ⟨_, _, _, _, _, rfl, _⟩ := h; rfl)
    | (obtain ⟨_, _, _, _, _, _, rfl, _⟩ := h; rfl)
    | (obtain ⟨_, _, _, _, _, _, _, rfl, _⟩ := h; rfl)
    | (obtain ⟨_, _, _, _, _, _, _, _, rfl, _⟩ := h; rfl)
    | (obtain ⟨_, _, _, _, _, _, _, _, _, rfl, _⟩ := h; rfl)
    | (obtain ⟨_, _, _, _, _, _, _, _, _, _, rfl, _⟩ := h; rfl)
    | (obtain ⟨_, _, _, _, _, _, _, _, _, _, _, rfl, _⟩ := h; rfl)
    | (obtain ⟨_, _, _, _, _, _, _, _, _, _, _, _, rfl, _⟩ := h; rfl)
    | (obtain ⟨_, _, _, _, _, _, _, _, _, _, _, _, _, rfl, _⟩ := h; rfl)
    | (obtain ⟨_, _, _, _, _, _, _, _, _, _, _, _, _, rfl, _⟩ := h; rfl)
    | (obtain ⟨_, _, _, _, _, _, _, _, _, _, _, _, _, _, rfl, _⟩ := h; rfl)
    | (obtain ⟨_, _, _, _, _, _, _, _, _, _, _, _, _, _, _, rfl, _⟩ := h; rfl)
    | (obtain ⟨_, _, _, _, _, _, _, _, _, _, _, _, _, _, _, _, rfl, _⟩ := h; rfl)
    | (obtain ⟨_, _, _, _, _, _, _, _, _, _, _, _, _, _, _, _, _, rfl, _⟩ := h; rfl)
    | (obtain ⟨_, _, _, _, _, _, _, _, _, _, _, _, _, _, _, _, _, _, rfl, _⟩ := h; rfl)
    | (obtain ⟨_, _, _, _, _, _, _, _, _, _, _, _, _, _, _, _, _, _, _, rfl, _⟩ := h; rfl)
    | (obtain ⟨_, _, _, _, _, _, _, _, _, _, _, _, _, _, _, _, _, _, _, _, rfl, _⟩ := h; rfl)
    | (obtain ⟨_, _, _, _, _, _, _, _, _, _, _, _, _, _, _, _, _, _, _, _, _, rfl, _⟩ := h; rfl)
def sp_less (K : KF) : Spec := fun ds Ω R X => ∃ p q : Rat, ds = [.d (dR p), .d (dR q)] ∧ (∃ n m, Sz n p ∧ Sz m q ∧ n + m ≤ 900000) ∧ R (.d (.bool (decide (p < q)))) Ω
def t_less (K : KF) (W : WX) : TS :=
  (tRet (tOp oLt (tOp oMul (tOp (rIx K) (tVar 0) (tC (.int 0))) (tOp (rIx K) (tVar 1) (tC (.int 1)))) (tOp oMul (tOp (rIx K) (tVar 1) (tC (.int 0))) (tOp (rIx K) (tVar 0) (tC (.int 1))))))
theorem w_less {K : KF} (W : WX) (ds : List DV) (Ω : Om) (R : DV → Om → Prop) (X : Exc → Om → Prop) (h : sp_less K ds Ω R X) : WS K W (t_less K W) (startG 2 ds) Ω (fnO Ω R X) := by
  obtain ⟨p, q, rfl, ⟨n, m, hp, hq, hz⟩, k⟩ := h
  show WS K W (t_less K W) [some (.d (dR p)), some (.d (dR q))] Ω _
  unfold t_less
  obtain ⟨nn, nd, dn, dd⟩ := muls hp hq (by omega)
  obtain ⟨nn', nd', dn', dd'⟩ := muls hq hp (by omega)
  walk_at "hl"
  have e : decide (p.num * q.den < q.num * p.den) = decide (p < q) := decide_eq_decide.mpr (Rat.lt_iff p q).symm
  rw [e]
  exact dr_same k
theorem sp_len_less {K : KF} (ds : List DV) (Ω : Om) (R : DV → Om → Prop) (X : Exc → Om → Prop) (h : sp_less K ds Ω R X) : ds.length = 2 := by
  unfold sp_less at h
  first
    | (obtain ⟨rfl, _⟩ := h; rfl)
    | (obtain ⟨_, rfl, _⟩ := h; rfl)
    | (obtain ⟨_, _, rfl, _⟩ := h; rfl)
    | (obtain ⟨_, _, _, rfl, _⟩ := h; rfl)
    | (obtain ⟨_, _, _, _, rfl, _⟩ := h; rfl)
    | (obtain ⟨_, _, _, _, _, rfl, _⟩ := h; rfl)
    | (obtain ⟨_, _, _, _, _, _, rfl, _⟩ := h; rfl)
    | (obtain ⟨_, _, _, _, _, _, _, rfl, _⟩ := h; rfl)
    | (obtain ⟨_, _, _, _, _, _, _, _, rfl, _⟩ := h; rfl)
    | (obtain ⟨_, _, _, _, _, _, _, _, _, rfl, _⟩ := h; rfl)
    | (obtain ⟨_, _, _, _, _, _, _, _, _, _, rfl, _⟩ := h; rfl)
    | (obtain ⟨_, _, _, _, _, _, _, _, _, _, _, rfl, _⟩ := h; rfl)
    | (obtain ⟨_, _, _, _, _, _, _, _, _, _, _, _, rfl, _⟩ := h; rfl)
    | (obtain ⟨_, _, _, _, _, _, _, _, _, _, _, _, _, rfl, _⟩ := h; rfl)
    | (obtain ⟨_, _, _, _, _, _, _, _, _, _, _, _, _, rfl, _⟩ := h; rfl)
    | (obtain ⟨_, _, _, _, _, _, _, _, _, _, _, _, _, _, rfl, _⟩ := h; rfl)
    | (obtain ⟨_, _, _, _, _, _, _, _, _, _, _, _, _, _, _, rfl, _⟩ := h; rfl)
    | (obtain ⟨_, _, _, _, _, _, _, _, _, _, _, _, _, _, _, _, rfl, _⟩ := h; rfl)
    | (obtain ⟨_, _, _, _, _, _, _, _, _, _, _, _, _, _, _, _, _, rfl, _⟩ := h; rfl)
    | (obtain ⟨_, _, _, _, _, _, _, _, _, _, _, _, _, _, _, _, _, _, rfl, _⟩ := h; rfl)
    | (obtain ⟨_, _, _, _, _, _, _, _, _, _, _, _, _, _, _, _, _, _, _, rfl, _⟩ := h; rfl)
    | (obtain ⟨_, _, _, _, _, _, _, _, _, _, _, _, _, _, _, _, _, _, _, _, rfl, _⟩ := h; rfl)
    | (obtain ⟨_, _, _, _, _, _, _, _, _, _, _, _, _, _, _, _, _, _, _, _, _, rfl, _⟩ := h; rfl)
def sp_over (K : KF) : Spec := fun ds Ω R X => ∃ p q : Rat, ds = [.d (dR p), .d (dR q)] ∧ Sz2 p q ∧ ((q ≠ 0 ∧ R (.d (dR (p / q))) Ω) ∨ (q = 0 ∧ X (.own (He.ga K "NoRatio")) Ω))
def t_over (K : KF) (W : WX) : TS :=
  (tRet (tCallS (FS K (sp_ratio K)) (L2.WE W) (tCons (tOp oMul (tOp (rIx K) (tVar 0) (tC (.int 0))) (tOp (rIx K) (tVar 1) (tC (.int 1)))) (tCons (tOp oMul (tOp (rIx K) (tVar 0) (tC (.int 1))) (tOp (rIx K) (tVar 1) (tC (.int 0)))) tNil))))
theorem w_over {K : KF} (W : WX) (ds : List DV) (Ω : Om) (R : DV → Om → Prop) (X : Exc → Om → Prop) (h : sp_over K ds Ω R X) : WS K W (t_over K W) (startG 2 ds) Ω (fnO Ω R X) := by
  obtain ⟨p, q, rfl, ⟨n, m, hp, hq, hz⟩, k⟩ := h
  show WS K W (t_over K W) [some (.d (dR p)), some (.d (dR q))] Ω _
  unfold t_over
  obtain ⟨nn, nd, dn, dd⟩ := muls hp hq (by omega)
  walk_at "hl"
  refine ⟨_, _, rfl, rfl, rfl, ?_⟩
  rcases k with ⟨h0, k⟩ | ⟨h0, k⟩
  · have hn : q.num ≠ 0 := fun e => h0 (Rat.num_eq_zero.mp e)
    refine .inl ⟨_, _, rfl, rfl, Int.mul_ne_zero (den_ne p) hn, ⟨n + m, ?_, by omega⟩, ?_⟩
    · rw [Int.natAbs_mul]
      exact mul_lt2 (by simpa using hp.den) hq.num
    · rw [rat_div]
      exact dr_same k
  · refine .inr ⟨?_, .inl k⟩
    have hn : q.num = 0 := Rat.num_eq_zero.mpr h0
    exact decide_eq_true (by rw [hn, Int.mul_zero])
theorem sp_len_over {K : KF} (ds : List DV) (Ω : Om) (R : DV → Om → Prop) (X : Exc → Om → Prop) (h : sp_over K ds Ω R X) : ds.length = 2 := by
  unfold sp_over at h
  first
    | (obtain ⟨rfl, _⟩ := h; rfl)
    | (obtain ⟨_, rfl, _⟩ := h; rfl)
    | (obtain ⟨_, _, rfl, _⟩ := h; rfl)
    | (obtain ⟨_, _, _, rfl, _⟩ := h; rfl)
    | (obtain ⟨_, _, _, _, rfl, _⟩ := h; rfl)
    | (obtain ⟨_, _, _, _, _, rfl, _⟩ := h; rfl)
    | (obtain ⟨_, _, _, _, _, _, rfl, _⟩ := h; rfl)
    | (obtain ⟨_, _, _, _, _, _, _, rfl, _⟩ := h; rfl)
    | (obtain ⟨_, _, _, _, _, _, _, _, rfl, _⟩ := h; rfl)
    | (obtain ⟨_, _, _, _, _, _, _, _, _, rfl, _⟩ := h; rfl)
    | (obtain ⟨_, _, _, _, _, _, _, _, _, _, rfl, _⟩ := h; rfl)
    | (obtain ⟨_, _, _, _, _, _, _, _, _, _, _, rfl, _⟩ := h; rfl)
    | (obtain ⟨_, _, _, _, _, _, _, _, _, _, _, _, rfl, _⟩ := h; rfl)
    | (obtain ⟨_, _, _, _, _, _, _, _, _, _, _, _, _, rfl, _⟩ := h; rfl)
    | (obtain ⟨_, _, _, _, _, _, _, _, _, _, _, _, _, rfl, _⟩ := h; rfl)
    | (obtain ⟨_, _, _, _, _, _, _, _, _, _, _, _, _, _, rfl, _⟩ := h; rfl)
    | (obtain ⟨_, _, _, _, _, _, _, _, _, _, _, _, _, _, _, rfl, _⟩ := h; rfl)
    | (obtain ⟨_, _, _, _, _, _, _, _, _, _, _, _, _, _, _, _, rfl, _⟩ := h; rfl)
    | (obtain ⟨_, _, _, _, _, _, _, _, _, _, _, _, _, _, _, _, _, rfl, _⟩ := h; rfl)
    | (obtain ⟨_, _, _, _, _, _, _, _, _, _, _, _, _, _, _, _, _, _, rfl, _⟩ := h; rfl)
    | (obtain ⟨_, _, _, _, _, _, _, _, _, _, _, _, _, _, _, _, _, _, _, rfl, _⟩ := h; rfl)
    | (obtain ⟨_, _, _, _, _, _, _, _, _, _, _, _, _, _, _, _, _, _, _, _, rfl, _⟩ := h; rfl)
    | (obtain ⟨_, _, _, _, _, _, _, _, _, _, _, _, _, _, _, _, _, _, _, _, _, rfl, _⟩ := h; rfl)
def sp_share_of (K : KF) : Spec := fun ds Ω R X => ∃ (x : Sg) (n : Nat), ds = [.d (dSg x)] ∧ SgOk n x ∧ 1 ≤ n ∧ n ≤ 1000 ∧ R (.d (dO x.share)) Ω
def t_share_of (K : KF) (W : WX) : TS :=
  (tSeq (tAsg (tCall (FS K (sp_changes K)) [] E0 (tCons (tVar 0) tNil)) (gTup K 2 (gCons (gName 1) (gCons (gName 2) gNil))))
    (tSeq (tIfS (tOr (tNot (tB (tCall (FS K (sp_is_rebound K)) [] E0 (tCons (tVar 0) tNil)))) (tTest (tOp (rEqD K) (tVar 2) (tC (.ref (He.ga K "NOUGHT")))))) (tRet (tC .non)) tNext)
    (tSeq (tAsg (tCall (FS K (sp_over K)) [] E0 (tCons (tVar 1) (tCons (tVar 2) tNil))) (gName 3))
    (tSeq (tIfS (tNot (tB (tCall (FS K (sp_less K)) [] E0 (tCons (tC (.ref (He.ga K "NOUGHT"))) (tCons (tVar 3) tNil))))) (tRet (tC .non)) tNext)
    (tRet (tVar 3))))))
theorem w_share_of {K : KF} (q0 : He.tupB K "NOUGHT" [.int 0, .int 1] = true) (W : WX) (ds : List DV) (Ω : Om) (R : DV → Om → Prop) (X : Exc → Om → Prop) (h : sp_share_of K ds Ω R X) : WS K W (t_share_of K W) (startG 4 ds) Ω (fnO Ω R X) := by
  obtain ⟨x, n, rfl, ok, n0, hn, q⟩ := h
  show WS K W (t_share_of K W) [some (.d (dSg x)), none, none, none] Ω _
  unfold t_share_of
  walk_at "hl"
  refine ⟨x, n, rfl, ok, ?_⟩
  walk_at "hl"
  refine ⟨x, n, rfl, ok, ?_⟩
  walk_at "hl"
  cases hr : x.reb with
  | false =>
    have e : x.share = none := if_neg fun z => by rw [hr] at z; exact absurd z.1 (by simp)
    rw [e] at q
    refine bT rfl (bT rfl ?_)
    walk_at "hl"
    exact dr_same q
  | true =>
    refine bF rfl ?_
    walk_at "hl"
    refine ⟨fun h => ?_, fun h => ?_⟩
    · have h := of_decide_eq_true h
      have e : x.share = none := if_neg fun z => by rw [h, Rat.div_def, Rat.inv_zero, Rat.mul_zero] at z; exact absurd z.2 (by decide)
      rw [e] at q
      walk_at "hl"
      exact dr_same q
    · have h := of_decide_eq_false h
      walk_at "hl"
      refine ⟨x.lost, x.won, rfl, ⟨n, n, ok.lost, ok.won, by omega⟩, .inl ⟨h, ?_⟩⟩
      walk_at "hl"
      refine ⟨0, _, rfl, ⟨1, n + n, sz_zero (by decide), ok.lost.div ok.won n0, by omega⟩, ?_⟩
      walk_at "hl"
      by_cases hp : 0 < x.lost / x.won
      · have e : x.share = some (x.lost / x.won) := if_pos ⟨hr, hp⟩
        rw [e] at q
        rw [decide_eq_true hp]
        refine bF rfl ?_
        walk_at "hl"
        exact dr_same q
      · have e : x.share = none := if_neg fun z => hp z.2
        rw [e] at q
        rw [decide_eq_false hp]
        refine bT rfl ?_
        walk_at "hl"
        exact dr_same q
theorem sp_len_share_of {K : KF} (ds : List DV) (Ω : Om) (R : DV → Om → Prop) (X : Exc → Om → Prop) (h : sp_share_of K ds Ω R X) : ds.length = 1 := by
  unfold sp_share_of at h
  first
    | (obtain ⟨rfl, _⟩ := h; rfl)
    | (obtain ⟨_, rfl, _⟩ := h; rfl)
    | (obtain ⟨_, _, rfl, _⟩ := h; rfl)
    | (obtain ⟨_, _, _, rfl, _⟩ := h; rfl)
    | (obtain ⟨_, _, _, _, rfl, _⟩ := h; rfl)
    | (obtain ⟨_, _, _, _, _, rfl, _⟩ := h; rfl)
    | (obtain ⟨_, _, _, _, _, _, rfl, _⟩ := h; rfl)
    | (obtain ⟨_, _, _, _, _, _, _, rfl, _⟩ := h; rfl)
    | (obtain ⟨_, _, _, _, _, _, _, _, rfl, _⟩ := h; rfl)
    | (obtain ⟨_, _, _, _, _, _, _, _, _, rfl, _⟩ := h; rfl)
    | (obtain ⟨_, _, _, _, _, _, _, _, _, _, rfl, _⟩ := h; rfl)
    | (obtain ⟨_, _, _, _, _, _, _, _, _, _, _, rfl, _⟩ := h; rfl)
    | (obtain ⟨_, _, _, _, _, _, _, _, _, _, _, _, rfl, _⟩ := h; rfl)
    | (obtain ⟨_, _, _, _, _, _, _, _, _, _, _, _, _, rfl, _⟩ := h; rfl)
    | (obtain ⟨_, _, _, _, _, _, _, _, _, _, _, _, _, rfl, _⟩ := h; rfl)
    | (obtain ⟨_, _, _, _, _, _, _, _, _, _, _, _, _, _, rfl, _⟩ := h; rfl)
    | (obtain ⟨_, _, _, _, _, _, _, _, _, _, _, _, _, _, _, rfl, _⟩ := h; rfl)
    | (obtain ⟨_, _, _, _, _, _, _, _, _, _, _, _, _, _, _, _, rfl, _⟩ := h; rfl)
    | (obtain ⟨_, _, _, _, _, _, _, _, _, _, _, _, _, _, _, _, _, rfl, _⟩ := h; rfl)
    | (obtain ⟨_, _, _, _, _, _, _, _, _, _, _, _, _, _, _, _, _, _, rfl, _⟩ := h; rfl)
    | (obtain ⟨_, _, _, _, _, _, _, _, _, _, _, _, _, _, _, _, _, _, _, rfl, _⟩ := h; rfl)
    | (obtain ⟨_, _, _, _, _, _, _, _, _, _, _, _, _, _, _, _, _, _, _, _, rfl, _⟩ := h; rfl)
    | (obtain ⟨_, _, _, _, _, _, _, _, _, _, _, _, _, _, _, _, _, _, _, _, _, rfl, _⟩ := h; rfl)
def sp_turned_over (K : KF) : Spec := fun ds Ω R X => ∃ x : Rat, ds = [.d (dR x)] ∧ x ≠ 0 ∧ Sz 8000 x ∧ R (.d (dR (1 / x))) Ω
def t_turned_over (K : KF) (W : WX) : TS :=
  (tRet (tCall (FS K (sp_over K)) [] E0 (tCons (tC (.ref (He.ga K "ONE"))) (tCons (tVar 0) tNil))))
theorem w_turned_over {K : KF} (q0 : He.tupB K "ONE" [.int 1, .int 1] = true) (W : WX) (ds : List DV) (Ω : Om) (R : DV → Om → Prop) (X : Exc → Om → Prop) (h : sp_turned_over K ds Ω R X) : WS K W (t_turned_over K W) (startG 1 ds) Ω (fnO Ω R X) := by
  obtain ⟨x, rfl, hx, zx, q⟩ := h
  show WS K W (t_turned_over K W) [some (.d (dR x))] Ω _
  unfold t_turned_over
  have z1 : Sz 1 (1 : Rat) := ⟨by decide, by decide⟩
  walk_at "hl"
  exact ⟨1, x, rfl, ⟨1, 8000, z1, zx, by omega⟩, .inl ⟨hx, dr_same q⟩⟩
theorem sp_len_turned_over {K : KF} (ds : List DV) (Ω : Om) (R : DV → Om → Prop) (X : Exc → Om → Prop) (h : sp_turned_over K ds Ω R X) : ds.length = 1 := by
  unfold sp_turned_over at h
  first
    | (obtain ⟨rfl, _⟩ := h; rfl)
    | (obtain ⟨_, rfl, _⟩ := h; rfl)
    | (obtain ⟨_, _, rfl, _⟩ := h; rfl)
    | (obtain ⟨_, _, _, rfl, _⟩ := h; rfl)
    | (obtain ⟨_, _, _, _, rfl, _⟩ := h; rfl)
    | (obtain ⟨_, _, _, _, _, rfl, _⟩ := h; rfl)
    | (obtain ⟨_, _, _, _, _, _, rfl, _⟩ := h; rfl)
    | (obtain ⟨_, _, _, _, _, _, _, rfl, _⟩ := h; rfl)
    | (obtain ⟨_, _, _, _, _, _, _, _, rfl, _⟩ := h; rfl)
    | (obtain ⟨_, _, _, _, _, _, _, _, _, rfl, _⟩ := h; rfl)
    | (obtain ⟨_, _, _, _, _, _, _, _, _, _, rfl, _⟩ := h; rfl)
    | (obtain ⟨_, _, _, _, _, _, _, _, _, _, _, rfl, _⟩ := h; rfl)
    | (obtain ⟨_, _, _, _, _, _, _, _, _, _, _, _, rfl, _⟩ := h; rfl)
    | (obtain ⟨_, _, _, _, _, _, _, _, _, _, _, _, _, rfl, _⟩ := h; rfl)
    | (obtain ⟨_, _, _, _, _, _, _, _, _, _, _, _, _, rfl, _⟩ := h; rfl)
    | (obtain ⟨_, _, _, _, _, _, _, _, _, _, _, _, _, _, rfl, _⟩ := h; rfl)
    | (obtain ⟨_, _, _, _, _, _, _, _, _, _, _, _, _, _, _, rfl, _⟩ := h; rfl)
    | (obtain ⟨_, _, _, _, _, _, _, _, _, _, _, _, _, _, _, _, rfl, _⟩ := h; rfl)
    | (obtain ⟨_, _, _, _, _, _, _, _, _, _, _, _, _, _, _, _, _, rfl, _⟩ := h; rfl)
    | (obtain ⟨_, _, _, _, _, _, _, _, _, _, _, _, _, _, _, _, _, _, rfl, _⟩ := h; rfl)
    | (obtain ⟨_, _, _, _, _, _, _, _, _, _, _, _, _, _, _, _, _, _, _, rfl, _⟩ := h; rfl)
    | (obtain ⟨_, _, _, _, _, _, _, _, _, _, _, _, _, _, _, _, _, _, _, _, rfl, _⟩ := h; rfl)
    | (obtain ⟨_, _, _, _, _, _, _, _, _, _, _, _, _, _, _, _, _, _, _, _, _, rfl, _⟩ := h; rfl)
def sp_step_by (K : KF) : Spec := fun ds Ω R X => ∃ (nv s : DV) (p : Int × Int) (xs : List Sg) (n : Nat), ds = [nv, s, .d (dPr p)] ∧ (∀ Ω : Om, sq Ω s = some ((xs.map dSg).map DV.d)) ∧ (∀ x ∈ xs, SgOk n x) ∧ 1 ≤ n ∧ n ≤ 1000 ∧ R (.d (dSt (stepF xs p))) Ω
def t_step_by (K : KF) (W : WX) : TS :=
  (tSeq (tAsg (tVar 2) (gTup K 2 (gCons (gName 3) (gCons (gName 4) gNil))))
    (tSeq (tIfS (tOr (tTest (tOp oLt (tVar 3) (tC (.int 0)))) (tOr (tTest (tOp oGe (tVar 3) (tCB (rLenQ K) (tCons (tVar 1) tNil)))) (tTest (tOp (rInA K true) (tVar 4) (tTup (tCons (tC (.int 0)) (tCons (tC (.int 1)) tNil))))))) (tRet (tC .non)) tNext)
    (tSeq (tAsg (tSl (rSlS K) (tOp (rIx K) (tVar 1) (tVar 3)) tNoPart (tPart (tC (.int 2)))) (gTup K 2 (gCons (gName 5) (gCons (gName 6) gNil))))
    (tSeq (tAsg (tCall (FS K (sp_share_of K)) [] E0 (tCons (tOp (rIx K) (tVar 1) (tVar 3)) tNil)) (gName 7))
    (tSeq (tIfS (tTest (tOp oIsN (tVar 7) (tC .non))) (tRet (tC .non)) tNext)
    (tSeq (tIfS (tTest (tOp (rEqD K) (tVar 4) (tC (.int 0)))) (tRet (tTup (tCons (tVar 5) (tCons (tVar 6) (tCons (tVar 7) tNil))))) tNext)
    (tRet (tTup (tCons (tVar 6) (tCons (tVar 5) (tCons (tCall (FS K (sp_turned_over K)) [] E0 (tCons (tVar 7) tNil)) tNil)))))))))))
theorem w_step_by {K : KF} (W : WX) (ds : List DV) (Ω : Om) (R : DV → Om → Prop) (X : Exc → Om → Prop) (h : sp_step_by K ds Ω R X) : WS K W (t_step_by K W) (startG 8 ds) Ω (fnO Ω R X) := by
  obtain ⟨nv, s, p, xs, n, rfl, hs, ok, n0, n1, q⟩ := h
  show WS K W (t_step_by K W) [some nv, some s, some (.d (dPr p)), none, none, none, none, none] Ω _
  unfold t_step_by
  have no : ¬ (0 ≤ p.1 ∧ p.1 < xs.length ∧ (p.2 = 0 ∨ p.2 = 1)) → R (.d .none) Ω := fun h => by
    unfold stepF at q
    rw [if_neg h] at q
    exact q
  walk_at "hl"
  refine wg_tup2 (a := .int p.1) (b := .int p.2) ?_
  walk_at "hl"
  refine ⟨fun h => ?_, fun h => ?_⟩
  · have h := of_decide_eq_true h
    refine bT rfl ?_
    walk_at "hl"
    exact dr_same (no (by omega))
  have h1 := of_decide_eq_false h
  walk_at "hl"
  refine wc_len' (hs _) ?_
  walk_at "hl"
  rw [List.length_map, List.length_map]
  refine ⟨fun h => ?_, fun h => ?_⟩
  · have h := of_decide_eq_true h
    refine bT rfl ?_
    walk_at "hl"
    exact dr_same (no (by omega))
  have h2 := of_decide_eq_false h
  walk_at "hl"
  refine wr_inI [0, 1] rfl ?_
  walk_at "hl"
  refine ⟨fun h => ?_, fun h => ?_⟩
  · have h : ¬ (p.2 = 0 ∨ p.2 = 1) := fun e => by
      have : p.2 ∈ [(0 : Int), 1] := by simpa using e
      rw [decide_eq_true this] at h; cases h
    walk_at "hl"
    exact dr_same (no fun z => h z.2.2)
  have h3 : p.2 = 0 ∨ p.2 = 1 := by
    have : decide (p.2 ∈ [(0 : Int), 1]) = true := by revert h; cases decide (p.2 ∈ [(0 : Int), 1]) <;> simp
    simpa using of_decide_eq_true this
  obtain ⟨j, hj⟩ : ∃ j : Nat, p.1 = j := ⟨p.1.toNat, by omega⟩
  have hj2 : j < xs.length := by omega
  obtain ⟨x, ex⟩ : ∃ x, xs[j]? = some x := ⟨_, List.getElem?_eq_getElem hj2⟩
  have okx := ok x (List.mem_of_getElem? ex)
  have ix : atI ((xs.map dSg).map DV.d) p.1 = some (.d (dSg x)) := by rw [hj]; exact atI_nat (by rw [List.getElem?_map, List.getElem?_map, ex]; rfl)
  have eF : stepF xs p = match x.share with
      | none => none
      | some q => if p.2 = 0 then some (x.i, x.j, q) else some (x.j, x.i, 1 / q) := by
    unfold stepF
    rw [if_pos ⟨by omega, by omega, h3⟩, hj, Int.toNat_natCast, ex]
    try rfl
  rw [eF] at q
  walk_at "hl"
  refine wr_ix (hs _) ix ?_
  walk_at "hl"
  refine wsl_T (xs := [.int x.i, .int x.j, dR x.v, dR x.w, dR x.a, dR x.b]) ?_
  rw [cut2']
  walk_at "hl"
  refine wr_ix (hs _) ix ?_
  walk_at "hl"
  refine ⟨x, n, rfl, okx, n0, n1, ?_⟩
  walk_at "hl"
  cases e : x.share with
  | none =>
    rw [e] at q
    refine bT rfl ?_
    walk_at "hl"
    exact dr_same q
  | some sh =>
    rw [e] at q
    obtain ⟨zs, ps⟩ := share_sz okx n0 e
    refine bF rfl ?_
    walk_at "hl"
    refine ⟨fun h => ?_, fun h => ?_⟩
    · have h := of_decide_eq_true h
      simp only [h, if_true] at q
      walk_at "hl"
      exact dr_same q
    · have h := of_decide_eq_false h
      simp only [h, if_false] at q
      walk_at "hl"
      refine ⟨sh, rfl, by grind, zs.mono (by omega), ?_⟩
      walk_at "hl"
      exact dr_same q
theorem sp_len_step_by {K : KF} (ds : List DV) (Ω : Om) (R : DV → Om → Prop) (X : Exc → Om → Prop) (h : sp_step_by K ds Ω R X) : ds.length = 3 := by
  unfold sp_step_by at h
  first
    | (obtain ⟨rfl, _⟩ := h; rfl)
    | (obtain ⟨_, rfl, _⟩ := h; rfl)
    | (obtain ⟨_, _, rfl, _⟩ := h; rfl)
    | (obtain ⟨_, _, _, rfl, _⟩ := h; rfl)
    | (obtain ⟨_, _, _, _, rfl, _⟩ := h; rfl)
    | (obtain ⟨_, _, _, _, _, rfl, _⟩ := h; rfl)
    | (obtain ⟨_, _, _, _, _, _, rfl, _⟩ := h; rfl)
    | (obtain ⟨_, _, _, _, _, _, _, rfl, _⟩ := h; rfl)
    | (obtain ⟨_, _, _, _, _, _, _, _, rfl, _⟩ := h; rfl)
    | (obtain ⟨_, _, _, _, _, _, _, _, _, rfl, _⟩ := h; rfl)
    | (obtain ⟨_, _, _, _, _, _, _, _, _, _, rfl, _⟩ := h; rfl)
    | (obtain ⟨_, _, _, _, _, _, _, _, _, _, _, rfl, _⟩ := h; rfl)
    | (obtain ⟨_, _, _, _, _, _, _, _, _, _, _, _, rfl, _⟩ := h; rfl)
    | (obtain ⟨_, _, _, _, _, _, _, _, _, _, _, _, _, rfl, _⟩ := h; rfl)
    | (obtain ⟨_, _, _, _, _, _, _, _, _, _, _, _, _, rfl, _⟩ := h; rfl)
    | (obtain ⟨_, _, _, _, _, _, _, _, _, _, _, _, _, _, rfl, _⟩ := h; rfl)
    | (obtain ⟨_, _, _, _, _, _, _, _, _, _, _, _, _, _, _, rfl, _⟩ := h; rfl)
    | (obtain ⟨_, _, _, _, _, _, _, _, _, _, _, _, _, _, _, _, rfl, _⟩ := h; rfl)
    | (obtain ⟨_, _, _, _, _, _, _, _, _, _, _, _, _, _, _, _, _, rfl, _⟩ := h; rfl)
    | (obtain ⟨_, _, _, _, _, _, _, _, _, _, _, _, _, _, _, _, _, _, rfl, _⟩ := h; rfl)
    | (obtain ⟨_, _, _, _, _, _, _, _, _, _, _, _, _, _, _, _, _, _, _, rfl, _⟩ := h; rfl)
    | (obtain ⟨_, _, _, _, _, _, _, _, _, _, _, _, _, _, _, _, _, _, _, _, rfl, _⟩ := h; rfl)
    | (obtain ⟨_, _, _, _, _, _, _, _, _, _, _, _, _, _, _, _, _, _, _, _, _, rfl, _⟩ := h; rfl)
def sp_lets_ring (K : KF) : Spec := fun ds Ω R X => ∃ (nv s r : DV) (xs : List Sg) (ring : List (Int × Int)), ds = [nv, s, r] ∧ (∀ Ω : Om, sq Ω s = some ((xs.map dSg).map DV.d)) ∧ (∀ x ∈ xs, SgOk 60 x) ∧
  (r = .d (.list (ring.map dPr)) ∨ r = .d (.tuple (ring.map dPr))) ∧ ring.length ≤ 60 ∧ R (.d (.bool (ringB xs ring))) Ω
def t_lets_ring (K : KF) (W : WX) : TS :=
  (tSeq (tAsg (tLc (iSeq K (tVar 2)) (gName 7) tYes (tCall (FS K (sp_step_by K)) [] E0 (tCons (tVar 0) (tCons (tVar 1) (tCons (tVar 7) tNil)))) [7]) (gName 3))
    (tSeq (tIfS (tOr (tTest (tOp (rEqD K) (tVar 3) (tLst tNil))) (tTest (tOp (rInA K false) (tC .non) (tVar 3)))) (tRet (tC (.bl false))) tNext)
    (tSeq (tAsg (tC (.ref (He.ga K "ONE"))) (gName 4))
    (tSeq (tFor (iZipA K (tCons (tVar 3) (tCons (tOp (rAddX K) (tSl (rSlS K) (tVar 3) (tPart (tC (.int 1))) tNoPart) (tSl (rSlS K) (tVar 3) tNoPart (tPart (tC (.int 1))))) tNil))) (gTup K 2 (gCons (gName 5) (gCons (gName 6) gNil))) (tSeq (tIfS (tTest (tOp (rNeD K) (tOp (rIx K) (tVar 5) (tC (.int 1))) (tOp (rIx K) (tVar 6) (tC (.int 0))))) (tRet (tC (.bl false))) tNext)
    (tAsg (tCall (FS K (sp_times K)) [] E0 (tCons (tVar 4) (tCons (tOp (rIx K) (tVar 5) (tC (.int 2))) tNil))) (gName 4))))
    (tRet (tOp (rNeD K) (tVar 4) (tC (.ref (He.ga K "ONE")))))))))
theorem eqv_nil (l : List PyData) : PyData.eqv (.list l) (.list []) = l.isEmpty := by cases l <;> rfl
theorem any_noneS (xs : List Sg) : ∀ ring : List (Int × Int), ((ring.map fun p => dSt (stepF xs p)).any fun z => PyData.eqv z .none) = ring.any fun p => (stepF xs p).isNone
  | [] => rfl
  | p :: ring => by
    rw [List.map_cons, List.any_cons, List.any_cons, any_noneS xs ring]
    cases stepF xs p with
    | none => rfl
    | some s => rfl
theorem rot_get (l : List St3) {i : Nat} (h : i < l.length) : (l.drop 1 ++ l.take 1)[i]? = some (l.getD (if i + 1 < l.length then i + 1 else 0) d3) := by
  cases l with
  | nil => simp at h
  | cons a r =>
    show (r ++ [a])[i]? = _
    rw [List.length_cons] at h
    by_cases hi : i < r.length
    · rw [List.getElem?_append_left hi, if_pos (by simp; omega), List.getD_cons_succ, List.getD_eq_getElem?_getD, List.getElem?_eq_getElem hi]; rfl
    · have : i = r.length := by omega
      subst this
      rw [List.getElem?_append_right (Nat.le_refl _), Nat.sub_self, if_neg (by simp)]; rfl
theorem w_lets_ring {K : KF} (q1 : He.tupB K "ONE" [.int 1, .int 1] = true) (W : WX) (ds : List DV) (Ω : Om) (R : DV → Om → Prop) (X : Exc → Om → Prop) (h : sp_lets_ring K ds Ω R X) : WS K W (t_lets_ring K W) (startG 8 ds) Ω (fnO Ω R X) := by
  obtain ⟨nv, s, r, xs, ring, rfl, hs, ok, hr, hl, q⟩ := h
  show WS K W (t_lets_ring K W) [some nv, some s, some r, none, none, none, none, none] Ω _
  unfold t_lets_ring
  walk_at "hl"
  refine we_lcP (α := Int × Int) only1 (wi_LT dPr ring ?_)
  walk_at "hl"
  refine ⟨hr, ring, _, fun _ => true, fun p => dSt (stepF xs p), rfl, by omega, rfl, fun _ => trivial, ?_, ?_⟩
  · rintro p Ω' hp -
    walk_at "hl"
    refine ⟨rfl, rfl, fun _ => ?_⟩
    walk_at "hl"
    exact ⟨nv, s, p, xs, 60, rfl, hs, ok, by decide, by decide, rfl, rfl⟩
  rw [filter_yes]
  have sh : Shp 63 (.list (ring.map fun p => dSt (stepF xs p))) := (shp_list (n := 2) (shp_map (f := fun p => dSt (stepF xs p)) fun p => shp_dSt (n := 0) _)).mono (by decide)
  walk_at "hl"
  refine wr_eq rfl rfl (shaped_of (sh.mono (by decide))) rfl ?_
  rw [eqv_nil, List.isEmpty_map]
  walk_at "hl"
  unfold ringB at q
  refine ⟨fun h => ?_, fun h => ?_⟩
  · have h : ring = [] := List.isEmpty_iff.mp h
    rw [if_pos (.inl h)] at q
    refine bT rfl ?_
    walk_at "hl"
    exact dr_same q
  have h1 : ring ≠ [] := fun e => by rw [e] at h; cases h
  walk_at "hl"
  refine wr_in (a := .none) (bs := ring.map fun p => dSt (stepF xs p)) rfl (.inl rfl) shp_none (shaped_of (sh.mono (by decide))) ?_
  rw [any_noneS]
  walk_at "hl"
  cases h2 : ring.any fun p => (stepF xs p).isNone with
  | true =>
    rw [if_pos (.inr h2)] at q
    refine bT rfl ?_
    walk_at "hl"
    exact dr_same q
  | false =>
    rw [if_neg (fun z => z.elim h1 (fun z => by rw [h2] at z; cases z))] at q
    refine bF rfl ?_
    have es : (ring.map fun p => dSt (stepF xs p)) = (ring.filterMap (stepF xs)).map fun x => dSt (some x) := by
      have := congrArg (List.map dSt) (steps_some h2)
      rw [List.map_map, List.map_map] at this
      exact this
    have el : (ring.filterMap (stepF xs)).length = ring.length := by
      have := congrArg List.length (steps_some h2)
      rw [List.length_map, List.length_map] at this
      exact this.symm
    have hz : ∀ x ∈ ring.filterMap (stepF xs), Sz 121 x.2.2 ∧ 0 < x.2.2 := fun x hx => by
      obtain ⟨p, hp, e⟩ := List.mem_filterMap.mp hx
      exact step_ok ok (by decide) e
    rw [es]
    generalize ring.filterMap (stepF xs) = st at q el hz
    have zp : ∀ i, Sz (121 * i + 1) (prodF (st.take i)) := fun i => by
      induction i with
      | zero => rw [List.take_zero]; exact ⟨by decide, by decide⟩
      | succ i ih =>
        cases e : st[i]? with
        | none =>
          rw [List.take_of_length_le (by have := List.getElem?_eq_none_iff.mp e; omega)]
          rw [List.take_of_length_le (List.getElem?_eq_none_iff.mp e)] at ih
          exact ih.mono (by omega)
        | some x =>
          rw [List.take_add_one, e]
          show Sz _ (prodF (st.take i ++ [x]))
          rw [prodF_snoc]
          exact (ih.mul (hz x (List.mem_of_getElem? e)).1).mono (by omega)
    walk_at "hl"
    refine ws_for (wi_zipL ?_)
    walk_at "hl"
    have c1 : cutG (st.map fun x => dSt (some x)) (some 1) none = (st.drop 1).map fun x => dSt (some x) := by rw [cut_tail, List.map_drop]; simp
    have c2 : cutG (st.map fun x => dSt (some x)) none (some 1) = (st.take 1).map fun x => dSt (some x) := by rw [cut_one, List.map_take]
    refine wsl_L rfl ?_
    walk_at "hl"
    refine wsl_L rfl ?_
    rw [c1, c2]
    refine wr_addL rfl rfl (by simp; omega) ?_
    walk_at "hl"
    refine ⟨_, _, st.map fun x => dSt (some x), (st.drop 1 ++ st.take 1).map fun x => dSt (some x), rfl, rfl, by rw [List.map_append]; rfl, ?_⟩
    have lr : (st.drop 1 ++ st.take 1).length = st.length := by simp; omega
    have good : (∀ i, i < st.length → (st.getD i d3).2.1 = (st.getD (if i + 1 < st.length then i + 1 else 0) d3).1) → closes st = true := fun h => by
      refine List.all_eq_true.mpr fun at_ ha => decide_eq_true ?_
      have ha := List.mem_range.mp ha
      by_cases e : at_ = 0
      · rw [if_pos e]
        have := h (st.length - 1) (by omega)
        rw [if_neg (by omega)] at this
        rw [this, e]
      · rw [if_neg e]
        have := h (at_ - 1) (by omega)
        rw [if_pos (by omega), show at_ - 1 + 1 = at_ by omega] at this
        exact this
    have bad : ∀ i, i < st.length → (st.getD i d3).2.1 ≠ (st.getD (if i + 1 < st.length then i + 1 else 0) d3).1 → closes st = false := fun i hi h => by
      refine Bool.eq_false_iff.mpr fun e => h ?_
      by_cases hl : i + 1 < st.length
      · have := of_decide_eq_true (List.all_eq_true.mp e (i + 1) (List.mem_range.mpr hl))
        rw [if_neg (by omega), show i + 1 - 1 = i by omega] at this
        rw [if_pos hl]; exact this
      · have := of_decide_eq_true (List.all_eq_true.mp e 0 (List.mem_range.mpr (by omega)))
        rw [if_pos rfl, show st.length - 1 = i by omega] at this
        rw [if_neg hl]; exact this
    refine ⟨fun i Γ Ω1 => ∃ c5 c6, Γ = [some nv, some s, some r, some (.d (.list (st.map fun x => dSt (some x)))), some (.d (dR (prodF (st.take i)))), c5, c6, none] ∧ Ω1 = Ω ∧ ∀ k, k < i → k < st.length → (st.getD k d3).2.1 = (st.getD (if k + 1 < st.length then k + 1 else 0) d3).1,
      ⟨_, _, rfl, rfl, fun k h => by omega⟩, ?_, ?_, ?_⟩
    · rintro i Γ Ω1 - ⟨c5, c6, rfl, rfl, -⟩
      exact ⟨⟨rfl, by rw [List.map_append]; rfl⟩, Nat.le_refl _⟩
    · rintro i y Γ Ω1 hy ⟨c5, c6, rfl, rfl, hk⟩
      obtain ⟨_, _, h1, h2, rfl⟩ := zipD_get hy
      obtain ⟨a, rfl, ga, ma, ia, ta⟩ := lmap_get h1
      obtain ⟨b, rfl, gb, mb, ib, tb⟩ := lmap_get h2
      rw [rot_get st ia] at gb
      have gb : st.getD (if i + 1 < st.length then i + 1 else 0) d3 = b := Option.some.inj gb
      have ga : st.getD i d3 = a := by rw [List.getD_eq_getElem?_getD, ga]; rfl
      obtain ⟨a0, a1, a2⟩ := a
      obtain ⟨b0, b1, b2⟩ := b
      walk_at "hl"
      refine wr_ixT (xs := [.int a0, .int a1, dR a2]) rfl ?_
      walk_at "hl"
      refine wr_ixT (xs := [.int b0, .int b1, dR b2]) rfl ?_
      walk_at "hl"
      refine ⟨fun h => ?_, fun h => ?_⟩
      · have h : ¬ a1 = b0 := fun e => by rw [decide_eq_true e] at h; cases h
        rw [bad i ia (by rw [ga, gb]; exact h), Bool.false_and] at q
        walk_at "hl"
        exact dr_same q
      · have h : a1 = b0 := by
          have : decide (a1 = b0) = true := by revert h; cases decide (a1 = b0) <;> simp
          exact of_decide_eq_true this
        walk_at "hl"
        refine wr_ixT (xs := [.int a0, .int a1, dR a2]) rfl ?_
        walk_at "hl"
        refine ⟨_, a2, rfl, ⟨_, 121, zp i, (hz _ ma).1, by omega⟩, ?_⟩
        walk_at "hl"
        refine ⟨_, _, by rw [ta, prodF_snoc]; rfl, rfl, fun k hk1 hk2 => ?_⟩
        by_cases e : k = i
        · subst e; rw [ga, gb]; exact h
        · exact hk k (by omega) hk2
    · rintro Γ Ω1 ⟨c5, c6, rfl, rfl, hk⟩
      have en : (zipD (st.map fun x => dSt (some x)) ((st.drop 1 ++ st.take 1).map fun x => dSt (some x))).length = st.length := by unfold zipD; rw [List.length_map, List.length_zip, List.length_map, List.length_map, lr]; omega
      rw [en] at hk ⊢
      rw [List.take_length, good (fun i hi => hk i hi hi), Bool.true_and] at *
      walk_at "hl"
      exact dr_same q
theorem sp_len_lets_ring {K : KF} (ds : List DV) (Ω : Om) (R : DV → Om → Prop) (X : Exc → Om → Prop) (h : sp_lets_ring K ds Ω R X) : ds.length = 3 := by
  unfold sp_lets_ring at h
  first
    | (obtain ⟨rfl, _⟩ := h; rfl)
    | (obtain ⟨_, rfl, _⟩ := h; rfl)
    | (obtain ⟨_, _, rfl, _⟩ := h; rfl)
    | (obtain ⟨_, _, _, rfl, _⟩ := h; rfl)
    | (obtain ⟨_, _, _, _, rfl, _⟩ := h; rfl)
    | (obtain ⟨_, _, _, _, _, rfl, _⟩ := h; rfl)
    | (obtain ⟨_, _, _, _, _, _, rfl, _⟩ := h; rfl)
    | (obtain ⟨_, _, _, _, _, _, _, rfl, _⟩ := h; rfl)
    | (obtain ⟨_, _, _, _, _, _, _, _, rfl, _⟩ := h; rfl)
    | (obtain ⟨_, _, _, _, _, _, _, _, _, rfl, _⟩ := h; rfl)
    | (obtain ⟨_, _, _, _, _, _, _, _, _, _, rfl, _⟩ := h; rfl)
    | (obtain ⟨_, _, _, _, _, _, _, _, _, _, _, rfl, _⟩ := h; rfl)
    | (obtain ⟨_, _, _, _, _, _, _, _, _, _, _, _, rfl, _⟩ := h; rfl)
    | (obtain ⟨_, _, _, _, _, _, _, _, _, _, _, _, _, rfl, _⟩ := h; rfl)
    | (obtain ⟨_, _, _, _, _, _, _, _, _, _, _, _, _, rfl, _⟩ := h; rfl)
    | (obtain ⟨_, _, _, _, _, _, _, _, _, _, _, _, _, _, rfl, _⟩ := h; rfl)
    | (obtain ⟨_, _, _, _, _, _, _, _, _, _, _, _, _, _, _, rfl, _⟩ := h; rfl)
    | (obtain ⟨_, _, _, _, _, _, _, _, _, _, _, _, _, _, _, _, rfl, _⟩ := h; rfl)
    | (obtain ⟨_, _, _, _, _, _, _, _, _, _, _, _, _, _, _, _, _, rfl, _⟩ := h; rfl)
    | (obtain ⟨_, _, _, _, _, _, _, _, _, _, _, _, _, _, _, _, _, _, rfl, _⟩ := h; rfl)
    | (obtain ⟨_, _, _, _, _, _, _, _, _, _, _, _, _, _, _, _, _, _, _, rfl, _⟩ := h; rfl)
    | (obtain ⟨_, _, _, _, _, _, _, _, _, _, _, _, _, _, _, _, _, _, _, _, rfl, _⟩ := h; rfl)
    | (obtain ⟨_, _, _, _, _, _, _, _, _, _, _, _, _, _, _, _, _, _, _, _, _, rfl, _⟩ := h; rfl)
--USE HMb
def sp_Part_way_home (K : KF) : Spec := fun ds Ω R X => ∃ (lo k wi ci : Nat) (s rd : DV) (a : Pa) (b : Int) (l : List (Int × Int)), ds = [.o k, .d (.int b)] ∧ PaAt (He.ga K "Part") Ω lo k wi ci s rd a ∧ HomeR a.came b l ∧ l.length ≤ 1000 ∧ R (.d (.list (l.map dPr))) Ω
def t_Part_way_home (K : KF) (W : WX) : TS :=
  (tSeq (tAsg (tLst tNil) (gName 2))
    (tSeq (tWhile (tTest (tOp oNotN (tDGet (tFldC (He.ga K "Part") (tVar 0) "came") (tVar 1)) (tC .non))) (tSeq (tAsg (tDGet (tFldC (He.ga K "Part") (tVar 0) "came") (tVar 1)) (gTup K 3 (gCons (gName 3) (gCons (gName 4) (gCons (gName 5) gNil)))))
    (tSeq (tDrop (tBM K "list" rAppend (tVar 2) (tCons (tTup (tCons (tVar 3) (tCons (tOp oSub (tC (.int 1)) (tVar 4)) tNil))) tNil)))
    (tAsg (tVar 5) (gName 1)))))
    (tRet (tVar 2))))
theorem w_Part_way_home {K : KF} (W : WX) (ds : List DV) (Ω : Om) (R : DV → Om → Prop) (X : Exc → Om → Prop) (h : sp_Part_way_home K ds Ω R X) : WS K W (t_Part_way_home K W) (startG 6 ds) Ω (fnO Ω R X) := by
  obtain ⟨lo, k, wi, ci, s, rd, a, b, l, rfl, pa, hr, hl, q⟩ := h
  show WS K W (t_Part_way_home K W) [some (.o k), some (.d (.int b)), none, none, none, none] Ω _
  unfold t_Part_way_home
  generalize hT : tRet (tVar 2) = tl
  walk_at "hl"
  refine ws_while (fun n Γ Ω1 => ∃ (b' : Int) (pre rest : List (Int × Int)) (c3 c4 c5 : Option DV), Γ = [some (.o k), some (.d (.int b')), some (.o Ω.length), c3, c4, c5] ∧ Ω1 = Ω ++ [.lst ((pre.map dPr).map DV.d)] ∧ l = pre ++ rest ∧ HomeR a.came b' rest ∧ rest.length = n) l.length ⟨b, [], l, none, none, none, rfl, rfl, rfl, hr, rfl⟩ ?_
  rintro n Γ Ω1 - ⟨b', pre, rest, c3, c4, c5, rfl, rfl, el, hr', hn⟩
  have pa' := pa.app (J := [.lst ((pre.map dPr).map DV.d)])
  have hcm : (Ω ++ [OC.lst ((pre.map dPr).map DV.d)])[ci]? = some (.dic (cameD a)) := pa'.cm
  have look : ∀ y, a.came.lookup b' = some y → lookK (cameD a) (Sum.inl b') = some (.d (dCm y)) := fun y e => by
    unfold cameD; rw [lookK_int (g := fun y => DV.d (dCm y)), e]; rfl
  cases hr' with
  | nil e =>
    rw [List.append_nil] at el
    subst el
    walk_at "hl"
    refine we_dgetF rfl pa'.ob (pf_c _ _ _ _) hcm rfl (look _ e) ?_
    walk_at "hl"
    refine ⟨fun h => (by cases h), fun _ => ?_⟩
    subst hT
    refine ws_ret (we_varFL rfl (asDs_data _) ?_)
    exact dr_app q (fun i z => by cases z)
  | @cons _ n1 w1 o1 l1 e hr2 =>
    walk_at "hl"
    refine we_dgetF rfl pa'.ob (pf_c _ _ _ _) hcm rfl (look _ e) ?_
    walk_at "hl"
    refine ⟨fun _ => ?_, fun h => (by cases h)⟩
    walk_at "hl"
    refine we_dgetF rfl pa'.ob (pf_c _ _ _ _) hcm rfl (look _ e) ?_
    walk_at "hl"
    refine wg_tup (xs := [.int n1, .int w1, .int o1]) rfl (show WGs K _ [.d (.int n1), .d (.int w1), .d (.int o1)] _ _ _ from ?_)
    walk_at "hl"
    refine ⟨⟨_, sq_last _ _, rfl⟩, ?_⟩
    walk_at "hl"
    have hl2 := congrArg List.length el
    rw [List.length_append] at hl2
    refine wm_appL (by rw [List.length_map, List.length_map]; omega) ?_
    walk_at "hl"
    refine ⟨l1.length, by rw [← hn, List.length_cons]; omega, o1, pre ++ [(n1, 1 - w1)], l1, _, _, _, rfl, by simp [dPr], by rw [el]; simp, hr2, rfl⟩
theorem sp_len_Part_way_home {K : KF} (ds : List DV) (Ω : Om) (R : DV → Om → Prop) (X : Exc → Om → Prop) (h : sp_Part_way_home K ds Ω R X) : ds.length = 2 := by
  unfold sp_Part_way_home at h
  first
    | (obtain ⟨rfl, _⟩ := h; rfl)
    | (obtain ⟨_, rfl, _⟩ := h; rfl)
    | (obtain ⟨_, _, rfl, _⟩ := h; rfl)
    | (obtain ⟨_, _, _, rfl, _⟩ := h; rfl)
    | (obtain ⟨_, _, _, _, rfl, _⟩ := h; rfl)
    | (obtain ⟨_, _, _, _, _, rfl, _⟩ := h; rfl)
    | (obtain ⟨_, _, _, _, _, _, rfl, _⟩ := h; rfl)
    | (obtain ⟨_, _, _, _, _, _, _, rfl, _⟩ := h; rfl)
    | (obtain ⟨_, _, _, _, _, _, _, _, rfl, _⟩ := h; rfl)
    | (obtain ⟨_, _, _, _, _, _, _, _, _, rfl, _⟩ := h; rfl)
    | (obtain ⟨_, _, _, _, _, _, _, _, _, _, rfl, _⟩ := h; rfl)
    | (obtain ⟨_, _, _, _, _, _, _, _, _, _, _, rfl, _⟩ := h; rfl)
    | (obtain ⟨_, _, _, _, _, _, _, _, _, _, _, _, rfl, _⟩ := h; rfl)
    | (obtain ⟨_, _, _, _, _, _, _, _, _, _, _, _, _, rfl, _⟩ := h; rfl)
    | (obtain ⟨_, _, _, _, _, _, _, _, _, _, _, _, _, rfl, _⟩ := h; rfl)
    | (obtain ⟨_, _, _, _, _, _, _, _, _, _, _, _, _, _, rfl, _⟩ := h; rfl)
    | (obtain ⟨_, _, _, _, _, _, _, _, _, _, _, _, _, _, _, rfl, _⟩ := h; rfl)
    | (obtain ⟨_, _, _, _, _, _, _, _, _, _, _, _, _, _, _, _, rfl, _⟩ := h; rfl)
    | (obtain ⟨_, _, _, _, _, _, _, _, _, _, _, _, _, _, _, _, _, rfl, _⟩ := h; rfl)
    | (obtain ⟨_, _, _, _, _, _, _, _, _, _, _, _, _, _, _, _, _, _, rfl, _⟩ := h; rfl)
    | (obtain ⟨_, _, _, _, _, _, _, _, _, _, _, _, _, _, _, _, _, _, _, rfl, _⟩ := h; rfl)
    | (obtain ⟨_, _, _, _, _, _, _, _, _, _, _, _, _, _, _, _, _, _, _, _, rfl, _⟩ := h; rfl)
    | (obtain ⟨_, _, _, _, _, _, _, _, _, _, _, _, _, _, _, _, _, _, _, _, _, rfl, _⟩ := h; rfl)
--USE HMb
def sp_Part_way_to (K : KF) : Spec := fun ds Ω R X => ∃ (lo k wi ci : Nat) (s rd : DV) (a : Pa) (b : Int) (l : List (Int × Int)), ds = [.o k, .d (.int b)] ∧ PaAt (He.ga K "Part") Ω lo k wi ci s rd a ∧ HomeR a.came b l ∧ l.length ≤ 1000 ∧ R (.d (.list (((l.map turnP).reverse).map dPr))) Ω
def t_Part_way_to (K : KF) (W : WX) : TS :=
  (tSeq (tAsg (tLc (iSeq K (tMethE (He.ga K "Part") "way_home" (FS K (sp_Part_way_home K)) (fun _ => E0) (tVar 0) (tCons (tVar 1) tNil))) (gTup K 2 (gCons (gName 3) (gCons (gName 4) gNil))) tYes (tTup (tCons (tVar 3) (tCons (tOp oSub (tC (.int 1)) (tVar 4)) tNil))) [3, 4]) (gName 2))
    (tSeq (tDrop (tBM0 K "list" rReverse (tVar 2)))
    (tRet (tVar 2))))
theorem w_Part_way_to {K : KF} (W : WX) (ds : List DV) (Ω : Om) (R : DV → Om → Prop) (X : Exc → Om → Prop) (h : sp_Part_way_to K ds Ω R X) : WS K W (t_Part_way_to K W) (startG 5 ds) Ω (fnO Ω R X) := by
  obtain ⟨lo, k, wi, ci, s, rd, a, b, l, rfl, pa, hr, hl, q⟩ := h
  show WS K W (t_Part_way_to K W) [some (.o k), some (.d (.int b)), none, none, none] Ω _
  unfold t_Part_way_to
  generalize hT : tRet (tVar 2) = tl
  refine ws_seq (ws_asg (we_lcO (α := Int × Int) only2 (wi_L dPr l ?_)))
  refine we_methL (we_var rfl ⟨k, _, rfl, pa.ob, pf_home _ _ _ _, ?_⟩)
  walk_at "hl"
  refine ⟨lo, k, wi, ci, s, rd, a, b, l, rfl, pa, hr, hl, ?_⟩
  refine ⟨rfl, l, fun a => .d (dPr a), fun _ => true, fun a => dPr (turnP a), rfl, by omega, rfl, fun _ => trivial, ?_, ?_⟩
  · rintro p Ω' _ ⟨ds, rfl⟩
    refine wg_tup2 (a := .int p.1) (b := .int p.2) ?_
    walk_at "hl"
    refine ⟨rfl, rfl, fun _ => ?_⟩
    walk_at "hl"
    exact ⟨rfl, rfl⟩
  rw [filter_yes]
  walk_at "hl"
  refine ⟨⟨_, sq_last _ _, rfl⟩, wm_reverse (get_last _ _) ?_⟩
  rw [set_last, ← List.map_reverse]
  subst hT
  refine ws_ret (we_varFL rfl (asDs_data _) ?_)
  have e : (l.map fun a => dPr (turnP a)).reverse = ((l.map turnP).reverse).map dPr := by rw [← List.map_reverse, ← List.map_reverse, List.map_map]; rfl
  rw [e]
  exact dr_app q (fun i z => by cases z)
theorem sp_len_Part_way_to {K : KF} (ds : List DV) (Ω : Om) (R : DV → Om → Prop) (X : Exc → Om → Prop) (h : sp_Part_way_to K ds Ω R X) : ds.length = 2 := by
  unfold sp_Part_way_to at h
  first
    | (obtain ⟨rfl, _⟩ := h; rfl)
    | (obtain ⟨_, rfl, _⟩ := h; rfl)
    | (obtain ⟨_, _, rfl, _⟩ := h; rfl)
    | (obtain ⟨_, _, _, rfl, _⟩ := h; rfl)
    | (obtain ⟨_, _, _, _, rfl, _⟩ := h; rfl)
    | (obtain ⟨_, _, _, _, _, rfl, _⟩ := h; rfl)
    | (obtain ⟨_, _, _, _, _, _, rfl, _⟩ := h; rfl)
    | (obtain ⟨_, _, _, _, _, _, _, rfl, _⟩ := h; rfl)
    | (obtain ⟨_, _, _, _, _, _, _, _, rfl, _⟩ := h; rfl)
    | (obtain ⟨_, _, _, _, _, _, _, _, _, rfl, _⟩ := h; rfl)
    | (obtain ⟨_, _, _, _, _, _, _, _, _, _, rfl, _⟩ := h; rfl)
    | (obtain ⟨_, _, _, _, _, _, _, _, _, _, _, rfl, _⟩ := h; rfl)
    | (obtain ⟨_, _, _, _, _, _, _, _, _, _, _, _, rfl, _⟩ := h; rfl)
    | (obtain ⟨_, _, _, _, _, _, _, _, _, _, _, _, _, rfl, _⟩ := h; rfl)
    | (obtain ⟨_, _, _, _, _, _, _, _, _, _, _, _, _, rfl, _⟩ := h; rfl)
    | (obtain ⟨_, _, _, _, _, _, _, _, _, _, _, _, _, _, rfl, _⟩ := h; rfl)
    | (obtain ⟨_, _, _, _, _, _, _, _, _, _, _, _, _, _, _, rfl, _⟩ := h; rfl)
    | (obtain ⟨_, _, _, _, _, _, _, _, _, _, _, _, _, _, _, _, rfl, _⟩ := h; rfl)
    | (obtain ⟨_, _, _, _, _, _, _, _, _, _, _, _, _, _, _, _, _, rfl, _⟩ := h; rfl)
    | (obtain ⟨_, _, _, _, _, _, _, _, _, _, _, _, _, _, _, _, _, _, rfl, _⟩ := h; rfl)
    | (obtain ⟨_, _, _, _, _, _, _, _, _, _, _, _, _, _, _, _, _, _, _, rfl, _⟩ := h; rfl)
    | (obtain ⟨_, _, _, _, _, _, _, _, _, _, _, _, _, _, _, _, _, _, _, _, rfl, _⟩ := h; rfl)
    | (obtain ⟨_, _, _, _, _, _, _, _, _, _, _, _, _, _, _, _, _, _, _, _, _, rfl, _⟩ := h; rfl)
--USE HMb
def sp_steps_from (K : KF) : Spec := fun ds Ω R X => ∃ (s : DV) (xs : List Sg) (b : Int) (m : Nat), ds = [s, .d (.int b)] ∧ SeqS dSg Ω s xs ∧ AllS xs ∧ (∀ x ∈ xs, SgE m x) ∧ xs.length ≤ 1000 ∧ R (.d (.list ((stepsL xs b).map dS4))) Ω
def t_steps_from (K : KF) (W : WX) : TS :=
  (tSeq (tAsg (tLst tNil) (gName 2))
    (tSeq (tFor (iEnumB K (tCons (tVar 0) tNil)) (gTup K 2 (gCons (gName 3) (gCons (gName 4) gNil))) (tSeqI (tIfS (tTest (tOp (rEqD K) (tOp (rIx K) (tVar 4) (tC (.int 0))) (tVar 1))) (tDrop (tBM K "list" rAppend (tVar 2) (tCons (tTup (tCons (tVar 3) (tCons (tC (.int 0)) (tCons (tOp (rIx K) (tVar 4) (tC (.int 1))) (tCons (tCall (FS K (sp_share_of K)) [] E0 (tCons (tVar 4) tNil)) tNil))))) tNil))) tNext)
    (tIfS (tTest (tOp (rEqD K) (tOp (rIx K) (tVar 4) (tC (.int 1))) (tVar 1))) (tDrop (tBM K "list" rAppend (tVar 2) (tCons (tTup (tCons (tVar 3) (tCons (tC (.int 1)) (tCons (tOp (rIx K) (tVar 4) (tC (.int 0))) (tCons (tCall (FS K (sp_turned_over K)) [] E0 (tCons (tCall (FS K (sp_share_of K)) [] E0 (tCons (tVar 4) tNil)) tNil)) tNil))))) tNil))) tNext)))
    (tRet (tVar 2))))
theorem w_steps_from {K : KF} (W : WX) (ds : List DV) (Ω : Om) (R : DV → Om → Prop) (X : Exc → Om → Prop) (h : sp_steps_from K ds Ω R X) : WS K W (t_steps_from K W) (startG 5 ds) Ω (fnO Ω R X) := by
  obtain ⟨s, xs, b, m, rfl, hs, ha, he, hl, q⟩ := h
  show WS K W (t_steps_from K W) [some s, some (.d (.int b)), none, none, none] Ω _
  unfold t_steps_from
  generalize hT : tRet (tVar 2) = tl
  walk_at "hl"
  obtain ⟨t, ht⟩ := seqS_lsB hs
  refine ws_for (wi_enumB t ?_)
  walk_at "hl"
  refine ⟨_, xs.map dSg, rfl, ht _ hs.app, ?_⟩
  refine ⟨fun i Γ Ω1 => ∃ c3 c4, Γ = [some s, some (.d (.int b)), some (.o Ω.length), c3, c4] ∧ Ω1 = Ω ++ [.lst (((stepsL (xs.take i) b).map dS4).map DV.d)], ⟨_, _, rfl, rfl⟩, ?_, ?_, ?_⟩
  · rintro i Γ Ω1 - ⟨c3, c4, rfl, rfl⟩
    exact ⟨ht _ hs.app, by simp⟩
  · rintro i y Γ Ω1 hy ⟨c3, c4, rfl, rfl⟩
    obtain ⟨hi, rfl⟩ := rng_get hy
    rw [List.length_map] at hi
    obtain ⟨x, hx⟩ : ∃ x, xs[i]? = some x := ⟨_, List.getElem?_eq_getElem hi⟩
    have mx := List.mem_of_getElem? hx
    have ox := (he x mx).ok
    obtain ⟨qs, eq⟩ := ha x mx
    have es : x.shr = qs := by unfold Sg.shr; rw [eq]; rfl
    obtain ⟨zs, ps⟩ := share_sz ox (by decide) eq
    have ex : (xs.map dSg).getD i .none = dSg x := by rw [List.getD_eq_getElem?_getD, List.getElem?_map, hx]; rfl
    have et := stepsX_take (b := b) hx
    rw [ex]
    have hpl : (stepsL (xs.take i) b).length ≤ 2000 := by
      have := stepsL_len (xs.take i) b
      rw [List.length_take] at this
      omega
    generalize stepsL (xs.take i) b = pre at et hpl ⊢
    walk_at "hl"
    refine ws_cut (fun Γ Ω1 => Γ = [some s, some (.d (.int b)), some (.o Ω.length), some (.d (.int i)), some (.d (dSg x))] ∧ Ω1 = Ω ++ [.lst (((pre ++ (if x.i = b then [(⟨i, 0, x.j, x.shr⟩ : St4)] else [])).map dS4).map DV.d)]) ?_ ?_
    · rintro Γ Ω1 ⟨rfl, rfl⟩
      walk_at "hl"
      refine ⟨fun h => ?_, fun h => ?_⟩
      · have h : x.j = b := of_decide_eq_true h
        walk_at "hl"
        refine ⟨⟨_, sq_last _ _, rfl⟩, ?_⟩
        walk_at "hl"
        refine ⟨x, 60, rfl, ox, by decide, by decide, ?_⟩
        rw [eq]
        walk_at "hl"
        refine ⟨qs, rfl, by grind, zs.mono (by decide), ?_⟩
        walk_at "hl"
        refine wm_appL (by rw [List.length_map, List.length_map, List.length_append]; split <;> simp <;> omega) ?_
        exact ⟨_, _, rfl, by rw [et]; unfold stepsX; rw [if_pos h, es]; simp [dS4]⟩
      · have h : ¬ x.j = b := of_decide_eq_false h
        walk_at "hl"
        exact ⟨_, _, rfl, by rw [et]; unfold stepsX; rw [if_neg h, List.append_nil]⟩
    walk_at "hl"
    refine ⟨fun h => ?_, fun h => ?_⟩
    · have h : x.i = b := of_decide_eq_true h
      walk_at "hl"
      refine ⟨⟨_, sq_last _ _, rfl⟩, ?_⟩
      walk_at "hl"
      refine ⟨x, 60, rfl, ox, by decide, by decide, ?_⟩
      rw [eq]
      walk_at "hl"
      refine wm_appL (by rw [List.length_map, List.length_map]; omega) ?_
      exact ⟨rfl, by rw [if_pos h, es]; simp [dS4, dO]⟩
    · have h : ¬ x.i = b := of_decide_eq_false h
      walk_at "hl"
      exact ⟨rfl, by rw [if_neg h, List.append_nil]⟩
  · rintro Γ Ω1 ⟨c3, c4, rfl, rfl⟩
    rw [List.take_of_length_le (by unfold enumD; rw [List.length_map, List.length_range, List.length_map]; exact Nat.le_refl _)]
    subst hT
    refine ws_ret (we_varFL rfl (asDs_data _) ?_)
    exact dr_app q (fun i z => by cases z)
theorem sp_len_steps_from {K : KF} (ds : List DV) (Ω : Om) (R : DV → Om → Prop) (X : Exc → Om → Prop) (h : sp_steps_from K ds Ω R X) : ds.length = 2 := by
  unfold sp_steps_from at h
  first
    | (obtain ⟨rfl, _⟩ := h; rfl)
    | (obtain ⟨_, rfl, _⟩ := h; rfl)
    | (obtain ⟨_, _, rfl, _⟩ := h; rfl)
    | (obtain ⟨_, _, _, rfl, _⟩ := h; rfl)
    | (obtain ⟨_, _, _, _, rfl, _⟩ := h; rfl)
    | (obtain ⟨_, _, _, _, _, rfl, _⟩ := h; rfl)
    | (obtain ⟨_, _, _, _, _, _, rfl, _⟩ := h; rfl)
    | (obtain ⟨_, _, _, _, _, _, _, rfl, _⟩ := h; rfl)
    | (obtain ⟨_, _, _, _, _, _, _, _, rfl, _⟩ := h; rfl)
    | (obtain ⟨_, _, _, _, _, _, _, _, _, rfl, _⟩ := h; rfl)
    | (obtain ⟨_, _, _, _, _, _, _, _, _, _, rfl, _⟩ := h; rfl)
    | (obtain ⟨_, _, _, _, _, _, _, _, _, _, _, rfl, _⟩ := h; rfl)
    | (obtain ⟨_, _, _, _, _, _, _, _, _, _, _, _, rfl, _⟩ := h; rfl)
    | (obtain ⟨_, _, _, _, _, _, _, _, _, _, _, _, _, rfl, _⟩ := h; rfl)
    | (obtain ⟨_, _, _, _, _, _, _, _, _, _, _, _, _, rfl, _⟩ := h; rfl)
    | (obtain ⟨_, _, _, _, _, _, _, _, _, _, _, _, _, _, rfl, _⟩ := h; rfl)
    | (obtain ⟨_, _, _, _, _, _, _, _, _, _, _, _, _, _, _, rfl, _⟩ := h; rfl)
    | (obtain ⟨_, _, _, _, _, _, _, _, _, _, _, _, _, _, _, _, rfl, _⟩ := h; rfl)
    | (obtain ⟨_, _, _, _, _, _, _, _, _, _, _, _, _, _, _, _, _, rfl, _⟩ := h; rfl)
    | (obtain ⟨_, _, _, _, _, _, _, _, _, _, _, _, _, _, _, _, _, _, rfl, _⟩ := h; rfl)
    | (obtain ⟨_, _, _, _, _, _, _, _, _, _, _, _, _, _, _, _, _, _, _, rfl, _⟩ := h; rfl)
    | (obtain ⟨_, _, _, _, _, _, _, _, _, _, _, _, _, _, _, _, _, _, _, _, rfl, _⟩ := h; rfl)
    | (obtain ⟨_, _, _, _, _, _, _, _, _, _, _, _, _, _, _, _, _, _, _, _, _, rfl, _⟩ := h; rfl)
--USE HMb
def sp_Part_joined (K : KF) : Spec := fun ds Ω R X => ∃ (lo k wi ci : Nat) (s rd : DV) (a : Pa) (b root : Int) (xs : List Sg) (n t m : Nat), ds = [.o k, .d (.int b)] ∧ PaAt (He.ga K "Part") Ω lo k wi ci s rd a ∧ SeqS dSg Ω s xs ∧ (∀ x ∈ xs, SgE m x) ∧ xs.length ≤ 1000 ∧
  XsOk n t xs ∧ PI n t xs root a ∧ a.ring = none ∧ b ∈ a.keys ∧ n ≤ 20 ∧ t ≤ 150 ∧ ∀ (Ω' : Om) (rd' : DV) (f : Nat), PaAt (He.ga K "Part") Ω' Ω.length k wi ci s rd' (joinL xs a b).1 → FrP Ω Ω' k wi ci → Ω.length ≤ f → Ω'[f]? = some (.lst (((joinL xs a b).2.map PyData.int).map DV.d)) → R (.o f) Ω'
def t_Part_joined (K : KF) (W : WX) : TS :=
  (tSeq (tAsg (tLst tNil) (gName 2))
    (tSeq (tFor (iSeq K (tCall (FS K (sp_steps_from K)) [] E0 (tCons (tFldC (He.ga K "Part") (tVar 0) "sightings") (tCons (tVar 1) tNil)))) (gTup K 4 (gCons (gName 3) (gCons (gName 4) (gCons (gName 5) (gCons (gName 6) gNil))))) (tSeq (tAsg (tCall (FS K (sp_times K)) [] E0 (tCons (tDGet (tFldC (He.ga K "Part") (tVar 0) "weights") (tVar 1)) (tCons (tVar 6) tNil))) (gName 7))
    (tIfS (tTest (tOp (rInD true) (tVar 5) (tFldC (He.ga K "Part") (tVar 0) "weights"))) (tSeq (tAsg (tVar 7) (gSub (tFldC (He.ga K "Part") (tVar 0) "weights") (tVar 5) rSetD))
    (tSeq (tAsg (tTup (tCons (tVar 3) (tCons (tVar 4) (tCons (tVar 1) tNil)))) (gSub (tFldC (He.ga K "Part") (tVar 0) "came") (tVar 5) rSetD))
    (tDrop (tBM K "list" rAppend (tVar 2) (tCons (tVar 5) tNil))))) (tIfS (tAnd (tTest (tOp (rNeD K) (tDGet (tFldC (He.ga K "Part") (tVar 0) "weights") (tVar 5)) (tVar 7))) (tTest (tOp oIsN (tFldC (He.ga K "Part") (tVar 0) "ring") (tC .non)))) (sFldC (He.ga K "Part") (tVar 0) (tOp (rAddX K) (tOp (rAddX K) (tMethE (He.ga K "Part") "way_to" (FS K (sp_Part_way_to K)) (fun _ => E0) (tVar 0) (tCons (tVar 1) tNil)) (tLst (tCons (tTup (tCons (tVar 3) (tCons (tVar 4) tNil))) tNil))) (tMethE (He.ga K "Part") "way_home" (FS K (sp_Part_way_home K)) (fun _ => E0) (tVar 0) (tCons (tVar 5) tNil))) "ring") tNext))))
    (tRet (tVar 2))))
theorem wtsD_look {a : Pa} {b : Int} {w : Rat} (e : a.wts.lookup b = some w) : lookK (wtsD a) (Sum.inl b) = some (.d (dR w)) := by
  unfold wtsD; rw [lookK_int (g := fun y => DV.d (dR y)), e]; rfl
theorem w_Part_joined {K : KF} (W : WX) (ds : List DV) (Ω : Om) (R : DV → Om → Prop) (X : Exc → Om → Prop) (h : sp_Part_joined K ds Ω R X) : WS K W (t_Part_joined K W) (startG 8 ds) Ω (fnO Ω R X) := by
  obtain ⟨lo, k, wi, ci, s, rd, a, b, root, xs, n, t, m, rfl, pa0, hs, he, hl, ok, pi, hr0, hb, hn, ht, q⟩ := h
  show WS K W (t_Part_joined K W) [some (.o k), some (.d (.int b)), none, none, none, none, none, none] Ω _
  unfold t_Part_joined
  have pa : PaAt (He.ga K "Part") Ω (Ω.length + 1) k wi ci s rd a := pa0.lo (.inl hr0)
  obtain ⟨nk1, nk2⟩ := pa.ne
  have nwc := pa.nwc
  have lk := lt_of_get pa.ob
  have lw := lt_of_get pa.ws
  have lc := lt_of_get pa.cm
  have so := ok.st b
  have hsl := stepsL_len xs b
  obtain ⟨wb, ewb⟩ := keys_look hb
  generalize hT : tRet (tVar 2) = tl
  walk_at "hl"
  refine ws_for (wi_LT dS4 (stepsL xs b) ?_)
  walk_at "hl"
  refine we_fldV rfl pa.app.ob (pf_s _ _ _ _) ?_
  walk_at "hl"
  refine ⟨s, xs, b, m, rfl, hs.app, ok.1, he, hl, ?_⟩
  refine ⟨.inl rfl, ?_⟩
  refine ⟨fun i Γ Ω1 => ∃ (rd1 : DV) (c3 c4 c5 c6 c7 : Option DV), Γ = [some (.o k), some (.d (.int b)), some (.o Ω.length), c3, c4, c5, c6, c7] ∧ PaAt (He.ga K "Part") Ω1 (Ω.length + 1) k wi ci s rd1 (((stepsL xs b).take i).foldl (joinS b) (a, [])).1 ∧ FrP Ω Ω1 k wi ci ∧
    Ω.length + 1 ≤ Ω1.length ∧ Ω1[Ω.length]? = some (.lst (((((stepsL xs b).take i).foldl (joinS b) (a, [])).2.map PyData.int).map DV.d)), ⟨rd, _, _, _, _, _, rfl, pa.app, (FrP.refl ..).app, by simp, get_last _ _⟩, ?_, ?_, ?_⟩
  · rintro i Γ Ω1 - ⟨rd1, c3, c4, c5, c6, c7, rfl, -, -, h1, -⟩
    exact ⟨trivial, by simpa using h1⟩
  · rintro i y Γ Ω1 hy ⟨rd1, c3, c4, c5, c6, c7, rfl, pa1, fr, hlen, hf⟩
    obtain ⟨st, rfl, gst, mst, ist, tst⟩ := lmap_get hy
    have en : ((stepsL xs b).take (i + 1)).foldl (joinS b) (a, []) = joinS b (((stepsL xs b).take i).foldl (joinS b) (a, [])) st := by
      rw [tst, List.foldl_append]; rfl
    have so' : StOk n t xs b ((stepsL xs b).take i) := fun x hx => so x (List.mem_of_mem_take hx)
    obtain ⟨g, e1, jn, -⟩ := joinF_ok [] pi hb so'
    obtain ⟨s1, s2, s3⟩ := so st mst
    generalize ((stepsL xs b).take i).foldl (joinS b) (a, []) = z at en jn pa1 hf e1
    obtain ⟨z, fr0⟩ := z
    have pz : PI n t xs root z := jn.pi
    have ez : z.wts.lookup b = some wb := jn.pr _ _ ewb
    obtain ⟨kk, hkk, w0, zw, -⟩ := pz.at_ ez
    have hzl := pz.len
    have ltk : t * kk ≤ 150 * 20 := Nat.mul_le_mul ht (by omega)
    have hfl : fr0.length ≤ 2000 := by
      have hg : z.keys = a.keys ++ g := jn.ks
      have := congrArg List.length hg
      unfold Pa.keys at this
      rw [List.length_append, List.length_map, List.length_map] at this
      have e1 : fr0 = g := e1
      rw [e1]
      omega
    refine wg_tup (xs := [.int st.n, .int st.w, .int st.o, dR st.q]) rfl (show WGs K _ [.d (.int st.n), .d (.int st.w), .d (.int st.o), .d (dR st.q)] _ _ _ from ?_)
    walk_at "hl"
    refine we_dgetF rfl pa1.ob (pf_w _ _ _ _) pa1.ws rfl (wtsD_look ez) ?_
    walk_at "hl"
    refine ⟨wb, st.q, rfl, ⟨_, _, zw, s3, by omega⟩, ?_⟩
    dsimp only [List.set]
    walk_at "hl"
    refine we_fldV rfl pa1.ob (pf_w _ _ _ _) ?_
    refine wr_inD rfl pa1.ws ?_
    cases eo : z.wts.lookup st.o with
    | none =>
      have el : lookK (wtsD z) (Sum.inl st.o) = none := by unfold wtsD; rw [lookK_int (g := fun y => DV.d (dR y)), eo]; rfl
      have en' : joinS b (z, fr0) st = (⟨z.wts ++ [(st.o, wb * st.q)], z.came ++ [(st.o, some (st.n, st.w, b))], z.ring⟩, fr0 ++ [st.o]) := by
        unfold joinS; simp only [eo, ez, Option.getD_some]
      rw [en'] at en
      rw [el]
      refine ⟨_, rfl, fun _ => ?_, fun h => (by cases h)⟩
      walk_at "hl"
      have hcn : z.came.lookup st.o = none := look_none.mpr (by rw [pz.ks]; exact look_none.mp eo)
      have e1 : putKD (wtsD z) (Sum.inl st.o) (.d (dR (wb * st.q))) = (z.wts ++ [(st.o, wb * st.q)]).map fun p => (Sum.inl p.1, DV.d (dR p.2)) := by
        unfold wtsD; rw [putKD_int (g := fun y => DV.d (dR y)), putA_new eo]
      have e2 : putKD (cameD z) (Sum.inl st.o) (.d (dCm (some (st.n, st.w, b)))) = (z.came ++ [(st.o, some (st.n, st.w, b))]).map fun p => (Sum.inl p.1, DV.d (dCm p.2)) := by
        unfold cameD; rw [putKD_int (g := fun y => DV.d (dCm y)), putA_new hcn]
      refine wg_subDF rfl pa1.ob (pf_w _ _ _ _) pa1.ws rfl (by show (wtsD z).length < _; unfold wtsD; rw [List.length_map]; omega) ?_
      rw [e1]
      dsimp only [List.set]
      walk_at "hl"
      have ob2 : ∀ c : OC, (Ω1.set wi c)[k]? = some (.ins (He.ga K "Part") (pF s wi ci rd1)) := fun c => by rw [List.getElem?_set_ne (Ne.symm nk1)]; exact pa1.ob
      have cm2 : ∀ c : OC, (Ω1.set wi c)[ci]? = some (.dic (cameD z)) := fun c => by rw [List.getElem?_set_ne nwc]; exact pa1.cm
      refine wg_subDF rfl (ob2 _) (pf_c _ _ _ _) (cm2 _) rfl (by show (cameD z).length < _; unfold cameD; rw [List.length_map]; omega) ?_
      refine (show putKD (cameD z) (Sum.inl st.o) (.d (.tuple [.int st.n, .int st.w, .int b])) = _ from e2) ▸ ?_
      walk_at "hl"
      have hf2 : ∀ c c' : OC, ((Ω1.set wi c).set ci c')[Ω.length]? = some (.lst ((fr0.map PyData.int).map DV.d)) := fun c c' => by rw [List.getElem?_set_ne (by omega), List.getElem?_set_ne (by omega)]; exact hf
      refine ⟨⟨_, (by show sqO _ = _; rw [hf2]; rfl), rfl⟩, ?_⟩
      walk_at "hl"
      refine wm_append (hf2 _ _) (by rw [List.length_map, List.length_map]; omega) ?_
      refine ⟨rd1, _, _, _, _, _, rfl, ?_, ?_, by simpa using hlen, ?_⟩
      · rw [en]
        refine ⟨?_, ?_, ?_, ?_, nwc⟩
        · rw [List.getElem?_set_ne (by omega), List.getElem?_set_ne (Ne.symm nk2)]; exact ob2 _
        · rw [List.getElem?_set_ne (by omega), List.getElem?_set_ne (Ne.symm nwc)]; exact get_set (by omega)
        · rw [List.getElem?_set_ne (by omega)]; exact get_set (by rw [List.length_set]; omega)
        · have := pa1.rg
          show ringFld _ z.ring _ _
          unfold ringFld at this ⊢
          cases er : z.ring with
          | none => rw [er] at this; exact this
          | some r =>
            rw [er] at this
            obtain ⟨i, e0, e1, e2⟩ := this
            exact ⟨i, e0, e1, by rw [List.getElem?_set_ne (by omega), List.getElem?_set_ne (by omega), List.getElem?_set_ne (by omega)]; exact e2⟩
      · exact ((fr.set (.inr (.inr (.inl rfl)))).set (.inr (.inr (.inr rfl)))).set (.inl (Nat.le_refl _))
      · rw [en, get_set (by rw [List.length_set, List.length_set]; omega)]
        simp
    | some w' =>
      rw [wtsD_look eo]
      refine ⟨_, rfl, fun h => (by cases h), fun _ => ?_⟩
      walk_at "hl"
      refine we_dgetF rfl pa1.ob (pf_w _ _ _ _) pa1.ws rfl (wtsD_look eo) ?_
      walk_at "hl"
      have stay : (w' = wb * st.q ∨ z.ring ≠ none) → joinS b (z, fr0) st = (z, fr0) := fun h => by
        unfold joinS
        simp only [eo, ez, Option.getD_some]
        rw [if_neg]
        rintro ⟨z1, z2⟩
        exact h.elim z1 fun z3 => z3 z2
      have fin : (w' = wb * st.q ∨ z.ring ≠ none) → ∃ (rd1 : DV) (c3 c4 c5 c6 c7' : Option DV), [some (.o k), some (.d (.int b)), some (.o Ω.length), some (.d (.int st.n)), some (.d (.int st.w)), some (.d (.int st.o)), some (.d (dR st.q)), some (.d (dR (wb * st.q)))] = [some (.o k), some (.d (.int b)), some (.o Ω.length), c3, c4, c5, c6, c7'] ∧ PaAt (He.ga K "Part") Ω1 (Ω.length + 1) k wi ci s rd1 (((stepsL xs b).take (i + 1)).foldl (joinS b) (a, [])).1 ∧ FrP Ω Ω1 k wi ci ∧
        Ω.length + 1 ≤ Ω1.length ∧ Ω1[Ω.length]? = some (.lst (((((stepsL xs b).take (i + 1)).foldl (joinS b) (a, [])).2.map PyData.int).map DV.d)) := fun h => by
        rw [stay h] at en
        rw [en]
        exact ⟨rd1, _, _, _, _, _, rfl, pa1, fr, hlen, hf⟩
      refine ⟨fun h1 => ?_, fun h1 => ?_⟩
      · have h1 : ¬ w' = wb * st.q := by simpa using h1
        walk_at "hl"
        refine we_fldV rfl pa1.ob (pf_r _ _ _ _) ?_
        cases er : z.ring with
        | some r =>
          have := pa1.rg
          rw [er] at this
          obtain ⟨ri, e0, rfl, e2⟩ := this
          walk_at "hl"
          refine bF rfl ?_
          walk_at "hl"
          exact fin (.inr (by rw [er]; intro z; cases z))
        | none =>
          have := pa1.rg
          rw [er] at this
          obtain rfl : rd1 = .d .none := this
          walk_at "hl"
          refine bT rfl ?_
          obtain ⟨h2, h3, -⟩ := pz.home ez
          obtain ⟨h4, h5, -⟩ := pz.home eo
          have en' : joinS b (z, fr0) st = (⟨z.wts, z.came, some (toF z.came.length z.came b ++ [(st.n, st.w)] ++ homeF z.came.length z.came st.o)⟩, fr0) := by
            unfold joinS; simp only [eo, ez, Option.getD_some]; rw [if_pos ⟨h1, er⟩]
          rw [en'] at en
          have et : toF z.came.length z.came b = ((homeF z.came.length z.came b).map turnP).reverse := rfl
          generalize homeF z.came.length z.came b = l1 at h2 h3 et
          generalize homeF z.came.length z.came st.o = l2 at h4 h5 en
          rw [et] at en
          dsimp only [List.set]
          refine ws_fldC ?_
          walk_at "hl"
          refine we_methL (we_var rfl ⟨k, _, rfl, pa1.ob, pf_to _ _ _ _, ?_⟩)
          walk_at "hl"
          refine ⟨_, k, wi, ci, s, _, z, b, l1, rfl, pa1, h2, by omega, ?_⟩
          walk_at "hl"
          refine wr_addL rfl rfl (by simp; omega) ?_
          walk_at "hl"
          refine we_methL (we_var rfl ⟨k, _, rfl, pa1.ob, pf_home _ _ _ _, ?_⟩)
          walk_at "hl"
          refine ⟨_, k, wi, ci, s, _, z, st.o, l2, rfl, pa1, h4, by omega, ?_⟩
          refine wr_addLO rfl rfl (by simp; omega) ?_
          refine we_var rfl ⟨k, _, rfl, get_app pa1.ob, (by show 4 < 1000; decide), ?_⟩
          rw [put_ring]
          have hk1 : k < Ω1.length := lt_of_get pa1.ob
          refine ⟨.o Ω1.length, some (.d (.int st.n)), some (.d (.int st.w)), some (.d (.int st.o)), some (.d (dR st.q)), some (.d (dR (wb * st.q))), rfl, ?_, ?_, ?_, ?_⟩
          rotate_left
          · exact (fr.app).set (.inr (.inl rfl))
          · rw [List.length_set, List.length_append]; omega
          rotate_left
          · rw [en]
            refine ⟨get_set (by rw [List.length_append]; omega), ?_, ?_, ⟨Ω1.length, hlen, rfl, ?_⟩, nwc⟩
            · rw [List.getElem?_set_ne nk1]; exact get_app pa1.ws
            · rw [List.getElem?_set_ne nk2]; exact get_app pa1.cm
            · rw [List.getElem?_set_ne (by omega), get_last]
              simp [dPr]
          · rw [en, List.getElem?_set_ne (by omega)]
            exact get_app hf
      · have h1 : w' = wb * st.q := by simpa using h1
        refine bF rfl ?_
        walk_at "hl"
        exact fin (.inl h1)
  · rintro Γ Ω1 ⟨rd1, c3, c4, c5, c6, c7, rfl, pa1, fr, hlen, hf⟩
    rw [List.take_of_length_le (by rw [List.length_map]; exact Nat.le_refl _)] at pa1 hf
    subst hT
    refine ws_ret (we_var rfl ?_)
    exact dr_same (q Ω1 rd1 Ω.length (pa1.lo (.inr (by omega))) fr (Nat.le_refl _) hf)
theorem sp_len_Part_joined {K : KF} (ds : List DV) (Ω : Om) (R : DV → Om → Prop) (X : Exc → Om → Prop) (h : sp_Part_joined K ds Ω R X) : ds.length = 2 := by
  unfold sp_Part_joined at h
  first
    | (obtain ⟨rfl, _⟩ := h; rfl)
    | (obtain ⟨_, rfl, _⟩ := h; rfl)
    | (obtain ⟨_, _, rfl, _⟩ := h; rfl)
    | (obtain ⟨_, _, _, rfl, _⟩ := h; rfl)
    | (obtain ⟨_, _, _, _, rfl, _⟩ := h; rfl)
    | (obtain ⟨_, _, _, _, _, rfl, _⟩ := h; rfl)
    | (obtain ⟨_, _, _, _, _, _, rfl, _⟩ := h; rfl)
    | (obtain ⟨_, _, _, _, _, _, _, rfl, _⟩ := h; rfl)
    | (obtain ⟨_, _, _, _, _, _, _, _, rfl, _⟩ := h; rfl)
    | (obtain ⟨_, _, _, _, _, _, _, _, _, rfl, _⟩ := h; rfl)
    | (obtain ⟨_, _, _, _, _, _, _, _, _, _, rfl, _⟩ := h; rfl)
    | (obtain ⟨_, _, _, _, _, _, _, _, _, _, _, rfl, _⟩ := h; rfl)
    | (obtain ⟨_, _, _, _, _, _, _, _, _, _, _, _, rfl, _⟩ := h; rfl)
    | (obtain ⟨_, _, _, _, _, _, _, _, _, _, _, _, _, rfl, _⟩ := h; rfl)
    | (obtain ⟨_, _, _, _, _, _, _, _, _, _, _, _, _, rfl, _⟩ := h; rfl)
    | (obtain ⟨_, _, _, _, _, _, _, _, _, _, _, _, _, _, rfl, _⟩ := h; rfl)
    | (obtain ⟨_, _, _, _, _, _, _, _, _, _, _, _, _, _, _, rfl, _⟩ := h; rfl)
    | (obtain ⟨_, _, _, _, _, _, _, _, _, _, _, _, _, _, _, _, rfl, _⟩ := h; rfl)
    | (obtain ⟨_, _, _, _, _, _, _, _, _, _, _, _, _, _, _, _, _, rfl, _⟩ := h; rfl)
    | (obtain ⟨_, _, _, _, _, _, _, _, _, _, _, _, _, _, _, _, _, _, rfl, _⟩ := h; rfl)
    | (obtain ⟨_, _, _, _, _, _, _, _, _, _, _, _, _, _, _, _, _, _, _, rfl, _⟩ := h; rfl)
    | (obtain ⟨_, _, _, _, _, _, _, _, _, _, _, _, _, _, _, _, _, _, _, _, rfl, _⟩ := h; rfl)
    | (obtain ⟨_, _, _, _, _, _, _, _, _, _, _, _, _, _, _, _, _, _, _, _, _, rfl, _⟩ := h; rfl)
--USE HMb
--USE HKu
--USE HLq
def sp_Part_init (K : KF) : Spec := fun ds Ω R X => ∃ (k : Nat) (s : DV) (b : Int) (xs : List Sg) (n t m : Nat), ds = [.o k, s, .d (.int b)] ∧ Ω[k]? = some (.ins (He.ga K "Part") []) ∧ SeqS dSg Ω s xs ∧ (∀ x ∈ xs, SgE m x) ∧ xs.length ≤ 1000 ∧
  XsOk n t xs ∧ n ≤ 20 ∧ t ≤ 150 ∧ 0 ≤ b ∧ b < n ∧ ∀ (Ω' : Om) (wi ci : Nat) (rd : DV), PaAt (He.ga K "Part") Ω' Ω.length k wi ci s rd (partF n xs b) → Ω.length ≤ wi → Ω.length ≤ ci → (∀ i, i < Ω.length → i ≠ k → Ω'[i]? = Ω[i]?) → Ω.length ≤ Ω'.length → R (.d .none) Ω'
def t_Part_init (K : KF) (W : WX) : TS :=
  (tSeq (sFldC (He.ga K "Part") (tVar 0) (tVar 1) "sightings")
    (tSeq (sFldC (He.ga K "Part") (tVar 0) (tDisp [((tVar 2), (tC (.ref (He.ga K "ONE"))))]) "weights")
    (tSeq (sFldC (He.ga K "Part") (tVar 0) (tDisp [((tVar 2), (tC .non))]) "came")
    (tSeq (sFldC (He.ga K "Part") (tVar 0) (tC .non) "ring")
    (tSeq (tAsg (tLstO (tCons (tVar 2) tNil)) (gName 3))
    (tWhile (tAnd (tTest (tOp (rNeD K) (tVar 3) (tLst tNil))) (tTest (tOp oIsN (tFldC (He.ga K "Part") (tVar 0) "ring") (tC .non)))) (tSeq (tAsg (tBM K "list" rPopAt (tVar 3) (tCons (tC (.int 0)) tNil)) (gName 4))
    (tDrop (tBM K "list" rExtend (tVar 3) (tCons (tMethE (He.ga K "Part") "joined" (FS K (sp_Part_joined K)) (fun _ => E0) (tVar 0) (tCons (tVar 4) tNil)) tNil))))))))))
theorem eqv_nilL (l : List PyData) : PyData.eqv (.list l) (.list []) = l.isEmpty := by cases l <;> rfl
theorem w_Part_init {K : KF} (q1 : He.tupB K "ONE" [.int 1, .int 1] = true) (W : WX) (ds : List DV) (Ω : Om) (R : DV → Om → Prop) (X : Exc → Om → Prop) (h : sp_Part_init K ds Ω R X) : WS K W (t_Part_init K W) (startG 5 ds) Ω (fnO Ω R X) := by
  obtain ⟨k, s, b, xs, n, t, m, rfl, hk, hs, he, hl, ok, hn, ht, b0, b1, q⟩ := h
  show WS K W (t_Part_init K W) [some (.o k), some s, some (.d (.int b)), none, none] Ω _
  unfold t_Part_init
  have lk := lt_of_get hk
  have hk0 := hk
  refine ws_seq (ws_fldC (we_var rfl (we_var rfl ⟨k, [], rfl, hk, by decide, ?_⟩)))
  have h1 : (Ω.set k (.ins (He.ga K "Part") (putD "sightings" s [])))[k]? = some (.ins (He.ga K "Part") [("sightings", s)]) := get_set lk
  generalize hΩ1 : Ω.set k (.ins (He.ga K "Part") (putD "sightings" s [])) = Ω1 at h1
  have l1 : Ω1.length = Ω.length := by rw [← hΩ1, List.length_set]
  have f1 : ∀ i, i ≠ k → Ω1[i]? = Ω[i]? := fun i hi => by rw [← hΩ1, List.getElem?_set_ne (Ne.symm hi)]
  refine ws_seq (ws_fldC (we_disp1 ?_))
  walk_at "hl"
  refine ⟨_, rfl, get_last _ _, ?_⟩
  rw [set_last]
  refine we_var rfl ⟨k, _, rfl, get_app h1, (by show 1 < 1000; decide), ?_⟩
  rw [put_p2]
  have h2 : ((Ω1 ++ [OC.dic [(Sum.inl b, .d (dR 1))]]).set k (.ins (He.ga K "Part") [("sightings", s), ("weights", .o Ω1.length)]))[k]? = some (.ins (He.ga K "Part") [("sightings", s), ("weights", .o Ω1.length)]) := get_set (by rw [List.length_append]; omega)
  have w2 : ((Ω1 ++ [OC.dic [(Sum.inl b, .d (dR 1))]]).set k (.ins (He.ga K "Part") [("sightings", s), ("weights", .o Ω1.length)]))[Ω.length]? = some (.dic [(Sum.inl b, .d (dR 1))]) := by
    rw [List.getElem?_set_ne (by omega), ← l1]; exact get_last _ _
  have f2 : ∀ i, i < Ω.length → i ≠ k → ((Ω1 ++ [OC.dic [(Sum.inl b, .d (dR 1))]]).set k (.ins (He.ga K "Part") [("sightings", s), ("weights", .o Ω1.length)]))[i]? = Ω[i]? := fun i hi ne => by
    rw [List.getElem?_set_ne (Ne.symm ne), List.getElem?_append_left (by omega)]; exact f1 i ne
  have l2 : ((Ω1 ++ [OC.dic [(Sum.inl b, .d (dR 1))]]).set k (.ins (He.ga K "Part") [("sightings", s), ("weights", .o Ω1.length)])).length = Ω.length + 1 := by rw [List.length_set, List.length_append, l1]; rfl
  generalize (Ω1 ++ [OC.dic [(Sum.inl b, .d (dR 1))]]).set k (.ins (He.ga K "Part") [("sightings", s), ("weights", .o Ω1.length)]) = Ω2 at h2 w2 f2 l2
  rw [l1] at h2
  refine ws_seq (ws_fldC (we_disp1 ?_))
  walk_at "hl"
  refine ⟨_, rfl, get_last _ _, ?_⟩
  rw [set_last]
  refine we_var rfl ⟨k, _, rfl, get_app h2, (by show 2 < 1000; decide), ?_⟩
  rw [put_p3]
  have h3 : ((Ω2 ++ [OC.dic [(Sum.inl b, .d .none)]]).set k (.ins (He.ga K "Part") [("sightings", s), ("weights", .o Ω.length), ("came", .o Ω2.length)]))[k]? = some (.ins (He.ga K "Part") [("sightings", s), ("weights", .o Ω.length), ("came", .o Ω2.length)]) := get_set (by rw [List.length_append]; omega)
  have w3 : ((Ω2 ++ [OC.dic [(Sum.inl b, .d .none)]]).set k (.ins (He.ga K "Part") [("sightings", s), ("weights", .o Ω.length), ("came", .o Ω2.length)]))[Ω.length]? = some (.dic [(Sum.inl b, .d (dR 1))]) := by
    rw [List.getElem?_set_ne (by omega)]; exact get_app w2
  have c3 : ((Ω2 ++ [OC.dic [(Sum.inl b, .d .none)]]).set k (.ins (He.ga K "Part") [("sightings", s), ("weights", .o Ω.length), ("came", .o Ω2.length)]))[Ω.length + 1]? = some (.dic [(Sum.inl b, .d .none)]) := by
    rw [List.getElem?_set_ne (by omega), ← l2]; exact get_last _ _
  have f3 : ∀ i, i < Ω.length → i ≠ k → ((Ω2 ++ [OC.dic [(Sum.inl b, .d .none)]]).set k (.ins (He.ga K "Part") [("sightings", s), ("weights", .o Ω.length), ("came", .o Ω2.length)]))[i]? = Ω[i]? := fun i hi ne => by
    rw [List.getElem?_set_ne (Ne.symm ne), List.getElem?_append_left (by omega)]; exact f2 i hi ne
  have l3 : ((Ω2 ++ [OC.dic [(Sum.inl b, .d .none)]]).set k (.ins (He.ga K "Part") [("sightings", s), ("weights", .o Ω.length), ("came", .o Ω2.length)])).length = Ω.length + 2 := by rw [List.length_set, List.length_append, l2]; rfl
  generalize (Ω2 ++ [OC.dic [(Sum.inl b, .d .none)]]).set k (.ins (He.ga K "Part") [("sightings", s), ("weights", .o Ω.length), ("came", .o Ω2.length)]) = Ω3 at h3 w3 c3 f3 l3
  rw [l2] at h3
  refine ws_seq (ws_fldC ?_)
  walk_at "hl"
  refine ⟨k, _, rfl, h3, (by show 3 < 1000; decide), ?_⟩
  rw [put_p4]
  have pa4 : PaAt (He.ga K "Part") (Ω3.set k (.ins (He.ga K "Part") (pF s Ω.length (Ω.length + 1) (.d .none)))) Ω.length k Ω.length (Ω.length + 1) s (.d .none) (part0 b) :=
    ⟨get_set (by omega), by rw [List.getElem?_set_ne (by omega)]; exact w3, by rw [List.getElem?_set_ne (by omega)]; exact c3, rfl, by omega⟩
  have f4 : ∀ i, i < Ω.length → i ≠ k → (Ω3.set k (.ins (He.ga K "Part") (pF s Ω.length (Ω.length + 1) (.d .none))))[i]? = Ω[i]? := fun i hi ne => by
    rw [List.getElem?_set_ne (Ne.symm ne)]; exact f3 i hi ne
  have l4 : (Ω3.set k (.ins (He.ga K "Part") (pF s Ω.length (Ω.length + 1) (.d .none)))).length = Ω.length + 2 := by rw [List.length_set, l3]
  generalize Ω3.set k (.ins (He.ga K "Part") (pF s Ω.length (Ω.length + 1) (.d .none))) = Ω4 at pa4 f4 l4
  walk_at "hl"
  refine ws_while (fun nn Γ Ω1 => ∃ (D : List Int) (z : Pa × List Int) (rd : DV) (c4 : Option DV), Γ = [some (.o k), some s, some (.d (.int b)), some (.o Ω4.length), c4] ∧ PaAt (He.ga K "Part") Ω1 Ω.length k Ω.length (Ω.length + 1) s rd z.1 ∧
    Ω1[Ω4.length]? = some (.lst ((z.2.map PyData.int).map DV.d)) ∧ (∀ i, i < Ω.length → i ≠ k → Ω1[i]? = Ω[i]?) ∧ Ω.length + 3 ≤ Ω1.length ∧ JI n t xs b D z ∧ z = iterN (partS xs) D.length (part0 b, [b]) ∧ n - D.length = nn) n
    ⟨[], (part0 b, [b]), .d .none, none, rfl, pa4.app, get_last _ _, fun i hi ne => by rw [List.getElem?_append_left (by omega)]; exact f4 i hi ne, by rw [List.length_append, l4]; exact Nat.le_refl _, JI.start b0 b1, rfl, rfl⟩ ?_
  rintro nn Γ Ω1' - ⟨D, ⟨z, rim⟩, rd, c4, rfl, pz, hrim, fz, lz, ji, ez, hnn⟩
  walk_at "hl"
  have fin : Stuck (z, rim) → Dr Ω R (.d .none) Ω1' := fun hs => by
    have ep := part_end ji ez hs
    refine dr_same (q Ω1' Ω.length (Ω.length + 1) rd ?_ (Nat.le_refl _) (by omega) fz (by omega))
    rw [ep]; exact pz
  refine wr_ne (vw_lstO hrim) rfl (shaped_of (shp_list (n := 63) (shp_map (f := PyData.int) fun a => shp_int))) rfl ?_
  rw [eqv_nilL]
  cases rim with
  | nil =>
    refine ⟨_, rfl, fun h => (by cases h), fun _ => ?_⟩
    walk_at "hl"
    refine bF rfl ?_
    walk_at "hl"
    exact fin (.inl rfl)
  | cons h r =>
    refine ⟨_, rfl, fun _ => ?_, fun h => (by cases h)⟩
    walk_at "hl"
    refine we_fldV rfl pz.ob (pf_r _ _ _ _) ?_
    cases er : z.ring with
    | some rr =>
      have := pz.rg
      rw [show z.ring = some rr from er] at this
      obtain ⟨ri, e0, rfl, e2⟩ := this
      walk_at "hl"
      refine bF rfl ?_
      walk_at "hl"
      exact fin (.inr (by show z.ring ≠ none; rw [er]; intro z; cases z))
    | none =>
      have := pz.rg
      rw [show z.ring = none from er] at this
      obtain rfl : rd = .d .none := this
      obtain ⟨ep, ji', hk⟩ := ji.step ok er
      walk_at "hl"
      refine bT rfl ?_
      walk_at "hl"
      refine ⟨⟨_, (by show sqO _ = _; rw [hrim]; rfl), rfl⟩, ?_⟩
      walk_at "hl"
      refine wm_popAt (k := 0) hrim (by decide) (by decide) (by simp [ixN]) rfl ?_
      show WG K _ _ _ (Ω1'.set Ω4.length (OC.lst ((r.map PyData.int).map DV.d))) _
      have g5 : (Ω1'.set Ω4.length (OC.lst ((r.map PyData.int).map DV.d)))[Ω4.length]? = some (OC.lst ((r.map PyData.int).map DV.d)) := get_set (by omega)
      have pa5 : PaAt (He.ga K "Part") (Ω1'.set Ω4.length (OC.lst ((r.map PyData.int).map DV.d))) Ω1'.length k Ω.length (Ω.length + 1) s (.d .none) z := by
        refine (pz.lo (lo' := Ω1'.length) (.inl er)).ext fun i c hi e => ?_
        have := lt_of_get e
        rw [List.getElem?_set_ne (by omega)]
        exact e
      have f5 : ∀ i, i < Ω.length → i ≠ k → (Ω1'.set Ω4.length (OC.lst ((r.map PyData.int).map DV.d)))[i]? = Ω[i]? := fun i hi ne => by
        rw [List.getElem?_set_ne (by omega)]; exact fz i hi ne
      have l5 : (Ω1'.set Ω4.length (OC.lst ((r.map PyData.int).map DV.d))).length = Ω1'.length := List.length_set
      generalize Ω1'.set Ω4.length (OC.lst ((r.map PyData.int).map DV.d)) = Ω5 at g5 pa5 f5 l5
      have hs5 : SeqS dSg Ω5 s xs := hs.frame fun i ds e => by
        rw [f5 i (lt_of_get e)]
        · exact e
        · intro z; rw [z, hk0] at e; cases e
      walk_at "hl"
      refine ⟨⟨_, (by show sqO _ = _; rw [g5]; rfl), rfl⟩, ?_⟩
      walk_at "hl"
      refine we_methL (we_var rfl ⟨k, _, rfl, pa5.ob, pf_joined _ _ _ _, ?_⟩)
      walk_at "hl"
      refine ⟨_, k, Ω.length, Ω.length + 1, s, _, z, h, b, xs, n, t, m, rfl, pa5, hs5, he, hl, ok, ji.pi, er, hk, hn, ht, fun Ω' rd' f pa6 fr6 hf6 hl6 => ?_⟩
      have g6 : Ω'[Ω4.length]? = some (OC.lst ((r.map PyData.int).map DV.d)) := by
        rw [fr6.2 _ (by omega) (by omega) (by omega) (by omega)]; exact g5
      have hlen6 := fr6.1
      walk_at "hl"
      have dn1 := ji.dn
      have dn2 := ji'.dn
      rw [ep] at dn2
      have hrl : r.length + (joinL xs z h).2.length ≤ 20 := by
        have : (r ++ (joinL xs z h).2).length ≤ n := by
          have dn2 : (D ++ [h]).length + (r ++ (joinL xs z h).2).length ≤ n := dn2
          omega
        rw [List.length_append] at this
        omega
      refine wm_extend g6 hl6 (by rw [List.length_map, List.length_map, List.length_map, List.length_map]; omega) ?_
      refine ⟨n - (D ++ [h]).length, ?_, D ++ [h], partS xs (z, h :: r), rd', some (.d (.int h)), rfl, ?_, ?_, ?_, ?_, ji', ?_, rfl⟩
      · have dn2 : (D ++ [h]).length + (r ++ (joinL xs z h).2).length ≤ n := dn2
        rw [List.length_append] at dn2 ⊢
        simp only [List.length_singleton] at dn2 ⊢
        omega
      · rw [ep]
        refine (pa6.ext fun i c hi e => ?_).lo (.inr (by omega))
        rw [List.getElem?_set_ne (by omega)]
        exact e
      · rw [ep, get_set (by omega)]
        show _ = some (OC.lst (((r ++ (joinL xs z h).2).map PyData.int).map DV.d))
        simp
      · intro i hi ne
        rw [List.getElem?_set_ne (by omega), fr6.2 i (by omega) ne (by omega) (by omega)]
        exact f5 i hi ne
      · rw [List.length_set]; omega
      · rw [List.length_append, List.length_singleton]
        show _ = partS xs (iterN (partS xs) D.length (part0 b, [b]))
        rw [← ez]
theorem sp_len_Part_init {K : KF} (ds : List DV) (Ω : Om) (R : DV → Om → Prop) (X : Exc → Om → Prop) (h : sp_Part_init K ds Ω R X) : ds.length = 3 := by
  unfold sp_Part_init at h
  first
    | (obtain ⟨rfl, _⟩ := h; rfl)
    | (obtain ⟨_, rfl, _⟩ := h; rfl)
    | (obtain ⟨_, _, rfl, _⟩ := h; rfl)
    | (obtain ⟨_, _, _, rfl, _⟩ := h; rfl)
    | (obtain ⟨_, _, _, _, rfl, _⟩ := h; rfl)
    | (obtain ⟨_, _, _, _, _, rfl, _⟩ := h; rfl)
    | (obtain ⟨_, _, _, _, _, _, rfl, _⟩ := h; rfl)
    | (obtain ⟨_, _, _, _, _, _, _, rfl, _⟩ := h; rfl)
    | (obtain ⟨_, _, _, _, _, _, _, _, rfl, _⟩ := h; rfl)
    | (obtain ⟨_, _, _, _, _, _, _, _, _, rfl, _⟩ := h; rfl)
    | (obtain ⟨_, _, _, _, _, _, _, _, _, _, rfl, _⟩ := h; rfl)
    | (obtain ⟨_, _, _, _, _, _, _, _, _, _, _, rfl, _⟩ := h; rfl)
    | (obtain ⟨_, _, _, _, _, _, _, _, _, _, _, _, rfl, _⟩ := h; rfl)
    | (obtain ⟨_, _, _, _, _, _, _, _, _, _, _, _, _, rfl, _⟩ := h; rfl)
    | (obtain ⟨_, _, _, _, _, _, _, _, _, _, _, _, _, rfl, _⟩ := h; rfl)
    | (obtain ⟨_, _, _, _, _, _, _, _, _, _, _, _, _, _, rfl, _⟩ := h; rfl)
    | (obtain ⟨_, _, _, _, _, _, _, _, _, _, _, _, _, _, _, rfl, _⟩ := h; rfl)
    | (obtain ⟨_, _, _, _, _, _, _, _, _, _, _, _, _, _, _, _, rfl, _⟩ := h; rfl)
    | (obtain ⟨_, _, _, _, _, _, _, _, _, _, _, _, _, _, _, _, _, rfl, _⟩ := h; rfl)
    | (obtain ⟨_, _, _, _, _, _, _, _, _, _, _, _, _, _, _, _, _, _, rfl, _⟩ := h; rfl)
    | (obtain ⟨_, _, _, _, _, _, _, _, _, _, _, _, _, _, _, _, _, _, _, rfl, _⟩ := h; rfl)
    | (obtain ⟨_, _, _, _, _, _, _, _, _, _, _, _, _, _, _, _, _, _, _, _, rfl, _⟩ := h; rfl)
    | (obtain ⟨_, _, _, _, _, _, _, _, _, _, _, _, _, _, _, _, _, _, _, _, _, rfl, _⟩ := h; rfl)
--USE HMb
def sp_Part_whole (K : KF) : Spec := fun ds Ω R X => ∃ (lo k wi ci : Nat) (s rd : DV) (a : Pa), ds = [.o k] ∧ PaAt (He.ga K "Part") Ω lo k wi ci s rd a ∧ a.keys.Nodup ∧ a.wts ≠ [] ∧ (∀ p ∈ a.wts, 0 < p.2 ∧ Sz 3200 p.2) ∧ a.wts.length ≤ 20 ∧ byP (lcmW (a.wts.map (·.2))) (a.wts.map (·.2)) < 2 ^ 8990 ∧
  R (.o Ω.length) (Ω ++ [.dic ((wholeF a).map fun p => (Sum.inl p.1, .d (.int p.2)))])
def t_Part_whole (K : KF) (W : WX) : TS :=
  (tSeq (tAsg (tC (.int 1)) (gName 1))
    (tSeq (tLock (tFor (iVals (tFldC (He.ga K "Part") (tVar 0) "weights")) (gName 2) (tAsg (tOp oMul (tVar 1) (tOp oFdiv (tOp (rIx K) (tVar 2) (tC (.int 1))) (tCall (FS K (sp_divisor_of K)) [] E0 (tCons (tOp (rIx K) (tVar 2) (tC (.int 1))) (tCons (tVar 1) tNil))))) (gName 1))))
    (tSeq (tAsg (tC (.int 0)) (gName 3))
    (tSeq (tLock (tFor (iVals (tFldC (He.ga K "Part") (tVar 0) "weights")) (gName 2) (tAsg (tCall (FS K (sp_divisor_of K)) [] E0 (tCons (tVar 3) (tCons (tOp oMul (tOp (rIx K) (tVar 2) (tC (.int 0))) (tOp oFdiv (tVar 1) (tOp (rIx K) (tVar 2) (tC (.int 1))))) tNil))) (gName 3))))
    (tSeq (tAsg tDNewK (gName 4))
    (tSeq (tLock (tFor (iItems (tFldC (He.ga K "Part") (tVar 0) "weights")) (gTup K 2 (gCons (gName 5) (gCons (gName 2) gNil))) (tAsg (tOp oFdiv (tOp oMul (tOp (rIx K) (tVar 2) (tC (.int 0))) (tOp oFdiv (tVar 1) (tOp (rIx K) (tVar 2) (tC (.int 1))))) (tVar 3)) (gSub (tVar 4) (tVar 5) rSetD))))
    (tRet (tVar 4))))))))
theorem lcm_gcd {f d : Nat} (hd : 0 < d) : (f : Int) * ((d : Int) / ((Int.gcd (d : Int) (f : Int) : Nat) : Int)) = ((Nat.lcm f d : Nat) : Int) := by
  have e : Int.gcd (d : Int) (f : Int) = Nat.gcd d f := rfl
  rw [e, ← Int.natCast_ediv, ← Int.natCast_mul]
  unfold Nat.lcm
  rw [Nat.gcd_comm d f, Nat.mul_div_assoc _ (Nat.gcd_dvd_right f d)]
theorem lcmF_le {m : Nat} : ∀ (l : List Rat) (f : Nat), (∀ q ∈ l, q.den < 2 ^ m) → l.foldl (fun f q => Nat.lcm f q.den) f ≤ f * 2 ^ (m * l.length)
  | [], f, _ => by simp
  | q :: l, f, h => by
    rw [List.foldl_cons]
    refine Nat.le_trans (lcmF_le l _ fun x hx => h x (.tail _ hx)) ?_
    have h1 : Nat.lcm f q.den ≤ f * q.den := Nat.div_le_self _ _
    have h2 : f * q.den ≤ f * 2 ^ m := Nat.mul_le_mul_left _ (Nat.le_of_lt (h q (.head _)))
    rw [List.length_cons, Nat.mul_succ, Nat.add_comm, Nat.pow_add, ← Nat.mul_assoc]
    exact Nat.mul_le_mul_right _ (Nat.le_trans h1 h2)
theorem w_Part_whole {K : KF} (W : WX) (ds : List DV) (Ω : Om) (R : DV → Om → Prop) (X : Exc → Om → Prop) (h : sp_Part_whole K ds Ω R X) : WS K W (t_Part_whole K W) (startG 6 ds) Ω (fnO Ω R X) := by
  obtain ⟨lo, k, wi, ci, s, rd, a, rfl, pa, nd, hne, hw, hl, hby, q⟩ := h
  show WS K W (t_Part_whole K W) [some (.o k), none, none, none, none, none] Ω _
  unfold t_Part_whole
  obtain ⟨nk1, nk2⟩ := pa.ne
  have lk := lt_of_get pa.ob
  have lw := lt_of_get pa.ws
  have obl : ∀ c : OC, (Ω.set wi c)[k]? = some (.ins (He.ga K "Part") (pF s wi ci rd)) := fun c => by rw [List.getElem?_set_ne (Ne.symm nk1)]; exact pa.ob
  have pre_le : ∀ i, lcmW ((a.wts.take i).map (·.2)) ≤ 2 ^ 64000 := fun i => by
    refine Nat.le_trans (lcmF_le (m := 3200) _ 1 fun q hq => ?_) ?_
    · obtain ⟨p, hp, rfl⟩ := List.mem_map.mp hq
      exact (hw p (List.mem_of_mem_take hp)).2.den
    · rw [Nat.one_mul, List.length_map, List.length_take]
      exact Nat.pow_le_pow_right (by decide) (by have := Nat.min_le_right i a.wts.length; omega)
  walk_at "hl"
  refine ws_lockK pa.ws fun od us => ?_
  refine ws_for (wi_vals (we_fldV rfl (obl _) (pf_w _ _ _ _) ⟨wi, od, us, wtsD a, rfl, get_set lw, ?_⟩))
  refine ⟨fun i Γ Ω1 => ∃ c2, Γ = [some (.o k), some (.d (.int (lcmW ((a.wts.take i).map (·.2)) : Nat))), c2, none, none, none] ∧ Ω1 = Ω.set wi (.lkk od us (wtsD a)), ⟨_, rfl, rfl⟩, ?_, ?_, ?_⟩
  · rintro i Γ Ω1 - ⟨c2, rfl, rfl⟩
    exact ⟨get_set lw, Nat.le_refl _⟩
  · rintro i y Γ Ω1 hy ⟨c2, rfl, rfl⟩
    rw [List.getElem?_map] at hy
    have hy : Option.map (·.2) (wtsD a)[i]? = some y := hy
    unfold wtsD at hy
    rw [List.getElem?_map] at hy
    cases ep : a.wts[i]? with
    | none => rw [ep] at hy; cases hy
    | some p =>
      rw [ep] at hy
      obtain rfl : DV.d (dR p.2) = y := Option.some.inj hy
      have mp := List.mem_of_getElem? ep
      obtain ⟨w0, zw⟩ := hw p mp
      have en : lcmW ((a.wts.take (i + 1)).map (·.2)) = Nat.lcm (lcmW ((a.wts.take i).map (·.2))) p.2.den := by
        rw [List.take_succ, ep, List.map_append]
        exact lcmW_snoc _ _
      have fb := pre_le i
      generalize lcmW ((a.wts.take i).map (·.2)) = f at en fb
      have dp := p.2.den_pos
      have g0 : 0 < Int.gcd (p.2.den : Int) (f : Int) := Nat.gcd_pos_of_pos_left _ dp
      have gle : Int.gcd (p.2.den : Int) (f : Int) ≤ p.2.den := Nat.le_of_dvd dp (Nat.gcd_dvd_left _ _)
      walk_at "hl"
      refine ⟨_, _, rfl, ?_⟩
      refine wr_fdivP (by omega) (Nat.lt_of_lt_of_le (log2_lt (n := 3200) (by rw [Int.natAbs_natCast]; exact Nat.lt_of_le_of_lt gle zw.den) (by decide)) (by decide)) ?_
      have cm : CMulW (f : Int) ((p.2.den : Int) / ((Int.gcd (p.2.den : Int) (f : Int) : Nat) : Int)) := cmul (n := 64001) (m := 3200) (by rw [Int.natAbs_natCast]; exact Nat.lt_of_le_of_lt fb (Nat.pow_lt_pow_right (by decide) (by decide))) (by rw [← Int.natCast_ediv, Int.natAbs_natCast]; exact Nat.lt_of_le_of_lt (Nat.div_le_self _ _) zw.den) (by decide)
      walk_at "hl"
      exact ⟨some (.d (dR p.2)), by rw [lcm_gcd dp, en]; rfl, rfl⟩
  · rintro Γ Ω1 ⟨c2, rfl, rfl⟩
    refine ⟨wtsD a, get_set lw, ?_⟩
    rw [List.set_set, set_self pa.ws, List.take_of_length_le (by unfold wtsD; rw [List.length_map, List.length_map]; exact Nat.le_refl _)]
    have fb := pre_le a.wts.length
    rw [List.take_of_length_le (Nat.le_refl _)] at fb
    unfold wholeF at q
    have g0 := (whole_ok hne fun p hp => (hw p hp).1).1
    generalize lcmW (a.wts.map (·.2)) = B at fb q hby g0
    have vm : ∀ w : Rat, Sz 3200 w → CMulW w.num ((B : Int) / (w.den : Int)) := fun w zw => cmul (n := 3200) (m := 64001) zw.num (by rw [← Int.natCast_ediv, Int.natAbs_natCast]; exact Nat.lt_of_le_of_lt (Nat.div_le_self _ _) (Nat.lt_of_le_of_lt fb (Nat.pow_lt_pow_right (by decide) (by decide)))) (by decide)
    have dlog : ∀ w : Rat, Sz 3200 w → (w.den : Int).natAbs.log2 < 9000 := fun w zw => Nat.lt_of_lt_of_le (log2_lt (n := 3200) (by rw [Int.natAbs_natCast]; exact zw.den) (by decide)) (by decide)
    walk_at "hl"
    dsimp only [List.set]
    refine ws_lockK pa.ws fun od us => ?_
    refine ws_for (wi_vals (we_fldV rfl (obl _) (pf_w _ _ _ _) ⟨wi, od, us, wtsD a, rfl, get_set lw, ?_⟩))
    refine ⟨fun i Γ Ω1 => ∃ c2, Γ = [some (.o k), some (.d (.int B)), c2, some (.d (.int (byP B ((a.wts.take i).map (·.2)) : Nat))), none, none] ∧ Ω1 = Ω.set wi (.lkk od us (wtsD a)), ⟨_, rfl, rfl⟩, ?_, ?_, ?_⟩
    · rintro i Γ Ω1 - ⟨c2, rfl, rfl⟩
      exact ⟨get_set lw, Nat.le_refl _⟩
    · rintro i y Γ Ω1 hy ⟨c2, rfl, rfl⟩
      rw [List.getElem?_map] at hy
      have hy : Option.map (·.2) (wtsD a)[i]? = some y := hy
      unfold wtsD at hy
      rw [List.getElem?_map] at hy
      cases ep : a.wts[i]? with
      | none => rw [ep] at hy; cases hy
      | some p =>
        rw [ep] at hy
        obtain rfl : DV.d (dR p.2) = y := Option.some.inj hy
        have mp := List.mem_of_getElem? ep
        obtain ⟨w0, zw⟩ := hw p mp
        have en : byP B ((a.wts.take (i + 1)).map (·.2)) = Int.gcd (byP B ((a.wts.take i).map (·.2))) (vI B p.2) := by
          rw [List.take_succ, ep, List.map_append]
          unfold byP
          rw [List.foldl_append]; rfl
        have cm := vm _ zw
        walk_at "hl"
        refine wr_fdivP (den_pos _) (dlog _ zw) ?_
        walk_at "hl"
        refine ⟨_, _, rfl, ?_⟩
        walk_at "hl"
        exact ⟨some (.d (dR p.2)), by rw [en]; rfl, rfl⟩
    · rintro Γ Ω1 ⟨c2, rfl, rfl⟩
      refine ⟨wtsD a, get_set lw, ?_⟩
      rw [List.set_set, set_self pa.ws, List.take_of_length_le (by unfold wtsD; rw [List.length_map, List.length_map]; exact Nat.le_refl _)]
      generalize byP B (a.wts.map (·.2)) = g at q hby g0
      walk_at "hl"
      refine we_dnewK ?_
      walk_at "hl"
      dsimp only [List.set]
      have eW : wtsD a = (a.wts.map fun p => (p.1, dR p.2)).map fun p => (Sum.inl p.1, DV.d p.2) := by unfold wtsD; rw [List.map_map]; rfl
      refine ws_lockK (get_app pa.ws) fun od us => ?_
      rw [List.set_append_left _ _ lw, eW]
      refine ws_for (wi_items (we_fldV rfl (get_app (obl _)) (pf_w _ _ _ _) ⟨wi, od, us, _, rfl, get_app (get_set lw), ?_⟩))
      refine ⟨fun i Γ Ω1 => ∃ c2 c5, Γ = [some (.o k), some (.d (.int B)), c2, some (.d (.int g)), some (.o Ω.length), c5] ∧ Ω1 = Ω.set wi (.lkk od us ((a.wts.map fun p => (p.1, dR p.2)).map fun p => (Sum.inl p.1, DV.d p.2))) ++ [.dic (((a.wts.map fun p => (p.1, vI B p.2 / (g : Int))).take i).map fun p => (Sum.inl p.1, .d (.int p.2)))], ⟨_, _, rfl, rfl⟩, ?_, ?_, ?_⟩
      · rintro i Γ Ω1 - ⟨c2, c5, rfl, rfl⟩
        exact ⟨get_app (get_set lw), by simp⟩
      · rintro i y Γ Ω1 hy ⟨c2, c5, rfl, rfl⟩
        obtain ⟨p, rfl, gp, mp, ip, tp⟩ := lmap_get hy
        obtain ⟨p0, hp0, rfl⟩ := List.mem_map.mp mp
        rw [List.getElem?_map] at gp
        obtain ⟨p1, ep1, e01⟩ := Option.map_eq_some_iff.mp gp
        have hi : i < a.wts.length := lt_of_get ep1
        obtain ⟨w0, zw⟩ := hw p1 (List.mem_of_getElem? ep1)
        have cm := vm _ zw
        rw [← e01]
        refine wg_tup2 (a := .int p1.1) (b := dR p1.2) ?_
        walk_at "hl"
        refine wr_fdivP (den_pos _) (dlog _ zw) ?_
        walk_at "hl"
        refine wr_fdivP (by omega) (Nat.lt_of_lt_of_le (log2_lt (n := 8990) (by rw [Int.natAbs_natCast]; exact hby) (by decide)) (by decide)) ?_
        walk_at "hl"
        have hnl : ((a.wts.map fun p => (p.1, vI B p.2 / (g : Int))).take i).lookup p1.1 = none := look_none.mpr fun hm => by
          rw [List.map_take, List.map_map] at hm
          have hm : p1.1 ∈ a.keys.take i := hm
          have h2 : a.keys[i]? = some p1.1 := by unfold Pa.keys; rw [List.getElem?_map, ep1]; rfl
          obtain ⟨j, hj⟩ := List.mem_iff_getElem?.mp hm
          have hji := lt_of_get hj
          rw [List.length_take] at hji
          rw [List.getElem?_take, if_pos (by omega)] at hj
          have := (List.getElem?_inj (by omega) nd).mp (hj.trans h2.symm)
          omega
        have et : (a.wts.map fun p => (p.1, vI B p.2 / (g : Int))).take (i + 1) = (a.wts.map fun p => (p.1, vI B p.2 / (g : Int))).take i ++ [(p1.1, vI B p1.2 / (g : Int))] := by
          rw [List.take_succ, List.getElem?_map, ep1]; rfl
        have gl := get_last (Ω.set wi (.lkk od us ((a.wts.map fun p => (p.1, dR p.2)).map fun p => (Sum.inl p.1, DV.d p.2)))) (.dic (((a.wts.map fun p => (p.1, vI B p.2 / (g : Int))).take i).map fun p => (Sum.inl p.1, .d (.int p.2))))
        have sl := fun z => set_last (Ω.set wi (.lkk od us ((a.wts.map fun p => (p.1, dR p.2)).map fun p => (Sum.inl p.1, DV.d p.2)))) (.dic (((a.wts.map fun p => (p.1, vI B p.2 / (g : Int))).take i).map fun p => (Sum.inl p.1, .d (.int p.2)))) z
        rw [List.length_set] at gl sl
        refine wg_subD (W := fun _ _ _ _ => True) (we_var rfl (we_var rfl ⟨Ω.length, _, Sum.inl p1.1, rfl, rfl, gl, by rw [List.length_map, List.length_take]; omega, ?_⟩))
        rw [sl]
        have pk := putKD_int (g := fun y : Int => DV.d (.int y)) (b := p1.1) (y := vI B p1.2 / (g : Int)) (l := (a.wts.map fun p => (p.1, vI B p.2 / (g : Int))).take i)
        rw [putA_new hnl] at pk
        exact ⟨some (.d (dR p1.2)), some (.d (.int p1.1)), rfl, by rw [et]; exact congrArg (fun z => _ ++ [OC.dic z]) pk⟩
      · rintro Γ Ω1 ⟨c2, c5, rfl, rfl⟩
        refine ⟨_, get_app (get_set lw), ?_⟩
        rw [set_app lw, ← eW, set_self pa.ws, List.take_of_length_le (by rw [List.length_map, List.length_map, List.length_map]; exact Nat.le_refl _)]
        refine ws_ret (we_var rfl ?_)
        exact dr_same q
theorem sp_len_Part_whole {K : KF} (ds : List DV) (Ω : Om) (R : DV → Om → Prop) (X : Exc → Om → Prop) (h : sp_Part_whole K ds Ω R X) : ds.length = 1 := by
  unfold sp_Part_whole at h
  first
    | (obtain ⟨rfl, _⟩ := h; rfl)
    | (obtain ⟨_, rfl, _⟩ := h; rfl)
    | (obtain ⟨_, _, rfl, _⟩ := h; rfl)
    | (obtain ⟨_, _, _, rfl, _⟩ := h; rfl)
    | (obtain ⟨_, _, _, _, rfl, _⟩ := h; rfl)
    | (obtain ⟨_, _, _, _, _, rfl, _⟩ := h; rfl)
    | (obtain ⟨_, _, _, _, _, _, rfl, _⟩ := h; rfl)
    | (obtain ⟨_, _, _, _, _, _, _, rfl, _⟩ := h; rfl)
    | (obtain ⟨_, _, _, _, _, _, _, _, rfl, _⟩ := h; rfl)
    | (obtain ⟨_, _, _, _, _, _, _, _, _, rfl, _⟩ := h; rfl)
    | (obtain ⟨_, _, _, _, _, _, _, _, _, _, rfl, _⟩ := h; rfl)
    | (obtain ⟨_, _, _, _, _, _, _, _, _, _, _, rfl, _⟩ := h; rfl)
    | (obtain ⟨_, _, _, _, _, _, _, _, _, _, _, _, rfl, _⟩ := h; rfl)
    | (obtain ⟨_, _, _, _, _, _, _, _, _, _, _, _, _, rfl, _⟩ := h; rfl)
    | (obtain ⟨_, _, _, _, _, _, _, _, _, _, _, _, _, rfl, _⟩ := h; rfl)
    | (obtain ⟨_, _, _, _, _, _, _, _, _, _, _, _, _, _, rfl, _⟩ := h; rfl)
    | (obtain ⟨_, _, _, _, _, _, _, _, _, _, _, _, _, _, _, rfl, _⟩ := h; rfl)
    | (obtain ⟨_, _, _, _, _, _, _, _, _, _, _, _, _, _, _, _, rfl, _⟩ := h; rfl)
    | (obtain ⟨_, _, _, _, _, _, _, _, _, _, _, _, _, _, _, _, _, rfl, _⟩ := h; rfl)
    | (obtain ⟨_, _, _, _, _, _, _, _, _, _, _, _, _, _, _, _, _, _, rfl, _⟩ := h; rfl)
    | (obtain ⟨_, _, _, _, _, _, _, _, _, _, _, _, _, _, _, _, _, _, _, rfl, _⟩ := h; rfl)
    | (obtain ⟨_, _, _, _, _, _, _, _, _, _, _, _, _, _, _, _, _, _, _, _, rfl, _⟩ := h; rfl)
    | (obtain ⟨_, _, _, _, _, _, _, _, _, _, _, _, _, _, _, _, _, _, _, _, _, rfl, _⟩ := h; rfl)
--USE HMb
def sp_weights_of (K : KF) : Spec := fun ds Ω R X => ∃ (n : Nat) (s : DV) (xs : List Sg), ds = [.d (.int n), s] ∧ n ≤ 8 ∧ SeqS dSg Ω s xs ∧ (∀ x ∈ xs, SgE n x) ∧ xs.length ≤ 1000 ∧
  (∀ k, oddF xs 0 = some k → R (.d (.tuple [.str "odd", .int (k : Nat)])) Ω) ∧
  (AllS xs → ∀ f, wF n xs n = .inr f → R (.d (.tuple [.str "weights", .tuple ((toldL n f).map PyData.int)])) Ω) ∧
  (AllS xs → ∀ r, wF n xs n = .inl r → ∀ (J : Om) (i : Nat), Ω.length ≤ i → (Ω ++ J)[i]? = some (.lst ((r.map dPr).map DV.d)) → R (.t [.d (.str "ring"), .o i]) (Ω ++ J))
def t_weights_of (K : KF) (W : WX) : TS :=
  (tSeq (tFor (iEnumB K (tCons (tVar 1) tNil)) (gTup K 2 (gCons (gName 2) (gCons (gName 3) gNil))) (tIfS (tTest (tOp oIsN (tCall (FS K (sp_share_of K)) [] E0 (tCons (tVar 3) tNil)) (tC .non))) (tRet (tTup (tCons (tC (.str "odd")) (tCons (tVar 2) tNil)))) tNext))
    (tSeq (tAsg tDNewK (gName 4))
    (tSeq (tFor (iRng1 (tCons (tVar 0) tNil)) (gName 5) (tIfS (tTest (tOp (rInD true) (tVar 5) (tVar 4))) (tSeq (tAsg (tMake (He.ga K "Part") (FS K (sp_Part_init K)) [] E0 (tCons (tVar 1) (tCons (tVar 5) tNil))) (gName 6))
    (tSeq (tIfS (tTest (tOp oNotN (tFldC (He.ga K "Part") (tVar 6) "ring") (tC .non))) (tRet (tTupO (tCons (tC (.str "ring")) (tCons (tFldC (He.ga K "Part") (tVar 6) "ring") tNil)))) tNext)
    (tDrop (tBM K "dict" rUpd (tVar 4) (tCons (tMethE (He.ga K "Part") "whole" (FS K (sp_Part_whole K)) (fun _ => E0) (tVar 6) tNil) tNil))))) tNext))
    (tRet (tTup (tCons (tC (.str "weights")) (tCons (tCB (rTupQ K) (tCons (tLc (iRng1 (tCons (tVar 0) tNil)) (gName 5) tYes (tDGet (tVar 4) (tVar 5)) [5]) tNil)) tNil)))))))
theorem by_lt {n : Nat} {xs : List Sg} {root : Int} {a : Pa} (pi : PI n 121 xs root a) (hn : n ≤ 8) : a.wts ≠ [] ∧ (∀ p ∈ a.wts, 0 < p.2 ∧ Sz 848 p.2) ∧ byP (lcmW (a.wts.map (·.2))) (a.wts.map (·.2)) < 2 ^ 8990 := by
  have hl := pi.len.1
  have hw : ∀ p ∈ a.wts, 0 < p.2 ∧ Sz 848 p.2 := fun p hp => by
    obtain ⟨k, hk⟩ := List.mem_iff_getElem?.mp hp
    have hkl := lt_of_get hk
    obtain ⟨w0, zw, _⟩ := pi.ent k p.1 p.2 hk
    exact ⟨w0, zw.mono (by omega)⟩
  have hm : (root, (1 : Rat)) ∈ a.wts := by obtain ⟨k, hk⟩ := look_get pi.rt; exact List.mem_of_getElem? hk
  have hne : a.wts ≠ [] := fun e => by rw [e] at hm; cases hm
  refine ⟨hne, hw, ?_⟩
  have hb : lcmW (a.wts.map (·.2)) ≤ 2 ^ (848 * 8) := by
    refine Nat.le_trans (lcmF_le (m := 848) _ 1 fun q hq => ?_) ?_
    · obtain ⟨p, hp, rfl⟩ := List.mem_map.mp hq
      exact (hw p hp).2.den
    · rw [Nat.one_mul, List.length_map]
      exact Nat.pow_le_pow_right (by decide) (by omega)
  have hB0 : 0 < lcmW (a.wts.map (·.2)) := by
    have : ∀ (l : List Rat) (f : Nat), 0 < f → 0 < l.foldl (fun f q => Nat.lcm f q.den) f := fun l => by
      induction l with
      | nil => exact fun f h => h
      | cons q l ih => exact fun f h => ih _ (Nat.lcm_pos h q.den_pos)
    exact this _ 1 (by decide)
  have hd := (gcdV_dvd (B := lcmW (a.wts.map (·.2))) (a.wts.map (·.2)) 0).2.1 1 (List.mem_map.mpr ⟨_, hm, rfl⟩)
  have ev : vI (lcmW (a.wts.map (·.2))) 1 = (lcmW (a.wts.map (·.2)) : Nat) := by
    unfold vI
    show (1 : Int) * (_ / ((1 : Nat) : Int)) = _
    rw [Int.one_mul, Int.natCast_one, Int.ediv_one]
  rw [ev] at hd
  have hle := Nat.le_of_dvd hB0 (Int.natCast_dvd_natCast.mp hd)
  exact Nat.lt_of_le_of_lt (Nat.le_trans hle hb) (Nat.pow_lt_pow_right (by decide) (by decide))
theorem w_weights_of {K : KF} (W : WX) (ds : List DV) (Ω : Om) (R : DV → Om → Prop) (X : Exc → Om → Prop) (h : sp_weights_of K ds Ω R X) : WS K W (t_weights_of K W) (startG 7 ds) Ω (fnO Ω R X) := by
  obtain ⟨n, s, xs, rfl, hn, hs, he, hl, q1, q2, q3⟩ := h
  show WS K W (t_weights_of K W) [some (.d (.int n)), some s, none, none, none, none, none] Ω _
  unfold t_weights_of
  obtain ⟨t, ht⟩ := seqS_lsB hs
  walk_at "hl"
  refine ws_for (wi_enumB t ?_)
  walk_at "hl"
  refine ⟨_, xs.map dSg, rfl, ht _ hs, ?_⟩
  refine ⟨fun i Γ Ω1 => ∃ c2 c3, Γ = [some (.d (.int n)), some s, c2, c3, none, none, none] ∧ Ω1 = Ω ∧ ∀ j y, j < i → xs[j]? = some y → ∃ q, y.share = some q, ⟨_, _, rfl, rfl, fun j y h => by omega⟩, ?_, ?_, ?_⟩
  · rintro i Γ Ω1 - ⟨c2, c3, rfl, rfl, -⟩
    exact ⟨ht _ hs, Nat.le_refl _⟩
  · rintro i y Γ Ω1 hy ⟨c2, c3, rfl, rfl, hj⟩
    obtain ⟨hi, rfl⟩ := rng_get hy
    rw [List.length_map] at hi
    obtain ⟨x, hx⟩ : ∃ x, xs[i]? = some x := ⟨_, List.getElem?_eq_getElem hi⟩
    have mx := List.mem_of_getElem? hx
    have ox := (he x mx).ok
    have ex : (xs.map dSg).getD i .none = dSg x := by rw [List.getD_eq_getElem?_getD, List.getElem?_map, hx]; rfl
    rw [ex]
    refine wg_tup2 (a := .int i) (b := dSg x) ?_
    walk_at "hl"
    refine ⟨x, 60, rfl, ox, by decide, by decide, ?_⟩
    cases hsx : x.share with
    | none =>
      walk_at "hl"
      refine bT rfl ?_
      walk_at "hl"
      have := oddF_some (k := 0) hj hx hsx
      rw [Nat.zero_add] at this
      exact dr_same (q1 i this)
    | some qq =>
      walk_at "hl"
      refine bF rfl ?_
      walk_at "hl"
      refine ⟨_, _, rfl, rfl, fun j y hji hjy => ?_⟩
      by_cases e : j = i
      · subst e
        rw [hx] at hjy
        cases hjy
        exact ⟨qq, hsx⟩
      · exact hj j y (by omega) hjy
  rintro Γ Ω1 ⟨c2, c3, rfl, rfl, hj⟩
  have ha : AllS xs := fun x hx => by
    obtain ⟨j, hjx⟩ := List.mem_iff_getElem?.mp hx
    refine hj j x ?_ hjx
    unfold enumD
    rw [List.length_map, List.length_range, List.length_map]
    exact lt_of_get hjx
  have ok := xsOk_of ha he
  have q2 := q2 ha
  have q3 := q3 ha
  walk_at "hl"
  refine we_dnewK ?_
  walk_at "hl"
  dsimp only [List.set]
  refine ws_for (wi_rng1 ?_)
  walk_at "hl"
  refine ⟨n, rfl, by omega, by omega, ?_⟩
  refine ⟨fun i Γ Ω1' => ∃ (c5 c6 : Option DV) (f : List (Int × Int)), Γ = [some (.d (.int n)), some s, c2, c3, some (.o Ω1.length), c5, c6] ∧ wF n xs i = .inr f ∧ f.length ≤ 20 * i ∧ Ω1'[Ω1.length]? = some (.dic (f.map fun p => (Sum.inl p.1, DV.d (.int p.2)))) ∧
    (∀ j, j < Ω1.length → Ω1'[j]? = Ω1[j]?) ∧ Ω1.length + 1 ≤ Ω1'.length, ⟨_, _, [], rfl, rfl, by simp, get_last _ _, fun j hj => List.getElem?_append_left hj, by simp⟩, ?_, ?_, ?_⟩
  · rintro i Γ Ω1' - ⟨c5, c6, f, rfl, -, -, -, -, h5⟩
    exact ⟨trivial, by simpa using h5⟩
  · rintro i y Γ Ω2 hy ⟨c5, c6, f, rfl, ew, hfl, g2, f2, l2⟩
    obtain ⟨hi, rfl⟩ := rng_get hy
    walk_at "hl"
    rw [Int.zero_add]
    refine wr_inD rfl g2 ?_
    rw [lookK_int (g := fun y : Int => DV.d (.int y)), Option.isSome_map]
    cases c : (f.lookup (i : Int)).isSome with
    | true =>
      refine ⟨_, rfl, fun h => (by cases h), fun _ => ?_⟩
      walk_at "hl"
      exact ⟨_, _, f, rfl, by unfold wF; rw [ew]; simp only; rw [if_pos c], by omega, g2, f2, l2⟩
    | false =>
      refine ⟨_, rfl, fun _ => ?_, fun h => (by cases h)⟩
      have pf := partF_ok ok (root := (i : Int)) (by omega) (by omega)
      walk_at "hl"
      refine we_make ?_
      walk_at "hl"
      have hs2 : SeqS dSg (Ω2 ++ [.ins (He.ga K "Part") []]) s xs := (hs.frame fun j ds e => by rw [f2 j (lt_of_get e)]; exact e).app
      refine ⟨Ω2.length, s, (i : Int), xs, n, 121, n, rfl, get_last _ _, hs2, he, hl, ok, by omega, by omega, by omega, by omega, fun Ω' wi ci rd pa hwi hci f3 l3 => ⟨rfl, ?_⟩⟩
      rw [List.length_append, List.length_singleton] at f3 l3 hwi hci
      have f4 : ∀ j, j < Ω2.length → Ω'[j]? = Ω2[j]? := fun j hj => by
        rw [f3 j (by omega) (by omega), List.getElem?_append_left hj]
      have f5 : ∀ j, j < Ω1.length → Ω'[j]? = Ω1[j]? := fun j hj => by rw [f4 j (by omega)]; exact f2 j hj
      have g5 : Ω'[Ω1.length]? = some (.dic (f.map fun p => (Sum.inl p.1, DV.d (.int p.2)))) := by rw [f4 _ (by omega)]; exact g2
      walk_at "hl"
      refine we_fldV rfl pa.ob (pf_r _ _ _ _) ?_
      have rg := pa.rg
      cases er : (partF n xs i).ring with
      | some r =>
        have ew1 := wF_ring ew c er
        rw [er] at rg
        obtain ⟨ri, e0, rfl, e2⟩ := rg
        walk_at "hl"
        refine bT rfl ?_
        walk_at "hl"
        dsimp only [List.set]
        refine we_tupO ?_
        walk_at "hl"
        refine we_fldV rfl pa.ob (pf_r _ _ _ _) ?_
        refine wa_nil ?_
        refine ⟨[.d (.str "ring"), .o ri], rfl, (by show 2 ≤ 100000; decide), ?_⟩
        rw [List.length_append] at e0
        have hpre : ∃ J, Ω' = Ω1 ++ J := by
          refine ⟨Ω'.drop Ω1.length, ?_⟩
          have ht : Ω'.take Ω1.length = Ω1 := List.ext_getElem? fun j => by
            rw [List.getElem?_take]
            split
            · rename_i hj; exact f5 j hj
            · rename_i hj; rw [List.getElem?_eq_none (by omega)]
          conv => lhs; rw [← List.take_append_drop Ω1.length Ω', ht]
        obtain ⟨J, rfl⟩ := hpre
        have hfin := wF_stop ew1 (n - (i + 1))
        rw [show n - (i + 1) + (i + 1) = n by omega] at hfin
        exact dr_same (q3 r hfin J ri (by omega) e2)
      | none =>
        have ew1 := wF_put ew c er
        rw [er] at rg
        obtain rfl : rd = .d .none := rg
        walk_at "hl"
        refine bF rfl ?_
        walk_at "hl"
        dsimp only [List.set]
        obtain ⟨b1, b2, b3⟩ := by_lt pf.pi hn
        have pl := pf.pi.len.1
        refine we_bmD (we_var rfl ⟨⟨Ω1.length, _, rfl, g5⟩, ?_⟩)
        walk_at "hl"
        refine we_methL (we_var rfl ⟨Ω2.length, _, rfl, pa.ob, pf_whole _ _ _ _, ?_⟩)
        walk_at "hl"
        refine ⟨_, Ω2.length, wi, ci, s, .d .none, _, rfl, pa, pf.pi.nd, b1, fun p hp => ⟨(b2 p hp).1, (b2 p hp).2.mono (by decide)⟩, by omega, b3, ?_⟩
        walk_at "hl"
        have wl : (wholeF (partF n xs i)).length ≤ 8 := by unfold wholeF; rw [List.length_map]; omega
        refine wm_upd (get_app g5) (get_last _ _) (by omega) (by rw [List.length_map, List.length_map]; omega) ?_
        rw [mergeD_int (g := fun y : Int => DV.d (.int y))]
        refine ⟨_, _, _, rfl, ew1, ?_, get_set (by rw [List.length_append]; omega), ?_, ?_⟩
        · have := mergeA_len (wholeF (partF n xs i)) f
          omega
        · intro j hj
          rw [List.getElem?_set_ne (by omega), List.getElem?_append_left (by omega)]
          exact f5 j hj
        · rw [List.length_set, List.length_append]; omega
  · rintro Γ Ω2 ⟨c5, c6, f, rfl, ew, hfl, g2, f2, l2⟩
    walk_at "hl"
    rw [List.length_map, List.length_range] at ew
    obtain ⟨h1, -, -⟩ := (wF_ok ok (Nat.le_refl n)).1 f ew
    refine we_lcP (α := Nat) only1 (wi_rng1 ?_)
    walk_at "hl"
    refine ⟨n, rfl, by omega, by omega, List.range n, _, fun _ => true, fun b => .int ((f.lookup (b : Int)).getD 0), rfl, by simp; omega, rfl, fun _ => trivial, ?_, ?_⟩
    · rintro b Ω' hb ⟨ds, rfl⟩
      have hb := List.mem_range.mp hb
      obtain ⟨w, ewb⟩ := h1 b hb
      walk_at "hl"
      refine ⟨rfl, rfl, fun _ => ?_⟩
      walk_at "hl"
      refine we_dget (we_var rfl (we_var rfl ⟨Ω1.length, _, Sum.inl (b : Int), .d (.int w), rfl, get_app g2, (by rw [Int.zero_add]; rfl), (by rw [lookK_int (g := fun y : Int => DV.d (.int y)), ewb]; rfl), ?_⟩))
      exact ⟨by show DV.d (.int w) = .d (.int ((f.lookup (b : Int)).getD 0)); rw [ewb]; rfl, rfl⟩
    rw [filter_yes]
    walk_at "hl"
    refine wc_tup' rfl ?_
    walk_at "hl"
    have hpre : ∃ J, Ω2 = Ω1 ++ J := by
      refine ⟨Ω2.drop Ω1.length, ?_⟩
      have ht : Ω2.take Ω1.length = Ω1 := List.ext_getElem? fun j => by
        rw [List.getElem?_take]
        split
        · rename_i hj; exact f2 j hj
        · rename_i hj; rw [List.getElem?_eq_none (by omega)]
      conv => lhs; rw [← List.take_append_drop Ω1.length Ω2, ht]
    obtain ⟨J, rfl⟩ := hpre
    have := q2 f ew
    unfold toldL at this
    rw [List.map_map] at this
    exact dr_app this (fun i z => by cases z)
theorem sp_len_weights_of {K : KF} (ds : List DV) (Ω : Om) (R : DV → Om → Prop) (X : Exc → Om → Prop) (h : sp_weights_of K ds Ω R X) : ds.length = 2 := by
  unfold sp_weights_of at h
  first
    | (obtain ⟨rfl, _⟩ := h; rfl)
    | (obtain ⟨_, rfl, _⟩ := h; rfl)
    | (obtain ⟨_, _, rfl, _⟩ := h; rfl)
    | (obtain ⟨_, _, _, rfl, _⟩ := h; rfl)
    | (obtain ⟨_, _, _, _, rfl, _⟩ := h; rfl)
    | (obtain ⟨_, _, _, _, _, rfl, _⟩ := h; rfl)
    | (obtain ⟨_, _, _, _, _, _, rfl, _⟩ := h; rfl)
    | (obtain ⟨_, _, _, _, _, _, _, rfl, _⟩ := h; rfl)
    | (obtain ⟨_, _, _, _, _, _, _, _, rfl, _⟩ := h; rfl)
    | (obtain ⟨_, _, _, _, _, _, _, _, _, rfl, _⟩ := h; rfl)
    | (obtain ⟨_, _, _, _, _, _, _, _, _, _, rfl, _⟩ := h; rfl)
    | (obtain ⟨_, _, _, _, _, _, _, _, _, _, _, rfl, _⟩ := h; rfl)
    | (obtain ⟨_, _, _, _, _, _, _, _, _, _, _, _, rfl, _⟩ := h; rfl)
    | (obtain ⟨_, _, _, _, _, _, _, _, _, _, _, _, _, rfl, _⟩ := h; rfl)
    | (obtain ⟨_, _, _, _, _, _, _, _, _, _, _, _, _, rfl, _⟩ := h; rfl)
    | (obtain ⟨_, _, _, _, _, _, _, _, _, _, _, _, _, _, rfl, _⟩ := h; rfl)
    | (obtain ⟨_, _, _, _, _, _, _, _, _, _, _, _, _, _, _, rfl, _⟩ := h; rfl)
    | (obtain ⟨_, _, _, _, _, _, _, _, _, _, _, _, _, _, _, _, rfl, _⟩ := h; rfl)
    | (obtain ⟨_, _, _, _, _, _, _, _, _, _, _, _, _, _, _, _, _, rfl, _⟩ := h; rfl)
    | (obtain ⟨_, _, _, _, _, _, _, _, _, _, _, _, _, _, _, _, _, _, rfl, _⟩ := h; rfl)
    | (obtain ⟨_, _, _, _, _, _, _, _, _, _, _, _, _, _, _, _, _, _, _, rfl, _⟩ := h; rfl)
    | (obtain ⟨_, _, _, _, _, _, _, _, _, _, _, _, _, _, _, _, _, _, _, _, rfl, _⟩ := h; rfl)
    | (obtain ⟨_, _, _, _, _, _, _, _, _, _, _, _, _, _, _, _, _, _, _, _, _, rfl, _⟩ := h; rfl)
--USE HMc
--USE HLt
/-- what weights_of tells -/
inductive FV (n : Nat) (M : List Sg) (lo : Nat) (Ω : Om) : DV → Str → Prop
  | odd (k : Nat) : oddF M 0 = some k → FV n M lo Ω (.d (.tuple [.str "odd", .int k])) "odd"
  | wts (f : List (Int × Int)) : AllS M → wF n M n = .inr f → FV n M lo Ω (.d (.tuple [.str "weights", .tuple ((toldL n f).map PyData.int)])) "weights"
  | ring (r : List (Int × Int)) (i : Nat) : AllS M → wF n M n = .inl r → lo ≤ i → Ω[i]? = some (.lst ((r.map dPr).map DV.d)) → FV n M lo Ω (.t [.d (.str "ring"), .o i]) "ring"
theorem fv_call {K : KF} {n : Nat} {M : List Sg} {s : DV} {Ω : Om} {R : DV → Om → Prop} {X : Exc → Om → Prop} (hn : n ≤ 8) (he : ∀ x ∈ M, SgE n x) (hl : M.length ≤ 1000) (hs : SeqS dSg Ω s M) (h : ∀ v t J, FV n M Ω.length (Ω ++ J) v t → R v (Ω ++ J)) : sp_weights_of K [.d (.int n), s] Ω R X := by
  refine ⟨n, s, M, rfl, hn, hs, he, hl, fun k e => ?_, fun ha f e => ?_, fun ha r e J i hi g => ?_⟩
  · have := h _ _ [] (.odd k e)
    rwa [List.append_nil] at this
  · have := h _ _ [] (.wts f ha e)
    rwa [List.append_nil] at this
  · exact h _ _ J (.ring r i ha e hi g)
theorem FV.fst {K : KF} {n lo : Nat} {M : List Sg} {Ω : Om} {v : DV} {t : Str} (h : FV n M lo Ω v t) {Ω' : Om} {R : DV → Om → Prop} (q : R (.d (.str t)) Ω') : WR K (rIx K) v (.d (.int 0)) Ω' R := by
  cases h with
  | odd k e => exact wr_ixT (xs := [.str "odd", .int k]) (y := .str "odd") (atI_nat (j := 0) rfl) q
  | wts f ha e => exact wr_ixT (xs := [.str "weights", .tuple ((toldL n f).map PyData.int)]) (y := .str "weights") (atI_nat (j := 0) rfl) q
  | ring r i ha e hi g => exact wr_ixTO (ps := [.d (.str "ring"), .o i]) (y := .d (.str "ring")) (atI_nat (j := 0) rfl) q
theorem eq_str {K : KF} {Ω : Om} {R : DV → Om → Prop} {a b : Str} (ha : SeqAt.shaped (.str a) = true) (hb : SeqAt.shaped (.str b) = true) {z : Bool} (e : PyData.eqv (.str a) (.str b) = z) (q : R (.d (.bool z)) Ω) : WR K (rEqD K) (.d (.str a)) (.d (.str b)) Ω R := wr_eq rfl rfl ha hb (by rw [e]; exact q)
theorem ne_str {K : KF} {Ω : Om} {R : DV → Om → Prop} {a b : Str} (ha : SeqAt.shaped (.str a) = true) (hb : SeqAt.shaped (.str b) = true) {z : Bool} (e : PyData.eqv (.str a) (.str b) = z) (q : R (.d (.bool (!z))) Ω) : WR K (rNeD K) (.d (.str a)) (.d (.str b)) Ω R := wr_ne rfl rfl ha hb (by rw [e]; exact q)
theorem sh_w : SeqAt.shaped (.str "weights") = true := by decide +kernel
theorem sh_r : SeqAt.shaped (.str "ring") = true := by decide +kernel
theorem wF_small {n : Nat} {xs : List Sg} (ok : XsOk n 121 xs) (hn : n ≤ 8) : ∀ {k : Nat} {f : List (Int × Int)}, k ≤ n → wF n xs k = .inr f → ∀ b w, f.lookup b = some w → w.natAbs < 2 ^ 7900
  | 0, f, _, e => by cases e; intro b w e; cases e
  | k + 1, f, hk, e => by
    unfold wF at e
    cases ew : wF n xs k with
    | inl r => rw [ew] at e; cases e
    | inr f0 =>
      have ih := wF_small ok hn (k := k) (by omega) ew
      rw [ew] at e
      simp only at e
      by_cases c : (f0.lookup (k : Int)).isSome = true
      · rw [if_pos c] at e; cases e; exact ih
      · rw [if_neg c] at e
        have pf := partF_ok ok (root := (k : Int)) (by omega) (by omega)
        cases er : (partF n xs k).ring with
        | some r => rw [er] at e; cases e
        | none =>
          rw [er] at e
          cases e
          obtain ⟨u, u0, nd, hnone, hsome, _⟩ := part_whole pf er
          obtain ⟨b1, b2, b3⟩ := by_lt pf.pi hn
          have pl := pf.pi.len.1
          intro b w e
          rw [look_merge nd] at e
          cases ev : (wholeF (partF n xs k)).lookup b with
          | none => rw [ev] at e; exact ih b w e
          | some v =>
            rw [ev] at e
            cases e
            have el : (wholeF (partF n xs k)).lookup b = ((partF n xs k).wts.lookup b).map fun w => vI (lcmW ((partF n xs k).wts.map (·.2))) w / (byP (lcmW ((partF n xs k).wts.map (·.2))) ((partF n xs k).wts.map (·.2)) : Nat) := by
              unfold wholeF
              exact wts_map_look (g := fun w => vI (lcmW ((partF n xs k).wts.map (·.2))) w / (byP (lcmW ((partF n xs k).wts.map (·.2))) ((partF n xs k).wts.map (·.2)) : Nat))
            cases e0 : (partF n xs k).wts.lookup b with
            | none => rw [e0] at el; rw [ev] at el; cases el
            | some w0 =>
              rw [e0, ev] at el
              have el := Option.some.inj el
              obtain ⟨kk, hkk⟩ := look_get e0
              obtain ⟨p0, zw⟩ := b2 _ (List.mem_of_getElem? hkk)
              have hb : lcmW ((partF n xs k).wts.map (·.2)) ≤ 2 ^ (848 * 8) := by
                refine Nat.le_trans (lcmF_le (m := 848) _ 1 fun q hq => ?_) ?_
                · obtain ⟨p, hp, rfl⟩ := List.mem_map.mp hq
                  exact (b2 p hp).2.den
                · rw [Nat.one_mul, List.length_map]
                  exact Nat.pow_le_pow_right (by decide) (by omega)
              rw [el]
              have h1 : (vI (lcmW ((partF n xs k).wts.map (·.2))) w0).natAbs < 2 ^ (848 + 6785) := by
                unfold vI
                rw [Int.natAbs_mul]
                refine mul_lt2 zw.num ?_
                rw [← Int.natCast_ediv, Int.natAbs_natCast]
                exact Nat.lt_of_le_of_lt (Nat.le_trans (Nat.div_le_self _ _) hb) (Nat.pow_lt_pow_right (by decide) (by decide))
              refine Nat.lt_of_le_of_lt ?_ (Nat.lt_of_lt_of_le h1 (Nat.pow_le_pow_right (by decide) (by decide)))
              have hv := part_whole pf er
              rw [Int.natAbs_ediv_of_nonneg (by
                unfold vI
                exact Int.mul_nonneg (Int.le_of_lt (rat_num_pos p0)) (Int.ediv_nonneg (by omega) (by omega)))]
              exact Nat.div_le_self _ _
theorem told_small {n : Nat} {xs : List Sg} (ha : AllS xs) (he : ∀ x ∈ xs, SgE n x) (hn : n ≤ 8) {f : List (Int × Int)} (e : wF n xs n = .inr f) : ∀ w ∈ toldL n f, w.natAbs < 2 ^ 8000 := fun w hw => by
  obtain ⟨b, hb, rfl⟩ := List.mem_map.mp hw
  have ok := xsOk_of ha he
  obtain ⟨w, ew⟩ := ((wF_ok ok (Nat.le_refl n)).1 f e).1 b (List.mem_range.mp hb)
  rw [ew]
  exact Nat.lt_trans (wF_small ok hn (Nat.le_refl n) e _ _ ew) (Nat.pow_lt_pow_right (by decide) (by decide))
theorem stepF_take {L : List Sg} {j : Nat} {p : Int × Int} {s : St3} (h : stepF (L.take j) p = some s) : stepF L p = some s := by
  obtain ⟨b, o, q⟩ := s
  obtain ⟨x, q0, h0, hx, hq, hc⟩ := stepF_get h
  rw [List.getElem?_take] at hx
  split at hx
  · obtain ⟨m1, m2⟩ := stepF_mk hx hq
    have ek : ((p.1.toNat : Nat) : Int) = p.1 := by omega
    rw [ek] at m1 m2
    obtain ⟨p1, p2⟩ := p
    rcases hc with ⟨e1, rfl, rfl, rfl⟩ | ⟨e1, rfl, rfl, rfl⟩
    · have e1 : p2 = 0 := e1
      subst e1; exact m1
    · have e1 : p2 = 1 := e1
      subst e1; exact m2
  · cases hx
theorem path_take {L : List Sg} {j : Nat} {a b : Int} {l : List (Int × Int)} {q : Rat} (h : Path (L.take j) a b l q) : Path L a b l q := by
  induction h with
  | nil a => exact .nil a
  | cons e _ ih => exact .cons (stepF_take e) ih
theorem cons_of_wF {n : Nat} {M : List Sg} (ha : AllS M) (he : ∀ x ∈ M, SgE n x) {f : List (Int × Int)} (e : wF n M n = .inr f) : ConsM M := by
  have ok := xsOk_of ha he
  obtain ⟨h1, ⟨h2, h3⟩, _⟩ := (wF_ok ok (Nat.le_refl n)).1 f e
  refine ⟨fun b => if 1 ≤ (f.lookup b).getD 0 then (((f.lookup b).getD 0 : Int) : Rat) else 1, fun b => ?_, fun p a b r hs => ?_⟩
  · show 0 < (if 1 ≤ (f.lookup b).getD 0 then (((f.lookup b).getD 0 : Int) : Rat) else 1)
    split
    · exact Rat.intCast_pos.mpr (by omega)
    · decide
  · have ra := (ok.2 _ _ _ _ (stepF_turn hs)).1
    obtain ⟨w, ew⟩ := h1 a.toNat (by omega)
    rw [show ((a.toNat : Nat) : Int) = a by omega] at ew
    obtain ⟨w', ew', hw⟩ := h3 _ _ _ _ hs w ew
    have s1 : (if 1 ≤ (f.lookup a).getD 0 then (((f.lookup a).getD 0 : Int) : Rat) else 1) = w := by rw [ew]; exact if_pos (h2 _ _ ew)
    have s2 : (if 1 ≤ (f.lookup b).getD 0 then (((f.lookup b).getD 0 : Int) : Rat) else 1) = w' := by rw [ew']; exact if_pos (h2 _ _ ew')
    simp only [s1, s2]
    exact hw
theorem no_cons {n : Nat} {M : List Sg} (ha : AllS M) (he : ∀ x ∈ M, SgE n x) {r : List (Int × Int)} (e : wF n M n = .inl r) : ¬ ConsM M := by
  rintro ⟨W, h0, hW⟩
  obtain ⟨root, q, hp, hq, _⟩ := (wF_ok (xsOk_of ha he) (Nat.le_refl n)).2 r e
  have d := Path.does (f := W) (fun p a b r h => hW p a b r h) hp
  have w0 := h0 root
  have wc := Rat.mul_inv_cancel _ (show W root ≠ 0 by grind)
  apply hq
  generalize W root = c at *
  calc q = (c * c⁻¹) * q := by rw [wc, Rat.one_mul]
    _ = (c * q) * c⁻¹ := by grind
    _ = 1 := by rw [← d, wc]
theorem sh_tr (r : List (Int × Int)) : SeqAt.shaped (.tuple [.str "ring", .list (r.map dPr)]) = true := shaped_of (shp_tup (shp_cons (⟨by decide +kernel, Nat.zero_le _⟩ : Shp 63 (.str "ring")) (shp_cons (shp_list (n := 62) (shp_map fun x => shp_dPr x)) shp_nil)))
def sp_law (K : KF) : Spec := fun ds Ω R X => ∃ ns : List Int, ds = [.d (.list (ns.map PyData.int))] ∧ ns.length ≤ 63 ∧ ∀ Ω', R (.d (.bool true)) Ω'
def t_law (K : KF) (W : WX) : TS :=
  (tSeq (tAsg (tOp (rAddX K) (tC (.int 2)) (tCall (FS K (sp_law_next K)) [] E0 (tCons (tCall (FS K (sp_law_dig K)) [] E0 (tCons (tCall (FS K (sp_law_cell K)) [] E0 (tCons (tVar 0) (tCons (tC (.int 0)) tNil))) tNil)) (tCons (tC (.int 7)) tNil)))) (gName 1))
    (tSeq (tAsg (tCall (FS K (sp_law_drawn K)) [] E0 (tCons (tVar 0) (tCons (tVar 1) tNil))) (gTup K 2 (gCons (gName 2) (gCons (gName 3) gNil))))
    (tSeq (tFor (iRng3 (tCons (tC (.int 0)) (tCons (tOp (rAddX K) (tCB (rLenQ K) (tCons (tVar 3) tNil)) (tC (.int 1))) (tCons (tOp (rAddX K) (tC (.int 1)) (tOp oFdiv (tCB (rLenQ K) (tCons (tVar 3) tNil)) (tC (.int 9)))) tNil)))) (gName 4) (tSeq (tAsg (tCall (FS K (sp_weights_of K)) [] E0 (tCons (tVar 1) (tCons (tSl (rSlS K) (tVar 3) tNoPart (tPart (tVar 4))) tNil))) (gName 5))
    (tSeq (tIfS (tTest (tOp (rNeD K) (tOp (rIx K) (tVar 5) (tC (.int 0))) (tOp (rIx K) (tLst (tCons (tC (.str "ring")) (tCons (tC (.str "weights")) tNil))) (tCB rIntX (tCons (tCall (FS K (sp_law_can K)) [] E0 (tCons (tVar 1) (tCons (tSl (rSlS K) (tVar 3) tNoPart (tPart (tVar 4))) tNil))) tNil))))) (tRet (tC (.bl false))) tNext)
    (tSeq (tIfS (tAnd (tTest (tOp (rEqD K) (tOp (rIx K) (tVar 5) (tC (.int 0))) (tC (.str "weights")))) (tNot (tB (tCall (FS K (sp_law_does K)) [] E0 (tCons (tOp (rIx K) (tVar 5) (tC (.int 1))) (tCons (tSl (rSlS K) (tVar 3) tNoPart (tPart (tVar 4))) tNil)))))) (tRet (tC (.bl false))) tNext)
    (tSeq (tIfS (tAnd (tTest (tOp (rEqD K) (tOp (rIx K) (tVar 5) (tC (.int 0))) (tC (.str "weights")))) (tNot (tB (tCall (FS K (sp_does_all K)) [] E0 (tCons (tOp (rIx K) (tVar 5) (tC (.int 1))) (tCons (tSl (rSlS K) (tVar 3) tNoPart (tPart (tVar 4))) tNil)))))) (tRet (tC (.bl false))) tNext)
    (tIfS (tTest (tOp (rEqD K) (tOp (rIx K) (tVar 5) (tC (.int 0))) (tC (.str "ring")))) (tSeq (tAsg (tCB (rListQ K) (tCons (tOp (rIx K) (tVar 5) (tC (.int 1))) tNil)) (gName 6))
    (tSeq (tIfS (tOr (tNot (tB (tCall (FS K (sp_law_is_ring K)) [] E0 (tCons (tSl (rSlS K) (tVar 3) tNoPart (tPart (tVar 4))) (tCons (tVar 6) tNil))))) (tNot (tB (tCall (FS K (sp_lets_ring K)) [] E0 (tCons (tVar 1) (tCons (tSl (rSlS K) (tVar 3) tNoPart (tPart (tVar 4))) (tCons (tCB (rTupQ K) (tCons (tVar 6) tNil)) tNil))))))) (tRet (tC (.bl false))) tNext)
    (tSeq (tIfS (tNot (tB (tCall (FS K (sp_lets_ring K)) [] E0 (tCons (tVar 1) (tCons (tVar 3) (tCons (tVar 6) tNil)))))) (tRet (tC (.bl false))) tNext)
    (tSeq (tDrop (tBM0 K "list" rClear (tOp (rIx K) (tVar 5) (tC (.int 1)))))
    (tIfS (tOr (tTest (tOp (rNeD K) (tCall (FS K (sp_weights_of K)) [] E0 (tCons (tVar 1) (tCons (tSl (rSlS K) (tVar 3) tNoPart (tPart (tVar 4))) tNil))) (tTup (tCons (tC (.str "ring")) (tCons (tVar 6) tNil))))) (tB (tCall (FS K (sp_does_all K)) [] E0 (tCons (tCB (rTupQ K) (tCons (tVar 2) tNil)) (tCons (tSl (rSlS K) (tVar 3) tNoPart (tPart (tVar 4))) tNil))))) (tRet (tC (.bl false))) tNext))))) tNext))))))
    (tRet (tC (.bl true))))))
theorem vw_ring {Ω : Om} {i : Nat} {r : List (Int × Int)} (g : Ω[i]? = some (.lst ((r.map dPr).map DV.d))) : vw Ω (.t [.d (.str "ring"), .o i]) = some (.tuple [.str "ring", .list (r.map dPr)]) := by
  have h : vwO Ω[i]? = some (.list (r.map dPr)) := by
    rw [g]
    show (asDs _).map PyData.list = _
    rw [asDs_data]; rfl
  show (ptsV Ω [.d (.str "ring"), .o i]).map PyData.tuple = _
  simp [ptsV, h]
theorem w_law {K : KF} (W : WX) (ds : List DV) (Ω : Om) (R : DV → Om → Prop) (X : Exc → Om → Prop) (h : sp_law K ds Ω R X) : WS K W (t_law K W) (startG 7 ds) Ω (fnO Ω R X) := by
  obtain ⟨ns, rfl, hl, q⟩ := h
  show WS K W (t_law K W) [some (.d (.list (ns.map PyData.int))), none, none, none, none, none, none] Ω _
  unfold t_law
  walk_at "hl"
  refine ⟨_, ns, 0, rfl, rfl, by decide, by decide, fun v => ?_⟩
  walk_at "hl"
  refine ⟨v, rfl, fun p ip => ?_⟩
  walk_at "hl"
  refine dnE rfl ip (by decide) (by decide) fun n p n0 n1 ip => ?_
  obtain ⟨n, hn⟩ : ∃ n' : Nat, 2 + n = n' := ⟨(2 + n).toNat, by omega⟩
  walk_at "hl"
  rw [hn]
  have hn1 : 2 ≤ n ∧ n ≤ 8 := by omega
  refine ⟨ns, n, rfl, hl, hn1.1, hn1.2, fun ws L lw hw hL1 hL62 hA hL => ?_⟩
  refine wg_tup2 (a := .list (ws.map PyData.int)) (b := .list (L.map dSg)) ?_
  walk_at "hl"
  refine ws_for (wi_rng3 ?_)
  walk_at "hl"
  refine wr_fdivP (j := 9) (by decide) (by decide) ?_
  walk_at "hl"
  rw [List.length_map, List.length_map]
  obtain ⟨c, hc⟩ : ∃ c : Int, 1 + (L.length : Int) / 9 = c := ⟨_, rfl⟩
  rw [hc]
  have c0 : 1 ≤ c := by omega
  obtain ⟨S0, hS0⟩ : ∃ S0, Ω ++ [p] = S0 := ⟨_, rfl⟩
  rw [hS0]
  refine ⟨0, (L.length : Int) + 1, c, _, rfl, rg_up (by omega) (by omega) (by omega) (by omega), ?_⟩
  refine ⟨fun i Γ Ω1 => ∃ (J : Om) (c4 c5 c6 : Option DV), Γ = [some (.d (.list (ns.map PyData.int))), some (.d (.int n)), some (.d (.list (ws.map PyData.int))), some (.d (.list (L.map dSg))), c4, c5, c6] ∧ Ω1 = S0 ++ J, ⟨[], _, _, _, rfl, by simp⟩, ?_, ?_, ?_⟩
  · rintro i Γ Ω1 - ⟨J, c4, c5, c6, rfl, rfl⟩
    exact ⟨trivial, by simp⟩
  · rintro i y Γ Ω1 hy ⟨J, c4, c5, c6, rfl, rfl⟩
    obtain ⟨hi, rfl⟩ := rngc_get hy
    obtain ⟨h0, h1⟩ := rg_le (by omega) (by omega) hi
    obtain ⟨j, hj⟩ : ∃ j : Nat, 0 + (i : Int) * c = j := ⟨((i : Int) * c).toNat, by omega⟩
    rw [hj]
    have hjl : j ≤ L.length := by omega
    have ct : cutG (L.map dSg) none (some (j : Int)) = (L.take j).map dSg := by rw [cut_to (by rw [List.length_map]; exact hjl), List.map_take]
    have ha : AllS (L.take j) := fun x hx => hA x (List.mem_of_mem_take hx)
    have he : ∀ x ∈ L.take j, SgE n x := fun x hx => hL x (List.mem_of_mem_take hx)
    have hlj : (L.take j).length ≤ 62 := by rw [List.length_take]; omega
    have hrl : ∀ {r}, wF n (L.take j) n = .inl r → ringB L r = true := fun {r} e => by
      obtain ⟨root, q, hp, hq, hne, _⟩ := (wF_ok (xsOk_of ha he) (Nat.le_refl n)).2 r e
      exact (path_take hp).ring hne hq
    generalize L.take j = M at ct ha he hlj hrl
    walk_at "hl"
    refine wsl_L (xs := L.map dSg) rfl ?_
    rw [ct]
    walk_at "hl"
    refine fv_call (by omega) he (by omega) (.inr (.inl rfl)) fun v t J2 hv => ?_
    walk_at "hl"
    dsimp only [List.set]
    refine hv.fst ?_
    walk_at "hl"
    refine wsl_L (xs := L.map dSg) rfl ?_
    rw [ct]
    walk_at "hl"
    refine ⟨n, M, rfl, by omega, ha, he, by omega, fun b hb => ?_⟩
    walk_at "hl"
    have hfin : ∀ (c4 c5 c6 : Option DV) (J' : Om), ∃ (J'' : Om) (d4 d5 d6 : Option DV), [some (.d (.list (ns.map PyData.int))), some (.d (.int n)), some (.d (.list (ws.map PyData.int))), some (.d (.list (L.map dSg))), c4, c5, c6] = [some (.d (.list (ns.map PyData.int))), some (.d (.int n)), some (.d (.list (ws.map PyData.int))), some (.d (.list (L.map dSg))), d4, d5, d6] ∧ S0 ++ J' = S0 ++ J'' := fun c4 c5 c6 J' => ⟨J', _, _, _, rfl, rfl⟩
    have hv0 := hv
    cases hv with
    | odd k e => rw [oddF_none ha] at e; cases e
    | wts f _ e =>
      have hbt : b = true := hb.mpr (cons_of_wF ha he e)
      subst hbt
      have hd := told_does (xsOk_of ha he) (fun x hx => ⟨(he x hx).i0, (he x hx).j0⟩) e
      have hz := told_small ha he (by omega) e
      have hll : (toldL n f).length = n := told_len
      generalize toldL n f = le at hd hz hll
      refine wr_ixL (xs := [.str "ring", .str "weights"]) (y := .str "weights") (atI_nat (j := 1) rfl) ?_
      refine ne_str sh_w sh_w (z := true) (by decide +kernel) ?_
      walk_at "hl"
      refine bF rfl ?_
      walk_at "hl"
      refine eq_str sh_w sh_w (z := true) (by decide +kernel) ?_
      walk_at "hl"
      refine bT rfl ?_
      walk_at "hl"
      refine wsl_L (xs := L.map dSg) rfl ?_
      rw [ct]
      walk_at "hl"
      refine ⟨le, _, M, rfl, hz, (fun z => by rw [z] at hll; simp at hll; omega), by omega, by omega, .inr (.inl rfl), by rw [hll]; exact he, ?_⟩
      rw [hd]
      walk_at "hl"
      refine bF rfl ?_
      walk_at "hl"
      try (refine bF rfl ?_; walk_at "hl")
      refine eq_str sh_w sh_w (z := true) (by decide +kernel) ?_
      walk_at "hl"
      refine bT rfl ?_
      walk_at "hl"
      refine wsl_L (xs := L.map dSg) rfl ?_
      rw [ct]
      walk_at "hl"
      refine ⟨le, _, M, rfl, hz, by omega, by omega, .inr (.inl rfl), by rw [hll]; exact he, ?_⟩
      rw [hd]
      walk_at "hl"
      refine bF rfl ?_
      walk_at "hl"
      try (refine bF rfl ?_; walk_at "hl")
      refine eq_str sh_w sh_r (z := false) (by decide +kernel) ?_
      walk_at "hl"
      refine bF rfl ?_
      walk_at "hl"
      rw [List.append_assoc]
      exact hfin _ _ _ _
    | ring r ri _ e hlo g =>
      have hbf : b = false := by
        cases b with
        | false => rfl
        | true => exact absurd (hb.mp rfl) (no_cons ha he e)
      subst hbf
      obtain ⟨root, qq, hp, hq, hne, hrlen⟩ := (wF_ok (xsOk_of ha he) (Nat.le_refl n)).2 r e
      have rb := hp.ring hne hq
      have rbL := hrl e
      refine wr_ixL (xs := [.str "ring", .str "weights"]) (y := .str "ring") (atI_nat (j := 0) rfl) ?_
      refine ne_str sh_r sh_r (z := true) (by decide +kernel) ?_
      walk_at "hl"
      refine bF rfl ?_
      walk_at "hl"
      refine hv0.fst ?_
      walk_at "hl"
      refine eq_str sh_r sh_w (z := false) (by decide +kernel) ?_
      walk_at "hl"
      refine bF rfl ?_
      walk_at "hl"
      try (refine bF rfl ?_; walk_at "hl")
      refine hv0.fst ?_
      walk_at "hl"
      refine eq_str sh_r sh_w (z := false) (by decide +kernel) ?_
      walk_at "hl"
      refine bF rfl ?_
      walk_at "hl"
      try (refine bF rfl ?_; walk_at "hl")
      refine hv0.fst ?_
      walk_at "hl"
      refine eq_str sh_r sh_r (z := true) (by decide +kernel) ?_
      walk_at "hl"
      refine bT rfl ?_
      walk_at "hl"
      refine wr_ixTO (ps := [.d (.str "ring"), .o ri]) (y := .o ri) (atI_nat (j := 1) rfl) ?_
      walk_at "hl"
      refine wc_listD' (xs := r.map dPr) (by show (sqO _).bind asDs = _; rw [g]; exact asDs_data _) ?_
      walk_at "hl"
      dsimp only [List.set]
      refine wsl_L (xs := L.map dSg) rfl ?_
      rw [ct]
      walk_at "hl"
      refine ⟨M, r, rfl, fun x hx => (he x hx).ok, by omega, ?_⟩
      rw [rb]
      walk_at "hl"
      refine bF rfl ?_
      walk_at "hl"
      refine wsl_L (xs := L.map dSg) rfl ?_
      rw [ct]
      walk_at "hl"
      refine wc_tup' (xs := r.map dPr) rfl ?_
      walk_at "hl"
      refine ⟨_, _, _, M, r, rfl, fun _ => rfl, fun x hx => (he x hx).ok, .inr rfl, by omega, ?_⟩
      rw [rb]
      walk_at "hl"
      refine bF rfl ?_
      walk_at "hl"
      try (refine bF rfl ?_; walk_at "hl")
      refine ⟨_, _, _, L, r, rfl, fun _ => rfl, fun x hx => (hL x hx).ok, .inl rfl, by omega, ?_⟩
      rw [rbL]
      walk_at "hl"
      refine bF rfl ?_
      walk_at "hl"
      refine wr_ixTO (ps := [.d (.str "ring"), .o ri]) (y := .o ri) (atI_nat (j := 1) rfl) ?_
      refine ⟨⟨_, (by show sqO _ = _; rw [g]; rfl), rfl⟩, ?_⟩
      refine wm_clear g ?_
      obtain ⟨J3, hJ3⟩ : ∃ J3, (S0 ++ J ++ J2).set ri (.lst []) = S0 ++ J3 := by
        rw [List.append_assoc, List.set_append_right _ _ (by rw [List.length_append] at hlo; omega)]
        exact ⟨_, rfl⟩
      rw [hJ3]
      walk_at "hl"
      refine wsl_L (xs := L.map dSg) rfl ?_
      rw [ct]
      walk_at "hl"
      refine fv_call (by omega) he (by omega) (.inr (.inl rfl)) fun v2 t2 J4 hv2 => ?_
      cases hv2 with
      | odd k e => rw [oddF_none ha] at e; cases e
      | wts f _ e2 => rw [e] at e2; cases e2
      | ring r2 i2 _ e2 hlo2 g2 =>
        rw [e] at e2
        cases e2
        walk_at "hl"
        refine wr_neSelf (d := .tuple [.str "ring", .list (r.map dPr)]) (vw_ring g2) rfl (sh_tr r) ?_
        walk_at "hl"
        refine bF rfl ?_
        walk_at "hl"
        refine wc_tup' (xs := ws.map PyData.int) rfl ?_
        walk_at "hl"
        refine wsl_L (xs := L.map dSg) rfl ?_
        rw [ct]
        walk_at "hl"
        refine ⟨ws, _, M, rfl, fun w hm => Nat.lt_of_lt_of_le (nat_pow_lt (k := 10) (n := 100) (by have := hw w hm; omega) (by decide)) (Nat.pow_le_pow_right (by decide) (by decide)), by omega, by omega, .inr (.inl rfl), by rw [lw]; exact he, ?_⟩
        have hdf : doesB ws M = false := by
          cases hd : doesB ws M with
          | false => rfl
          | true =>
            obtain ⟨f, ef⟩ := does_told (xsOk_of ha he) (fun x hx => ⟨(he x hx).i0, (he x hx).j0⟩) lw hd
            rw [e] at ef; cases ef
        rw [hdf]
        walk_at "hl"
        refine bF rfl ?_
        walk_at "hl"
        try (refine bF rfl ?_; walk_at "hl")
        rw [List.append_assoc]
        exact hfin _ _ _ _
  · rintro Γ Ω1 ⟨J, c4, c5, c6, rfl, rfl⟩
    walk_at "hl"
    exact dr_same (q _)
theorem sp_len_law {K : KF} (ds : List DV) (Ω : Om) (R : DV → Om → Prop) (X : Exc → Om → Prop) (h : sp_law K ds Ω R X) : ds.length = 1 := by
  unfold sp_law at h
  first
    | (obtain ⟨rfl, _⟩ := h; rfl)
    | (obtain ⟨_, rfl, _⟩ := h; rfl)
    | (obtain ⟨_, _, rfl, _⟩ := h; rfl)
    | (obtain ⟨_, _, _, rfl, _⟩ := h; rfl)
    | (obtain ⟨_, _, _, _, rfl, _⟩ := h; rfl)
    | (obtain ⟨_, _, _, _, _, rfl, _⟩ := h; rfl)
    | (obtain ⟨_, _, _, _, _, _, rfl, _⟩ := h; rfl)
    | (obtain ⟨_, _, _, _, _, _, _, rfl, _⟩ := h; rfl)
    | (obtain ⟨_, _, _, _, _, _, _, _, rfl, _⟩ := h; rfl)
    | (obtain ⟨_, _, _, _, _, _, _, _, _, rfl, _⟩ := h; rfl)
    | (obtain ⟨_, _, _, _, _, _, _, _, _, _, rfl, _⟩ := h; rfl)
    | (obtain ⟨_, _, _, _, _, _, _, _, _, _, _, rfl, _⟩ := h; rfl)
    | (obtain ⟨_, _, _, _, _, _, _, _, _, _, _, _, rfl, _⟩ := h; rfl)
    | (obtain ⟨_, _, _, _, _, _, _, _, _, _, _, _, _, rfl, _⟩ := h; rfl)
    | (obtain ⟨_, _, _, _, _, _, _, _, _, _, _, _, _, rfl, _⟩ := h; rfl)
    | (obtain ⟨_, _, _, _, _, _, _, _, _, _, _, _, _, _, rfl, _⟩ := h; rfl)
    | (obtain ⟨_, _, _, _, _, _, _, _, _, _, _, _, _, _, _, rfl, _⟩ := h; rfl)
    | (obtain ⟨_, _, _, _, _, _, _, _, _, _, _, _, _, _, _, _, rfl, _⟩ := h; rfl)
    | (obtain ⟨_, _, _, _, _, _, _, _, _, _, _, _, _, _, _, _, _, rfl, _⟩ := h; rfl)
    | (obtain ⟨_, _, _, _, _, _, _, _, _, _, _, _, _, _, _, _, _, _, rfl, _⟩ := h; rfl)
    | (obtain ⟨_, _, _, _, _, _, _, _, _, _, _, _, _, _, _, _, _, _, _, rfl, _⟩ := h; rfl)
    | (obtain ⟨_, _, _, _, _, _, _, _, _, _, _, _, _, _, _, _, _, _, _, _, rfl, _⟩ := h; rfl)
    | (obtain ⟨_, _, _, _, _, _, _, _, _, _, _, _, _, _, _, _, _, _, _, _, _, rfl, _⟩ := h; rfl)
end HL
namespace LK
open PySem PySem.Spec PyProof.Rows L2 Evl RZ HL
abbrev N_law_lowest : List Str := ["top", "bottom", "one", "other"]
abbrev P_law_lowest : List Str := ["top", "bottom"]
theorem sc_law_lowest : FnScope N_law_lowest P_law_lowest (defScope s_law_lowest) := ⟨rfl, rfl, rfl, by decide +kernel, rfl, by decide +kernel, by decide +kernel⟩
abbrev N_law_product : List Str := ["one", "other"]
abbrev P_law_product : List Str := ["one", "other"]
theorem sc_law_product : FnScope N_law_product P_law_product (defScope s_law_product) := ⟨rfl, rfl, rfl, by decide +kernel, rfl, by decide +kernel, by decide +kernel⟩
abbrev N_law_sum : List Str := ["one", "other"]
abbrev P_law_sum : List Str := ["one", "other"]
theorem sc_law_sum : FnScope N_law_sum P_law_sum (defScope s_law_sum) := ⟨rfl, rfl, rfl, by decide +kernel, rfl, by decide +kernel, by decide +kernel⟩
abbrev N_law_minus : List Str := ["one", "other"]
abbrev P_law_minus : List Str := ["one", "other"]
theorem sc_law_minus : FnScope N_law_minus P_law_minus (defScope s_law_minus) := ⟨rfl, rfl, rfl, by decide +kernel, rfl, by decide +kernel, by decide +kernel⟩
abbrev N_law_share : List Str := ["sighting", "i", "j", "v", "w", "v2", "w2", "lost", "won"]
abbrev P_law_share : List Str := ["sighting"]
theorem sc_law_share : FnScope N_law_share P_law_share (defScope s_law_share) := ⟨rfl, rfl, rfl, by decide +kernel, rfl, by decide +kernel, by decide +kernel⟩
abbrev N_law_can : List Str := ["n", "sightings", "known", "shares", "ball", "going", "i", "j", "share", "one"]
abbrev P_law_can : List Str := ["n", "sightings"]
theorem sc_law_can : FnScope N_law_can P_law_can (defScope s_law_can) := ⟨rfl, rfl, rfl, by decide +kernel, rfl, by decide +kernel, by decide +kernel⟩
abbrev N_law_cell : List Str := ["script", "k"]
abbrev P_law_cell : List Str := ["script", "k"]
theorem sc_law_cell : FnScope N_law_cell P_law_cell (defScope s_law_cell) := ⟨rfl, rfl, rfl, by decide +kernel, rfl, by decide +kernel, by decide +kernel⟩
abbrev N_law_dig : List Str := ["cell"]
abbrev P_law_dig : List Str := ["cell"]
theorem sc_law_dig : FnScope N_law_dig P_law_dig (defScope s_law_dig) := ⟨rfl, rfl, rfl, by decide +kernel, rfl, by decide +kernel, by decide +kernel⟩
abbrev N_law_does : List Str := ["weights", "sightings", "sighting", "share", "due"]
abbrev P_law_does : List Str := ["weights", "sightings"]
theorem sc_law_does : FnScope N_law_does P_law_does (defScope s_law_does) := ⟨rfl, rfl, rfl, by decide +kernel, rfl, by decide +kernel, by decide +kernel⟩
abbrev N_law_next : List Str := ["pool", "base", "digit", "mixed", "stir"]
abbrev P_law_next : List Str := ["pool", "base"]
theorem sc_law_next : FnScope N_law_next P_law_next (defScope s_law_next) := ⟨rfl, rfl, rfl, by decide +kernel, rfl, by decide +kernel, by decide +kernel⟩
abbrev N_law_meeting : List Str := ["i", "j", "one", "other", "v", "w", "gap", "v2", "w2"]
abbrev P_law_meeting : List Str := ["i", "j", "one", "other", "v", "w"]
theorem sc_law_meeting : FnScope N_law_meeting P_law_meeting (defScope s_law_meeting) := ⟨rfl, rfl, rfl, by decide +kernel, rfl, by decide +kernel, by decide +kernel⟩
abbrev N_law_far : List Str := ["pool", "found", "k"]
abbrev P_law_far : List Str := ["pool"]
theorem sc_law_far : FnScope N_law_far P_law_far (defScope s_law_far) := ⟨rfl, rfl, rfl, by decide +kernel, rfl, by decide +kernel, by decide +kernel⟩
abbrev N_law_ratio : List Str := ["pool", "bottom", "top", "way"]
abbrev P_law_ratio : List Str := ["pool"]
theorem sc_law_ratio : FnScope N_law_ratio P_law_ratio (defScope s_law_ratio) := ⟨rfl, rfl, rfl, by decide +kernel, rfl, by decide +kernel, by decide +kernel⟩
abbrev N_law_sighting : List Str := ["pool", "weights", "i", "j", "v", "w"]
abbrev P_law_sighting : List Str := ["pool", "weights"]
theorem sc_law_sighting : FnScope N_law_sighting P_law_sighting (defScope s_law_sighting) := ⟨rfl, rfl, rfl, by decide +kernel, rfl, by decide +kernel, by decide +kernel⟩
abbrev N_law_weights : List Str := ["pool", "many", "k"]
abbrev P_law_weights : List Str := ["pool", "many"]
theorem sc_law_weights : FnScope N_law_weights P_law_weights (defScope s_law_weights) := ⟨rfl, rfl, rfl, by decide +kernel, rfl, by decide +kernel, by decide +kernel⟩
abbrev N_law_drawn : List Str := ["script", "n", "weights", "some", "k", "pool", "other"]
abbrev P_law_drawn : List Str := ["script", "n"]
theorem sc_law_drawn : FnScope N_law_drawn P_law_drawn (defScope s_law_drawn) := ⟨rfl, rfl, rfl, by decide +kernel, rfl, by decide +kernel, by decide +kernel⟩
abbrev N_law_is_ring : List Str := ["sightings", "ring", "ends", "top", "bottom", "number", "way", "share", "at"]
abbrev P_law_is_ring : List Str := ["sightings", "ring"]
theorem sc_law_is_ring : FnScope N_law_is_ring P_law_is_ring (defScope s_law_is_ring) := ⟨rfl, rfl, rfl, by decide +kernel, rfl, by decide +kernel, by decide +kernel⟩
abbrev N_divisor_of : List Str := ["one", "other"]
abbrev P_divisor_of : List Str := ["one", "other"]
theorem sc_divisor_of : FnScope N_divisor_of P_divisor_of (defScope s_divisor_of) := ⟨rfl, rfl, rfl, by decide +kernel, rfl, by decide +kernel, by decide +kernel⟩
abbrev N_is_whole : List Str := ["thing"]
abbrev P_is_whole : List Str := ["thing"]
theorem sc_is_whole : FnScope N_is_whole P_is_whole (defScope s_is_whole) := ⟨rfl, rfl, rfl, by decide +kernel, rfl, by decide +kernel, by decide +kernel⟩
abbrev N_ratio : List Str := ["top", "bottom", "by"]
abbrev P_ratio : List Str := ["top", "bottom"]
theorem sc_ratio : FnScope N_ratio P_ratio (defScope s_ratio) := ⟨rfl, rfl, rfl, by decide +kernel, rfl, by decide +kernel, by decide +kernel⟩
abbrev N_minus : List Str := ["one", "other"]
abbrev P_minus : List Str := ["one", "other"]
theorem sc_minus : FnScope N_minus P_minus (defScope s_minus) := ⟨rfl, rfl, rfl, by decide +kernel, rfl, by decide +kernel, by decide +kernel⟩
abbrev N_changes : List Str := ["sighting", "i", "j", "v", "w", "v_behind", "w_behind"]
abbrev P_changes : List Str := ["sighting"]
theorem sc_changes : FnScope N_changes P_changes (defScope s_changes) := ⟨rfl, rfl, rfl, by decide +kernel, rfl, by decide +kernel, by decide +kernel⟩
abbrev N_is_rebound : List Str := ["sighting", "i", "j", "v", "w", "v_behind", "w_behind"]
abbrev P_is_rebound : List Str := ["sighting"]
theorem sc_is_rebound : FnScope N_is_rebound P_is_rebound (defScope s_is_rebound) := ⟨rfl, rfl, rfl, by decide +kernel, rfl, by decide +kernel, by decide +kernel⟩
abbrev N_times : List Str := ["one", "other"]
abbrev P_times : List Str := ["one", "other"]
theorem sc_times : FnScope N_times P_times (defScope s_times) := ⟨rfl, rfl, rfl, by decide +kernel, rfl, by decide +kernel, by decide +kernel⟩
abbrev N_is_done : List Str := ["weights", "sighting", "lost", "gained", "one"]
abbrev P_is_done : List Str := ["weights", "sighting"]
theorem sc_is_done : FnScope N_is_done P_is_done (defScope s_is_done) := ⟨rfl, rfl, rfl, by decide +kernel, rfl, by decide +kernel, by decide +kernel⟩
abbrev N_does_all : List Str := ["weights", "sightings", "weight", "sighting"]
abbrev P_does_all : List Str := ["weights", "sightings"]
theorem sc_does_all : FnScope N_does_all P_does_all (defScope s_does_all) := ⟨rfl, rfl, rfl, by decide +kernel, rfl, by decide +kernel, by decide +kernel⟩
abbrev N_less : List Str := ["one", "other"]
abbrev P_less : List Str := ["one", "other"]
theorem sc_less : FnScope N_less P_less (defScope s_less) := ⟨rfl, rfl, rfl, by decide +kernel, rfl, by decide +kernel, by decide +kernel⟩
abbrev N_over : List Str := ["one", "other"]
abbrev P_over : List Str := ["one", "other"]
theorem sc_over : FnScope N_over P_over (defScope s_over) := ⟨rfl, rfl, rfl, by decide +kernel, rfl, by decide +kernel, by decide +kernel⟩
abbrev N_share_of : List Str := ["sighting", "lost", "gained", "share"]
abbrev P_share_of : List Str := ["sighting"]
theorem sc_share_of : FnScope N_share_of P_share_of (defScope s_share_of) := ⟨rfl, rfl, rfl, by decide +kernel, rfl, by decide +kernel, by decide +kernel⟩
abbrev N_turned_over : List Str := ["share"]
abbrev P_turned_over : List Str := ["share"]
theorem sc_turned_over : FnScope N_turned_over P_turned_over (defScope s_turned_over) := ⟨rfl, rfl, rfl, by decide +kernel, rfl, by decide +kernel, by decide +kernel⟩
abbrev N_step_by : List Str := ["n", "sightings", "pair", "number", "way", "i", "j", "share"]
abbrev P_step_by : List Str := ["n", "sightings", "pair"]
theorem sc_step_by : FnScope N_step_by P_step_by (defScope s_step_by) := ⟨rfl, rfl, rfl, by decide +kernel, rfl, by decide +kernel, by decide +kernel⟩
abbrev N_lets_ring : List Str := ["n", "sightings", "ring", "steps", "product", "one", "following", "pair"]
abbrev P_lets_ring : List Str := ["n", "sightings", "ring"]
theorem sc_lets_ring : FnScope N_lets_ring P_lets_ring (defScope s_lets_ring) := ⟨rfl, rfl, rfl, by decide +kernel, rfl, by decide +kernel, by decide +kernel⟩
abbrev N_Part_way_home : List Str := ["self", "ball", "found", "number", "way", "before"]
abbrev P_Part_way_home : List Str := ["self", "ball"]
theorem sc_Part_way_home : FnScope N_Part_way_home P_Part_way_home (defScope s_Part_way_home) := ⟨rfl, rfl, rfl, by decide +kernel, rfl, by decide +kernel, by decide +kernel⟩
abbrev N_Part_way_to : List Str := ["self", "ball", "found", "number", "way"]
abbrev P_Part_way_to : List Str := ["self", "ball"]
theorem sc_Part_way_to : FnScope N_Part_way_to P_Part_way_to (defScope s_Part_way_to) := ⟨rfl, rfl, rfl, by decide +kernel, rfl, by decide +kernel, by decide +kernel⟩
abbrev N_steps_from : List Str := ["sightings", "ball", "found", "number", "sighting"]
abbrev P_steps_from : List Str := ["sightings", "ball"]
theorem sc_steps_from : FnScope N_steps_from P_steps_from (defScope s_steps_from) := ⟨rfl, rfl, rfl, by decide +kernel, rfl, by decide +kernel, by decide +kernel⟩
abbrev N_Part_joined : List Str := ["self", "ball", "fresh", "number", "way", "other", "share", "weight"]
abbrev P_Part_joined : List Str := ["self", "ball"]
theorem sc_Part_joined : FnScope N_Part_joined P_Part_joined (defScope s_Part_joined) := ⟨rfl, rfl, rfl, by decide +kernel, rfl, by decide +kernel, by decide +kernel⟩
abbrev N_Part_init : List Str := ["self", "sightings", "ball", "rim", "here"]
abbrev P_Part_init : List Str := ["self", "sightings", "ball"]
theorem sc_Part_init : FnScope N_Part_init P_Part_init (defScope s_Part_init) := ⟨rfl, rfl, rfl, by decide +kernel, rfl, by decide +kernel, by decide +kernel⟩
abbrev N_Part_whole : List Str := ["self", "bottom", "weight", "by", "found", "ball"]
abbrev P_Part_whole : List Str := ["self"]
theorem sc_Part_whole : FnScope N_Part_whole P_Part_whole (defScope s_Part_whole) := ⟨rfl, rfl, rfl, by decide +kernel, rfl, by decide +kernel, by decide +kernel⟩
abbrev N_weights_of : List Str := ["n", "sightings", "at", "sighting", "found", "ball", "part"]
abbrev P_weights_of : List Str := ["n", "sightings"]
theorem sc_weights_of : FnScope N_weights_of P_weights_of (defScope s_weights_of) := ⟨rfl, rfl, rfl, by decide +kernel, rfl, by decide +kernel, by decide +kernel⟩
abbrev N_law : List Str := ["script", "n", "weights", "some", "at", "found", "kept"]
abbrev P_law : List Str := ["script"]
theorem sc_law : FnScope N_law P_law (defScope s_law) := ⟨rfl, rfl, rfl, by decide +kernel, rfl, by decide +kernel, by decide +kernel⟩
structure Txt (K : KF) (mg : Str → Option Value) : Prop where
  F_law_lowest : FD K "_law_lowest" s_law_lowest []
  m_law_lowest : mg "_law_lowest" = some (.ref (fA K "_law_lowest"))
  F_law_product : FD K "_law_product" s_law_product []
  m_law_product : mg "_law_product" = some (.ref (fA K "_law_product"))
  F_law_sum : FD K "_law_sum" s_law_sum []
  m_law_sum : mg "_law_sum" = some (.ref (fA K "_law_sum"))
  F_law_minus : FD K "_law_minus" s_law_minus []
  m_law_minus : mg "_law_minus" = some (.ref (fA K "_law_minus"))
  F_law_share : FD K "_law_share" s_law_share []
  m_law_share : mg "_law_share" = some (.ref (fA K "_law_share"))
  F_law_can : FD K "_law_can" s_law_can []
  m_law_can : mg "_law_can" = some (.ref (fA K "_law_can"))
  F_law_cell : FD K "_law_cell" s_law_cell []
  m_law_cell : mg "_law_cell" = some (.ref (fA K "_law_cell"))
  F_law_dig : FD K "_law_dig" s_law_dig []
  m_law_dig : mg "_law_dig" = some (.ref (fA K "_law_dig"))
  F_law_does : FD K "_law_does" s_law_does []
  m_law_does : mg "_law_does" = some (.ref (fA K "_law_does"))
  F_law_next : FD K "_law_next" s_law_next []
  m_law_next : mg "_law_next" = some (.ref (fA K "_law_next"))
  F_law_meeting : FD K "_law_meeting" s_law_meeting []
  m_law_meeting : mg "_law_meeting" = some (.ref (fA K "_law_meeting"))
  F_law_far : FD K "_law_far" s_law_far []
  m_law_far : mg "_law_far" = some (.ref (fA K "_law_far"))
  F_law_ratio : FD K "_law_ratio" s_law_ratio []
  m_law_ratio : mg "_law_ratio" = some (.ref (fA K "_law_ratio"))
  F_law_sighting : FD K "_law_sighting" s_law_sighting []
  m_law_sighting : mg "_law_sighting" = some (.ref (fA K "_law_sighting"))
  F_law_weights : FD K "_law_weights" s_law_weights []
  m_law_weights : mg "_law_weights" = some (.ref (fA K "_law_weights"))
  F_law_drawn : FD K "_law_drawn" s_law_drawn []
  m_law_drawn : mg "_law_drawn" = some (.ref (fA K "_law_drawn"))
  F_law_is_ring : FD K "_law_is_ring" s_law_is_ring []
  m_law_is_ring : mg "_law_is_ring" = some (.ref (fA K "_law_is_ring"))
  F_divisor_of : FD K "divisor_of" s_divisor_of []
  m_divisor_of : mg "divisor_of" = some (.ref (fA K "divisor_of"))
  F_is_whole : FD K "is_whole" s_is_whole []
  m_is_whole : mg "is_whole" = some (.ref (fA K "is_whole"))
  F_ratio : FD K "ratio" s_ratio [.int 1]
  m_ratio : mg "ratio" = some (.ref (fA K "ratio"))
  F_minus : FD K "minus" s_minus []
  m_minus : mg "minus" = some (.ref (fA K "minus"))
  F_changes : FD K "changes" s_changes []
  m_changes : mg "changes" = some (.ref (fA K "changes"))
  F_is_rebound : FD K "is_rebound" s_is_rebound []
  m_is_rebound : mg "is_rebound" = some (.ref (fA K "is_rebound"))
  F_times : FD K "times" s_times []
  m_times : mg "times" = some (.ref (fA K "times"))
  F_is_done : FD K "is_done" s_is_done []
  m_is_done : mg "is_done" = some (.ref (fA K "is_done"))
  F_does_all : FD K "does_all" s_does_all []
  m_does_all : mg "does_all" = some (.ref (fA K "does_all"))
  F_less : FD K "less" s_less []
  m_less : mg "less" = some (.ref (fA K "less"))
  F_over : FD K "over" s_over []
  m_over : mg "over" = some (.ref (fA K "over"))
  F_share_of : FD K "share_of" s_share_of []
  m_share_of : mg "share_of" = some (.ref (fA K "share_of"))
  F_turned_over : FD K "turned_over" s_turned_over []
  m_turned_over : mg "turned_over" = some (.ref (fA K "turned_over"))
  F_step_by : FD K "step_by" s_step_by []
  m_step_by : mg "step_by" = some (.ref (fA K "step_by"))
  F_lets_ring : FD K "lets_ring" s_lets_ring []
  m_lets_ring : mg "lets_ring" = some (.ref (fA K "lets_ring"))
  F_Part_way_home : FM K "Part" "way_home" "Part.way_home" s_Part_way_home []
  F_Part_way_to : FM K "Part" "way_to" "Part.way_to" s_Part_way_to []
  F_steps_from : FD K "steps_from" s_steps_from []
  m_steps_from : mg "steps_from" = some (.ref (fA K "steps_from"))
  F_Part_joined : FM K "Part" "joined" "Part.joined" s_Part_joined []
  F_Part_init : FM K "Part" "__init__" "Part.__init__" s_Part_init []
  F_Part_whole : FM K "Part" "whole" "Part.whole" s_Part_whole []
  F_weights_of : FD K "weights_of" s_weights_of []
  m_weights_of : mg "weights_of" = some (.ref (fA K "weights_of"))
  F_law : FD K "law" s_law []
  m_law : mg "law" = some (.ref (fA K "law"))
  z_abs : mg "abs" = none
  z_all : mg "all" = none
  z_bool : mg "bool" = none
  z_enumerate : mg "enumerate" = none
  z_int : mg "int" = none
  z_isinstance : mg "isinstance" = none
  z_len : mg "len" = none
  z_list : mg "list" = none
  z_max : mg "max" = none
  z_min : mg "min" = none
  z_range : mg "range" = none
  z_tuple : mg "tuple" = none
  z_zip : mg "zip" = none
  g_NOUGHT : mg "NOUGHT" = some (.ref (He.ga K "NOUGHT"))
  q_NOUGHT : He.tupB K "NOUGHT" [.int (0), .int (1)] = true
  g_ONE : mg "ONE" = some (.ref (He.ga K "ONE"))
  q_ONE : He.tupB K "ONE" [.int (1), .int (1)] = true
  cl_Part : Cls K (He.ga K "Part")
  na_Part_came : NoAttr K (He.ga K "Part") "came"
  na_Part_ring : NoAttr K (He.ga K "Part") "ring"
  na_Part_sightings : NoAttr K (He.ga K "Part") "sightings"
  na_Part_weights : NoAttr K (He.ga K "Part") "weights"
  mt_Part_joined : Meth K (He.ga K "Part") "joined" (He.fAd K ("Part", some "joined"))
  mt_Part_way_home : Meth K (He.ga K "Part") "way_home" (He.fAd K ("Part", some "way_home"))
  mt_Part_way_to : Meth K (He.ga K "Part") "way_to" (He.fAd K ("Part", some "way_to"))
  mt_Part_whole : Meth K (He.ga K "Part") "whole" (He.fAd K ("Part", some "whole"))
  mk_Part : Mk K (He.ga K "Part") (He.fAd K ("Part", some "__init__"))
  gw_Part : mg "Part" = some (.ref (He.ga K "Part"))
  xc_NoRatio : XC K mg "NoRatio"
section
variable {P : Program} {w : World} {K : KF} {mg : Str → Option Value} {base : Heap}
theorem bd_law_lowest (T : Txt K mg) : Binds K (fdK K ("_law_lowest", none)) P_law_lowest [] := T.F_law_lowest.bindsN fun _ _ _ _ _ _ us hl => match us, hl with | [_, _], _ => rfl
set_option maxHeartbeats 4000000 in
theorem ok_law_lowest (T : Txt K mg) : FnOk P w K mg base (L2.CX P w) 1 (fA K "_law_lowest") (fdK K ("_law_lowest", none)) P_law_lowest (FS K (sp_law_lowest K)) := by
  refine T.F_law_lowest.ok sc_law_lowest (fun vs H Q E h => fs_len h sp_len_law_lowest) (fun cdv A outer s H vs Q E hr h => ⟨t_law_lowest K (fun c d _ H' => E c d H'), ?_, fs_run h (w_law_lowest  _)⟩)
  exact (pss_cons (ps_par rfl sc_law_lowest.nd (i := 2) (j := 3) rfl rfl (by decide) rfl rfl (pa_cons (pe_callB call_abs' rfl T.z_abs (by decide +kernel) (pa_cons (pv 0) pa_nil)) (pa_cons (pe_callB call_abs' rfl T.z_abs (by decide +kernel) (pa_cons (pv 1) pa_nil)) pa_nil)) (by rfl))
      (pss_cons (ps_while (passes_of rfl) (pt_cmpR op_gt' (pv 3) pe_int (nomark _)) (pss_one (ps_par rfl sc_law_lowest.nd (i := 2) (j := 3) rfl rfl (by decide) rfl rfl (pa_cons (pv 3) (pa_cons (pe_op op_mod' (pv 2) (pv 3)) pa_nil)) (by rfl))))
      (pss_cons (ps_if (pt_cmpR op_lt' (pv 1) pe_int (nomark _)) (pss_one (ps_set (i := 2) sc_law_lowest.nd rfl (Or.inl rfl) (pe_un un_neg' (pv 2)))) pss_nil)
      (pss_one (ps_ret (pe_tup (pa_cons (pe_op op_fdiv' (pv 0) (pv 2)) (pa_cons (pe_op op_fdiv' (pv 1) (pv 2)) pa_nil))))))))
theorem bd_law_product (T : Txt K mg) : Binds K (fdK K ("_law_product", none)) P_law_product [] := T.F_law_product.bindsN fun _ _ _ _ _ _ us hl => match us, hl with | [_, _], _ => rfl
set_option maxHeartbeats 4000000 in
theorem ok_law_product (T : Txt K mg) : FnOk P w K mg base (L2.CX P w) 2 (fA K "_law_product") (fdK K ("_law_product", none)) P_law_product (FS K (sp_law_product K)) := by
  refine T.F_law_product.ok sc_law_product (fun vs H Q E h => fs_len h sp_len_law_product) (fun cdv A outer s H vs Q E hr h => ⟨t_law_product K (fun c d _ H' => E c d H'), ?_, fs_run h (w_law_product  _)⟩)
  exact (pss_one (ps_ret (pe_call (ok_law_lowest T) (hr.mono (by decide)) rfl T.m_law_lowest T.F_law_lowest.kp (bd_law_lowest T) .nil passL (pa_cons (pe_op op_mul' (pe_ix ix_seq (pv 0) pe_int (fun _ _ => rfl)) (pe_ix ix_seq (pv 1) pe_int (fun _ _ => rfl))) (pa_cons (pe_op op_mul' (pe_ix ix_seq (pv 0) pe_int (fun _ _ => rfl)) (pe_ix ix_seq (pv 1) pe_int (fun _ _ => rfl))) pa_nil)))))
theorem bd_law_sum (T : Txt K mg) : Binds K (fdK K ("_law_sum", none)) P_law_sum [] := T.F_law_sum.bindsN fun _ _ _ _ _ _ us hl => match us, hl with | [_, _], _ => rfl
set_option maxHeartbeats 4000000 in
theorem ok_law_sum (T : Txt K mg) : FnOk P w K mg base (L2.CX P w) 2 (fA K "_law_sum") (fdK K ("_law_sum", none)) P_law_sum (FS K (sp_law_sum K)) := by
  refine T.F_law_sum.ok sc_law_sum (fun vs H Q E h => fs_len h sp_len_law_sum) (fun cdv A outer s H vs Q E hr h => ⟨t_law_sum K (fun c d _ H' => E c d H'), ?_, fs_run h (w_law_sum  _)⟩)
  exact (pss_one (ps_ret (pe_call (ok_law_lowest T) (hr.mono (by decide)) rfl T.m_law_lowest T.F_law_lowest.kp (bd_law_lowest T) .nil passL (pa_cons (pe_op op_addX (pe_op op_mul' (pe_ix ix_seq (pv 0) pe_int (fun _ _ => rfl)) (pe_ix ix_seq (pv 1) pe_int (fun _ _ => rfl))) (pe_op op_mul' (pe_ix ix_seq (pv 1) pe_int (fun _ _ => rfl)) (pe_ix ix_seq (pv 0) pe_int (fun _ _ => rfl)))) (pa_cons (pe_op op_mul' (pe_ix ix_seq (pv 0) pe_int (fun _ _ => rfl)) (pe_ix ix_seq (pv 1) pe_int (fun _ _ => rfl))) pa_nil)))))
theorem bd_law_minus (T : Txt K mg) : Binds K (fdK K ("_law_minus", none)) P_law_minus [] := T.F_law_minus.bindsN fun _ _ _ _ _ _ us hl => match us, hl with | [_, _], _ => rfl
set_option maxHeartbeats 4000000 in
theorem ok_law_minus (T : Txt K mg) : FnOk P w K mg base (L2.CX P w) 3 (fA K "_law_minus") (fdK K ("_law_minus", none)) P_law_minus (FS K (sp_law_minus K)) := by
  refine T.F_law_minus.ok sc_law_minus (fun vs H Q E h => fs_len h sp_len_law_minus) (fun cdv A outer s H vs Q E hr h => ⟨t_law_minus K (fun c d _ H' => E c d H'), ?_, fs_run h (w_law_minus  _)⟩)
  exact (pss_one (ps_ret (pe_call (ok_law_sum T) (hr.mono (by decide)) rfl T.m_law_sum T.F_law_sum.kp (bd_law_sum T) .nil passL (pa_cons (pv 0) (pa_cons (pe_call (ok_law_product T) (hr.mono (by decide)) rfl T.m_law_product T.F_law_product.kp (bd_law_product T) .nil passL (pa_cons (pv 1) (pa_cons (pe_tup (pa_cons (pe_un un_neg' pe_int) (pa_cons pe_int pa_nil))) pa_nil))) pa_nil)))))
theorem bd_law_share (T : Txt K mg) : Binds K (fdK K ("_law_share", none)) P_law_share [] := T.F_law_share.bindsN fun _ _ _ _ _ _ us hl => match us, hl with | [_], _ => rfl
set_option maxHeartbeats 4000000 in
theorem ok_law_share (T : Txt K mg) : FnOk P w K mg base (L2.CX P w) 4 (fA K "_law_share") (fdK K ("_law_share", none)) P_law_share (FS K (sp_law_share K)) := by
  refine T.F_law_share.ok sc_law_share (fun vs H Q E h => fs_len h sp_len_law_share) (fun cdv A outer s H vs Q E hr h => ⟨t_law_share K (fun c d _ H' => E c d H'), ?_, fs_run h (w_law_share  _)⟩)
  exact (pss_cons (ps_asg (pv 0) (pg_tup rfl (pgs_cons (pg_name (i := 1) sc_law_share.nd rfl (Or.inl rfl)) (pgs_cons (pg_name (i := 2) sc_law_share.nd rfl (Or.inl rfl)) (pgs_cons (pg_name (i := 3) sc_law_share.nd rfl (Or.inl rfl)) (pgs_cons (pg_name (i := 4) sc_law_share.nd rfl (Or.inl rfl)) (pgs_cons (pg_name (i := 5) sc_law_share.nd rfl (Or.inl rfl)) (pgs_cons (pg_name (i := 6) sc_law_share.nd rfl (Or.inl rfl)) pgs_nil))))))))
      (pss_cons (ps_set (i := 7) sc_law_share.nd rfl (Or.inl rfl) (pe_call (ok_law_minus T) (hr.mono (by decide)) rfl T.m_law_minus T.F_law_minus.kp (bd_law_minus T) .nil passL (pa_cons (pv 3) (pa_cons (pv 5) pa_nil))))
      (pss_cons (ps_set (i := 8) sc_law_share.nd rfl (Or.inl rfl) (pe_call (ok_law_minus T) (hr.mono (by decide)) rfl T.m_law_minus T.F_law_minus.kp (bd_law_minus T) .nil passL (pa_cons (pv 6) (pa_cons (pv 4) pa_nil))))
      (pss_cons (ps_if (PW.pt (pw_or (pt_cmpR (op_eqD hr.units) (pv 3) (pv 4) (nomark _)) (pw_or (pt_cmpR (op_neD hr.units) (pe_call (ok_law_minus T) (hr.mono (by decide)) rfl T.m_law_minus T.F_law_minus.kp (bd_law_minus T) .nil passL (pa_cons (pv 6) (pa_cons (pv 5) pa_nil))) (pe_call (ok_law_minus T) (hr.mono (by decide)) rfl T.m_law_minus T.F_law_minus.kp (bd_law_minus T) .nil passL (pa_cons (pv 3) (pa_cons (pv 4) pa_nil))) (nomark _)) (pw_or1 (pt_cmpR op_le' (pe_op op_mul' (pe_ix ix_seq (pv 7) pe_int (fun _ _ => rfl)) (pe_ix ix_seq (pv 8) pe_int (fun _ _ => rfl))) pe_int (nomark _)))))) (pss_one (ps_ret pe_non)) pss_nil)
      (pss_one (ps_ret (pe_call (ok_law_lowest T) (hr.mono (by decide)) rfl T.m_law_lowest T.F_law_lowest.kp (bd_law_lowest T) .nil passL (pa_cons (pe_op op_mul' (pe_ix ix_seq (pv 7) pe_int (fun _ _ => rfl)) (pe_ix ix_seq (pv 8) pe_int (fun _ _ => rfl))) (pa_cons (pe_op op_mul' (pe_ix ix_seq (pv 7) pe_int (fun _ _ => rfl)) (pe_ix ix_seq (pv 8) pe_int (fun _ _ => rfl))) pa_nil)))))))))
theorem bd_law_can (T : Txt K mg) : Binds K (fdK K ("_law_can", none)) P_law_can [] := T.F_law_can.bindsN fun _ _ _ _ _ _ us hl => match us, hl with | [_, _], _ => rfl
set_option maxHeartbeats 4000000 in
theorem ok_law_can (T : Txt K mg) : FnOk P w K mg base (L2.CX P w) 5 (fA K "_law_can") (fdK K ("_law_can", none)) P_law_can (FS K (sp_law_can K)) := by
  refine T.F_law_can.ok sc_law_can (fun vs H Q E h => fs_len h sp_len_law_can) (fun cdv A outer s H vs Q E hr h => ⟨t_law_can K (fun c d _ H' => E c d H'), ?_, fs_run h (w_law_can  _)⟩)
  exact (pss_cons (ps_set (i := 2) sc_law_can.nd rfl (Or.inr rfl) (pe_op op_rep (pe_lst (pa_cons pe_non pa_nil)) (pv 0)))
      (pss_cons (ps_setLc (i := 3) (own := [("one", 9)]) (g := (gName 9)) (tt := tYes) rfl sc_law_can.nd rfl rfl (sw_true rfl rfl rfl rfl) (pi_seq (pv 1)) (blkOk_by (N := N_law_can) (sc := defScope s_law_can) (by decide +kernel)) (fun _ _ _ _ _ => (pg_name (i := 9) sc_law_can.nd rfl (Or.inl rfl))) (fun _ _ _ _ _ => pts_nil) (fun _ _ _ _ _ => (pe_tup (pa_cons (pe_ix ix_seq (pv 9) pe_int (fun _ _ => rfl)) (pa_cons (pe_ix ix_seq (pv 9) pe_int (fun _ _ => rfl)) (pa_cons (pe_call (ok_law_share T) (hr.mono (by decide)) rfl T.m_law_share T.F_law_share.kp (bd_law_share T) .nil passL (pa_cons (pv 9) pa_nil)) pa_nil))))))
      (pss_cons (ps_for (passes_of rfl) rfl (pi_range1 rfl T.z_range (pa_cons (pv 0) pa_nil)) (pg_name (i := 4) sc_law_can.nd rfl (Or.inl rfl)) (pss_cons (ps_set (i := 5) sc_law_can.nd rfl (Or.inl rfl) (pe_cmpR op_isN' (pe_ix ix_seq (pv 2) (pv 4) (fun _ _ => rfl)) pe_non (nomark _)))
      (pss_cons (ps_if (pt_val (pv 5)) (pss_one (ps_asg (pe_tup (pa_cons pe_int (pa_cons pe_int pa_nil))) (pg_sub (pv 2) (pv 4) set_list))) pss_nil)
      (pss_one (ps_while (passes_of rfl) (pt_val (pv 5)) (pss_cons (ps_set (i := 5) sc_law_can.nd rfl (Or.inl rfl) pe_bl)
      (pss_one (ps_for (passes_of rfl) rfl (pi_seq (pv 3)) (pg_tup rfl (pgs_cons (pg_name (i := 6) sc_law_can.nd rfl (Or.inl rfl)) (pgs_cons (pg_name (i := 7) sc_law_can.nd rfl (Or.inl rfl)) (pgs_cons (pg_name (i := 8) sc_law_can.nd rfl (Or.inl rfl)) pgs_nil)))) (pss_cons (ps_if (PW.pt (pw_and (pt_cmpR op_notN' (pe_ix ix_seq (pv 2) (pv 6) (fun _ _ => rfl)) pe_non (nomark _)) (pw_and1 (pt_cmpR op_isN' (pe_ix ix_seq (pv 2) (pv 7) (fun _ _ => rfl)) pe_non (nomark _))))) (pss_cons (ps_asg (pe_call (ok_law_product T) (hr.mono (by decide)) rfl T.m_law_product T.F_law_product.kp (bd_law_product T) .nil passL (pa_cons (pe_ix ix_seq (pv 2) (pv 6) (fun _ _ => rfl)) (pa_cons (pv 8) pa_nil))) (pg_sub (pv 2) (pv 7) set_list))
      (pss_one (ps_set (i := 5) sc_law_can.nd rfl (Or.inl rfl) pe_bl))) pss_nil)
      (pss_one (ps_if (PW.pt (pw_and (pt_cmpR op_notN' (pe_ix ix_seq (pv 2) (pv 7) (fun _ _ => rfl)) pe_non (nomark _)) (pw_and1 (pt_cmpR op_isN' (pe_ix ix_seq (pv 2) (pv 6) (fun _ _ => rfl)) pe_non (nomark _))))) (pss_cons (ps_asg (pe_call (ok_law_product T) (hr.mono (by decide)) rfl T.m_law_product T.F_law_product.kp (bd_law_product T) .nil passL (pa_cons (pe_ix ix_seq (pv 2) (pv 7) (fun _ _ => rfl)) (pa_cons (pe_tup (pa_cons (pe_ix ix_seq (pv 8) pe_int (fun _ _ => rfl)) (pa_cons (pe_ix ix_seq (pv 8) pe_int (fun _ _ => rfl)) pa_nil))) pa_nil))) (pg_sub (pv 2) (pv 6) set_list))
      (pss_one (ps_set (i := 5) sc_law_can.nd rfl (Or.inl rfl) pe_bl))) pss_nil)))))))))))
      (pss_one (ps_ret (pe_callB (cr_all rfl) rfl T.z_all (by decide +kernel) (pa_cons (pe_lc (own := [("i", 6), ("j", 7), ("share", 8)]) (g := (gTup K 3 (gCons (gName 6) (gCons (gName 7) (gCons (gName 8) gNil))))) (tt := tYes) rfl sc_law_can.nd (pi_seq (pv 3)) (blkOk_by (N := N_law_can) (sc := defScope s_law_can) (by decide +kernel)) (fun _ _ _ _ _ => (pg_tup rfl (pgs_cons (pg_name (i := 6) sc_law_can.nd rfl (Or.inl rfl)) (pgs_cons (pg_name (i := 7) sc_law_can.nd rfl (Or.inl rfl)) (pgs_cons (pg_name (i := 8) sc_law_can.nd rfl (Or.inl rfl)) pgs_nil))))) (fun _ _ _ _ _ => pts_nil) (fun _ _ _ _ _ => (pe_cmpR (op_eqD hr.units) (pe_ix ix_seq (pv 2) (pv 7) (fun _ _ => rfl)) (pe_call (ok_law_product T) (hr.mono (by decide)) rfl T.m_law_product T.F_law_product.kp (bd_law_product T) .nil passL (pa_cons (pe_ix ix_seq (pv 2) (pv 6) (fun _ _ => rfl)) (pa_cons (pv 8) pa_nil))) (nomark _)))) pa_nil)))))))
theorem bd_law_cell (T : Txt K mg) : Binds K (fdK K ("_law_cell", none)) P_law_cell [] := T.F_law_cell.bindsN fun _ _ _ _ _ _ us hl => match us, hl with | [_, _], _ => rfl
set_option maxHeartbeats 4000000 in
theorem ok_law_cell (T : Txt K mg) : FnOk P w K mg base (L2.CX P w) 1 (fA K "_law_cell") (fdK K ("_law_cell", none)) P_law_cell (FS K (sp_law_cell K)) := by
  refine T.F_law_cell.ok sc_law_cell (fun vs H Q E h => fs_len h sp_len_law_cell) (fun cdv A outer s H vs Q E hr h => ⟨t_law_cell K (fun c d _ H' => E c d H'), ?_, fs_run h (w_law_cell  _)⟩)
  exact (pss_cons (ps_if (pt_cmpR op_lt' (pv 1) (pe_callB call_len' rfl T.z_len (by decide +kernel) (pa_cons (pv 0) pa_nil)) (nomark _)) (pss_one (ps_ret (pe_ix ix_seq (pv 0) (pv 1) (fun _ _ => rfl)))) pss_nil)
      (pss_one (ps_ret (pe_op op_addX (pe_op op_mul' (pe_op op_mul' pe_int (pv 1)) (pv 1)) (pe_op op_mul' pe_int (pv 1))))))
theorem bd_law_dig (T : Txt K mg) : Binds K (fdK K ("_law_dig", none)) P_law_dig [] := T.F_law_dig.bindsN fun _ _ _ _ _ _ us hl => match us, hl with | [_], _ => rfl
set_option maxHeartbeats 4000000 in
theorem ok_law_dig (T : Txt K mg) : FnOk P w K mg base (L2.CX P w) 1 (fA K "_law_dig") (fdK K ("_law_dig", none)) P_law_dig (FS K (sp_law_dig K)) := by
  refine T.F_law_dig.ok sc_law_dig (fun vs H Q E h => fs_len h sp_len_law_dig) (fun cdv A outer s H vs Q E hr h => ⟨t_law_dig K (fun c d _ H' => E c d H'), ?_, fs_run h (w_law_dig  _)⟩)
  exact (pss_one (ps_ret (pe_lst (pa_cons (pe_callB (call_max' rfl) rfl T.z_max (by decide +kernel) (pa_cons pe_int (pa_cons (pe_op op_sub' (pv 0) (pe_op op_pow' pe_int pe_int)) pa_nil))) (pa_cons (pe_op op_mod' (pv 0) (pe_op op_pow' pe_int pe_int)) (pa_cons pe_int pa_nil))))))
theorem bd_law_does (T : Txt K mg) : Binds K (fdK K ("_law_does", none)) P_law_does [] := T.F_law_does.bindsN fun _ _ _ _ _ _ us hl => match us, hl with | [_, _], _ => rfl
set_option maxHeartbeats 4000000 in
theorem ok_law_does (T : Txt K mg) : FnOk P w K mg base (L2.CX P w) 5 (fA K "_law_does") (fdK K ("_law_does", none)) P_law_does (FS K (sp_law_does K)) := by
  refine T.F_law_does.ok sc_law_does (fun vs H Q E h => fs_len h sp_len_law_does) (fun cdv A outer s H vs Q E hr h => ⟨t_law_does K (fun c d _ H' => E c d H'), ?_, fs_run h (w_law_does  _)⟩)
  exact (pss_cons (ps_if (pt_cmpR op_lt' (pe_callB (call_minT rfl hr.units) rfl T.z_min (by decide +kernel) (pa_cons (pv 0) pa_nil)) pe_int (nomark _)) (pss_one (ps_ret pe_bl)) pss_nil)
      (pss_cons (ps_for (passes_of rfl) rfl (pi_seq (pv 1)) (pg_name (i := 2) sc_law_does.nd rfl (Or.inl rfl)) (pss_cons (ps_set (i := 3) sc_law_does.nd rfl (Or.inl rfl) (pe_call (ok_law_share T) (hr.mono (by decide)) rfl T.m_law_share T.F_law_share.kp (bd_law_share T) .nil passL (pa_cons (pv 2) pa_nil)))
      (pss_cons (ps_if (pt_cmpR op_isN' (pv 3) pe_non (nomark _)) (pss_one (ps_ret pe_bl)) pss_nil)
      (pss_cons (ps_set (i := 4) sc_law_does.nd rfl (Or.inl rfl) (pe_op op_mul' (pe_ix ix_seq (pv 0) (pe_ix ix_seq (pv 2) pe_int (fun _ _ => rfl)) (fun _ _ => rfl)) (pe_ix ix_seq (pv 3) pe_int (fun _ _ => rfl))))
      (pss_one (ps_if (pt_cmpR (op_neD hr.units) (pe_op op_mul' (pe_ix ix_seq (pv 0) (pe_ix ix_seq (pv 2) pe_int (fun _ _ => rfl)) (fun _ _ => rfl)) (pe_ix ix_seq (pv 3) pe_int (fun _ _ => rfl))) (pv 4) (nomark _)) (pss_one (ps_ret pe_bl)) pss_nil))))))
      (pss_one (ps_ret pe_bl))))
theorem bd_law_next (T : Txt K mg) : Binds K (fdK K ("_law_next", none)) P_law_next [] := T.F_law_next.bindsN fun _ _ _ _ _ _ us hl => match us, hl with | [_, _], _ => rfl
set_option maxHeartbeats 4000000 in
theorem ok_law_next (T : Txt K mg) : FnOk P w K mg base (L2.CX P w) 1 (fA K "_law_next") (fdK K ("_law_next", none)) P_law_next (FS K (sp_law_next K)) := by
  refine T.F_law_next.ok sc_law_next (fun vs H Q E h => fs_len h sp_len_law_next) (fun cdv A outer s H vs Q E hr h => ⟨t_law_next K (fun c d _ H' => E c d H'), ?_, fs_run h (w_law_next  _)⟩)
  exact (pss_cons (ps_if (pt_cmpR op_gt' (pe_ix ix_seq (pv 0) pe_int (fun _ _ => rfl)) pe_int (nomark _)) (pss_cons (ps_set (i := 2) sc_law_next.nd rfl (Or.inl rfl) (pe_op op_mod' (pe_ix ix_seq (pv 0) pe_int (fun _ _ => rfl)) (pv 1)))
      (pss_cons (ps_asg (pe_op op_fdiv' (pe_ix ix_seq (pv 0) pe_int (fun _ _ => rfl)) (pv 1)) (pg_sub (pv 0) pe_int set_list))
      (pss_one (ps_ret (pv 2))))) pss_nil)
      (pss_cons (ps_asg (pe_op op_addX (pe_ix ix_seq (pv 0) pe_int (fun _ _ => rfl)) pe_int) (pg_sub (pv 0) pe_int set_list))
      (pss_cons (ps_set (i := 3) sc_law_next.nd rfl (Or.inl rfl) (pe_op op_mod' (pe_op op_addX (pe_ix ix_seq (pv 0) pe_int (fun _ _ => rfl)) (pe_op op_mul' pe_int (pe_ix ix_seq (pv 0) pe_int (fun _ _ => rfl)))) pe_int))
      (pss_cons (ps_set (i := 4) sc_law_next.nd rfl (Or.inl rfl) (pe_op op_mod' (pe_op op_mul' (pe_op op_addX (pv 3) pe_int) (pe_op op_addX (pv 3) pe_int)) pe_int))
      (pss_one (ps_ret (pe_op op_mod' (pe_op op_fdiv' (pe_op op_mod' (pe_op op_mul' (pv 4) (pv 4)) pe_int) pe_int) (pv 1))))))))
theorem bd_law_meeting (T : Txt K mg) : Binds K (fdK K ("_law_meeting", none)) P_law_meeting [] := T.F_law_meeting.bindsN fun _ _ _ _ _ _ us hl => match us, hl with | [_, _, _, _, _, _], _ => rfl
set_option maxHeartbeats 4000000 in
theorem ok_law_meeting (T : Txt K mg) : FnOk P w K mg base (L2.CX P w) 4 (fA K "_law_meeting") (fdK K ("_law_meeting", none)) P_law_meeting (FS K (sp_law_meeting K)) := by
  refine T.F_law_meeting.ok sc_law_meeting (fun vs H Q E h => fs_len h sp_len_law_meeting) (fun cdv A outer s H vs Q E hr h => ⟨t_law_meeting K (fun c d _ H' => E c d H'), ?_, fs_run h (w_law_meeting  _)⟩)
  exact (pss_cons (ps_set (i := 6) sc_law_meeting.nd rfl (Or.inl rfl) (pe_call (ok_law_minus T) (hr.mono (by decide)) rfl T.m_law_minus T.F_law_minus.kp (bd_law_minus T) .nil passL (pa_cons (pv 4) (pa_cons (pv 5) pa_nil))))
      (pss_cons (ps_set (i := 7) sc_law_meeting.nd rfl (Or.inl rfl) (pe_call (ok_law_minus T) (hr.mono (by decide)) rfl T.m_law_minus T.F_law_minus.kp (bd_law_minus T) .nil passL (pa_cons (pv 4) (pa_cons (pe_call (ok_law_product T) (hr.mono (by decide)) rfl T.m_law_product T.F_law_product.kp (bd_law_product T) .nil passL (pa_cons (pv 6) (pa_cons (pe_call (ok_law_lowest T) (hr.mono (by decide)) rfl T.m_law_lowest T.F_law_lowest.kp (bd_law_lowest T) .nil passL (pa_cons (pe_op op_mul' pe_int (pv 3)) (pa_cons (pe_op op_addX (pv 2) (pv 3)) pa_nil))) pa_nil))) pa_nil))))
      (pss_cons (ps_set (i := 8) sc_law_meeting.nd rfl (Or.inl rfl) (pe_call (ok_law_sum T) (hr.mono (by decide)) rfl T.m_law_sum T.F_law_sum.kp (bd_law_sum T) .nil passL (pa_cons (pv 5) (pa_cons (pe_call (ok_law_product T) (hr.mono (by decide)) rfl T.m_law_product T.F_law_product.kp (bd_law_product T) .nil passL (pa_cons (pv 6) (pa_cons (pe_call (ok_law_lowest T) (hr.mono (by decide)) rfl T.m_law_lowest T.F_law_lowest.kp (bd_law_lowest T) .nil passL (pa_cons (pe_op op_mul' pe_int (pv 2)) (pa_cons (pe_op op_addX (pv 2) (pv 3)) pa_nil))) pa_nil))) pa_nil))))
      (pss_one (ps_ret (pe_tup (pa_cons (pv 0) (pa_cons (pv 1) (pa_cons (pv 4) (pa_cons (pv 5) (pa_cons (pv 7) (pa_cons (pv 8) pa_nil))))))))))))
theorem bd_law_far (T : Txt K mg) : Binds K (fdK K ("_law_far", none)) P_law_far [] := T.F_law_far.bindsN fun _ _ _ _ _ _ us hl => match us, hl with | [_], _ => rfl
set_option maxHeartbeats 4000000 in
theorem ok_law_far (T : Txt K mg) : FnOk P w K mg base (L2.CX P w) 2 (fA K "_law_far") (fdK K ("_law_far", none)) P_law_far (FS K (sp_law_far K)) := by
  refine T.F_law_far.ok sc_law_far (fun vs H Q E h => fs_len h sp_len_law_far) (fun cdv A outer s H vs Q E hr h => ⟨t_law_far K (fun c d _ H' => E c d H'), ?_, fs_run h (w_law_far  _)⟩)
  exact (pss_cons (ps_set (i := 1) sc_law_far.nd rfl (Or.inl rfl) pe_int)
      (pss_cons (ps_for (passes_of rfl) rfl (pi_range1 rfl T.z_range (pa_cons (pe_op op_addX pe_int (pe_call (ok_law_next T) (hr.mono (by decide)) rfl T.m_law_next T.F_law_next.kp (bd_law_next T) .nil passL (pa_cons (pv 0) (pa_cons pe_int pa_nil)))) pa_nil)) (pg_name (i := 2) sc_law_far.nd rfl (Or.inl rfl)) (pss_one (ps_set (i := 1) sc_law_far.nd rfl (Or.inl rfl) (pe_op op_addX (pe_op op_mul' (pv 1) (pe_op op_pow' pe_int pe_int)) (pe_call (ok_law_next T) (hr.mono (by decide)) rfl T.m_law_next T.F_law_next.kp (bd_law_next T) .nil passL (pa_cons (pv 0) (pa_cons (pe_op op_pow' pe_int pe_int) pa_nil)))))))
      (pss_one (ps_ret (pv 1)))))
theorem bd_law_ratio (T : Txt K mg) : Binds K (fdK K ("_law_ratio", none)) P_law_ratio [] := T.F_law_ratio.bindsN fun _ _ _ _ _ _ us hl => match us, hl with | [_], _ => rfl
set_option maxHeartbeats 4000000 in
theorem ok_law_ratio (T : Txt K mg) : FnOk P w K mg base (L2.CX P w) 3 (fA K "_law_ratio") (fdK K ("_law_ratio", none)) P_law_ratio (FS K (sp_law_ratio K)) := by
  refine T.F_law_ratio.ok sc_law_ratio (fun vs H Q E h => fs_len h sp_len_law_ratio) (fun cdv A outer s H vs Q E hr h => ⟨t_law_ratio K (fun c d _ H' => E c d H'), ?_, fs_run h (w_law_ratio  _)⟩)
  exact (pss_cons (ps_set (i := 1) sc_law_ratio.nd rfl (Or.inl rfl) (pe_ix ix_seq (pe_lst (pa_cons pe_int (pa_cons pe_int (pa_cons pe_int (pa_cons pe_int (pa_cons pe_int (pa_cons pe_int (pa_cons pe_int (pa_cons pe_int pa_nil))))))))) (pe_call (ok_law_next T) (hr.mono (by decide)) rfl T.m_law_next T.F_law_next.kp (bd_law_next T) .nil passL (pa_cons (pv 0) (pa_cons pe_int pa_nil))) (fun _ _ => rfl)))
      (pss_cons (ps_set (i := 2) sc_law_ratio.nd rfl (Or.inl rfl) (pe_op op_sub' (pe_call (ok_law_next T) (hr.mono (by decide)) rfl T.m_law_next T.F_law_next.kp (bd_law_next T) .nil passL (pa_cons (pv 0) (pa_cons pe_int pa_nil))) pe_int))
      (pss_cons (ps_set (i := 3) sc_law_ratio.nd rfl (Or.inl rfl) (pe_call (ok_law_next T) (hr.mono (by decide)) rfl T.m_law_next T.F_law_next.kp (bd_law_next T) .nil passL (pa_cons (pv 0) (pa_cons pe_int pa_nil))))
      (pss_cons (ps_if (pt_cmpR (op_eqD hr.units) (pv 3) pe_int (nomark _)) (pss_cons (ps_set (i := 2) sc_law_ratio.nd rfl (Or.inl rfl) (pe_op op_mul' (pe_call (ok_law_far T) (hr.mono (by decide)) rfl T.m_law_far T.F_law_far.kp (bd_law_far T) .nil passL (pa_cons (pv 0) pa_nil)) (pe_ix ix_seq (pe_lst (pa_cons pe_int (pa_cons (pe_un un_neg' pe_int) pa_nil))) (pe_call (ok_law_next T) (hr.mono (by decide)) rfl T.m_law_next T.F_law_next.kp (bd_law_next T) .nil passL (pa_cons (pv 0) (pa_cons pe_int pa_nil))) (fun _ _ => rfl))))
      (pss_one (ps_set (i := 1) sc_law_ratio.nd rfl (Or.inl rfl) (pe_op op_addX pe_int (pe_call (ok_law_next T) (hr.mono (by decide)) rfl T.m_law_next T.F_law_next.kp (bd_law_next T) .nil passL (pa_cons (pv 0) (pa_cons pe_int pa_nil))))))) pss_nil)
      (pss_cons (ps_if (pt_cmpR (op_eqD hr.units) (pv 3) pe_int (nomark _)) (pss_one (ps_set (i := 2) sc_law_ratio.nd rfl (Or.inl rfl) pe_int)) pss_nil)
      (pss_one (ps_ret (pe_call (ok_law_lowest T) (hr.mono (by decide)) rfl T.m_law_lowest T.F_law_lowest.kp (bd_law_lowest T) .nil passL (pa_cons (pv 2) (pa_cons (pv 1) pa_nil))))))))))
theorem bd_law_sighting (T : Txt K mg) : Binds K (fdK K ("_law_sighting", none)) P_law_sighting [] := T.F_law_sighting.bindsN fun _ _ _ _ _ _ us hl => match us, hl with | [_, _], _ => rfl
set_option maxHeartbeats 4000000 in
theorem ok_law_sighting (T : Txt K mg) : FnOk P w K mg base (L2.CX P w) 5 (fA K "_law_sighting") (fdK K ("_law_sighting", none)) P_law_sighting (FS K (sp_law_sighting K)) := by
  refine T.F_law_sighting.ok sc_law_sighting (fun vs H Q E h => fs_len h sp_len_law_sighting) (fun cdv A outer s H vs Q E hr h => ⟨t_law_sighting K (fun c d _ H' => E c d H'), ?_, fs_run h (w_law_sighting  _)⟩)
  exact (pss_cons (ps_set (i := 2) sc_law_sighting.nd rfl (Or.inl rfl) (pe_call (ok_law_next T) (hr.mono (by decide)) rfl T.m_law_next T.F_law_next.kp (bd_law_next T) .nil passL (pa_cons (pv 0) (pa_cons (pe_callB call_len' rfl T.z_len (by decide +kernel) (pa_cons (pv 1) pa_nil)) pa_nil))))
      (pss_cons (ps_set (i := 3) sc_law_sighting.nd rfl (Or.inl rfl) (pe_op op_mod' (pe_op op_addX (pe_op op_addX (pv 2) pe_int) (pe_call (ok_law_next T) (hr.mono (by decide)) rfl T.m_law_next T.F_law_next.kp (bd_law_next T) .nil passL (pa_cons (pv 0) (pa_cons (pe_op op_sub' (pe_callB call_len' rfl T.z_len (by decide +kernel) (pa_cons (pv 1) pa_nil)) pe_int) pa_nil)))) (pe_callB call_len' rfl T.z_len (by decide +kernel) (pa_cons (pv 1) pa_nil))))
      (pss_cons (ps_set (i := 4) sc_law_sighting.nd rfl (Or.inl rfl) (pe_call (ok_law_ratio T) (hr.mono (by decide)) rfl T.m_law_ratio T.F_law_ratio.kp (bd_law_ratio T) .nil passL (pa_cons (pv 0) pa_nil)))
      (pss_cons (ps_set (i := 5) sc_law_sighting.nd rfl (Or.inl rfl) (pe_call (ok_law_sum T) (hr.mono (by decide)) rfl T.m_law_sum T.F_law_sum.kp (bd_law_sum T) .nil passL (pa_cons (pv 4) (pa_cons (pe_call (ok_law_lowest T) (hr.mono (by decide)) rfl T.m_law_lowest T.F_law_lowest.kp (bd_law_lowest T) .nil passL (pa_cons (pe_op op_mul' (pe_ix ix_seq (pe_lst (pa_cons (pe_un un_neg' pe_int) (pa_cons pe_int pa_nil))) (pe_call (ok_law_next T) (hr.mono (by decide)) rfl T.m_law_next T.F_law_next.kp (bd_law_next T) .nil passL (pa_cons (pv 0) (pa_cons pe_int pa_nil))) (fun _ _ => rfl)) (pe_op op_addX pe_int (pe_call (ok_law_next T) (hr.mono (by decide)) rfl T.m_law_next T.F_law_next.kp (bd_law_next T) .nil passL (pa_cons (pv 0) (pa_cons pe_int pa_nil))))) (pa_cons (pe_op op_addX pe_int (pe_call (ok_law_next T) (hr.mono (by decide)) rfl T.m_law_next T.F_law_next.kp (bd_law_next T) .nil passL (pa_cons (pv 0) (pa_cons pe_int pa_nil)))) pa_nil))) pa_nil))))
      (pss_one (ps_ret (pe_call (ok_law_meeting T) (hr.mono (by decide)) rfl T.m_law_meeting T.F_law_meeting.kp (bd_law_meeting T) .nil passL (pa_cons (pv 2) (pa_cons (pv 3) (pa_cons (pe_ix ix_seq (pv 1) (pv 2) (fun _ _ => rfl)) (pa_cons (pe_ix ix_seq (pv 1) (pv 3) (fun _ _ => rfl)) (pa_cons (pv 4) (pa_cons (pv 5) pa_nil)))))))))))))
theorem bd_law_weights (T : Txt K mg) : Binds K (fdK K ("_law_weights", none)) P_law_weights [] := T.F_law_weights.bindsN fun _ _ _ _ _ _ us hl => match us, hl with | [_, _], _ => rfl
set_option maxHeartbeats 4000000 in
theorem ok_law_weights (T : Txt K mg) : FnOk P w K mg base (L2.CX P w) 2 (fA K "_law_weights") (fdK K ("_law_weights", none)) P_law_weights (FS K (sp_law_weights K)) := by
  refine T.F_law_weights.ok sc_law_weights (fun vs H Q E h => fs_len h sp_len_law_weights) (fun cdv A outer s H vs Q E hr h => ⟨t_law_weights K (fun c d _ H' => E c d H'), ?_, fs_run h (w_law_weights  _)⟩)
  exact (pss_one (ps_ret (pe_lc (own := [("k", 2)]) (g := (gName 2)) (tt := tYes) rfl sc_law_weights.nd (pi_range1 rfl T.z_range (pa_cons (pv 1) pa_nil)) (blkOk_by (N := N_law_weights) (sc := defScope s_law_weights) (by decide +kernel)) (fun _ _ _ _ _ => (pg_name (i := 2) sc_law_weights.nd rfl (Or.inl rfl))) (fun _ _ _ _ _ => pts_nil) (fun _ _ _ _ _ => (pe_ix ix_seq (pe_lst (pa_cons (pe_op op_addX pe_int (pe_call (ok_law_next T) (hr.mono (by decide)) rfl T.m_law_next T.F_law_next.kp (bd_law_next T) .nil passL (pa_cons (pv 0) (pa_cons pe_int pa_nil)))) (pa_cons (pe_op op_addX pe_int (pe_call (ok_law_next T) (hr.mono (by decide)) rfl T.m_law_next T.F_law_next.kp (bd_law_next T) .nil passL (pa_cons (pv 0) (pa_cons pe_int pa_nil)))) pa_nil))) (pe_call (ok_law_next T) (hr.mono (by decide)) rfl T.m_law_next T.F_law_next.kp (bd_law_next T) .nil passL (pa_cons (pv 0) (pa_cons pe_int pa_nil))) (fun _ _ => rfl))))))
theorem bd_law_drawn (T : Txt K mg) : Binds K (fdK K ("_law_drawn", none)) P_law_drawn [] := T.F_law_drawn.bindsN fun _ _ _ _ _ _ us hl => match us, hl with | [_, _], _ => rfl
set_option maxHeartbeats 4000000 in
theorem ok_law_drawn (T : Txt K mg) : FnOk P w K mg base (L2.CX P w) 6 (fA K "_law_drawn") (fdK K ("_law_drawn", none)) P_law_drawn (FS K (sp_law_drawn K)) := by
  refine T.F_law_drawn.ok sc_law_drawn (fun vs H Q E h => fs_len h sp_len_law_drawn) (fun cdv A outer s H vs Q E hr h => ⟨t_law_drawn K (fun c d _ H' => E c d H'), ?_, fs_run h (w_law_drawn  _)⟩)
  exact (pss_cons (ps_set (i := 2) sc_law_drawn.nd rfl (Or.inl rfl) (pe_call (ok_law_weights T) (hr.mono (by decide)) rfl T.m_law_weights T.F_law_weights.kp (bd_law_weights T) .nil passL (pa_cons (pe_call (ok_law_dig T) (hr.mono (by decide)) rfl T.m_law_dig T.F_law_dig.kp (bd_law_dig T) .nil passL (pa_cons (pe_op op_addX (pe_call (ok_law_cell T) (hr.mono (by decide)) rfl T.m_law_cell T.F_law_cell.kp (bd_law_cell T) .nil passL (pa_cons (pv 0) (pa_cons pe_int pa_nil))) pe_int) pa_nil)) (pa_cons (pv 1) pa_nil))))
      (pss_cons (ps_set (i := 3) sc_law_drawn.nd rfl (Or.inl rfl) (pe_lst pa_nil))
      (pss_cons (ps_for (passes_of rfl) rfl (pi_range2 rfl T.z_range (pa_cons pe_int (pa_cons (pe_callB (call_max' rfl) rfl T.z_max (by decide +kernel) (pa_cons pe_int (pa_cons (pe_callB (call_min' rfl) rfl T.z_min (by decide +kernel) (pa_cons pe_int (pa_cons (pe_callB call_len' rfl T.z_len (by decide +kernel) (pa_cons (pv 0) pa_nil)) pa_nil))) pa_nil))) pa_nil))) (pg_name (i := 4) sc_law_drawn.nd rfl (Or.inl rfl)) (pss_cons (ps_set (i := 5) sc_law_drawn.nd rfl (Or.inl rfl) (pe_call (ok_law_dig T) (hr.mono (by decide)) rfl T.m_law_dig T.F_law_dig.kp (bd_law_dig T) .nil passL (pa_cons (pe_call (ok_law_cell T) (hr.mono (by decide)) rfl T.m_law_cell T.F_law_cell.kp (bd_law_cell T) .nil passL (pa_cons (pv 0) (pa_cons (pv 4) pa_nil))) pa_nil)))
      (pss_cons (ps_set (i := 6) sc_law_drawn.nd rfl (Or.inl rfl) (pe_callTy call_list' rfl T.z_list (by decide +kernel) (pa_cons (pv 2) pa_nil)))
      (pss_cons (ps_if (pt_cmpR (op_eqD hr.units) (pe_call (ok_law_next T) (hr.mono (by decide)) rfl T.m_law_next T.F_law_next.kp (bd_law_next T) .nil passL (pa_cons (pv 5) (pa_cons pe_int pa_nil))) pe_int (nomark _)) (pss_one (ps_asg (pe_op op_addX pe_int (pe_call (ok_law_next T) (hr.mono (by decide)) rfl T.m_law_next T.F_law_next.kp (bd_law_next T) .nil passL (pa_cons (pv 5) (pa_cons pe_int pa_nil)))) (pg_sub (pv 6) (pe_call (ok_law_next T) (hr.mono (by decide)) rfl T.m_law_next T.F_law_next.kp (bd_law_next T) .nil passL (pa_cons (pv 5) (pa_cons (pv 1) pa_nil))) set_list))) pss_nil)
      (pss_one (ps_expr (pe_bm PySem.F.plainAttrs_list PySem.F.slot_list_append PySem.F.type_list_append mt_append (pv 3) (pa_cons (pe_call (ok_law_sighting T) (hr.mono (by decide)) rfl T.m_law_sighting T.F_law_sighting.kp (bd_law_sighting T) .nil passL (pa_cons (pv 5) (pa_cons (pv 6) pa_nil))) pa_nil))))))))
      (pss_one (ps_ret (pe_tup (pa_cons (pv 2) (pa_cons (pv 3) pa_nil))))))))
theorem bd_law_is_ring (T : Txt K mg) : Binds K (fdK K ("_law_is_ring", none)) P_law_is_ring [] := T.F_law_is_ring.bindsN fun _ _ _ _ _ _ us hl => match us, hl with | [_, _], _ => rfl
set_option maxHeartbeats 4000000 in
theorem ok_law_is_ring (T : Txt K mg) : FnOk P w K mg base (L2.CX P w) 5 (fA K "_law_is_ring") (fdK K ("_law_is_ring", none)) P_law_is_ring (FS K (sp_law_is_ring K)) := by
  refine T.F_law_is_ring.ok sc_law_is_ring (fun vs H Q E h => fs_len h sp_len_law_is_ring) (fun cdv A outer s H vs Q E hr h => ⟨t_law_is_ring K (fun c d _ H' => E c d H'), ?_, fs_run h (w_law_is_ring  _)⟩)
  exact (pss_cons (ps_set (i := 2) sc_law_is_ring.nd rfl (Or.inr rfl) (pe_lst pa_nil))
      (pss_cons (ps_asg (pe_tup (pa_cons pe_int (pa_cons pe_int pa_nil))) (pg_tup rfl (pgs_cons (pg_name (i := 3) sc_law_is_ring.nd rfl (Or.inl rfl)) (pgs_cons (pg_name (i := 4) sc_law_is_ring.nd rfl (Or.inl rfl)) pgs_nil))))
      (pss_cons (ps_for (passes_of rfl) rfl (pi_seq (pv 1)) (pg_tup rfl (pgs_cons (pg_name (i := 5) sc_law_is_ring.nd rfl (Or.inl rfl)) (pgs_cons (pg_name (i := 6) sc_law_is_ring.nd rfl (Or.inl rfl)) pgs_nil))) (pss_cons (ps_if (PW.pt (pw_or (pt_not (pt_chain op_le' op_lt' pe_int (pv 5) (pe_callB call_len' rfl T.z_len (by decide +kernel) (pa_cons (pv 0) pa_nil)))) (pw_or (pt_cmpR (op_niA hr.units) (pv 6) (pe_tup (pa_cons pe_int (pa_cons pe_int pa_nil))) rfl) (pw_or1 (pt_cmpR op_isN' (pe_call (ok_law_share T) (hr.mono (by decide)) rfl T.m_law_share T.F_law_share.kp (bd_law_share T) .nil passL (pa_cons (pe_ix ix_seq (pv 0) (pv 5) (fun _ _ => rfl)) pa_nil)) pe_non (nomark _)))))) (pss_one (ps_ret pe_bl)) pss_nil)
      (pss_cons (ps_set (i := 7) sc_law_is_ring.nd rfl (Or.inl rfl) (pe_call (ok_law_share T) (hr.mono (by decide)) rfl T.m_law_share T.F_law_share.kp (bd_law_share T) .nil passL (pa_cons (pe_ix ix_seq (pv 0) (pv 5) (fun _ _ => rfl)) pa_nil)))
      (pss_cons (ps_expr (pe_bm PySem.F.plainAttrs_list PySem.F.slot_list_append PySem.F.type_list_append mt_append (pv 2) (pa_cons (pe_tup (pa_cons (pe_ix ix_seq (pe_ix ix_seq (pv 0) (pv 5) (fun _ _ => rfl)) (pv 6) (fun _ _ => rfl)) (pa_cons (pe_ix ix_seq (pe_ix ix_seq (pv 0) (pv 5) (fun _ _ => rfl)) (pe_op op_sub' pe_int (pv 6)) (fun _ _ => rfl)) pa_nil))) pa_nil)))
      (pss_one (ps_par rfl sc_law_is_ring.nd (i := 3) (j := 4) rfl rfl (by decide) rfl rfl (pa_cons (pe_op op_mul' (pv 3) (pe_ix ix_seq (pv 7) (pv 6) (fun _ _ => rfl))) (pa_cons (pe_op op_mul' (pv 4) (pe_ix ix_seq (pv 7) (pe_op op_sub' pe_int (pv 6)) (fun _ _ => rfl))) pa_nil)) (by rfl)))))))
      (pss_cons (ps_if (PW.pt (pw_or (pt_cmpR (op_eqD hr.units) (pv 2) (pe_lst pa_nil) (nomark _)) (pw_or1 (pt_cmpR (op_eqD hr.units) (pv 3) (pv 4) (nomark _))))) (pss_one (ps_ret pe_bl)) pss_nil)
      (pss_one (ps_ret (pe_callB (cr_all rfl) rfl T.z_all (by decide +kernel) (pa_cons (pe_lc (own := [("at", 8)]) (g := (gName 8)) (tt := tYes) rfl sc_law_is_ring.nd (pi_range1 rfl T.z_range (pa_cons (pe_callB call_len' rfl T.z_len (by decide +kernel) (pa_cons (pv 2) pa_nil)) pa_nil)) (blkOk_by (N := N_law_is_ring) (sc := defScope s_law_is_ring) (by decide +kernel)) (fun _ _ _ _ _ => (pg_name (i := 8) sc_law_is_ring.nd rfl (Or.inl rfl))) (fun _ _ _ _ _ => pts_nil) (fun _ _ _ _ _ => (pe_cmpR (op_eqD hr.units) (pe_ix ix_seq (pe_ix ix_seq (pv 2) (pe_op op_sub' (pv 8) pe_int) (fun _ _ => rfl)) pe_int (fun _ _ => rfl)) (pe_ix ix_seq (pe_ix ix_seq (pv 2) (pv 8) (fun _ _ => rfl)) pe_int (fun _ _ => rfl)) (nomark _)))) pa_nil))))))))
theorem bd_divisor_of (T : Txt K mg) : Binds K (fdK K ("divisor_of", none)) P_divisor_of [] := T.F_divisor_of.bindsN fun _ _ _ _ _ _ us hl => match us, hl with | [_, _], _ => rfl
set_option maxHeartbeats 4000000 in
theorem ok_divisor_of (T : Txt K mg) : FnOk P w K mg base (L2.CX P w) 1 (fA K "divisor_of") (fdK K ("divisor_of", none)) P_divisor_of (FS K (sp_divisor_of K)) := by
  refine T.F_divisor_of.ok sc_divisor_of (fun vs H Q E h => fs_len h sp_len_divisor_of) (fun cdv A outer s H vs Q E hr h => ⟨t_divisor_of K (fun c d _ H' => E c d H'), ?_, fs_run h (w_divisor_of  _)⟩)
  exact (pss_cons (ps_while (passes_of rfl) (pt_cmpR (op_neD hr.units) (pv 1) pe_int (nomark _)) (pss_one (ps_par rfl sc_divisor_of.nd (i := 0) (j := 1) rfl rfl (by decide) rfl rfl (pa_cons (pv 1) (pa_cons (pe_op op_mod' (pv 0) (pv 1)) pa_nil)) (by rfl))))
      (pss_one (ps_ret (pe_callB call_abs' rfl T.z_abs (by decide +kernel) (pa_cons (pv 0) pa_nil)))))
theorem bd_is_whole (T : Txt K mg) : Binds K (fdK K ("is_whole", none)) P_is_whole [] := T.F_is_whole.bindsN fun _ _ _ _ _ _ us hl => match us, hl with | [_], _ => rfl
set_option maxHeartbeats 4000000 in
theorem ok_is_whole (T : Txt K mg) : FnOk P w K mg base (L2.CX P w) 1 (fA K "is_whole") (fdK K ("is_whole", none)) P_is_whole (FS K (sp_is_whole K)) := by
  refine T.F_is_whole.ok sc_is_whole (fun vs H Q E h => fs_len h sp_len_is_whole) (fun cdv A outer s H vs Q E hr h => ⟨t_is_whole K (fun c d _ H' => E c d H'), ?_, fs_run h (w_is_whole  _)⟩)
  exact (pss_one (ps_ret (pe_and (pe_callB call_isi rfl T.z_isinstance (by decide +kernel) (pa_cons (pv 0) (pa_cons (pe_bltn (v := .ty "int") rfl T.z_int (by decide +kernel) rfl) pa_nil))) (pe_one (pe_not (pe_callB call_isi rfl T.z_isinstance (by decide +kernel) (pa_cons (pv 0) (pa_cons (pe_bltn (v := .ty "bool") rfl T.z_bool (by decide +kernel) rfl) pa_nil))))))))
theorem bd_ratio (T : Txt K mg) : Binds K (fdK K ("ratio", none)) P_ratio [] := by
  obtain ⟨ds, v, b⟩ := T.F_ratio.binds1 (ps := P_ratio) 2 1 (by simp) rfl (fun _ _ _ _ _ _ _ us its h1 h2 => match us, its, h1, h2 with | [_, _], [_], _, _ => ⟨_, rfl, rfl⟩)
  cases v
  exact b
theorem bdD_ratio (T : Txt K mg) : ∃ ds, Vals [.int 1] ds ∧ Binds K (fdK K ("ratio", none)) P_ratio ds := T.F_ratio.binds1 1 0 (by simp) rfl (fun _ _ _ _ _ _ _ us its h1 h2 => match us, its, h1, h2 with | [_], [_], _, _ => ⟨_, rfl, rfl⟩)
set_option maxHeartbeats 4000000 in
theorem ok_ratio (T : Txt K mg) : FnOk P w K mg base (L2.CX P w) 2 (fA K "ratio") (fdK K ("ratio", none)) P_ratio (FS K (sp_ratio K)) := by
  refine T.F_ratio.ok sc_ratio (fun vs H Q E h => fs_len h sp_len_ratio) (fun cdv A outer s H vs Q E hr h => ⟨t_ratio K (fun c d _ H' => E c d H'), ?_, fs_run h (w_ratio  _)⟩)
  exact (pss_cons (ps_if (PW.pt (pw_or (pt_not (pt_val (pe_call (ok_is_whole T) (hr.mono (by decide)) rfl T.m_is_whole T.F_is_whole.kp (bd_is_whole T) .nil passL (pa_cons (pv 0) pa_nil)))) (pw_or (pt_not (pt_val (pe_call (ok_is_whole T) (hr.mono (by decide)) rfl T.m_is_whole T.F_is_whole.kp (bd_is_whole T) .nil passL (pa_cons (pv 1) pa_nil)))) (pw_or1 (pt_cmpR (op_eqD hr.units) (pv 1) pe_int (nomark _)))))) (pss_one (ps_rs rfl (takes_of rfl rfl rfl rfl) T.xc_NoRatio rfl)) pss_nil)
      (pss_cons (ps_set (i := 2) sc_ratio.nd rfl (Or.inl rfl) (pe_call (ok_divisor_of T) (hr.mono (by decide)) rfl T.m_divisor_of T.F_divisor_of.kp (bd_divisor_of T) .nil passL (pa_cons (pv 0) (pa_cons (pv 1) pa_nil))))
      (pss_cons (ps_if (pt_cmpR op_lt' (pv 1) pe_int (nomark _)) (pss_one (ps_set (i := 2) sc_ratio.nd rfl (Or.inl rfl) (pe_op op_sub' pe_int (pv 2)))) pss_nil)
      (pss_one (ps_ret (pe_tup (pa_cons (pe_op op_fdiv' (pv 0) (pv 2)) (pa_cons (pe_op op_fdiv' (pv 1) (pv 2)) pa_nil))))))))
theorem bd_minus (T : Txt K mg) : Binds K (fdK K ("minus", none)) P_minus [] := T.F_minus.bindsN fun _ _ _ _ _ _ us hl => match us, hl with | [_, _], _ => rfl
set_option maxHeartbeats 4000000 in
theorem ok_minus (T : Txt K mg) : FnOk P w K mg base (L2.CX P w) 3 (fA K "minus") (fdK K ("minus", none)) P_minus (FS K (sp_minus K)) := by
  refine T.F_minus.ok sc_minus (fun vs H Q E h => fs_len h sp_len_minus) (fun cdv A outer s H vs Q E hr h => ⟨t_minus K (fun c d _ H' => E c d H'), ?_, fs_run h (w_minus  _)⟩)
  exact (pss_one (ps_ret (pe_call (ok_ratio T) (hr.mono (by decide)) rfl T.m_ratio T.F_ratio.kp (bd_ratio T) .nil passL (pa_cons (pe_op op_sub' (pe_op op_mul' (pe_ix ix_seq (pv 0) pe_int (fun _ _ => rfl)) (pe_ix ix_seq (pv 1) pe_int (fun _ _ => rfl))) (pe_op op_mul' (pe_ix ix_seq (pv 1) pe_int (fun _ _ => rfl)) (pe_ix ix_seq (pv 0) pe_int (fun _ _ => rfl)))) (pa_cons (pe_op op_mul' (pe_ix ix_seq (pv 0) pe_int (fun _ _ => rfl)) (pe_ix ix_seq (pv 1) pe_int (fun _ _ => rfl))) pa_nil)))))
theorem bd_changes (T : Txt K mg) : Binds K (fdK K ("changes", none)) P_changes [] := T.F_changes.bindsN fun _ _ _ _ _ _ us hl => match us, hl with | [_], _ => rfl
set_option maxHeartbeats 4000000 in
theorem ok_changes (T : Txt K mg) : FnOk P w K mg base (L2.CX P w) 4 (fA K "changes") (fdK K ("changes", none)) P_changes (FS K (sp_changes K)) := by
  refine T.F_changes.ok sc_changes (fun vs H Q E h => fs_len h sp_len_changes) (fun cdv A outer s H vs Q E hr h => ⟨t_changes K (fun c d _ H' => E c d H'), ?_, fs_run h (w_changes  _)⟩)
  exact (pss_cons (ps_asg (pv 0) (pg_tup rfl (pgs_cons (pg_name (i := 1) sc_changes.nd rfl (Or.inl rfl)) (pgs_cons (pg_name (i := 2) sc_changes.nd rfl (Or.inl rfl)) (pgs_cons (pg_name (i := 3) sc_changes.nd rfl (Or.inl rfl)) (pgs_cons (pg_name (i := 4) sc_changes.nd rfl (Or.inl rfl)) (pgs_cons (pg_name (i := 5) sc_changes.nd rfl (Or.inl rfl)) (pgs_cons (pg_name (i := 6) sc_changes.nd rfl (Or.inl rfl)) pgs_nil))))))))
      (pss_one (ps_ret (pe_tup (pa_cons (pe_call (ok_minus T) (hr.mono (by decide)) rfl T.m_minus T.F_minus.kp (bd_minus T) .nil passL (pa_cons (pv 3) (pa_cons (pv 5) pa_nil))) (pa_cons (pe_call (ok_minus T) (hr.mono (by decide)) rfl T.m_minus T.F_minus.kp (bd_minus T) .nil passL (pa_cons (pv 6) (pa_cons (pv 4) pa_nil))) pa_nil))))))
theorem bd_is_rebound (T : Txt K mg) : Binds K (fdK K ("is_rebound", none)) P_is_rebound [] := T.F_is_rebound.bindsN fun _ _ _ _ _ _ us hl => match us, hl with | [_], _ => rfl
set_option maxHeartbeats 4000000 in
theorem ok_is_rebound (T : Txt K mg) : FnOk P w K mg base (L2.CX P w) 4 (fA K "is_rebound") (fdK K ("is_rebound", none)) P_is_rebound (FS K (sp_is_rebound K)) := by
  refine T.F_is_rebound.ok sc_is_rebound (fun vs H Q E h => fs_len h sp_len_is_rebound) (fun cdv A outer s H vs Q E hr h => ⟨t_is_rebound K (fun c d _ H' => E c d H'), ?_, fs_run h (w_is_rebound  _)⟩)
  exact (pss_cons (ps_asg (pv 0) (pg_tup rfl (pgs_cons (pg_name (i := 1) sc_is_rebound.nd rfl (Or.inl rfl)) (pgs_cons (pg_name (i := 2) sc_is_rebound.nd rfl (Or.inl rfl)) (pgs_cons (pg_name (i := 3) sc_is_rebound.nd rfl (Or.inl rfl)) (pgs_cons (pg_name (i := 4) sc_is_rebound.nd rfl (Or.inl rfl)) (pgs_cons (pg_name (i := 5) sc_is_rebound.nd rfl (Or.inl rfl)) (pgs_cons (pg_name (i := 6) sc_is_rebound.nd rfl (Or.inl rfl)) pgs_nil))))))))
      (pss_one (ps_ret (pe_and (pe_cmpR (op_neD hr.units) (pv 3) (pv 4) (nomark _)) (pe_one (pe_cmpR (op_eqD hr.units) (pe_call (ok_minus T) (hr.mono (by decide)) rfl T.m_minus T.F_minus.kp (bd_minus T) .nil passL (pa_cons (pv 6) (pa_cons (pv 5) pa_nil))) (pe_call (ok_minus T) (hr.mono (by decide)) rfl T.m_minus T.F_minus.kp (bd_minus T) .nil passL (pa_cons (pv 3) (pa_cons (pv 4) pa_nil))) (nomark _)))))))
theorem bd_times (T : Txt K mg) : Binds K (fdK K ("times", none)) P_times [] := T.F_times.bindsN fun _ _ _ _ _ _ us hl => match us, hl with | [_, _], _ => rfl
set_option maxHeartbeats 4000000 in
theorem ok_times (T : Txt K mg) : FnOk P w K mg base (L2.CX P w) 3 (fA K "times") (fdK K ("times", none)) P_times (FS K (sp_times K)) := by
  refine T.F_times.ok sc_times (fun vs H Q E h => fs_len h sp_len_times) (fun cdv A outer s H vs Q E hr h => ⟨t_times K (fun c d _ H' => E c d H'), ?_, fs_run h (w_times  _)⟩)
  exact (pss_one (ps_ret (pe_call (ok_ratio T) (hr.mono (by decide)) rfl T.m_ratio T.F_ratio.kp (bd_ratio T) .nil passL (pa_cons (pe_op op_mul' (pe_ix ix_seq (pv 0) pe_int (fun _ _ => rfl)) (pe_ix ix_seq (pv 1) pe_int (fun _ _ => rfl))) (pa_cons (pe_op op_mul' (pe_ix ix_seq (pv 0) pe_int (fun _ _ => rfl)) (pe_ix ix_seq (pv 1) pe_int (fun _ _ => rfl))) pa_nil)))))
theorem bd_is_done (T : Txt K mg) : Binds K (fdK K ("is_done", none)) P_is_done [] := T.F_is_done.bindsN fun _ _ _ _ _ _ us hl => match us, hl with | [_, _], _ => rfl
set_option maxHeartbeats 4000000 in
theorem ok_is_done (T : Txt K mg) : FnOk P w K mg base (L2.CX P w) 5 (fA K "is_done") (fdK K ("is_done", none)) P_is_done (FS K (sp_is_done K)) := by
  obtain ⟨ds1_ratio, vd1_ratio, bd1_ratio⟩ := bdD_ratio T
  refine T.F_is_done.ok sc_is_done (fun vs H Q E h => fs_len h sp_len_is_done) (fun cdv A outer s H vs Q E hr h => ⟨t_is_done K (fun c d _ H' => E c d H'), ?_, fs_run h (w_is_done  _)⟩)
  exact (pss_cons (ps_asg (pe_call (ok_changes T) (hr.mono (by decide)) rfl T.m_changes T.F_changes.kp (bd_changes T) .nil passL (pa_cons (pv 1) pa_nil)) (pg_tup rfl (pgs_cons (pg_name (i := 2) sc_is_done.nd rfl (Or.inl rfl)) (pgs_cons (pg_name (i := 3) sc_is_done.nd rfl (Or.inl rfl)) pgs_nil))))
      (pss_cons (ps_set (i := 4) sc_is_done.nd rfl (Or.inl rfl) (pe_call (ok_times T) (hr.mono (by decide)) rfl T.m_times T.F_times.kp (bd_times T) .nil passL (pa_cons (pe_call (ok_ratio T) (hr.mono (by decide)) rfl T.m_ratio T.F_ratio.kp bd1_ratio vd1_ratio passL (pa_cons (pe_ix ix_seq (pv 0) (pe_ix ix_seq (pv 1) pe_int (fun _ _ => rfl)) (fun _ _ => rfl)) pa_nil)) (pa_cons (pv 2) pa_nil))))
      (pss_one (ps_ret (pe_and (pe_call (ok_is_rebound T) (hr.mono (by decide)) rfl T.m_is_rebound T.F_is_rebound.kp (bd_is_rebound T) .nil passL (pa_cons (pv 1) pa_nil)) (pe_one (pe_cmpR (op_eqD hr.units) (pv 4) (pe_call (ok_times T) (hr.mono (by decide)) rfl T.m_times T.F_times.kp (bd_times T) .nil passL (pa_cons (pe_call (ok_ratio T) (hr.mono (by decide)) rfl T.m_ratio T.F_ratio.kp bd1_ratio vd1_ratio passL (pa_cons (pe_ix ix_seq (pv 0) (pe_ix ix_seq (pv 1) pe_int (fun _ _ => rfl)) (fun _ _ => rfl)) pa_nil)) (pa_cons (pv 3) pa_nil))) (nomark _))))))))
theorem bd_does_all (T : Txt K mg) : Binds K (fdK K ("does_all", none)) P_does_all [] := T.F_does_all.bindsN fun _ _ _ _ _ _ us hl => match us, hl with | [_, _], _ => rfl
set_option maxHeartbeats 4000000 in
theorem ok_does_all (T : Txt K mg) : FnOk P w K mg base (L2.CX P w) 6 (fA K "does_all") (fdK K ("does_all", none)) P_does_all (FS K (sp_does_all K)) := by
  refine T.F_does_all.ok sc_does_all (fun vs H Q E h => fs_len h sp_len_does_all) (fun cdv A outer s H vs Q E hr h => ⟨t_does_all K (fun c d _ H' => E c d H'), ?_, fs_run h (w_does_all  _)⟩)
  exact (pss_cons (ps_if (pt_not (pt_val (pe_callB (cr_all rfl) rfl T.z_all (by decide +kernel) (pa_cons (pe_lc (own := [("weight", 2)]) (g := (gName 2)) (tt := tYes) rfl sc_does_all.nd (pi_seq (pv 0)) (blkOk_by (N := N_does_all) (sc := defScope s_does_all) (by decide +kernel)) (fun _ _ _ _ _ => (pg_name (i := 2) sc_does_all.nd rfl (Or.inl rfl))) (fun _ _ _ _ _ => pts_nil) (fun _ _ _ _ _ => (pe_cmpR op_ge' (pv 2) pe_int (nomark _)))) pa_nil)))) (pss_one (ps_ret pe_bl)) pss_nil)
      (pss_one (ps_ret (pe_callB (cr_all rfl) rfl T.z_all (by decide +kernel) (pa_cons (pe_lc (own := [("sighting", 3)]) (g := (gName 3)) (tt := tYes) rfl sc_does_all.nd (pi_seq (pv 1)) (blkOk_by (N := N_does_all) (sc := defScope s_does_all) (by decide +kernel)) (fun _ _ _ _ _ => (pg_name (i := 3) sc_does_all.nd rfl (Or.inl rfl))) (fun _ _ _ _ _ => pts_nil) (fun _ _ _ _ _ => (pe_call (ok_is_done T) (hr.mono (by decide)) rfl T.m_is_done T.F_is_done.kp (bd_is_done T) .nil passL (pa_cons (pv 0) (pa_cons (pv 3) pa_nil))))) pa_nil)))))
theorem bd_less (T : Txt K mg) : Binds K (fdK K ("less", none)) P_less [] := T.F_less.bindsN fun _ _ _ _ _ _ us hl => match us, hl with | [_, _], _ => rfl
set_option maxHeartbeats 4000000 in
theorem ok_less (T : Txt K mg) : FnOk P w K mg base (L2.CX P w) 1 (fA K "less") (fdK K ("less", none)) P_less (FS K (sp_less K)) := by
  refine T.F_less.ok sc_less (fun vs H Q E h => fs_len h sp_len_less) (fun cdv A outer s H vs Q E hr h => ⟨t_less K (fun c d _ H' => E c d H'), ?_, fs_run h (w_less  _)⟩)
  exact (pss_one (ps_ret (pe_cmpR op_lt' (pe_op op_mul' (pe_ix ix_seq (pv 0) pe_int (fun _ _ => rfl)) (pe_ix ix_seq (pv 1) pe_int (fun _ _ => rfl))) (pe_op op_mul' (pe_ix ix_seq (pv 1) pe_int (fun _ _ => rfl)) (pe_ix ix_seq (pv 0) pe_int (fun _ _ => rfl))) (nomark _))))
theorem bd_over (T : Txt K mg) : Binds K (fdK K ("over", none)) P_over [] := T.F_over.bindsN fun _ _ _ _ _ _ us hl => match us, hl with | [_, _], _ => rfl
set_option maxHeartbeats 4000000 in
theorem ok_over (T : Txt K mg) : FnOk P w K mg base (L2.CX P w) 3 (fA K "over") (fdK K ("over", none)) P_over (FS K (sp_over K)) := by
  refine T.F_over.ok sc_over (fun vs H Q E h => fs_len h sp_len_over) (fun cdv A outer s H vs Q E hr h => ⟨t_over K (fun c d _ H' => E c d H'), ?_, fs_run h (w_over  _)⟩)
  exact (pss_one (ps_ret (pe_callS (ok_ratio T) (hr.mono (by decide)) rfl T.m_ratio T.F_ratio.kp (bd_ratio T) (fun σ => passAt (takes_of rfl rfl rfl rfl) σ) (pa_cons (pe_op op_mul' (pe_ix ix_seq (pv 0) pe_int (fun _ _ => rfl)) (pe_ix ix_seq (pv 1) pe_int (fun _ _ => rfl))) (pa_cons (pe_op op_mul' (pe_ix ix_seq (pv 0) pe_int (fun _ _ => rfl)) (pe_ix ix_seq (pv 1) pe_int (fun _ _ => rfl))) pa_nil)))))
theorem bd_share_of (T : Txt K mg) : Binds K (fdK K ("share_of", none)) P_share_of [] := T.F_share_of.bindsN fun _ _ _ _ _ _ us hl => match us, hl with | [_], _ => rfl
set_option maxHeartbeats 4000000 in
theorem ok_share_of (T : Txt K mg) : FnOk P w K mg base (L2.CX P w) 5 (fA K "share_of") (fdK K ("share_of", none)) P_share_of (FS K (sp_share_of K)) := by
  refine T.F_share_of.ok sc_share_of (fun vs H Q E h => fs_len h sp_len_share_of) (fun cdv A outer s H vs Q E hr h => ⟨t_share_of K (fun c d _ H' => E c d H'), ?_, fs_run h (w_share_of T.q_NOUGHT _)⟩)
  exact (pss_cons (ps_asg (pe_call (ok_changes T) (hr.mono (by decide)) rfl T.m_changes T.F_changes.kp (bd_changes T) .nil passL (pa_cons (pv 0) pa_nil)) (pg_tup rfl (pgs_cons (pg_name (i := 1) sc_share_of.nd rfl (Or.inl rfl)) (pgs_cons (pg_name (i := 2) sc_share_of.nd rfl (Or.inl rfl)) pgs_nil))))
      (pss_cons (ps_if (PW.pt (pw_or (pt_not (pt_val (pe_call (ok_is_rebound T) (hr.mono (by decide)) rfl T.m_is_rebound T.F_is_rebound.kp (bd_is_rebound T) .nil passL (pa_cons (pv 0) pa_nil)))) (pw_or1 (pt_cmpR (op_eqD hr.units) (pv 2) (pe_glob rfl T.g_NOUGHT rfl) (nomark _))))) (pss_one (ps_ret pe_non)) pss_nil)
      (pss_cons (ps_set (i := 3) sc_share_of.nd rfl (Or.inl rfl) (pe_call (ok_over T) (hr.mono (by decide)) rfl T.m_over T.F_over.kp (bd_over T) .nil passL (pa_cons (pv 1) (pa_cons (pv 2) pa_nil))))
      (pss_cons (ps_if (pt_not (pt_val (pe_call (ok_less T) (hr.mono (by decide)) rfl T.m_less T.F_less.kp (bd_less T) .nil passL (pa_cons (pe_glob rfl T.g_NOUGHT rfl) (pa_cons (pv 3) pa_nil))))) (pss_one (ps_ret pe_non)) pss_nil)
      (pss_one (ps_ret (pv 3)))))))
theorem bd_turned_over (T : Txt K mg) : Binds K (fdK K ("turned_over", none)) P_turned_over [] := T.F_turned_over.bindsN fun _ _ _ _ _ _ us hl => match us, hl with | [_], _ => rfl
set_option maxHeartbeats 4000000 in
theorem ok_turned_over (T : Txt K mg) : FnOk P w K mg base (L2.CX P w) 4 (fA K "turned_over") (fdK K ("turned_over", none)) P_turned_over (FS K (sp_turned_over K)) := by
  refine T.F_turned_over.ok sc_turned_over (fun vs H Q E h => fs_len h sp_len_turned_over) (fun cdv A outer s H vs Q E hr h => ⟨t_turned_over K (fun c d _ H' => E c d H'), ?_, fs_run h (w_turned_over T.q_ONE _)⟩)
  exact (pss_one (ps_ret (pe_call (ok_over T) (hr.mono (by decide)) rfl T.m_over T.F_over.kp (bd_over T) .nil passL (pa_cons (pe_glob rfl T.g_ONE rfl) (pa_cons (pv 0) pa_nil)))))
theorem bd_step_by (T : Txt K mg) : Binds K (fdK K ("step_by", none)) P_step_by [] := T.F_step_by.bindsN fun _ _ _ _ _ _ us hl => match us, hl with | [_, _, _], _ => rfl
set_option maxHeartbeats 4000000 in
theorem ok_step_by (T : Txt K mg) : FnOk P w K mg base (L2.CX P w) 6 (fA K "step_by") (fdK K ("step_by", none)) P_step_by (FS K (sp_step_by K)) := by
  refine T.F_step_by.ok sc_step_by (fun vs H Q E h => fs_len h sp_len_step_by) (fun cdv A outer s H vs Q E hr h => ⟨t_step_by K (fun c d _ H' => E c d H'), ?_, fs_run h (w_step_by  _)⟩)
  exact (pss_cons (ps_asg (pv 2) (pg_tup rfl (pgs_cons (pg_name (i := 3) sc_step_by.nd rfl (Or.inl rfl)) (pgs_cons (pg_name (i := 4) sc_step_by.nd rfl (Or.inl rfl)) pgs_nil))))
      (pss_cons (ps_if (PW.pt (pw_or (pt_cmpR op_lt' (pv 3) pe_int (nomark _)) (pw_or (pt_cmpR op_ge' (pv 3) (pe_callB call_len' rfl T.z_len (by decide +kernel) (pa_cons (pv 1) pa_nil)) (nomark _)) (pw_or1 (pt_cmpR (op_niA hr.units) (pv 4) (pe_tup (pa_cons pe_int (pa_cons pe_int pa_nil))) rfl))))) (pss_one (ps_ret pe_non)) pss_nil)
      (pss_cons (ps_asg (pe_slice sl_seq (pe_ix ix_seq (pv 1) (pv 3) (fun _ _ => rfl)) po_none (po_some pe_int)) (pg_tup rfl (pgs_cons (pg_name (i := 5) sc_step_by.nd rfl (Or.inl rfl)) (pgs_cons (pg_name (i := 6) sc_step_by.nd rfl (Or.inl rfl)) pgs_nil))))
      (pss_cons (ps_set (i := 7) sc_step_by.nd rfl (Or.inl rfl) (pe_call (ok_share_of T) (hr.mono (by decide)) rfl T.m_share_of T.F_share_of.kp (bd_share_of T) .nil passL (pa_cons (pe_ix ix_seq (pv 1) (pv 3) (fun _ _ => rfl)) pa_nil)))
      (pss_cons (ps_if (pt_cmpR op_isN' (pv 7) pe_non (nomark _)) (pss_one (ps_ret pe_non)) pss_nil)
      (pss_cons (ps_if (pt_cmpR (op_eqD hr.units) (pv 4) pe_int (nomark _)) (pss_one (ps_ret (pe_tup (pa_cons (pv 5) (pa_cons (pv 6) (pa_cons (pv 7) pa_nil)))))) pss_nil)
      (pss_one (ps_ret (pe_tup (pa_cons (pv 6) (pa_cons (pv 5) (pa_cons (pe_call (ok_turned_over T) (hr.mono (by decide)) rfl T.m_turned_over T.F_turned_over.kp (bd_turned_over T) .nil passL (pa_cons (pv 7) pa_nil)) pa_nil))))))))))))
theorem bd_lets_ring (T : Txt K mg) : Binds K (fdK K ("lets_ring", none)) P_lets_ring [] := T.F_lets_ring.bindsN fun _ _ _ _ _ _ us hl => match us, hl with | [_, _, _], _ => rfl
set_option maxHeartbeats 4000000 in
theorem ok_lets_ring (T : Txt K mg) : FnOk P w K mg base (L2.CX P w) 7 (fA K "lets_ring") (fdK K ("lets_ring", none)) P_lets_ring (FS K (sp_lets_ring K)) := by
  refine T.F_lets_ring.ok sc_lets_ring (fun vs H Q E h => fs_len h sp_len_lets_ring) (fun cdv A outer s H vs Q E hr h => ⟨t_lets_ring K (fun c d _ H' => E c d H'), ?_, fs_run h (w_lets_ring T.q_ONE _)⟩)
  exact (pss_cons (ps_setLc (i := 3) (own := [("pair", 7)]) (g := (gName 7)) (tt := tYes) rfl sc_lets_ring.nd rfl rfl (sw_true rfl rfl rfl rfl) (pi_seq (pv 2)) (blkOk_by (N := N_lets_ring) (sc := defScope s_lets_ring) (by decide +kernel)) (fun _ _ _ _ _ => (pg_name (i := 7) sc_lets_ring.nd rfl (Or.inl rfl))) (fun _ _ _ _ _ => pts_nil) (fun _ _ _ _ _ => (pe_call (ok_step_by T) (hr.mono (by decide)) rfl T.m_step_by T.F_step_by.kp (bd_step_by T) .nil passL (pa_cons (pv 0) (pa_cons (pv 1) (pa_cons (pv 7) pa_nil))))))
      (pss_cons (ps_if (PW.pt (pw_or (pt_cmpR (op_eqD hr.units) (pv 3) (pe_lst pa_nil) (nomark _)) (pw_or1 (pt_cmpR (op_inA hr.units) pe_non (pv 3) rfl)))) (pss_one (ps_ret pe_bl)) pss_nil)
      (pss_cons (ps_set (i := 4) sc_lets_ring.nd rfl (Or.inl rfl) (pe_glob rfl T.g_ONE rfl))
      (pss_cons (ps_for (passes_of rfl) rfl (pi_zipA rfl T.z_zip (pa_cons (pv 3) (pa_cons (pe_op op_addX (pe_slice sl_seq (pv 3) (po_some pe_int) po_none) (pe_slice sl_seq (pv 3) po_none (po_some pe_int))) pa_nil))) (pg_tup rfl (pgs_cons (pg_name (i := 5) sc_lets_ring.nd rfl (Or.inl rfl)) (pgs_cons (pg_name (i := 6) sc_lets_ring.nd rfl (Or.inl rfl)) pgs_nil))) (pss_cons (ps_if (pt_cmpR (op_neD hr.units) (pe_ix ix_seq (pv 5) pe_int (fun _ _ => rfl)) (pe_ix ix_seq (pv 6) pe_int (fun _ _ => rfl)) (nomark _)) (pss_one (ps_ret pe_bl)) pss_nil)
      (pss_one (ps_set (i := 4) sc_lets_ring.nd rfl (Or.inl rfl) (pe_call (ok_times T) (hr.mono (by decide)) rfl T.m_times T.F_times.kp (bd_times T) .nil passL (pa_cons (pv 4) (pa_cons (pe_ix ix_seq (pv 5) pe_int (fun _ _ => rfl)) pa_nil)))))))
      (pss_one (ps_ret (pe_cmpR (op_neD hr.units) (pv 4) (pe_glob rfl T.g_ONE rfl) (nomark _))))))))
theorem bd_Part_way_home (T : Txt K mg) : Binds K (fdK K ("Part", some "way_home")) P_Part_way_home [] := T.F_Part_way_home.bindsN fun _ _ _ _ _ _ us hl => match us, hl with | [_, _], _ => rfl
set_option maxHeartbeats 4000000 in
theorem ok_Part_way_home (T : Txt K mg) : FnOk P w K mg base (L2.CX P w) 1 (He.fAd K ("Part", some "way_home")) (fdK K ("Part", some "way_home")) P_Part_way_home (FS K (sp_Part_way_home K)) := by
  refine T.F_Part_way_home.ok sc_Part_way_home (fun vs H Q E h => fs_len h sp_len_Part_way_home) (fun cdv A outer s H vs Q E hr h => ⟨t_Part_way_home K (fun c d _ H' => E c d H'), ?_, fs_run h (w_Part_way_home  _)⟩)
  exact (pss_cons (ps_set (i := 2) sc_Part_way_home.nd rfl (Or.inl rfl) (pe_lst pa_nil))
      (pss_cons (ps_while (passes_of rfl) (pt_cmpR op_notN' (pe_dget (Nat.lt_of_le_of_lt (Nat.add_le_add_left (by decide : 1 ≤ 64) _) hr.units) (pe_fldC T.cl_Part T.na_Part_came (pv 0)) (pv 1) (fun _ _ => rfl)) pe_non (nomark _)) (pss_cons (ps_asg (pe_dget (Nat.lt_of_le_of_lt (Nat.add_le_add_left (by decide : 1 ≤ 64) _) hr.units) (pe_fldC T.cl_Part T.na_Part_came (pv 0)) (pv 1) (fun _ _ => rfl)) (pg_tup rfl (pgs_cons (pg_name (i := 3) sc_Part_way_home.nd rfl (Or.inl rfl)) (pgs_cons (pg_name (i := 4) sc_Part_way_home.nd rfl (Or.inl rfl)) (pgs_cons (pg_name (i := 5) sc_Part_way_home.nd rfl (Or.inl rfl)) pgs_nil)))))
      (pss_cons (ps_expr (pe_bm PySem.F.plainAttrs_list PySem.F.slot_list_append PySem.F.type_list_append mt_append (pv 2) (pa_cons (pe_tup (pa_cons (pv 3) (pa_cons (pe_op op_sub' pe_int (pv 4)) pa_nil))) pa_nil)))
      (pss_one (ps_set (i := 1) sc_Part_way_home.nd rfl (Or.inl rfl) (pv 5))))))
      (pss_one (ps_ret (pv 2)))))
theorem bd_Part_way_to (T : Txt K mg) : Binds K (fdK K ("Part", some "way_to")) P_Part_way_to [] := T.F_Part_way_to.bindsN fun _ _ _ _ _ _ us hl => match us, hl with | [_, _], _ => rfl
set_option maxHeartbeats 4000000 in
theorem ok_Part_way_to (T : Txt K mg) : FnOk P w K mg base (L2.CX P w) 2 (He.fAd K ("Part", some "way_to")) (fdK K ("Part", some "way_to")) P_Part_way_to (FS K (sp_Part_way_to K)) := by
  refine T.F_Part_way_to.ok sc_Part_way_to (fun vs H Q E h => fs_len h sp_len_Part_way_to) (fun cdv A outer s H vs Q E hr h => ⟨t_Part_way_to K (fun c d _ H' => E c d H'), ?_, fs_run h (w_Part_way_to  _)⟩)
  exact (pss_cons (ps_setLc (i := 2) (own := [("number", 3), ("way", 4)]) (g := (gTup K 2 (gCons (gName 3) (gCons (gName 4) gNil)))) (tt := tYes) rfl sc_Part_way_to.nd rfl rfl (sw_true rfl rfl rfl rfl) (pi_seq (pe_methE (pv 0) T.cl_Part T.mt_Part_way_home (ok_Part_way_home T) (hr.mono (by decide)) (bd_Part_way_home T) passLS (pa_cons (pv 1) pa_nil))) (blkOk_by (N := N_Part_way_to) (sc := defScope s_Part_way_to) (by decide +kernel)) (fun _ _ _ _ _ => (pg_tup rfl (pgs_cons (pg_name (i := 3) sc_Part_way_to.nd rfl (Or.inl rfl)) (pgs_cons (pg_name (i := 4) sc_Part_way_to.nd rfl (Or.inl rfl)) pgs_nil)))) (fun _ _ _ _ _ => pts_nil) (fun _ _ _ _ _ => (pe_tup (pa_cons (pv 3) (pa_cons (pe_op op_sub' pe_int (pv 4)) pa_nil)))))
      (pss_cons (ps_expr (pe_bm0 PySem.F.plainAttrs_list PySem.F.slot_list_reverse PySem.F.type_list_reverse mt_reverse (pv 2)))
      (pss_one (ps_ret (pv 2)))))
theorem bd_steps_from (T : Txt K mg) : Binds K (fdK K ("steps_from", none)) P_steps_from [] := T.F_steps_from.bindsN fun _ _ _ _ _ _ us hl => match us, hl with | [_, _], _ => rfl
set_option maxHeartbeats 4000000 in
theorem ok_steps_from (T : Txt K mg) : FnOk P w K mg base (L2.CX P w) 6 (fA K "steps_from") (fdK K ("steps_from", none)) P_steps_from (FS K (sp_steps_from K)) := by
  refine T.F_steps_from.ok sc_steps_from (fun vs H Q E h => fs_len h sp_len_steps_from) (fun cdv A outer s H vs Q E hr h => ⟨t_steps_from K (fun c d _ H' => E c d H'), ?_, fs_run h (w_steps_from  _)⟩)
  exact (pss_cons (ps_set (i := 2) sc_steps_from.nd rfl (Or.inl rfl) (pe_lst pa_nil))
      (pss_cons (ps_for (passes_of rfl) rfl (pi_enumB rfl T.z_enumerate (pa_cons (pv 0) pa_nil)) (pg_tup rfl (pgs_cons (pg_name (i := 3) sc_steps_from.nd rfl (Or.inl rfl)) (pgs_cons (pg_name (i := 4) sc_steps_from.nd rfl (Or.inl rfl)) pgs_nil))) (pss_cons (ps_if (pt_cmpR (op_eqD hr.units) (pe_ix ix_seq (pv 4) pe_int (fun _ _ => rfl)) (pv 1) (nomark _)) (pss_one (ps_expr (pe_bm PySem.F.plainAttrs_list PySem.F.slot_list_append PySem.F.type_list_append mt_append (pv 2) (pa_cons (pe_tup (pa_cons (pv 3) (pa_cons pe_int (pa_cons (pe_ix ix_seq (pv 4) pe_int (fun _ _ => rfl)) (pa_cons (pe_call (ok_share_of T) (hr.mono (by decide)) rfl T.m_share_of T.F_share_of.kp (bd_share_of T) .nil passL (pa_cons (pv 4) pa_nil)) pa_nil))))) pa_nil)))) pss_nil)
      (pss_one (ps_if (pt_cmpR (op_eqD hr.units) (pe_ix ix_seq (pv 4) pe_int (fun _ _ => rfl)) (pv 1) (nomark _)) (pss_one (ps_expr (pe_bm PySem.F.plainAttrs_list PySem.F.slot_list_append PySem.F.type_list_append mt_append (pv 2) (pa_cons (pe_tup (pa_cons (pv 3) (pa_cons pe_int (pa_cons (pe_ix ix_seq (pv 4) pe_int (fun _ _ => rfl)) (pa_cons (pe_call (ok_turned_over T) (hr.mono (by decide)) rfl T.m_turned_over T.F_turned_over.kp (bd_turned_over T) .nil passL (pa_cons (pe_call (ok_share_of T) (hr.mono (by decide)) rfl T.m_share_of T.F_share_of.kp (bd_share_of T) .nil passL (pa_cons (pv 4) pa_nil)) pa_nil)) pa_nil))))) pa_nil)))) pss_nil))))
      (pss_one (ps_ret (pv 2)))))
theorem bd_Part_joined (T : Txt K mg) : Binds K (fdK K ("Part", some "joined")) P_Part_joined [] := T.F_Part_joined.bindsN fun _ _ _ _ _ _ us hl => match us, hl with | [_, _], _ => rfl
set_option maxHeartbeats 4000000 in
theorem ok_Part_joined (T : Txt K mg) : FnOk P w K mg base (L2.CX P w) 7 (He.fAd K ("Part", some "joined")) (fdK K ("Part", some "joined")) P_Part_joined (FS K (sp_Part_joined K)) := by
  refine T.F_Part_joined.ok sc_Part_joined (fun vs H Q E h => fs_len h sp_len_Part_joined) (fun cdv A outer s H vs Q E hr h => ⟨t_Part_joined K (fun c d _ H' => E c d H'), ?_, fs_run h (w_Part_joined  _)⟩)
  exact (pss_cons (ps_set (i := 2) sc_Part_joined.nd rfl (Or.inl rfl) (pe_lst pa_nil))
      (pss_cons (ps_for (passes_of rfl) rfl (pi_seq (pe_call (ok_steps_from T) (hr.mono (by decide)) rfl T.m_steps_from T.F_steps_from.kp (bd_steps_from T) .nil passL (pa_cons (pe_fldC T.cl_Part T.na_Part_sightings (pv 0)) (pa_cons (pv 1) pa_nil)))) (pg_tup rfl (pgs_cons (pg_name (i := 3) sc_Part_joined.nd rfl (Or.inl rfl)) (pgs_cons (pg_name (i := 4) sc_Part_joined.nd rfl (Or.inl rfl)) (pgs_cons (pg_name (i := 5) sc_Part_joined.nd rfl (Or.inl rfl)) (pgs_cons (pg_name (i := 6) sc_Part_joined.nd rfl (Or.inl rfl)) pgs_nil))))) (pss_cons (ps_set (i := 7) sc_Part_joined.nd rfl (Or.inl rfl) (pe_call (ok_times T) (hr.mono (by decide)) rfl T.m_times T.F_times.kp (bd_times T) .nil passL (pa_cons (pe_dget (Nat.lt_of_le_of_lt (Nat.add_le_add_left (by decide : 1 ≤ 64) _) hr.units) (pe_fldC T.cl_Part T.na_Part_weights (pv 0)) (pv 1) (fun _ _ => rfl)) (pa_cons (pv 6) pa_nil))))
      (pss_one (ps_if (pt_cmpR (op_niD (Nat.lt_of_le_of_lt (Nat.add_le_add_left (by decide : 1 ≤ 64) _) hr.units)) (pv 5) (pe_fldC T.cl_Part T.na_Part_weights (pv 0)) rfl) (pss_cons (ps_asg (pv 7) (pg_sub (pe_fldC T.cl_Part T.na_Part_weights (pv 0)) (pv 5) (set_dict (Nat.lt_of_le_of_lt (Nat.add_le_add_left (by decide) _) hr.units))))
      (pss_cons (ps_asg (pe_tup (pa_cons (pv 3) (pa_cons (pv 4) (pa_cons (pv 1) pa_nil)))) (pg_sub (pe_fldC T.cl_Part T.na_Part_came (pv 0)) (pv 5) (set_dict (Nat.lt_of_le_of_lt (Nat.add_le_add_left (by decide) _) hr.units))))
      (pss_one (ps_expr (pe_bm PySem.F.plainAttrs_list PySem.F.slot_list_append PySem.F.type_list_append mt_append (pv 2) (pa_cons (pv 5) pa_nil)))))) (pss_one (ps_if (PW.pt (pw_and (pt_cmpR (op_neD hr.units) (pe_dget (Nat.lt_of_le_of_lt (Nat.add_le_add_left (by decide : 1 ≤ 64) _) hr.units) (pe_fldC T.cl_Part T.na_Part_weights (pv 0)) (pv 5) (fun _ _ => rfl)) (pv 7) (nomark _)) (pw_and1 (pt_cmpR op_isN' (pe_fldC T.cl_Part T.na_Part_ring (pv 0)) pe_non (nomark _))))) (pss_one (ps_fldC T.cl_Part T.na_Part_ring (pv 0) (pe_op op_addX (pe_op op_addX (pe_methE (pv 0) T.cl_Part T.mt_Part_way_to (ok_Part_way_to T) (hr.mono (by decide)) (bd_Part_way_to T) passLS (pa_cons (pv 1) pa_nil)) (pe_lst (pa_cons (pe_tup (pa_cons (pv 3) (pa_cons (pv 4) pa_nil))) pa_nil))) (pe_methE (pv 0) T.cl_Part T.mt_Part_way_home (ok_Part_way_home T) (hr.mono (by decide)) (bd_Part_way_home T) passLS (pa_cons (pv 5) pa_nil))))) pss_nil))))))
      (pss_one (ps_ret (pv 2)))))
theorem bd_Part_init (T : Txt K mg) : Binds K (fdK K ("Part", some "__init__")) P_Part_init [] := T.F_Part_init.bindsN fun _ _ _ _ _ _ us hl => match us, hl with | [_, _, _], _ => rfl
set_option maxHeartbeats 4000000 in
theorem ok_Part_init (T : Txt K mg) : FnOk P w K mg base (L2.CX P w) 8 (He.fAd K ("Part", some "__init__")) (fdK K ("Part", some "__init__")) P_Part_init (FS K (sp_Part_init K)) := by
  refine T.F_Part_init.ok sc_Part_init (fun vs H Q E h => fs_len h sp_len_Part_init) (fun cdv A outer s H vs Q E hr h => ⟨t_Part_init K (fun c d _ H' => E c d H'), ?_, fs_run h (w_Part_init T.q_ONE _)⟩)
  exact (pss_cons (ps_fldC T.cl_Part T.na_Part_sightings (pv 0) (pv 1))
      (pss_cons (ps_fldC T.cl_Part T.na_Part_weights (pv 0) (pe_disp (pps_cons (pv 2) (pe_glob rfl T.g_ONE rfl) pps_nil) rfl rfl (by intro z; cases z) (by decide)))
      (pss_cons (ps_fldC T.cl_Part T.na_Part_came (pv 0) (pe_disp (pps_cons (pv 2) pe_non pps_nil) rfl rfl (by intro z; cases z) (by decide)))
      (pss_cons (ps_fldC T.cl_Part T.na_Part_ring (pv 0) pe_non)
      (pss_cons (ps_set (i := 3) sc_Part_init.nd rfl (Or.inl rfl) (pe_lst (pa_cons (pv 2) pa_nil)))
      (pss_one (ps_while (passes_of rfl) (PW.pt (pw_and (pt_cmpR (op_neD hr.units) (pv 3) (pe_lst pa_nil) (nomark _)) (pw_and1 (pt_cmpR op_isN' (pe_fldC T.cl_Part T.na_Part_ring (pv 0)) pe_non (nomark _))))) (pss_cons (ps_set (i := 4) sc_Part_init.nd rfl (Or.inl rfl) (pe_bm PySem.F.plainAttrs_list PySem.F.slot_list_pop PySem.F.type_list_pop mt_popAt (pv 3) (pa_cons pe_int pa_nil)))
      (pss_one (ps_expr (pe_bm PySem.F.plainAttrs_list PySem.F.slot_list_extend PySem.F.type_list_extend mt_extend (pv 3) (pa_cons (pe_methE (pv 0) T.cl_Part T.mt_Part_joined (ok_Part_joined T) (hr.mono (by decide)) (bd_Part_joined T) passLS (pa_cons (pv 4) pa_nil)) pa_nil))))))))))))
theorem bd_Part_whole (T : Txt K mg) : Binds K (fdK K ("Part", some "whole")) P_Part_whole [] := T.F_Part_whole.bindsN fun _ _ _ _ _ _ us hl => match us, hl with | [_], _ => rfl
set_option maxHeartbeats 4000000 in
theorem ok_Part_whole (T : Txt K mg) : FnOk P w K mg base (L2.CX P w) 2 (He.fAd K ("Part", some "whole")) (fdK K ("Part", some "whole")) P_Part_whole (FS K (sp_Part_whole K)) := by
  refine T.F_Part_whole.ok sc_Part_whole (fun vs H Q E h => fs_len h sp_len_Part_whole) (fun cdv A outer s H vs Q E hr h => ⟨t_Part_whole K (fun c d _ H' => E c d H'), ?_, fs_run h (w_Part_whole  _)⟩)
  exact (pss_cons (ps_set (i := 1) sc_Part_whole.nd rfl (Or.inl rfl) pe_int)
      (pss_cons (ps_lock (ps_for (passes_of rfl) rfl (pi_values (pe_fldC T.cl_Part T.na_Part_weights (pv 0))) (pg_name (i := 2) sc_Part_whole.nd rfl (Or.inl rfl)) (pss_one (ps_set (i := 1) sc_Part_whole.nd rfl (Or.inl rfl) (pe_op op_mul' (pv 1) (pe_op op_fdiv' (pe_ix ix_seq (pv 2) pe_int (fun _ _ => rfl)) (pe_call (ok_divisor_of T) (hr.mono (by decide)) rfl T.m_divisor_of T.F_divisor_of.kp (bd_divisor_of T) .nil passL (pa_cons (pe_ix ix_seq (pv 2) pe_int (fun _ _ => rfl)) (pa_cons (pv 1) pa_nil)))))))))
      (pss_cons (ps_set (i := 3) sc_Part_whole.nd rfl (Or.inl rfl) pe_int)
      (pss_cons (ps_lock (ps_for (passes_of rfl) rfl (pi_values (pe_fldC T.cl_Part T.na_Part_weights (pv 0))) (pg_name (i := 2) sc_Part_whole.nd rfl (Or.inl rfl)) (pss_one (ps_set (i := 3) sc_Part_whole.nd rfl (Or.inl rfl) (pe_call (ok_divisor_of T) (hr.mono (by decide)) rfl T.m_divisor_of T.F_divisor_of.kp (bd_divisor_of T) .nil passL (pa_cons (pv 3) (pa_cons (pe_op op_mul' (pe_ix ix_seq (pv 2) pe_int (fun _ _ => rfl)) (pe_op op_fdiv' (pv 1) (pe_ix ix_seq (pv 2) pe_int (fun _ _ => rfl)))) pa_nil)))))))
      (pss_cons (ps_set (i := 4) sc_Part_whole.nd rfl (Or.inl rfl) pe_dnewK)
      (pss_cons (ps_lock (ps_for (passes_of rfl) rfl (pi_items (pe_fldC T.cl_Part T.na_Part_weights (pv 0))) (pg_tup rfl (pgs_cons (pg_name (i := 5) sc_Part_whole.nd rfl (Or.inl rfl)) (pgs_cons (pg_name (i := 2) sc_Part_whole.nd rfl (Or.inl rfl)) pgs_nil))) (pss_one (ps_asg (pe_op op_fdiv' (pe_op op_mul' (pe_ix ix_seq (pv 2) pe_int (fun _ _ => rfl)) (pe_op op_fdiv' (pv 1) (pe_ix ix_seq (pv 2) pe_int (fun _ _ => rfl)))) (pv 3)) (pg_sub (pv 4) (pv 5) (set_dict (Nat.lt_of_le_of_lt (Nat.add_le_add_left (by decide) _) hr.units)))))))
      (pss_one (ps_ret (pv 4)))))))))
theorem bd_weights_of (T : Txt K mg) : Binds K (fdK K ("weights_of", none)) P_weights_of [] := T.F_weights_of.bindsN fun _ _ _ _ _ _ us hl => match us, hl with | [_, _], _ => rfl
set_option maxHeartbeats 4000000 in
theorem ok_weights_of (T : Txt K mg) : FnOk P w K mg base (L2.CX P w) 10 (fA K "weights_of") (fdK K ("weights_of", none)) P_weights_of (FS K (sp_weights_of K)) := by
  refine T.F_weights_of.ok sc_weights_of (fun vs H Q E h => fs_len h sp_len_weights_of) (fun cdv A outer s H vs Q E hr h => ⟨t_weights_of K (fun c d _ H' => E c d H'), ?_, fs_run h (w_weights_of  _)⟩)
  exact (pss_cons (ps_for (passes_of rfl) rfl (pi_enumB rfl T.z_enumerate (pa_cons (pv 1) pa_nil)) (pg_tup rfl (pgs_cons (pg_name (i := 2) sc_weights_of.nd rfl (Or.inl rfl)) (pgs_cons (pg_name (i := 3) sc_weights_of.nd rfl (Or.inl rfl)) pgs_nil))) (pss_one (ps_if (pt_cmpR op_isN' (pe_call (ok_share_of T) (hr.mono (by decide)) rfl T.m_share_of T.F_share_of.kp (bd_share_of T) .nil passL (pa_cons (pv 3) pa_nil)) pe_non (nomark _)) (pss_one (ps_ret (pe_tup (pa_cons pe_str (pa_cons (pv 2) pa_nil))))) pss_nil)))
      (pss_cons (ps_set (i := 4) sc_weights_of.nd rfl (Or.inr rfl) pe_dnewK)
      (pss_cons (ps_for (passes_of rfl) rfl (pi_range1 rfl T.z_range (pa_cons (pv 0) pa_nil)) (pg_name (i := 5) sc_weights_of.nd rfl (Or.inl rfl)) (pss_one (ps_if (pt_cmpR (op_niD (Nat.lt_of_le_of_lt (Nat.add_le_add_left (by decide : 1 ≤ 64) _) hr.units)) (pv 5) (pv 4) rfl) (pss_cons (ps_set (i := 6) sc_weights_of.nd rfl (Or.inl rfl) (pe_make T.mk_Part (ok_Part_init T) (hr.mono (by decide)) rfl T.gw_Part (bd_Part_init T) .nil passL (pa_cons (pv 1) (pa_cons (pv 5) pa_nil))))
      (pss_cons (ps_if (pt_cmpR op_notN' (pe_fldC T.cl_Part T.na_Part_ring (pv 6)) pe_non (nomark _)) (pss_one (ps_ret (pe_tup (pa_cons pe_str (pa_cons (pe_fldC T.cl_Part T.na_Part_ring (pv 6)) pa_nil))))) pss_nil)
      (pss_one (ps_expr (pe_bm PySem.F.plainAttrs_dict PySem.F.slot_dict_update PySem.F.type_dict_update mt_upd (pv 4) (pa_cons (pe_methE0 (pv 6) T.cl_Part T.mt_Part_whole (ok_Part_whole T) (hr.mono (by decide)) (bd_Part_whole T) passLS) pa_nil)))))) pss_nil)))
      (pss_one (ps_ret (pe_tup (pa_cons pe_str (pa_cons (pe_callTy call_tup' rfl T.z_tuple (by decide +kernel) (pa_cons (pe_lc (own := [("ball", 5)]) (g := (gName 5)) (tt := tYes) rfl sc_weights_of.nd (pi_range1 rfl T.z_range (pa_cons (pv 0) pa_nil)) (blkOk_by (N := N_weights_of) (sc := defScope s_weights_of) (by decide +kernel)) (fun _ _ _ _ _ => (pg_name (i := 5) sc_weights_of.nd rfl (Or.inl rfl))) (fun _ _ _ _ _ => pts_nil) (fun _ _ _ _ _ => (pe_dget (Nat.lt_of_le_of_lt (Nat.add_le_add_left (by decide : 1 ≤ 64) _) hr.units) (pv 4) (pv 5) (fun _ _ => rfl)))) pa_nil)) pa_nil))))))))
set_option maxHeartbeats 4000000 in
theorem ok_law (T : Txt K mg) : FnOk P w K mg base (L2.CX P w) 11 (fA K "law") (fdK K ("law", none)) P_law (FS K (sp_law K)) := by
  refine T.F_law.ok sc_law (fun vs H Q E h => fs_len h sp_len_law) (fun cdv A outer s H vs Q E hr h => ⟨t_law K (fun c d _ H' => E c d H'), ?_, fs_run h (w_law  _)⟩)
  exact (pss_cons (ps_set (i := 1) sc_law.nd rfl (Or.inl rfl) (pe_op op_addX pe_int (pe_call (ok_law_next T) (hr.mono (by decide)) rfl T.m_law_next T.F_law_next.kp (bd_law_next T) .nil passL (pa_cons (pe_call (ok_law_dig T) (hr.mono (by decide)) rfl T.m_law_dig T.F_law_dig.kp (bd_law_dig T) .nil passL (pa_cons (pe_call (ok_law_cell T) (hr.mono (by decide)) rfl T.m_law_cell T.F_law_cell.kp (bd_law_cell T) .nil passL (pa_cons (pv 0) (pa_cons pe_int pa_nil))) pa_nil)) (pa_cons pe_int pa_nil)))))
      (pss_cons (ps_asg (pe_call (ok_law_drawn T) (hr.mono (by decide)) rfl T.m_law_drawn T.F_law_drawn.kp (bd_law_drawn T) .nil passL (pa_cons (pv 0) (pa_cons (pv 1) pa_nil))) (pg_tup rfl (pgs_cons (pg_name (i := 2) sc_law.nd rfl (Or.inl rfl)) (pgs_cons (pg_name (i := 3) sc_law.nd rfl (Or.inl rfl)) pgs_nil))))
      (pss_cons (ps_for (passes_of rfl) rfl (pi_range3 rfl T.z_range (pa_cons pe_int (pa_cons (pe_op op_addX (pe_callB call_len' rfl T.z_len (by decide +kernel) (pa_cons (pv 3) pa_nil)) pe_int) (pa_cons (pe_op op_addX pe_int (pe_op op_fdiv' (pe_callB call_len' rfl T.z_len (by decide +kernel) (pa_cons (pv 3) pa_nil)) pe_int)) pa_nil)))) (pg_name (i := 4) sc_law.nd rfl (Or.inl rfl)) (pss_cons (ps_set (i := 5) sc_law.nd rfl (Or.inl rfl) (pe_call (ok_weights_of T) (hr.mono (by decide)) rfl T.m_weights_of T.F_weights_of.kp (bd_weights_of T) .nil passL (pa_cons (pv 1) (pa_cons (pe_slice sl_seq (pv 3) po_none (po_some (pv 4))) pa_nil))))
      (pss_cons (ps_if (pt_cmpR (op_neD hr.units) (pe_ix ix_seq (pv 5) pe_int (fun _ _ => rfl)) (pe_ix ix_seq (pe_lst (pa_cons pe_str (pa_cons pe_str pa_nil))) (pe_callTy call_int' rfl T.z_int (by decide +kernel) (pa_cons (pe_call (ok_law_can T) (hr.mono (by decide)) rfl T.m_law_can T.F_law_can.kp (bd_law_can T) .nil passL (pa_cons (pv 1) (pa_cons (pe_slice sl_seq (pv 3) po_none (po_some (pv 4))) pa_nil))) pa_nil)) (fun _ _ => rfl)) (nomark _)) (pss_one (ps_ret pe_bl)) pss_nil)
      (pss_cons (ps_if (PW.pt (pw_and (pt_cmpR (op_eqD hr.units) (pe_ix ix_seq (pv 5) pe_int (fun _ _ => rfl)) pe_str (nomark _)) (pw_and1 (pt_not (pt_val (pe_call (ok_law_does T) (hr.mono (by decide)) rfl T.m_law_does T.F_law_does.kp (bd_law_does T) .nil passL (pa_cons (pe_ix ix_seq (pv 5) pe_int (fun _ _ => rfl)) (pa_cons (pe_slice sl_seq (pv 3) po_none (po_some (pv 4))) pa_nil)))))))) (pss_one (ps_ret pe_bl)) pss_nil)
      (pss_cons (ps_if (PW.pt (pw_and (pt_cmpR (op_eqD hr.units) (pe_ix ix_seq (pv 5) pe_int (fun _ _ => rfl)) pe_str (nomark _)) (pw_and1 (pt_not (pt_val (pe_call (ok_does_all T) (hr.mono (by decide)) rfl T.m_does_all T.F_does_all.kp (bd_does_all T) .nil passL (pa_cons (pe_ix ix_seq (pv 5) pe_int (fun _ _ => rfl)) (pa_cons (pe_slice sl_seq (pv 3) po_none (po_some (pv 4))) pa_nil)))))))) (pss_one (ps_ret pe_bl)) pss_nil)
      (pss_one (ps_if (pt_cmpR (op_eqD hr.units) (pe_ix ix_seq (pv 5) pe_int (fun _ _ => rfl)) pe_str (nomark _)) (pss_cons (ps_set (i := 6) sc_law.nd rfl (Or.inl rfl) (pe_callTy call_list' rfl T.z_list (by decide +kernel) (pa_cons (pe_ix ix_seq (pv 5) pe_int (fun _ _ => rfl)) pa_nil)))
      (pss_cons (ps_if (PW.pt (pw_or (pt_not (pt_val (pe_call (ok_law_is_ring T) (hr.mono (by decide)) rfl T.m_law_is_ring T.F_law_is_ring.kp (bd_law_is_ring T) .nil passL (pa_cons (pe_slice sl_seq (pv 3) po_none (po_some (pv 4))) (pa_cons (pv 6) pa_nil))))) (pw_or1 (pt_not (pt_val (pe_call (ok_lets_ring T) (hr.mono (by decide)) rfl T.m_lets_ring T.F_lets_ring.kp (bd_lets_ring T) .nil passL (pa_cons (pv 1) (pa_cons (pe_slice sl_seq (pv 3) po_none (po_some (pv 4))) (pa_cons (pe_callTy call_tup' rfl T.z_tuple (by decide +kernel) (pa_cons (pv 6) pa_nil)) pa_nil))))))))) (pss_one (ps_ret pe_bl)) pss_nil)
      (pss_cons (ps_if (pt_not (pt_val (pe_call (ok_lets_ring T) (hr.mono (by decide)) rfl T.m_lets_ring T.F_lets_ring.kp (bd_lets_ring T) .nil passL (pa_cons (pv 1) (pa_cons (pv 3) (pa_cons (pv 6) pa_nil)))))) (pss_one (ps_ret pe_bl)) pss_nil)
      (pss_cons (ps_expr (pe_bm0 PySem.F.plainAttrs_list PySem.F.slot_list_clear PySem.F.type_list_clear mt_clear (pe_ix ix_seq (pv 5) pe_int (fun _ _ => rfl))))
      (pss_one (ps_if (PW.pt (pw_or (pt_cmpR (op_neD hr.units) (pe_call (ok_weights_of T) (hr.mono (by decide)) rfl T.m_weights_of T.F_weights_of.kp (bd_weights_of T) .nil passL (pa_cons (pv 1) (pa_cons (pe_slice sl_seq (pv 3) po_none (po_some (pv 4))) pa_nil))) (pe_tup (pa_cons pe_str (pa_cons (pv 6) pa_nil))) (nomark _)) (pw_or1 (pt_val (pe_call (ok_does_all T) (hr.mono (by decide)) rfl T.m_does_all T.F_does_all.kp (bd_does_all T) .nil passL (pa_cons (pe_callTy call_tup' rfl T.z_tuple (by decide +kernel) (pa_cons (pv 2) pa_nil)) (pa_cons (pe_slice sl_seq (pv 3) po_none (po_some (pv 4))) pa_nil))))))) (pss_one (ps_ret pe_bl)) pss_nil)))))) pss_nil)))))))
      (pss_one (ps_ret pe_bl)))))
end
theorem txt {K : KF} {h : Heap} {mg : Str → Option Value} (X : K.In h) (G : h.Ns mainGlobals mg) (c : He.SaysD fa fn K) (ce : ex K = true) : Txt K mg := by
  have exat : ∀ (i : Nat) {b : Bool}, (exs K)[i]? = some b → b = true := fun i b e => List.all_eq_true.mp ce b (List.mem_of_getElem? e)
  exact {
    F_law_lowest := fd_of c 0 rfl
    m_law_lowest := He.glo_ok X G (c.fact 0 rfl)
    F_law_product := fd_of c 1 rfl
    m_law_product := He.glo_ok X G (c.fact 1 rfl)
    F_law_sum := fd_of c 2 rfl
    m_law_sum := He.glo_ok X G (c.fact 2 rfl)
    F_law_minus := fd_of c 3 rfl
    m_law_minus := He.glo_ok X G (c.fact 3 rfl)
    F_law_share := fd_of c 4 rfl
    m_law_share := He.glo_ok X G (c.fact 4 rfl)
    F_law_can := fd_of c 5 rfl
    m_law_can := He.glo_ok X G (c.fact 5 rfl)
    F_law_cell := fd_of c 6 rfl
    m_law_cell := He.glo_ok X G (c.fact 6 rfl)
    F_law_dig := fd_of c 7 rfl
    m_law_dig := He.glo_ok X G (c.fact 7 rfl)
    F_law_does := fd_of c 8 rfl
    m_law_does := He.glo_ok X G (c.fact 8 rfl)
    F_law_next := fd_of c 9 rfl
    m_law_next := He.glo_ok X G (c.fact 9 rfl)
    F_law_meeting := fd_of c 10 rfl
    m_law_meeting := He.glo_ok X G (c.fact 10 rfl)
    F_law_far := fd_of c 11 rfl
    m_law_far := He.glo_ok X G (c.fact 11 rfl)
    F_law_ratio := fd_of c 12 rfl
    m_law_ratio := He.glo_ok X G (c.fact 12 rfl)
    F_law_sighting := fd_of c 13 rfl
    m_law_sighting := He.glo_ok X G (c.fact 13 rfl)
    F_law_weights := fd_of c 14 rfl
    m_law_weights := He.glo_ok X G (c.fact 14 rfl)
    F_law_drawn := fd_of c 15 rfl
    m_law_drawn := He.glo_ok X G (c.fact 15 rfl)
    F_law_is_ring := fd_of c 16 rfl
    m_law_is_ring := He.glo_ok X G (c.fact 16 rfl)
    F_divisor_of := fd_of c 17 rfl
    m_divisor_of := He.glo_ok X G (c.fact 17 rfl)
    F_is_whole := fd_of c 18 rfl
    m_is_whole := He.glo_ok X G (c.fact 18 rfl)
    F_ratio := fd_of c 19 rfl
    m_ratio := He.glo_ok X G (c.fact 19 rfl)
    F_minus := fd_of c 20 rfl
    m_minus := He.glo_ok X G (c.fact 20 rfl)
    F_changes := fd_of c 21 rfl
    m_changes := He.glo_ok X G (c.fact 21 rfl)
    F_is_rebound := fd_of c 22 rfl
    m_is_rebound := He.glo_ok X G (c.fact 22 rfl)
    F_times := fd_of c 23 rfl
    m_times := He.glo_ok X G (c.fact 23 rfl)
    F_is_done := fd_of c 24 rfl
    m_is_done := He.glo_ok X G (c.fact 24 rfl)
    F_does_all := fd_of c 25 rfl
    m_does_all := He.glo_ok X G (c.fact 25 rfl)
    F_less := fd_of c 26 rfl
    m_less := He.glo_ok X G (c.fact 26 rfl)
    F_over := fd_of c 27 rfl
    m_over := He.glo_ok X G (c.fact 27 rfl)
    F_share_of := fd_of c 28 rfl
    m_share_of := He.glo_ok X G (c.fact 28 rfl)
    F_turned_over := fd_of c 29 rfl
    m_turned_over := He.glo_ok X G (c.fact 29 rfl)
    F_step_by := fd_of c 30 rfl
    m_step_by := He.glo_ok X G (c.fact 30 rfl)
    F_lets_ring := fd_of c 31 rfl
    m_lets_ring := He.glo_ok X G (c.fact 31 rfl)
    F_Part_way_home := fd_of c 32 rfl
    F_Part_way_to := fd_of c 33 rfl
    F_steps_from := fd_of c 34 rfl
    m_steps_from := He.glo_ok X G (c.fact 32 rfl)
    F_Part_joined := fd_of c 35 rfl
    F_Part_init := fd_of c 36 rfl
    F_Part_whole := fd_of c 37 rfl
    F_weights_of := fd_of c 38 rfl
    m_weights_of := He.glo_ok X G (c.fact 33 rfl)
    F_law := fd_of c 39 rfl
    m_law := He.glo_ok X G (c.fact 34 rfl)
    z_abs := He.free_ok X G (c.fact 35 rfl)
    z_all := He.free_ok X G (c.fact 36 rfl)
    z_bool := He.free_ok X G (c.fact 37 rfl)
    z_enumerate := He.free_ok X G (c.fact 38 rfl)
    z_int := He.free_ok X G (c.fact 39 rfl)
    z_isinstance := He.free_ok X G (c.fact 40 rfl)
    z_len := He.free_ok X G (c.fact 41 rfl)
    z_list := He.free_ok X G (c.fact 42 rfl)
    z_max := He.free_ok X G (c.fact 43 rfl)
    z_min := He.free_ok X G (c.fact 44 rfl)
    z_range := He.free_ok X G (c.fact 45 rfl)
    z_tuple := He.free_ok X G (c.fact 46 rfl)
    z_zip := He.free_ok X G (c.fact 47 rfl)
    g_NOUGHT := He.glo_ok X G (c.fact 48 rfl)
    q_NOUGHT := exat 0 rfl
    g_ONE := He.glo_ok X G (c.fact 49 rfl)
    q_ONE := exat 1 rfl
    cl_Part := clsB_ok (exat 2 rfl)
    na_Part_came := naB_ok (exat 3 rfl)
    na_Part_ring := naB_ok (exat 4 rfl)
    na_Part_sightings := naB_ok (exat 5 rfl)
    na_Part_weights := naB_ok (exat 6 rfl)
    mt_Part_joined := metB_ok (exat 7 rfl)
    mt_Part_way_home := metB_ok (exat 8 rfl)
    mt_Part_way_to := metB_ok (exat 9 rfl)
    mt_Part_whole := metB_ok (exat 10 rfl)
    mk_Part := makB_ok (exat 11 rfl)
    gw_Part := He.glo_ok X G (c.fact 50 rfl)
    xc_NoRatio := xc_of X G (c.fact 51 rfl) (c.fact 52 rfl) }
end LK
open PySem PySem.W PySem.Calls PyProof.Rows
set_option maxRecDepth 100000 in
set_option maxHeartbeats 0 in
theorem PySem.Challenge.cw_clackrow_k54_rings_of_sightings_holds : PySem.Challenge.rw_clackrow_k54_rings_of_sightings.Holds := by
  w_on; o_law
  refine HandSHeadRun.head_any (r := OpenLaw.row PySem.Challenge.rw_clackrow_k54_rings_of_sightings) (q := view (OpenLaw.row PySem.Challenge.rw_clackrow_k54_rings_of_sightings).prog [46]) (H := LK.hk) (ob := LK.ob) (M := 20000) (loose := LK.names) (d := HandSHeadRun.topDef (OpenLaw.row PySem.Challenge.rw_clackrow_k54_rings_of_sightings).prog 46) (kwd := []) LK.ob_eq
    (by kernel_rfl) (fun s => by kernel_rfl) LK.run (by kernel_rfl) (by kernel_rfl) (by kernel_rfl) (by rfl) (by first | assumption | decide +kernel) (by decide +kernel) ⟨rfl, rfl, rfl, rfl, rfl, by decide +kernel⟩ ?hw ?hc
  case hw => w_witness2
  case hc =>
    refine HL.walk_ofW (l := PySem.Challenge.rw_clackrow_k54_rings_of_sightings) (n := 63) (k := 11) (x := "script") (CX := fun w => L2.CX (PySem.Challenge.rw_clackrow_k54_rings_of_sightings).prog w) rfl (by decide) (by kernel_rfl) ⟨rfl, by decide, by decide⟩ ?F (fun w H s e s' h => HL.cx_no h)
    intro w mg fa h Y G hmg0
    obtain ⟨K, KX, c, ce⟩ := Y
    have hmg : mg ("law" : PySem.Str) = some (.ref fa) := by
      have e : (HandSHeadRun.topDef (OpenLaw.row PySem.Challenge.rw_clackrow_k54_rings_of_sightings).prog 46).name = ("law" : PySem.Str) := by kernel_rfl
      rw [← e]
      exact hmg0
    have T : LK.Txt K mg := LK.txt KX G c ce
    have ea := hmg.symm.trans T.m_law
    cases ea
    exact ⟨K, _, _, KX, fun s v => L2.FunD.bindsA (ps := ["script"]) T.F_law (fun _ _ _ _ _ _ us hl => match us, hl with | [_], _ => rfl) s [v] rfl, fun H a ns hl _ hS => HL.law_start hS ⟨ns, rfl, hl, fun _ => rfl⟩, fun base _ _ => LK.ok_law T⟩
