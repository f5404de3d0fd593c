import PyProof.Rows.All
import Wide.All
import OpenK.AllK
import Wide.FinOn
import HandS.ForExc
import HandS.ForMost
import HandS.Evl
import HandS.Wide
import HandS.IsInst
import HandS.Zip
import HandS.ExcInit
import HandS.Defaults
import HandS.ExcValue
import HandS.Lambda
import HandS.TupAny
import HandS.Walk
import HandS.TupMul
import HandS.More
import HandS.Words
import HandS.WordsExc
import HandS.Head0
import HandS.Head1
import HandS.Head2
import HandS.HeadEnd
import HandS.HeadHook1
import HandS.HeadHook2
import HandS.ExcOwn
import HandS.ExcIs
import HandS.Deep
import HandS.TupLe
import HandS.Style
import HandS.Iter
import HandS.Codes
import HandS.StrMore
import PyProof.StrOps2
import HandS.ReplaceLit
import HandS.ReplaceList
import KE.IntTextText
import HandS.ExcField
import HandS.CallSlots
import KE.KExcIs
import HandS.Comp
import HandS.Exc
import PyProof.Rows.RuleB_pow
import PySem.Challenge.RW_clackrow_k70_whole_rows_written_and_read
set_option Elab.async false
set_option linter.all false
set_option maxRecDepth 100000
set_option maxHeartbeats 4000000
namespace HL
open PySem PySem.Spec PyProof.Rows L2 Evl
abbrev KF := PySem.W.Frag
def obsM (n : Nat) (fa : List He.Fa) (fn : List He.DefD) (ex : KF → Bool) (g : Addr → Option Obj) : He.AlD × Bool := (He.obsD fa fn (He.frG g (He.asD g n)), ex (He.frG g (He.asD g n)))
def hookM (n : Nat) (fa : List He.Fa) (fn : List He.DefD) (ex : KF → Bool) : PySem.W.Hook where
  α := He.AlD × Bool
  obs := fun s => obsM n fa fn ex s.heap.get?
  val := fun _ => (He.valD fn, true)
  says := fun _ h => ∃ K : PySem.W.Frag, K.In h ∧ He.SaysD fa fn K ∧ ex K = true
  of := fun _ _ e => ⟨_, He.frG_in, congrArg (fun z : He.AlD × Bool => z.1) e, congrArg (fun z : He.AlD × Bool => z.2) e⟩
  keeps := fun _ _ _ ⟨K, hK, c⟩ k => ⟨K, PySem.W.Frag.In.keeps hK k, c⟩
theorem obsM_eq {n : Nat} {fa : List He.Fa} {fn : List He.DefD} {ex : KF → Bool} {g : Addr → Option Obj} {s : Shared} (h : ∀ a, g a = s.heap.get? a) : obsM n fa fn ex g = (hookM n fa fn ex).obs s := by
  have e : g = s.heap.get? := funext h
  rw [e] <;> rfl
def excB (K : KF) (D : Addr) : Bool := decide (PySem.W.findIn K (.ref D) "__getattribute__" = some (some (.builtin "BaseException.__getattribute__"))) && (decide (PySem.W.findIn K (.ref D) "__getattr__" = some none) && (decide (PySem.W.subIn K (.ref D) (.type "BaseException") = some true) && (PySem.W.hasDictIn K D &&
  (decide (PySem.W.findIn K (.ref D) "__class__" = some (some (.builtin "object.__class__"))) && (decide (PySem.W.specialIn K (.builtin "object.__class__") "__get__" = some (some (.builtin "getset_descriptor.__get__"))) && (decide (PySem.W.takesIn K (.builtin "object.__class__") = some true) && decide (PySem.W.mroIn K D (.type "object") = some true)))))))
abbrev KA (K : KF) (x y : Str) (b : Bool) : Prop := PySem.W.kitOne K (.ref (He.ga K x)) (.ref (He.ga K y)) = some b
abbrev KV (K : KF) (x : Str) (y : String) (b : Bool) : Prop := PySem.W.kitOne K (.ref (He.ga K x)) (.type y) = some b
abbrev EM (K : KF) (x y : Str) (b : Bool) : Prop := PySem.W.exmOne K (.ref (He.ga K x)) (.ref (He.ga K y)) = some b
def oexB (K : KF) (C : Addr) : Bool := (match K.lookup C with
  | some ⟨.type "type", _, .cls cd, sl⟩ => (match cd.mro, sl.toList with
    | .ref C' :: bm, [_, _, _, _, some (.builtin n), _] => C' == C && n == "ValueError.__new__" && !cd.hasDel && cd.hasDict && PySem.HandSPX.refsVE bm
    | _, _ => false)
  | _ => false) && (decide (PySem.W.findIn K (.ref C) "__setattr__" = some (some (.builtin "object.__setattr__"))) && (decide (PySem.W.subIn K (.ref C) (.type "BaseException") = some true) &&
   (decide (PySem.W.typeIn K (.ref C) = some (.type "type")) && PySem.W.keepIn K (.ref C))))
def mcB (K : KF) (x : Str) : Bool := oexB K (He.ga K x) && (xfB K (He.ga K x) && (decide (PySem.W.findIn K (.ref (He.ga K x)) "moment" = some none) &&
  (decide (PySem.W.findIn K (.ref (He.ga K x)) "__init__" = some (some (.ref (He.fAd K (x, some "__init__"))))) && decide (PySem.W.typeIn K (.ref (He.fAd K (x, some "__init__"))) = some (.type "function")))))
def refusals : List Str := ["NoRatio", "TooMany", "NotEven", "NoEnd", "NoBall", "NoPlace", "NoRow", "NoText", "NoOrder", "NoPast", "Together", "Shut"]
def APB (K : KF) : Bool := refusals.all fun x => excB K (He.ga K x) && (decide (KA K x "ClackError" true) && (decide (KV K x "ValueError" true) && refusals.all fun y => decide (KA K x y (decide (x = y)))))
end HL
namespace LK
open PySem PySem.Spec PyProof.Rows L2 Evl HL
def top (i : Nat) : Stmt := PySem.Challenge.pw_clackrow_k70_whole_rows_written_and_read.main.body.getD i (.Pass ⟨0, 0, 0, 0⟩)
abbrev s_law_common : Stmt := top 36
abbrev s_law_low : Stmt := top 37
abbrev s_law_gap : Stmt := top 39
abbrev s_law_next : Stmt := top 35
abbrev s_law_figures : Stmt := top 44
abbrev s_law_ratio_text : Stmt := top 45
abbrev s_law_row_text : Stmt := top 46
abbrev s_law_amiss : Stmt := top 51
abbrev s_law_bent : Stmt := top 49
abbrev s_law_pool : Stmt := top 34
abbrev s_law_below : Stmt := top 40
abbrev s_law_value : Stmt := top 47
abbrev s_law_read : Stmt := top 48
abbrev s_law_read_row : Stmt := top 50
abbrev s_are_figures : Stmt := top 27
abbrev s_number_in : Stmt := top 28
abbrev s_divisor_of : Stmt := top 5
abbrev s_is_whole : Stmt := top 4
abbrev s_is_ratio : Stmt := top 6
abbrev s_look_at_text : Stmt := top 29
abbrev s_ratio_text : Stmt := top 25
abbrev s_read_ratio : Stmt := top 30
abbrev s_ball_in : Stmt := top 31
abbrev s_is_tuple_of : Stmt := top 16
abbrev s_is_ball : Stmt := top 17
abbrev s_less : Stmt := top 7
abbrev s_may_stand : Stmt := top 18
abbrev s_is_within : Stmt := top 19
abbrev s_is_row : Stmt := top 20
abbrev s_read_row : Stmt := top 32
abbrev s_law_refused : Stmt := top 52
abbrev s_law_small : Stmt := top 42
abbrev s_law_sum : Stmt := top 38
abbrev s_law_weight : Stmt := top 41
abbrev s_law_row : Stmt := top 43
abbrev s_law_told : Stmt := top 53
abbrev s_row_text : Stmt := top 26
abbrev s_law : Stmt := top 54
def fn : List He.DefD := [
  ⟨("_law_common", none), "_law_common", "_law_common", defArgs s_law_common, defBody s_law_common, defScope s_law_common, [], []⟩,
  ⟨("_law_low", none), "_law_low", "_law_low", defArgs s_law_low, defBody s_law_low, defScope s_law_low, [], []⟩,
  ⟨("_law_gap", none), "_law_gap", "_law_gap", defArgs s_law_gap, defBody s_law_gap, defScope s_law_gap, [], []⟩,
  ⟨("_law_next", none), "_law_next", "_law_next", defArgs s_law_next, defBody s_law_next, defScope s_law_next, [], []⟩,
  ⟨("_law_figures", none), "_law_figures", "_law_figures", defArgs s_law_figures, defBody s_law_figures, defScope s_law_figures, [], []⟩,
  ⟨("_law_ratio_text", none), "_law_ratio_text", "_law_ratio_text", defArgs s_law_ratio_text, defBody s_law_ratio_text, defScope s_law_ratio_text, [], []⟩,
  ⟨("_law_row_text", none), "_law_row_text", "_law_row_text", defArgs s_law_row_text, defBody s_law_row_text, defScope s_law_row_text, [], []⟩,
  ⟨("_law_amiss", none), "_law_amiss", "_law_amiss", defArgs s_law_amiss, defBody s_law_amiss, defScope s_law_amiss, [], []⟩,
  ⟨("_law_bent", none), "_law_bent", "_law_bent", defArgs s_law_bent, defBody s_law_bent, defScope s_law_bent, [], []⟩,
  ⟨("_law_pool", none), "_law_pool", "_law_pool", defArgs s_law_pool, defBody s_law_pool, defScope s_law_pool, [], []⟩,
  ⟨("_law_below", none), "_law_below", "_law_below", defArgs s_law_below, defBody s_law_below, defScope s_law_below, [], []⟩,
  ⟨("_law_value", none), "_law_value", "_law_value", defArgs s_law_value, defBody s_law_value, defScope s_law_value, [], []⟩,
  ⟨("_law_read", none), "_law_read", "_law_read", defArgs s_law_read, defBody s_law_read, defScope s_law_read, [], []⟩,
  ⟨("_law_read_row", none), "_law_read_row", "_law_read_row", defArgs s_law_read_row, defBody s_law_read_row, defScope s_law_read_row, [], []⟩,
  ⟨("are_figures", none), "are_figures", "are_figures", defArgs s_are_figures, defBody s_are_figures, defScope s_are_figures, [], []⟩,
  ⟨("number_in", none), "number_in", "number_in", defArgs s_number_in, defBody s_number_in, defScope s_number_in, [], []⟩,
  ⟨("divisor_of", none), "divisor_of", "divisor_of", defArgs s_divisor_of, defBody s_divisor_of, defScope s_divisor_of, [], []⟩,
  ⟨("is_whole", none), "is_whole", "is_whole", defArgs s_is_whole, defBody s_is_whole, defScope s_is_whole, [], []⟩,
  ⟨("is_ratio", none), "is_ratio", "is_ratio", defArgs s_is_ratio, defBody s_is_ratio, defScope s_is_ratio, [], []⟩,
  ⟨("look_at_text", none), "look_at_text", "look_at_text", defArgs s_look_at_text, defBody s_look_at_text, defScope s_look_at_text, [], []⟩,
  ⟨("ratio_text", none), "ratio_text", "ratio_text", defArgs s_ratio_text, defBody s_ratio_text, defScope s_ratio_text, [], []⟩,
  ⟨("read_ratio", none), "read_ratio", "read_ratio", defArgs s_read_ratio, defBody s_read_ratio, defScope s_read_ratio, [], []⟩,
  ⟨("ball_in", none), "ball_in", "ball_in", defArgs s_ball_in, defBody s_ball_in, defScope s_ball_in, [], []⟩,
  ⟨("is_tuple_of", none), "is_tuple_of", "is_tuple_of", defArgs s_is_tuple_of, defBody s_is_tuple_of, defScope s_is_tuple_of, [], []⟩,
  ⟨("is_ball", none), "is_ball", "is_ball", defArgs s_is_ball, defBody s_is_ball, defScope s_is_ball, [], []⟩,
  ⟨("less", none), "less", "less", defArgs s_less, defBody s_less, defScope s_less, [], []⟩,
  ⟨("may_stand", none), "may_stand", "may_stand", defArgs s_may_stand, defBody s_may_stand, defScope s_may_stand, [], []⟩,
  ⟨("is_within", none), "is_within", "is_within", defArgs s_is_within, defBody s_is_within, defScope s_is_within, [], []⟩,
  ⟨("is_row", none), "is_row", "is_row", defArgs s_is_row, defBody s_is_row, defScope s_is_row, [], []⟩,
  ⟨("read_row", none), "read_row", "read_row", defArgs s_read_row, defBody s_read_row, defScope s_read_row, [], []⟩,
  ⟨("_law_refused", none), "_law_refused", "_law_refused", defArgs s_law_refused, defBody s_law_refused, defScope s_law_refused, [], []⟩,
  ⟨("_law_small", none), "_law_small", "_law_small", defArgs s_law_small, defBody s_law_small, defScope s_law_small, [], []⟩,
  ⟨("_law_sum", none), "_law_sum", "_law_sum", defArgs s_law_sum, defBody s_law_sum, defScope s_law_sum, [], []⟩,
  ⟨("_law_weight", none), "_law_weight", "_law_weight", defArgs s_law_weight, defBody s_law_weight, defScope s_law_weight, [], []⟩,
  ⟨("_law_row", none), "_law_row", "_law_row", defArgs s_law_row, defBody s_law_row, defScope s_law_row, [], []⟩,
  ⟨("_law_told", none), "_law_told", "_law_told", defArgs s_law_told, defBody s_law_told, defScope s_law_told, [], []⟩,
  ⟨("row_text", none), "row_text", "row_text", defArgs s_row_text, defBody s_row_text, defScope s_row_text, [], []⟩,
  ⟨("law", none), "law", "law", defArgs s_law, defBody s_law, defScope s_law, [], []⟩]
def fa : List He.Fa := [.glo "_law_common", .glo "_law_low", .glo "_law_gap", .glo "_law_next", .glo "_law_figures", .glo "_law_ratio_text", .glo "_law_row_text", .glo "_law_amiss", .glo "_law_bent", .glo "_law_pool", .glo "_law_below", .glo "_law_value", .glo "_law_read", .glo "_law_read_row", .glo "are_figures", .glo "number_in", .glo "divisor_of", .glo "is_whole", .glo "is_ratio", .glo "look_at_text", .glo "ratio_text", .glo "read_ratio", .glo "ball_in", .glo "is_tuple_of", .glo "is_ball", .glo "less", .glo "may_stand", .glo "is_within", .glo "is_row", .glo "read_row", .glo "_law_refused", .glo "_law_small", .glo "_law_sum", .glo "_law_weight", .glo "_law_row", .glo "_law_told", .glo "row_text", .glo "law", .free "abs", .free "all", .free "bool", .free "int", .free "isinstance", .free "len", .free "max", .free "range", .free "str", .free "tuple", .free "zip", .str "FIGURES" "0123456789", .int "GREATEST" (1000), .int "HIGH" (1), .int "LOW" (0), .int "MOST_BALLS" (8), .int "MOST_FIGURES" (300), .glo "NO_WALLS", .int "PLACE" (0), .int "SPEED" (1), .int "WEIGHT" (2), .glo "NoText", .exc "NoText"]
def exs (K : KF) : List Bool := [He.tupB K "NO_WALLS" [.non, .non], decide (EM K "NoText" "NoText" true)]
def ex (K : KF) : Bool := (exs K).all id
abbrev R : PySem.W.OpenRow := PySem.W.OpenLaw.row PySem.Challenge.rw_clackrow_k70_whole_rows_written_and_read
abbrev hk : PySem.W.Hook := hookM 5 fa fn ex
def ob (s : PySem.W.SharedT) : He.AlD × Bool := obsM 5 fa fn ex (HandSHeadRun.getT s)
theorem ob_eq (s : PySem.W.SharedT) : ob s = hk.obs s.abs := obsM_eq (HandSHeadRun.getT_eq s)
def names0 : List Str := ["ClackError", "NoText", "is_whole", "divisor_of", "is_ratio", "less", "PLACE", "SPEED", "WEIGHT", "LOW", "HIGH", "MOST_BALLS", "GREATEST", "is_tuple_of", "is_ball", "may_stand", "is_within", "is_row", "FIGURES", "MOST_FIGURES", "NO_WALLS", "ratio_text", "row_text", "are_figures", "number_in", "look_at_text", "read_ratio", "ball_in", "read_row", "_law_pool"]
def names1 : List Str := ["_law_next", "_law_common", "_law_low", "_law_sum", "_law_gap", "_law_below", "_law_weight", "_law_small", "_law_row", "_law_figures", "_law_ratio_text", "_law_row_text", "_law_value", "_law_read", "_law_bent", "_law_read_row", "_law_amiss", "_law_refused", "_law_told"]
def names : List Str := names0 ++ names1
theorem map4 {α β γ δ ε : Type} {o : Option α} {f : α → β} {g : α → γ} {h : α → δ} {k : α → ε} {a : β} {b : γ} {c : δ} {d : ε} (h1 : o.map f = some a) (h2 : o.map g = some b) (h3 : o.map h = some c) (h4 : o.map k = some d) : o.map (fun s => (f s, g s, (h s, k s))) = some (a, b, (c, d)) := by
  cases o with
  | none => cases h1
  | some s => cases h1; cases h2; cases h3; cases h4; rfl
theorem runA (w : World) : ∀ os : PySem.OsState, (HandSHeadRun.endF (HandSHeadRun.stepQ (HandSHeadRun.denQ HandSHeadRun.tabQ) R.prog w) 20000 R.prog w os).map (fun s => HandSHeadRun.looksF R.prog (PySem.W.boot_heap w.params) s.abs) = some true := by
  intro os
  kernel_rfl
theorem runB (w : World) : ∀ os : PySem.OsState, (HandSHeadRun.endF (HandSHeadRun.stepQ (HandSHeadRun.denQ HandSHeadRun.tabQ) R.prog w) 20000 R.prog w os).map (fun s => HandSHeadRun.seenQ (PySem.W.view R.prog [54]) names (PySem.importedModules R.prog.main.body) (fun s => PySem.W.xlAt (PySem.W.view R.prog [54]) [] s && PySem.W.recOk R.toRowW.records s) s.abs) = some (PySem.W.openGood (PySem.W.view R.prog [54]) names) := by
  intro os
  kernel_rfl
theorem runD (w : World) : ∀ os : PySem.OsState, (HandSHeadRun.endF (HandSHeadRun.stepQ (HandSHeadRun.denQ HandSHeadRun.tabQ) R.prog w) 20000 R.prog w os).map (fun s => (ob s).1) = some (He.valD fn) := by
  intro os
  kernel_rfl
theorem runE (w : World) : ∀ os : PySem.OsState, (HandSHeadRun.endF (HandSHeadRun.stepQ (HandSHeadRun.denQ HandSHeadRun.tabQ) R.prog w) 20000 R.prog w os).map (fun s => (ob s).2) = some true := by
  intro os
  kernel_rfl
theorem run (w : World) : HandSHeadRun.RunEq R (PySem.W.view R.prog [54]) hk ob 20000 names w := fun os => map4 (runA w os) (runB w os) (runD w os) (runE w os)
end LK
namespace HL
open PySem PySem.Spec PyProof.Rows L2 Evl
/-- an exception: of a class without data, or one that bears a value -/
inductive Exc where
  | own (C : Addr)
  | low (C : Addr) (f : Str) (x : PyData)
  /-- made, not raised: held as a value at a -/
  | vo (C a : Addr)
  | vl (C : Addr) (f : Str) (x : PyData) (a : Addr)
/-- a part of a tuple -/
inductive Pt where
  | d (x : PyData)
  | o (i : Nat)
inductive DV where
  | d (x : PyData)
  | o (i : Nat)
  | v (x : V)
  | e (x : Exc) (a : Addr) (cls : Value) (dd : Option Addr)
  | t (ps : List Pt)
inductive OC where
  | lst (xs : List DV)
  | ins (C : Addr) (fs : List (Str × DV))
  | dic (kvs : List (Key × DV))
  /-- a dict whose keys are tuples -/
  | dit (kvs : List (List Key × DV))
  /-- the table of a def's code objects: they bear the name q -/
  | tab (P : Addr) (q : Str)
  /-- a dict whose keys are tuples, while a loop walks it -/
  | lkt (od : Obj) (us : List (List Key × V)) (kvs : List (List Key × DV))
  /-- a dict whose keys are whole numbers or texts, while a loop walks it -/
  | lkk (od : Obj) (us : List (Key × V)) (kvs : List (Key × DV))
  | gone
abbrev Gm := List (Option DV)
abbrev Om := List OC
abbrev Mp := Nat → Addr
mutual
theorem dp_ex {K : KF} {G H : Hp} (e : Ex G H) : ∀ (x : PyData) (v : V), Dp K G v x → Dp K H v x
  | .none, _, h => by cases h; exact .non
  | .bool b, _, h => by cases h; exact .bl b
  | .int i, _, h => by cases h; exact .int i
  | .str x, _, h => by cases h; exact .str x
  | .list ds, _, h => by
    cases h with
    | lst hs ha => exact .lst (ex_l e hs) (dps_ex e ds _ ha)
  | .tuple ds, _, h => by
    cases h with
    | tup hs ha => exact .tup (ex_t e hs) (dps_ex e ds _ ha)
  | .dict _, _, h => by cases h
theorem dps_ex {K : KF} {G H : Hp} (e : Ex G H) : ∀ (xs : List PyData) (vs : List V), DpAll K G vs xs → DpAll K H vs xs
  | [], _, h => by cases h; exact .nil
  | d :: ds, _, h => by
    cases h with
    | cons h1 h2 => exact .cons (dp_ex e d _ h1) (dps_ex e ds _ h2)
end
def RX (K : KF) (G : Hp) : Exc → Value → Option Addr → Prop
  | .own C, c, d => c = .ref C ∧ d = none
  | .low C f x, c, d => c = .ref C ∧ ∃ (a : Addr) (v : V), d = some a ∧ G a = some (.xd [(f, v)]) ∧ Dp K G v x
  | .vo C a, c, d => c = .ref C ∧ d = none ∧ G a = some (ExO (.ref C) a)
  | .vl C f x a, c, d => c = .ref C ∧ ∃ (b : Addr) (v : V), d = some b ∧ G a = some (exo a C (some b)) ∧ G b = some (exd b [(f, v)]) ∧ Dp K G v x
theorem RX.mono {K : KF} {G G' : Hp} (g : Ex G G') : ∀ {e : Exc} {c : Value} {d : Option Addr}, RX K G e c d → RX K G' e c d
  | .own _, _, _, r => r
  | .low _ _ _, _, _, ⟨e, a, v, e1, e2, r⟩ => ⟨e, a, v, e1, g _ _ e2, dp_ex g _ _ r⟩
  | .vo _ _, _, _, ⟨e, e1, e2⟩ => ⟨e, e1, g _ _ e2⟩
  | .vl _ _ _ _, _, _, ⟨e, b, v, e1, e2, e3, r⟩ => ⟨e, b, v, e1, g _ _ e2, g _ _ e3, dp_ex g _ _ r⟩
def RPt (K : KF) (m : Mp) (G : Hp) (n : Nat) : Pt → V → Prop
  | .d x, v => Dp K G v x
  | .o i, v => i < n ∧ v = .ref (m i)
def RV (K : KF) (m : Mp) (G : Hp) (n : Nat) : DV → V → Prop
  | .d x, v => Dp K G v x
  | .o i, v => i < n ∧ v = .ref (m i)
  | .v x, v => v = x
  | .e x a c d, v => v = .ref a ∧ RX K G x c d
  | .t ps, v => ∃ a vs, v = .ref a ∧ G a = some (.tup vs) ∧ Paired (RPt K m G n) ps vs
structure Nxt (m : Mp) (n : Nat) (G : Hp) (m' : Mp) (G' : Hp) : Prop where
  mm : ∀ i, i < n → m' i = m i
  gg : Ex G G'
theorem Nxt.refl (m : Mp) (n : Nat) (G : Hp) : Nxt m n G m G := ⟨fun _ _ => rfl, Ex.refl G⟩
theorem Nxt.trans {m m1 m2 : Mp} {n n1 : Nat} {G G1 G2 : Hp} (a : Nxt m n G m1 G1) (h : n ≤ n1) (b : Nxt m1 n1 G1 m2 G2) : Nxt m n G m2 G2 :=
  ⟨fun i hi => (b.mm i (Nat.lt_of_lt_of_le hi h)).trans (a.mm i hi), a.gg.trans b.gg⟩
theorem RPt.mono {K : KF} {m m' : Mp} {G G' : Hp} {n n' : Nat} (x : Nxt m n G m' G') (h : n ≤ n') : ∀ {d : Pt} {v : V}, RPt K m G n d v → RPt K m' G' n' d v
  | .d y, v, r => dp_ex x.gg y v r
  | .o i, v, r => ⟨Nat.lt_of_lt_of_le r.1 h, r.2.trans (by rw [x.mm i r.1])⟩
theorem RV.mono {K : KF} {m m' : Mp} {G G' : Hp} {n n' : Nat} (x : Nxt m n G m' G') (h : n ≤ n') : ∀ {d : DV} {v : V}, RV K m G n d v → RV K m' G' n' d v
  | .d y, v, r => dp_ex x.gg y v r
  | .o i, v, r => ⟨Nat.lt_of_lt_of_le r.1 h, r.2.trans (by rw [x.mm i r.1])⟩
  | .v y, v, r => r
  | .e y a c d, v, r => ⟨r.1, RX.mono x.gg r.2⟩
  | .t ps, v, ⟨a, vs, e, g, r⟩ => ⟨a, vs, e, x.gg _ _ g, Paired.mono (fun _ _ q => RPt.mono x h q) r⟩
theorem RVs.mono {K : KF} {m m' : Mp} {G G' : Hp} {n n' : Nat} (x : Nxt m n G m' G') (h : n ≤ n') {ds : List DV} {vs : List V} (r : Paired (RV K m G n) ds vs) : Paired (RV K m' G' n') ds vs :=
  Paired.mono (fun _ _ q => RV.mono x h q) r
def FRel (K : KF) (m : Mp) (G : Hp) (n : Nat) (p : Str × DV) (q : Str × V) : Prop := p.1 = q.1 ∧ RV K m G n p.2 q.2
def KRel (K : KF) (m : Mp) (G : Hp) (n : Nat) (p : Key × DV) (q : Key × V) : Prop := q.1 = p.1 ∧ RV K m G n p.2 q.2
def KTRel (K : KF) (m : Mp) (G : Hp) (n : Nat) (p : List Key × DV) (q : List Key × V) : Prop := q.1 = p.1 ∧ RV K m G n p.2 q.2
def TabG (H G : Hp) (P : Addr) (q : Str) : Prop := ∃ ps : Array Value, H P = some (.tbl ps) ∧ PySem.TriplesOk ps.toList ∧ ∀ (pos : Pos) (cv : Value), codeAmong pos ps.toList = some cv → ∃ c, cv = .ref c ∧ G c = some (LamX.CodeO c q)
def Holds (K : KF) (m : Mp) (G : Hp) (n : Nat) (H : Hp) (a : Addr) : OC → Prop
  | .lst xs => ∃ vs, H a = some (.lst vs) ∧ Paired (RV K m G n) xs vs
  | .ins C fs => ∃ dx vs, H a = some (.ins C dx vs) ∧ Paired (FRel K m G n) fs vs
  | .dic kvs => ∃ vs, H a = some (.dK vs) ∧ Paired (KRel K m G n) kvs vs
  | .dit kvs => ∃ vs, H a = some (.dT vs) ∧ Paired (KTRel K m G n) kvs vs
  | .tab P q => a = P ∧ TabG H G P q
  | .lkt od us kvs => H a = some (.frz od (.dT us)) ∧ Paired (KTRel K m G n) kvs us
  | .lkk od us kvs => H a = some (.frz od (.dK us)) ∧ Paired (KRel K m G n) kvs us
  | .gone => True
theorem Holds.mono {K : KF} {m m' : Mp} {G G' : Hp} {n n' : Nat} {H H' : Hp} {a : Addr} (x : Nxt m n G m' G') (h : n ≤ n') (hh : ∀ o, H a = some o → H' a = some o) : ∀ {c : OC}, Holds K m G n H a c → Holds K m' G' n' H' a c
  | .lst xs, ⟨vs, e, r⟩ => ⟨vs, hh _ e, RVs.mono x h r⟩
  | .ins C fs, ⟨dx, vs, e, r⟩ => ⟨dx, vs, hh _ e, Paired.mono (fun _ _ q => ⟨q.1, RV.mono x h q.2⟩) r⟩
  | .dic kvs, ⟨vs, e, r⟩ => ⟨vs, hh _ e, Paired.mono (fun _ _ q => ⟨q.1, RV.mono x h q.2⟩) r⟩
  | .dit kvs, ⟨vs, e, r⟩ => ⟨vs, hh _ e, Paired.mono (fun _ _ q => ⟨q.1, RV.mono x h q.2⟩) r⟩
  | .tab P q, ⟨e, ps, e1, e2, e3⟩ => ⟨e, ps, by subst e; exact hh _ e1, e2, fun pos cv hc => let ⟨c, h1, h2⟩ := e3 pos cv hc; ⟨c, h1, x.gg _ _ h2⟩⟩
  | .lkt od us kvs, ⟨e, r⟩ => ⟨hh _ e, Paired.mono (fun _ _ q => ⟨q.1, RV.mono x h q.2⟩) r⟩
  | .lkk od us kvs, ⟨e, r⟩ => ⟨hh _ e, Paired.mono (fun _ _ q => ⟨q.1, RV.mono x h q.2⟩) r⟩
  | .gone, _ => trivial
theorem Holds.some {K : KF} {m : Mp} {G : Hp} {n : Nat} {H : Hp} {a : Addr} : ∀ {c : OC}, c ≠ .gone → Holds K m G n H a c → ∃ o, H a = some o
  | .lst xs, _, ⟨_, e, _⟩ => ⟨_, e⟩
  | .ins C fs, _, ⟨_, _, e, _⟩ => ⟨_, e⟩
  | .dic _, _, ⟨_, e, _⟩ => ⟨_, e⟩
  | .dit _, _, ⟨_, e, _⟩ => ⟨_, e⟩
  | .tab P q, _, ⟨e, _, e1, _⟩ => ⟨_, by rw [e]; exact e1⟩
  | .lkt _ _ _, _, ⟨e, _⟩ => ⟨_, e⟩
  | .lkk _ _ _, _, ⟨e, _⟩ => ⟨_, e⟩
  | .gone, h, _ => absurd rfl h
structure Core (K : KF) (m : Mp) (G : Hp) (Ω : Om) (H : Hp) : Prop where
  ex : Ex G H
  fr : ∀ i c, Ω[i]? = some c → c ≠ .gone → G (m i) = none ∧ Holds K m G Ω.length H (m i) c
  inj : ∀ i j ci cj, Ω[i]? = some ci → Ω[j]? = some cj → ci ≠ .gone → cj ≠ .gone → m i = m j → i = j
section
variable {K : KF} {m m' : Mp} {G G' : Hp} {Ω Ω' : Om} {H H' : Hp} {p : Addr}
theorem lt_of_get {α : Type} {l : List α} {i : Nat} {x : α} (h : l[i]? = some x) : i < l.length := (List.getElem?_eq_some_iff.mp h).1
theorem fresh_g (c : Core K m G Ω H) (hp : H p = none) : G p = none := fresh_back c.ex hp
theorem Core.ne (c : Core K m G Ω H) (hp : H p = none) {i : Nat} {x : OC} (h : Ω[i]? = some x) (g : x ≠ .gone) : m i ≠ p := fun e => by
  obtain ⟨_, q⟩ := c.fr i x h g
  obtain ⟨o, z⟩ := Holds.some g q
  rw [e, hp] at z
  cases z
/-- a new thing that never changes -/
theorem Core.frz (c : Core K m G Ω H) (hp : H p = none) (o : HO) : Core K m (upd G p o) Ω (upd H p o) ∧ Nxt m Ω.length G m (upd G p o) := by
  have gp := fresh_g c hp
  have nx : Nxt m Ω.length G m (upd G p o) := ⟨fun _ _ => rfl, Ex.new gp⟩
  refine ⟨⟨fun a u e => ?_, fun i x h g => ?_, c.inj⟩, nx⟩
  · by_cases ha : a = p
    · subst ha
      rw [upd_same] at e ⊢
      exact e
    · rw [upd_ne ha] at e ⊢
      exact c.ex a u e
  · obtain ⟨q1, q2⟩ := c.fr i x h g
    have ne := c.ne hp h g
    exact ⟨by rw [upd_ne ne]; exact q1, Holds.mono nx (Nat.le_refl _) (fun o e => by rw [upd_ne ne]; exact e) q2⟩
/-- a new list of one's own -/
theorem Core.own (c : Core K m G Ω H) (hp : H p = none) {x : OC} {o : HO} (hx : Holds K m G Ω.length (upd H p o) p x) :
    ∃ m', Core K m' G (Ω ++ [x]) (upd H p o) ∧ Nxt m Ω.length G m' G ∧ m' Ω.length = p := by
  have gp := fresh_g c hp
  refine ⟨fun j => if j = Ω.length then p else m j, ?_, ⟨fun i hi => if_neg (Nat.ne_of_lt hi), Ex.refl G⟩, if_pos rfl⟩
  have nx : Nxt m Ω.length G (fun j => if j = Ω.length then p else m j) G := ⟨fun i hi => if_neg (Nat.ne_of_lt hi), Ex.refl G⟩
  have le : Ω.length ≤ (Ω ++ [x]).length := by simp
  refine ⟨fun a u e => ?_, fun i y h g => ?_, fun i j ci cj h1 h2 g1 g2 e => ?_⟩
  · rw [upd_ne (ne_of_none e gp)]
    exact c.ex a u e
  · by_cases hi : i < Ω.length
    · rw [List.getElem?_append_left hi] at h
      have ne := c.ne hp h g
      obtain ⟨q1, q2⟩ := c.fr i y h g
      simp only [if_neg (Nat.ne_of_lt hi)]
      exact ⟨q1, Holds.mono nx le (fun o e => by rw [upd_ne ne]; exact e) q2⟩
    · have hl := lt_of_get h
      rw [List.length_append, List.length_singleton] at hl
      have ei : i = Ω.length := by omega
      subst ei
      rw [List.getElem?_append_right (Nat.le_refl _), Nat.sub_self] at h
      have ey : x = y := Option.some.inj h
      subst ey
      simp only [if_true]
      exact ⟨gp, Holds.mono nx le (fun o e => e) hx⟩
  · have l1 := lt_of_get h1
    have l2 := lt_of_get h2
    rw [List.length_append, List.length_singleton] at l1 l2
    by_cases hi : i < Ω.length <;> by_cases hj : j < Ω.length
    · rw [List.getElem?_append_left hi] at h1
      rw [List.getElem?_append_left hj] at h2
      simp only [if_neg (Nat.ne_of_lt hi), if_neg (Nat.ne_of_lt hj)] at e
      exact c.inj i j ci cj h1 h2 g1 g2 e
    · rw [List.getElem?_append_left hi] at h1
      have ej : j = Ω.length := by omega
      simp only [if_neg (Nat.ne_of_lt hi), if_pos ej] at e
      exact absurd e (c.ne hp h1 g1)
    · rw [List.getElem?_append_left hj] at h2
      have ei : i = Ω.length := by omega
      simp only [if_neg (Nat.ne_of_lt hj), if_pos ei] at e
      exact absurd e.symm (c.ne hp h2 g2)
    · omega
/-- one's own thing is changed -/
theorem Core.write (c : Core K m G Ω H) {i : Nat} {x y : OC} {o : HO} (h : Ω[i]? = some x) (g : x ≠ .gone) (hy : Holds K m G Ω.length (upd H (m i) o) (m i) y) : Core K m G (Ω.set i y) (upd H (m i) o) := by
  obtain ⟨q1, q2⟩ := c.fr i x h g
  refine ⟨fun a u e => ?_, fun j z h2 g2 => ?_, fun j k cj ck h1 h2 g1 g2 e => ?_⟩
  · rw [upd_ne (ne_of_none e q1)]
    exact c.ex a u e
  · rw [List.length_set]
    rw [List.getElem?_set] at h2
    by_cases ej : i = j
    · subst ej
      have hi := lt_of_get h
      rw [if_pos rfl, if_pos hi] at h2
      cases h2
      exact ⟨q1, hy⟩
    · rw [if_neg ej] at h2
      obtain ⟨r1, r2⟩ := c.fr j z h2 g2
      have ne : m j ≠ m i := fun e => ej (c.inj i j x z h h2 g g2 e.symm)
      exact ⟨r1, Holds.mono (Nxt.refl _ _ _) (Nat.le_refl _) (fun o e => by rw [upd_ne ne]; exact e) r2⟩
  · have fix : ∀ {t : Nat} {ct : OC}, (Ω.set i y)[t]? = some ct → ct ≠ .gone → ∃ ct', Ω[t]? = some ct' ∧ ct' ≠ .gone := fun {t ct} h1 g1 => by
      rw [List.getElem?_set] at h1
      by_cases ej : i = t
      · subst ej; exact ⟨x, h, g⟩
      · rw [if_neg ej] at h1
        exact ⟨ct, h1, g1⟩
    obtain ⟨a1, b1, d1⟩ := fix h1 g1
    obtain ⟨a2, b2, d2⟩ := fix h2 g2
    exact c.inj j k a1 a2 b1 b2 d1 d2 e
/-- one's own thing is given away -/
theorem Core.freeze (c : Core K m G Ω H) {i : Nat} {x : OC} {o : HO} (h : Ω[i]? = some x) (g : x ≠ .gone) (ho : H (m i) = some o) : Core K m (upd G (m i) o) (Ω.set i .gone) H ∧ Nxt m Ω.length G m (upd G (m i) o) := by
  obtain ⟨q1, q2⟩ := c.fr i x h g
  have nx : Nxt m Ω.length G m (upd G (m i) o) := ⟨fun _ _ => rfl, Ex.new q1⟩
  refine ⟨⟨fun a u e => ?_, fun j z h2 g2 => ?_, fun j k cj ck h1 h2 g1 g2 e => ?_⟩, nx⟩
  · by_cases ha : a = m i
    · subst ha
      rw [upd_same] at e
      rw [← e]; exact ho
    · rw [upd_ne ha] at e
      exact c.ex a u e
  · rw [List.length_set]
    rw [List.getElem?_set] at h2
    by_cases ej : i = j
    · subst ej
      rw [if_pos rfl, if_pos (lt_of_get h)] at h2
      cases h2
      exact absurd rfl g2
    · rw [if_neg ej] at h2
      obtain ⟨r1, r2⟩ := c.fr j z h2 g2
      have ne : m j ≠ m i := fun e => ej (c.inj i j x z h h2 g g2 e.symm)
      exact ⟨by rw [upd_ne ne]; exact r1, Holds.mono nx (Nat.le_refl _) (fun o e => e) r2⟩
  · have fix : ∀ {t : Nat} {ct : OC}, (Ω.set i .gone)[t]? = some ct → ct ≠ .gone → Ω[t]? = some ct := fun {t ct} h1 g1 => by
      rw [List.getElem?_set] at h1
      by_cases ej : i = t
      · subst ej
        rw [if_pos rfl, if_pos (lt_of_get h)] at h1
        cases h1
        exact absurd rfl g1
      · rw [if_neg ej] at h1
        exact h1
    exact c.inj j k cj ck (fix h1 g1) (fix h2 g2) g1 g2 e
end
def RVn (K : KF) (m : Mp) (G : Hp) (n : Nat) : DV → V → Prop := RV K m G n
structure Slots (K : KF) (m : Mp) (G : Hp) (n : Nat) (Γ : Gm) (σ : L2.St) : Prop where
  len : Γ.length = σ.length
  at_ : ∀ (i : Nat) (d : DV), Γ[i]? = some (some d) → ∃ v, σ[i]? = some (some v) ∧ RV K m G n d v
theorem Slots.mono {K : KF} {m m' : Mp} {G G' : Hp} {n n' : Nat} {Γ : Gm} {σ : L2.St} (x : Nxt m n G m' G') (h : n ≤ n') (s : Slots K m G n Γ σ) : Slots K m' G' n' Γ σ :=
  ⟨s.len, fun i d e => let ⟨v, e1, r⟩ := s.at_ i d e; ⟨v, e1, RV.mono x h r⟩⟩
theorem Slots.set {K : KF} {m : Mp} {G : Hp} {n : Nat} {Γ : Gm} {σ : L2.St} {d : DV} {v : V} (s : Slots K m G n Γ σ) (i : Nat) (r : RV K m G n d v) : Slots K m G n (Γ.set i (some d)) (σ.set i (some v)) := by
  refine ⟨by rw [List.length_set, List.length_set]; exact s.len, fun j e h => ?_⟩
  have hl := lt_of_get h
  rw [List.length_set] at hl
  rw [List.getElem?_set] at h
  by_cases hj : i = j
  · subst hj
    rw [if_pos rfl, if_pos hl] at h
    cases h
    refine ⟨v, ?_, r⟩
    rw [List.getElem?_set, if_pos rfl, if_pos (by rw [← s.len]; exact hl)]
  · rw [if_neg hj] at h
    obtain ⟨w, e1, r1⟩ := s.at_ j e h
    exact ⟨w, by rw [List.getElem?_set, if_neg hj]; exact e1, r1⟩
/-- what is forgotten -/
theorem Slots.sub {K : KF} {m : Mp} {G : Hp} {n : Nat} {Γ Γ' : Gm} {σ : L2.St} (s : Slots K m G n Γ σ) (hl : Γ'.length = Γ.length) (h : ∀ (i : Nat) (d : DV), Γ'[i]? = some (some d) → Γ[i]? = some (some d)) : Slots K m G n Γ' σ :=
  ⟨hl.trans s.len, fun i d e => s.at_ i d (h i d e)⟩
section
variable (K : KF) (m : Mp) (G : Hp) (n : Nat)
def QOk (R : DV → Om → Prop) (Q : VK) : Prop := ∀ m' G' Ω' H' d v, Core K m' G' Ω' H' → Nxt m n G m' G' → n ≤ Ω'.length → RV K m' G' Ω'.length d v → R d Ω' → Q v H'
def BOk (R : Bool → Om → Prop) (Q : Bool → Hp → Prop) : Prop := ∀ m' G' Ω' H' b, Core K m' G' Ω' H' → Nxt m n G m' G' → n ≤ Ω'.length → R b Ω' → Q b H'
def AOk (R : List DV → Om → Prop) (Q : List V → Hp → Prop) : Prop := ∀ m' G' Ω' H' ds vs, Core K m' G' Ω' H' → Nxt m n G m' G' → n ≤ Ω'.length → Paired (RV K m' G' Ω'.length) ds vs → R ds Ω' → Q vs H'
def SOk (R : Gm → Om → Prop) (Q : L2.St → Hp → Prop) : Prop := ∀ m' G' Ω' H' Γ' σ', Core K m' G' Ω' H' → Nxt m n G m' G' → n ≤ Ω'.length → Slots K m' G' Ω'.length Γ' σ' → R Γ' Ω' → Q σ' H'
def XOk (R : Exc → Om → Prop) (Q : XK) : Prop := ∀ m' G' Ω' H' e c d, Core K m' G' Ω' H' → Nxt m n G m' G' → n ≤ Ω'.length → RX K G' e c d → R e Ω' → Q c d H'
def ZOk (R : Gm → Exc → Om → Prop) (W : WX) : Prop := ∀ m' G' Ω' H' Γ' σ' e c d, Core K m' G' Ω' H' → Nxt m n G m' G' → n ≤ Ω'.length → Slots K m' G' Ω'.length Γ' σ' → RX K G' e c d → R Γ' e Ω' → W c d σ' H'
end
section
variable {K : KF} {m m1 : Mp} {G G1 : Hp} {n n1 : Nat}
theorem QOk.on {R : DV → Om → Prop} {Q : VK} (q : QOk K m G n R Q) (x : Nxt m n G m1 G1) (h : n ≤ n1) : QOk K m1 G1 n1 R Q := fun _ _ _ _ _ _ c y l r z => q _ _ _ _ _ _ c (x.trans h y) (Nat.le_trans h l) r z
theorem BOk.on {R : Bool → Om → Prop} {Q : Bool → Hp → Prop} (q : BOk K m G n R Q) (x : Nxt m n G m1 G1) (h : n ≤ n1) : BOk K m1 G1 n1 R Q := fun _ _ _ _ _ c y l z => q _ _ _ _ _ c (x.trans h y) (Nat.le_trans h l) z
theorem AOk.on {R : List DV → Om → Prop} {Q : List V → Hp → Prop} (q : AOk K m G n R Q) (x : Nxt m n G m1 G1) (h : n ≤ n1) : AOk K m1 G1 n1 R Q := fun _ _ _ _ _ _ c y l r z => q _ _ _ _ _ _ c (x.trans h y) (Nat.le_trans h l) r z
theorem SOk.on {R : Gm → Om → Prop} {Q : L2.St → Hp → Prop} (q : SOk K m G n R Q) (x : Nxt m n G m1 G1) (h : n ≤ n1) : SOk K m1 G1 n1 R Q := fun _ _ _ _ _ _ c y l r z => q _ _ _ _ _ _ c (x.trans h y) (Nat.le_trans h l) r z
theorem XOk.on {R : Exc → Om → Prop} {Q : XK} (q : XOk K m G n R Q) (x : Nxt m n G m1 G1) (h : n ≤ n1) : XOk K m1 G1 n1 R Q := fun _ _ _ _ _ _ _ c y l r z => q _ _ _ _ _ _ _ c (x.trans h y) (Nat.le_trans h l) r z
theorem ZOk.on {R : Gm → Exc → Om → Prop} {W : WX} (q : ZOk K m G n R W) (x : Nxt m n G m1 G1) (h : n ≤ n1) : ZOk K m1 G1 n1 R W := fun _ _ _ _ _ _ _ _ _ c y l s r z => q _ _ _ _ _ _ _ _ _ c (x.trans h y) (Nat.le_trans h l) s r z
theorem QOk.imp {R R' : DV → Om → Prop} {Q : VK} (q : QOk K m G n R Q) (h : ∀ d Ω, R' d Ω → R d Ω) : QOk K m G n R' Q := fun _ _ _ _ _ _ c y l r z => q _ _ _ _ _ _ c y l r (h _ _ z)
end
end HL
namespace HL
open PySem PySem.Spec PyProof.Rows L2 Evl
structure Outs where
  nx : Gm → Om → Prop
  rt : DV → Om → Prop
  bk : Gm → Om → Prop
  ct : Gm → Om → Prop
  er : Gm → Exc → Om → Prop
section
variable (K : KF) (W : WX)
def WE (te : TE) (Γ : Gm) (Ω : Om) (R : DV → Om → Prop) (X : Exc → Om → Prop) : Prop :=
  ∀ m G H σ Q, Core K m G Ω H → Slots K m G Ω.length Γ σ → QOk K m G Ω.length R Q → XOk K m G Ω.length X (fun c d H' => W c d σ H') → te σ H Q
def WT (tt : TT) (Γ : Gm) (Ω : Om) (R : Bool → Om → Prop) (X : Exc → Om → Prop) : Prop :=
  ∀ m G H σ Q, Core K m G Ω H → Slots K m G Ω.length Γ σ → BOk K m G Ω.length R Q → XOk K m G Ω.length X (fun c d H' => W c d σ H') → tt σ H Q
def WA (ta : TA) (Γ : Gm) (Ω : Om) (R : List DV → Om → Prop) (X : Exc → Om → Prop) : Prop :=
  ∀ m G H σ Q, Core K m G Ω H → Slots K m G Ω.length Γ σ → AOk K m G Ω.length R Q → XOk K m G Ω.length X (fun c d H' => W c d σ H') → ta σ H Q
def WS (ts : TS) (Γ : Gm) (Ω : Om) (O : Outs) : Prop :=
  ∀ m G H σ (D : Ends), Core K m G Ω H → Slots K m G Ω.length Γ σ → SOk K m G Ω.length O.nx D.nx → QOk K m G Ω.length O.rt D.rt → SOk K m G Ω.length O.bk D.bk → SOk K m G Ω.length O.ct D.ct → ZOk K m G Ω.length O.er W → ts D σ H
def WG (g : TG) (y : DV) (Γ : Gm) (Ω : Om) (R : Gm → Om → Prop) : Prop :=
  ∀ m G H σ v Q, Core K m G Ω H → Slots K m G Ω.length Γ σ → RV K m G Ω.length y v → SOk K m G Ω.length R Q → g v σ H Q
def WGs (g : TGs) (ys : List DV) (Γ : Gm) (Ω : Om) (R : Gm → Om → Prop) : Prop :=
  ∀ m G H σ vs Q, Core K m G Ω H → Slots K m G Ω.length Γ σ → Paired (RV K m G Ω.length) ys vs → SOk K m G Ω.length R Q → g vs σ H Q
/-- operators on values -/
def WR (r : R2) (x y : DV) (Ω : Om) (R : DV → Om → Prop) : Prop :=
  ∀ m G H v w Q, Core K m G Ω H → RV K m G Ω.length x v → RV K m G Ω.length y w → QOk K m G Ω.length R Q → r v w H Q
def WU (r : V → Hp → VK → Prop) (x : DV) (Ω : Om) (R : DV → Om → Prop) : Prop :=
  ∀ m G H v Q, Core K m G Ω H → RV K m G Ω.length x v → QOk K m G Ω.length R Q → r v H Q
def WC (r : List V → Hp → VK → Prop) (xs : List DV) (Ω : Om) (R : DV → Om → Prop) : Prop :=
  ∀ m G H vs Q, Core K m G Ω H → Paired (RV K m G Ω.length) xs vs → QOk K m G Ω.length R Q → r vs H Q
def WM (r : V → List V → Hp → VK → Prop) (x : DV) (xs : List DV) (Ω : Om) (R : DV → Om → Prop) : Prop :=
  ∀ m G H v vs Q, Core K m G Ω H → RV K m G Ω.length x v → Paired (RV K m G Ω.length) xs vs → QOk K m G Ω.length R Q → r v vs H Q
end
/-! views -/
def asDs : List DV → Option (List PyData)
  | [] => some []
  | .d x :: r => (asDs r).map (x :: ·)
  | _ :: _ => none
theorem asDs_map {α : Type} (f : α → PyData) : ∀ l : List α, asDs (l.map fun a => .d (f a)) = some (l.map f)
  | [] => rfl
  | a :: l => by
    show (asDs (l.map fun a => .d (f a))).map (f a :: ·) = _
    rw [asDs_map f l]
    rfl
theorem asDs_eq : ∀ {ds : List DV} {xs : List PyData}, asDs ds = some xs → ds = xs.map DV.d
  | [], xs, h => by cases h; rfl
  | .d x :: r, xs, h => by
    cases e : asDs r with
    | none => rw [show asDs (.d x :: r) = (asDs r).map (x :: ·) from rfl, e] at h; cases h
    | some ys =>
      rw [show asDs (.d x :: r) = (asDs r).map (x :: ·) from rfl, e] at h
      cases h
      rw [asDs_eq e]
      rfl
  | .o _ :: _, _, h => by cases h
  | .v _ :: _, _, h => by cases h
  | .e _ _ _ _ :: _, _, h => by cases h
  | .t _ :: _, _, h => by cases h
theorem dps_of {K : KF} {m : Mp} {G : Hp} {n : Nat} : ∀ {xs : List PyData} {vs : List V}, Paired (RV K m G n) (xs.map DV.d) vs → DpAll K G vs xs
  | [], _, h => by cases h; exact .nil
  | x :: xs, _, h => by cases h with | cons a b => exact .cons a (dps_of b)
theorem of_dps {K : KF} {m : Mp} {G : Hp} {n : Nat} : ∀ {xs : List PyData} {vs : List V}, DpAll K G vs xs → Paired (RV K m G n) (xs.map DV.d) vs
  | [], _, h => by cases h; exact .nil
  | x :: xs, _, h => by cases h with | cons a b => exact .cons a (of_dps b)
def vwO : Option OC → Option PyData
  | some (.lst ds) => (asDs ds).map PyData.list
  | _ => none
def ptsV (Ω : Om) : List Pt → Option (List PyData)
  | [] => some []
  | .d x :: r => (ptsV Ω r).map (x :: ·)
  | .o i :: r => (vwO Ω[i]?).bind fun x => (ptsV Ω r).map (x :: ·)
def vw (Ω : Om) : DV → Option PyData
  | .d x => some x
  | .o i => vwO Ω[i]?
  | .t ps => (ptsV Ω ps).map PyData.tuple
  | _ => none
theorem vwO_dp {K : KF} {m : Mp} {G H : Hp} {Ω : Om} {i : Nat} {x : PyData} (c : Core K m G Ω H) (h : vwO Ω[i]? = some x) : Dp K H (.ref (m i)) x := by
  cases e : Ω[i]? with
  | none => rw [e] at h; cases h
  | some oc =>
    rw [e] at h
    cases oc with
    | ins C fs => cases h
    | dic kvs => cases h
    | dit kvs => cases h
    | tab P q => cases h
    | lkt _ _ _ => cases h
    | lkk _ _ _ => cases h
    | gone => cases h
    | lst ds =>
      have h' : (asDs ds).map PyData.list = some x := h
      cases e2 : asDs ds with
      | none => rw [e2] at h'; cases h'
      | some xs =>
        rw [e2] at h'
        cases h'
        obtain ⟨_, vs, hv, rp⟩ := c.fr i _ e (by intro z; cases z)
        rw [asDs_eq e2] at rp
        exact .lst (sq_of hv) (dps_ex c.ex _ _ (dps_of rp))
theorem ptsV_dp {K : KF} {m : Mp} {G H : Hp} {Ω : Om} (c : Core K m G Ω H) : ∀ {ps : List Pt} {vs : List V} {xs : List PyData}, Paired (RPt K m G Ω.length) ps vs → ptsV Ω ps = some xs → DpAll K H vs xs
  | [], _, _, .nil, h => by cases h; exact .nil
  | .d x :: r, _, xs, .cons a b, h => by
    have h : (ptsV Ω r).map (x :: ·) = some xs := h
    cases e : ptsV Ω r with
    | none => rw [e] at h; cases h
    | some ys =>
      rw [e] at h
      cases h
      exact .cons (dp_ex c.ex _ _ a) (ptsV_dp c b e)
  | .o i :: r, _, xs, .cons a b, h => by
    have h : (vwO Ω[i]?).bind (fun x => (ptsV Ω r).map (x :: ·)) = some xs := h
    cases e0 : vwO Ω[i]? with
    | none => rw [e0] at h; cases h
    | some x =>
      rw [e0] at h
      have h : (ptsV Ω r).map (x :: ·) = some xs := h
      cases e : ptsV Ω r with
      | none => rw [e] at h; cases h
      | some ys =>
        rw [e] at h
        cases h
        obtain ⟨hi, rfl⟩ := a
        exact .cons (vwO_dp c e0) (ptsV_dp c b e)
theorem vw_dp {K : KF} {m : Mp} {G H : Hp} {Ω : Om} {d : DV} {x : PyData} {v : V} (c : Core K m G Ω H) (r : RV K m G Ω.length d v) (h : vw Ω d = some x) : Dp K H v x := by
  cases d with
  | d y => cases h; exact dp_ex c.ex _ _ r
  | v y => cases h
  | e _ _ _ _ => cases h
  | o i =>
    obtain ⟨hi, rfl⟩ := r
    exact vwO_dp c h
  | t ps =>
    have h : (ptsV Ω ps).map PyData.tuple = some x := h
    cases e : ptsV Ω ps with
    | none => rw [e] at h; cases h
    | some xs =>
      rw [e] at h
      cases h
      obtain ⟨a, vs, rfl, g, rp⟩ := r
      exact .tup (st_of (c.ex _ _ g)) (ptsV_dp c rp e)
def sqO : Option OC → Option (List DV)
  | some (.lst ds) => some ds
  | _ => none
def sq (Ω : Om) : DV → Option (List DV)
  | .d (.tuple xs) => some (xs.map DV.d)
  | .d (.list xs) => some (xs.map DV.d)
  | .o i => sqO Ω[i]?
  | _ => none
theorem sq_o {Ω : Om} {i : Nat} {ds : List DV} (h : sq Ω (.o i) = some ds) : Ω[i]? = some (.lst ds) := by
  have h : sqO Ω[i]? = some ds := h
  cases e : Ω[i]? with
  | none => rw [e] at h; cases h
  | some oc =>
    rw [e] at h
    cases oc with
    | ins C fs => cases h
    | dic kvs => cases h
    | dit kvs => cases h
    | tab P q => cases h
    | lkt _ _ _ => cases h
    | lkk _ _ _ => cases h
    | gone => cases h
    | lst ds => cases h; rfl
theorem sq_get {K : KF} {m : Mp} {G H : Hp} {Ω : Om} {d : DV} {ds : List DV} {v : V} (c : Core K m G Ω H) (r : RV K m G Ω.length d v) (h : sq Ω d = some ds) :
    ∃ a vs, v = .ref a ∧ (SqL K H a vs ∨ SqT K H a vs) ∧ Paired (RV K m G Ω.length) ds vs := by
  cases d with
  | v y => cases h
  | e _ _ _ _ => cases h
  | t _ => cases h
  | o i =>
    have e := sq_o h
    obtain ⟨_, vs, hv, rp⟩ := c.fr i _ e (by intro z; cases z)
    obtain ⟨hi, rfl⟩ := r
    exact ⟨m i, vs, rfl, .inl (sq_of hv), rp⟩
  | d y =>
    cases y with
    | tuple xs =>
      cases h
      cases r with
      | tup hs ha => exact ⟨_, _, rfl, .inr (ex_t c.ex hs), of_dps ha⟩
    | list xs =>
      cases h
      cases r with
      | lst hs ha => exact ⟨_, _, rfl, .inl (ex_l c.ex hs), of_dps ha⟩
    | none => cases h
    | bool b => cases h
    | int b => cases h
    | str b => cases h
    | dict b => cases h
theorem Paired.getL {α β : Type} {F : α → β → Prop} : ∀ {xs : List α} {ys : List β} {i : Nat} {x : α}, Paired F xs ys → xs[i]? = some x → ∃ y, ys[i]? = some y ∧ F x y
  | _, _, _, _, .nil, e => by simp at e
  | _, _, 0, _, .cons r _, e => by simp at e; subst e; exact ⟨_, rfl, r⟩
  | _, _, i + 1, x, .cons _ t, e => by
    obtain ⟨u, h1, h2⟩ := Paired.getL (i := i) (x := x) t (by simpa using e)
    exact ⟨u, by simpa using h1, h2⟩
theorem Paired.app {α β : Type} {F : α → β → Prop} : ∀ {a c : List α} {b d : List β}, Paired F a b → Paired F c d → Paired F (a ++ c) (b ++ d)
  | _, _, _, _, .nil, s => s
  | _, _, _, _, .cons r t, s => .cons r (Paired.app t s)
theorem Paired.setP {α β : Type} {F : α → β → Prop} {x : α} {y : β} (r : F x y) : ∀ {xs : List α} {ys : List β} (i : Nat), Paired F xs ys → Paired F (xs.set i x) (ys.set i y)
  | _, _, _, .nil => .nil
  | _, _, 0, .cons _ t => .cons r t
  | _, _, i + 1, .cons q t => .cons q (Paired.setP r i t)
section
variable {K : KF} {W : WX} {Γ : Gm} {Ω : Om} {R : DV → Om → Prop} {X : Exc → Om → Prop} {ta tb te : TE} {tt tu : TT} {tl tr : TA} {r : R2} {d : DV} {S : List DV → Om → Prop} {B : Bool → Om → Prop}
theorem we_var {i : Nat} (h : Γ[i]? = some (some d)) (q : R d Ω) : WE K W (tVar i) Γ Ω R X := fun m G H σ Q c s k x =>
  let ⟨v, e, rv⟩ := s.at_ i d h
  ⟨v, e, k _ _ _ _ _ _ c (Nxt.refl ..) (Nat.le_refl _) rv q⟩
theorem we_int {i : Int} (q : R (.d (.int i)) Ω) : WE K W (tC (.int i)) Γ Ω R X := fun m G H σ Q c s k x => k _ _ _ _ (.d (.int i)) _ c (Nxt.refl ..) (Nat.le_refl _) (Dp.int i) q
theorem we_bl {b : Bool} (q : R (.d (.bool b)) Ω) : WE K W (tC (.bl b)) Γ Ω R X := fun m G H σ Q c s k x => k _ _ _ _ (.d (.bool b)) _ c (Nxt.refl ..) (Nat.le_refl _) (Dp.bl b) q
theorem we_str {b : Str} (q : R (.d (.str b)) Ω) : WE K W (tC (.str b)) Γ Ω R X := fun m G H σ Q c s k x => k _ _ _ _ (.d (.str b)) _ c (Nxt.refl ..) (Nat.le_refl _) (Dp.str b) q
theorem we_non (q : R (.d .none) Ω) : WE K W (tC .non) Γ Ω R X := fun m G H σ Q c s k x => k _ _ _ _ (.d .none) _ c (Nxt.refl ..) (Nat.le_refl _) Dp.non q
theorem we_ty {b : String} (q : R (.v (.ty b)) Ω) : WE K W (tC (.ty b)) Γ Ω R X := fun m G H σ Q c s k x => k _ _ _ _ (.v (.ty b)) _ c (Nxt.refl ..) (Nat.le_refl _) rfl q
theorem we_ref {a : Addr} (q : R (.v (.ref a)) Ω) : WE K W (tC (.ref a)) Γ Ω R X := fun m G H σ Q c s k x => k _ _ _ _ (.v (.ref a)) _ c (Nxt.refl ..) (Nat.le_refl _) rfl q
/-- a constant of the module -/
theorem we_g {v : V} {y : PyData} (h : ∀ G, Dp K G v y) (q : R (.d y) Ω) : WE K W (tC v) Γ Ω R X := fun m G H σ Q c s k x => k _ _ _ _ (.d y) _ c (Nxt.refl ..) (Nat.le_refl _) (h _) q
theorem we_op (h : WE K W ta Γ Ω (fun x Ω1 => WE K W tb Γ Ω1 (fun y Ω2 => WR K r x y Ω2 R) X) X) : WE K W (tOp r ta tb) Γ Ω R X := fun m G H σ Q c s k x =>
  h m G H σ _ c s (fun m1 G1 Ω1 H1 d1 v1 c1 n1 l1 r1 h1 => h1 m1 G1 H1 σ _ c1 (s.mono n1 l1) (fun m2 G2 Ω2 H2 d2 v2 c2 n2 l2 r2 h2 =>
    h2 m2 G2 H2 v1 v2 Q c2 (RV.mono n2 l2 r1) r2 (k.on (n1.trans l1 n2) (Nat.le_trans l1 l2))) (x.on n1 l1)) x
theorem we_un {r : V → Hp → VK → Prop} (h : WE K W ta Γ Ω (fun x Ω1 => WU K r x Ω1 R) X) : WE K W (tUn r ta) Γ Ω R X := fun m G H σ Q c s k x =>
  h m G H σ _ c s (fun m1 G1 Ω1 H1 d1 v1 c1 n1 l1 r1 h1 => h1 m1 G1 H1 v1 Q c1 r1 (k.on n1 l1)) x
theorem we_if (h : WT K W tt Γ Ω (fun b Ω1 => (b = true → WE K W ta Γ Ω1 R X) ∧ (b = false → WE K W tb Γ Ω1 R X)) X) : WE K W (tIf tt ta tb) Γ Ω R X := fun m G H σ Q c s k x =>
  h m G H σ _ c s (fun m1 G1 Ω1 H1 b c1 n1 l1 h1 => by
    cases b with
    | true => exact (h1.1 rfl) m1 G1 H1 σ Q c1 (s.mono n1 l1) (k.on n1 l1) (x.on n1 l1)
    | false => exact (h1.2 rfl) m1 G1 H1 σ Q c1 (s.mono n1 l1) (k.on n1 l1) (x.on n1 l1)) x
theorem wa_nil (q : S [] Ω) : WA K W tNil Γ Ω S X := fun m G H σ Q c s k x => k _ _ _ _ [] _ c (Nxt.refl ..) (Nat.le_refl _) .nil q
theorem wa_cons (h : WE K W ta Γ Ω (fun y Ω1 => WA K W tr Γ Ω1 (fun ys Ω2 => S (y :: ys) Ω2) X) X) : WA K W (tCons ta tr) Γ Ω S X := fun m G H σ Q c s k x =>
  h m G H σ _ c s (fun m1 G1 Ω1 H1 d1 v1 c1 n1 l1 r1 h1 => h1 m1 G1 H1 σ _ c1 (s.mono n1 l1) (fun m2 G2 Ω2 H2 ds vs c2 n2 l2 r2 h2 =>
    k m2 G2 Ω2 H2 _ _ c2 (n1.trans l1 n2) (Nat.le_trans l1 l2) (.cons (RV.mono n2 l2 r1) r2) h2) (x.on n1 l1)) x
theorem we_tup (h : WA K W tl Γ Ω (fun ds Ω1 => ∃ xs, asDs ds = some xs ∧ xs.length ≤ 100000 ∧ R (.d (.tuple xs)) Ω1) X) : WE K W (tTup tl) Γ Ω R X := fun m G H σ Q c s k x =>
  h m G H σ _ c s (fun m1 G1 Ω1 H1 ds vs c1 n1 l1 r1 ⟨xs, e, hl, q⟩ => by
    have hlen := Paired.length r1
    rw [asDs_eq e] at r1 hlen
    rw [List.length_map] at hlen
    refine ⟨sz_of (by rw [← hlen]; exact hl), fun p hp => ?_⟩
    obtain ⟨c2, n2⟩ := c1.frz hp (.tup vs)
    exact k _ _ _ _ (.d (.tuple xs)) _ c2 (n1.trans l1 n2) l1 (.tup (st_of upd_same) (dps_ex n2.gg _ _ (dps_of r1))) q) x
/-- a list that nobody changes -/
theorem we_lstD (h : WA K W tl Γ Ω (fun ds Ω1 => ∃ xs, asDs ds = some xs ∧ xs.length ≤ 100000 ∧ R (.d (.list xs)) Ω1) X) : WE K W (tLst tl) Γ Ω R X := fun m G H σ Q c s k x =>
  h m G H σ _ c s (fun m1 G1 Ω1 H1 ds vs c1 n1 l1 r1 ⟨xs, e, hl, q⟩ => by
    have hlen := Paired.length r1
    rw [asDs_eq e] at r1 hlen
    rw [List.length_map] at hlen
    refine ⟨sz_of (by rw [← hlen]; exact hl), fun p hp => ?_⟩
    obtain ⟨c2, n2⟩ := c1.frz hp (.lst vs)
    exact k _ _ _ _ (.d (.list xs)) _ c2 (n1.trans l1 n2) l1 (.lst (sq_of upd_same) (dps_ex n2.gg _ _ (dps_of r1))) q) x
/-- a list of one's own -/
theorem we_lstO (h : WA K W tl Γ Ω (fun ds Ω1 => ds.length ≤ 100000 ∧ R (.o Ω1.length) (Ω1 ++ [.lst ds])) X) : WE K W (tLst tl) Γ Ω R X := fun m G H σ Q c s k x =>
  h m G H σ _ c s (fun m1 G1 Ω1 H1 ds vs c1 n1 l1 r1 ⟨hl, q⟩ => by
    have hlen := Paired.length r1
    refine ⟨sz_of (by rw [← hlen]; exact hl), fun p hp => ?_⟩
    obtain ⟨m2, c2, n2, e2⟩ := c1.own (x := .lst ds) (o := .lst vs) hp ⟨vs, upd_same, r1⟩
    have le : Ω1.length ≤ (Ω1 ++ [OC.lst ds]).length := by simp
    exact k _ _ _ _ (.o Ω1.length) _ c2 (n1.trans l1 n2) (Nat.le_trans l1 le) ⟨by simp, by rw [e2]⟩ q) x
theorem we_cb {r : List V → Hp → VK → Prop} (h : WA K W tl Γ Ω (fun ds Ω1 => WC K r ds Ω1 R) X) : WE K W (tCB r tl) Γ Ω R X := fun m G H σ Q c s k x =>
  h m G H σ _ c s (fun m1 G1 Ω1 H1 ds vs c1 n1 l1 r1 h1 => h1 m1 G1 H1 vs Q c1 r1 (k.on n1 l1)) x
theorem wt_test (h : WE K W te Γ Ω (fun y Ω1 => ∃ b, y = .d (.bool b) ∧ B b Ω1) X) : WT K W (tTest te) Γ Ω B X := fun m G H σ Q c s k x =>
  h m G H σ _ c s (fun m1 G1 Ω1 H1 d1 v1 c1 n1 l1 r1 ⟨b, e, q⟩ => by
    subst e
    cases r1
    exact ⟨b, rfl, k _ _ _ _ _ c1 n1 l1 q⟩) x
theorem wt_B (h : WE K W te Γ Ω (fun y Ω1 => ∃ b, y = .d (.bool b) ∧ B b Ω1) X) : WT K W (tB te) Γ Ω B X := fun m G H σ Q c s k x =>
  h m G H σ _ c s (fun m1 G1 Ω1 H1 d1 v1 c1 n1 l1 r1 ⟨b, e, q⟩ => by
    subst e
    cases r1
    exact ⟨b, rfl, k _ _ _ _ _ c1 n1 l1 q⟩) x
theorem wt_and (h : WT K W tt Γ Ω (fun b Ω1 => (b = true → WT K W tu Γ Ω1 B X) ∧ (b = false → B false Ω1)) X) : WT K W (tAnd tt tu) Γ Ω B X := fun m G H σ Q c s k x =>
  h m G H σ _ c s (fun m1 G1 Ω1 H1 b c1 n1 l1 h1 => by
    cases b with
    | true => exact (h1.1 rfl) m1 G1 H1 σ Q c1 (s.mono n1 l1) (k.on n1 l1) (x.on n1 l1)
    | false => exact k _ _ _ _ _ c1 n1 l1 (h1.2 rfl)) x
theorem wt_or (h : WT K W tt Γ Ω (fun b Ω1 => (b = true → B true Ω1) ∧ (b = false → WT K W tu Γ Ω1 B X)) X) : WT K W (tOr tt tu) Γ Ω B X := fun m G H σ Q c s k x =>
  h m G H σ _ c s (fun m1 G1 Ω1 H1 b c1 n1 l1 h1 => by
    cases b with
    | true => exact k _ _ _ _ _ c1 n1 l1 (h1.1 rfl)
    | false => exact (h1.2 rfl) m1 G1 H1 σ Q c1 (s.mono n1 l1) (k.on n1 l1) (x.on n1 l1)) x
theorem wt_not (h : WT K W tt Γ Ω (fun b Ω1 => B (!b) Ω1) X) : WT K W (tNot tt) Γ Ω B X := fun m G H σ Q c s k x =>
  h m G H σ _ c s (fun m1 G1 Ω1 H1 b c1 n1 l1 h1 => k _ _ _ _ _ c1 n1 l1 h1) x
theorem we_andV (h : WE K W ta Γ Ω (fun y Ω1 => ∃ b, y = .d (.bool b) ∧ (b = true → WE K W tb Γ Ω1 R X) ∧ (b = false → R (.d (.bool false)) Ω1)) X) : WE K W (tAndV ta tb) Γ Ω R X := fun m G H σ Q c s k x =>
  h m G H σ _ c s (fun m1 G1 Ω1 H1 d1 v1 c1 n1 l1 r1 ⟨b, e, h1⟩ => by
    subst e
    cases r1
    refine ⟨b, rfl, ?_⟩
    cases b with
    | true => exact (h1.1 rfl) m1 G1 H1 σ Q c1 (s.mono n1 l1) (k.on n1 l1) (x.on n1 l1)
    | false => exact k _ _ _ _ (.d (.bool false)) _ c1 n1 l1 (Dp.bl false) (h1.2 rfl)) x
theorem we_orV (h : WE K W ta Γ Ω (fun y Ω1 => ∃ b, y = .d (.bool b) ∧ (b = true → R (.d (.bool true)) Ω1) ∧ (b = false → WE K W tb Γ Ω1 R X)) X) : WE K W (tOrV ta tb) Γ Ω R X := fun m G H σ Q c s k x =>
  h m G H σ _ c s (fun m1 G1 Ω1 H1 d1 v1 c1 n1 l1 r1 ⟨b, e, h1⟩ => by
    subst e
    cases r1
    refine ⟨b, rfl, ?_⟩
    cases b with
    | true => exact k _ _ _ _ (.d (.bool true)) _ c1 n1 l1 (Dp.bl true) (h1.1 rfl)
    | false => exact (h1.2 rfl) m1 G1 H1 σ Q c1 (s.mono n1 l1) (k.on n1 l1) (x.on n1 l1)) x
theorem we_notV (h : WE K W ta Γ Ω (fun y Ω1 => ∃ b, y = .d (.bool b) ∧ R (.d (.bool (!b))) Ω1) X) : WE K W (tNotV ta) Γ Ω R X := fun m G H σ Q c s k x =>
  h m G H σ _ c s (fun m1 G1 Ω1 H1 d1 v1 c1 n1 l1 r1 ⟨b, e, h1⟩ => by
    subst e
    cases r1
    exact ⟨b, rfl, k _ _ _ _ (.d (.bool (!b))) _ c1 n1 l1 (Dp.bl (!b)) h1⟩) x
/-! calls -/
abbrev Spec := List DV → Om → (DV → Om → Prop) → (Exc → Om → Prop) → Prop
def FS (K : KF) (spec : Spec) : Sp := fun vs H Q E => ∃ m G Ω ds R X, Core K m G Ω H ∧ Paired (RV K m G Ω.length) ds vs ∧ spec ds Ω R X ∧ QOk K m G Ω.length R Q ∧ XOk K m G Ω.length X E
theorem we_call {spec : Spec} (h : WA K W tl Γ Ω (fun ds Ω1 => spec ds Ω1 R (fun _ _ => False)) X) : WE K W (tCall (FS K spec) [] E0 tl) Γ Ω R X := fun m G H σ Q c s k x =>
  h m G H σ _ c s (fun m1 G1 Ω1 H1 ds vs c1 n1 l1 r1 h1 => by
    show FS K spec (vs ++ []) H1 Q E0
    rw [List.append_nil]
    exact ⟨m1, G1, Ω1, ds, R, _, c1, r1, h1, k.on n1 l1, fun _ _ _ _ _ _ _ _ _ _ _ z => z⟩) x
theorem we_callS {spec : Spec} (h : WA K W tl Γ Ω (fun ds Ω1 => spec ds Ω1 R X) X) : WE K W (tCallS (FS K spec) (L2.WE W) tl) Γ Ω R X := fun m G H σ Q c s k x =>
  h m G H σ _ c s (fun m1 G1 Ω1 H1 ds vs c1 n1 l1 r1 h1 => ⟨m1, G1, Ω1, ds, R, X, c1, r1, h1, k.on n1 l1, x.on n1 l1⟩) x
/-! targets -/
theorem wg_name {i : Nat} {S : Gm → Om → Prop} {y : DV} (q : S (Γ.set i (some y)) Ω) : WG K (gName i) y Γ Ω S := fun m G H σ v Q c s r k => k _ _ _ _ _ _ c (Nxt.refl ..) (Nat.le_refl _) (s.set i r) q
theorem wgs_nil {S : Gm → Om → Prop} (q : S Γ Ω) : WGs K gNil [] Γ Ω S := fun m G H σ vs Q c s r k => by
  cases r
  exact ⟨rfl, k _ _ _ _ _ _ c (Nxt.refl ..) (Nat.le_refl _) s q⟩
theorem wgs_cons {S : Gm → Om → Prop} {g : TG} {gs : TGs} {y : DV} {ys : List DV} (h : WG K g y Γ Ω (fun Γ1 Ω1 => WGs K gs ys Γ1 Ω1 S)) : WGs K (gCons g gs) (y :: ys) Γ Ω S := fun m G H σ vs Q c s r k => by
  cases r with
  | cons r1 rs => exact ⟨_, _, rfl, h m G H σ _ _ c s r1 fun m1 G1 Ω1 H1 Γ1 σ1 c1 n1 l1 s1 h1 => h1 m1 G1 H1 σ1 _ _ c1 s1 (RVs.mono n1 l1 rs) (k.on n1 l1)⟩
theorem wg_tup {n : Nat} {S : Gm → Om → Prop} {gs : TGs} {xs : List PyData} (hl : xs.length = n) (h : WGs K gs (xs.map DV.d) Γ Ω S) : WG K (gTup K n gs) (.d (.tuple xs)) Γ Ω S := fun m G H σ v Q c s r k => by
  cases r with
  | tup hs ha =>
    have ra := of_dps (m := m) (n := Ω.length) ha
    have e := Paired.length ra
    rw [List.length_map] at e
    exact ⟨_, _, rfl, ex_t c.ex hs, e.symm.trans hl, h m G H σ _ _ c s ra k⟩
/-! statements -/
variable {O : Outs} {ts tv tw : TS} {g : TG}
theorem ws_next (q : O.nx Γ Ω) : WS K W tNext Γ Ω O := fun m G H σ D c s k1 k2 k3 k4 z => k1 _ _ _ _ _ _ c (Nxt.refl ..) (Nat.le_refl _) s q
theorem ws_seq (h : WS K W tv Γ Ω { O with nx := fun Γ1 Ω1 => WS K W tw Γ1 Ω1 O }) : WS K W (tSeq tv tw) Γ Ω O := fun m G H σ D c s k1 k2 k3 k4 z =>
  h m G H σ { D with nx := tw D } c s (fun m1 G1 Ω1 H1 Γ1 σ1 c1 n1 l1 s1 h1 => h1 m1 G1 H1 σ1 D c1 s1 (k1.on n1 l1) (k2.on n1 l1) (k3.on n1 l1) (k4.on n1 l1) (z.on n1 l1)) k2 k3 k4 z
/-- an exception at the slots as they stand -/
theorem xok_of {m : Mp} {G : Hp} {n : Nat} {Z : Gm → Exc → Om → Prop} {σ : L2.St} (z : ZOk K m G n Z W) (s : Slots K m G n Γ σ) : XOk K m G n (fun e Ω1 => Z Γ e Ω1) (fun c d H' => W c d σ H') := fun m1 G1 Ω1 H1 e c d c1 n1 l1 r1 h1 =>
  z m1 G1 Ω1 H1 Γ σ e c d c1 n1 l1 (s.mono n1 l1) r1 h1
theorem ws_asg (h : WE K W te Γ Ω (fun y Ω1 => WG K g y Γ Ω1 O.nx) (fun e Ω1 => O.er Γ e Ω1)) : WS K W (tAsg te g) Γ Ω O := fun m G H σ D c s k1 k2 k3 k4 z =>
  h m G H σ _ c s (fun m1 G1 Ω1 H1 d1 v1 c1 n1 l1 r1 h1 => h1 m1 G1 H1 σ v1 _ c1 (s.mono n1 l1) r1 (k1.on n1 l1)) (xok_of z s)
theorem ws_par {i j : Nat} (h : WA K W tl Γ Ω (fun ys Ω1 => ∃ y y', ys = [y, y'] ∧ O.nx ((Γ.set i (some y)).set j (some y')) Ω1) (fun e Ω1 => O.er Γ e Ω1)) : WS K W (tPar i j tl) Γ Ω O := fun m G H σ D c s k1 k2 k3 k4 z =>
  h m G H σ _ c s (fun m1 G1 Ω1 H1 ds vs c1 n1 l1 r1 ⟨y, y', e, q⟩ => by
    subst e
    cases r1 with
    | cons ra rb => cases rb with
      | cons rb rc =>
        cases rc
        exact ⟨_, _, rfl, k1 _ _ _ _ _ _ c1 n1 l1 (((s.mono n1 l1).set i ra).set j rb) q⟩) (xok_of z s)
theorem ws_if (h : WT K W tt Γ Ω (fun b Ω1 => (b = true → WS K W tv Γ Ω1 O) ∧ (b = false → WS K W tw Γ Ω1 O)) (fun e Ω1 => O.er Γ e Ω1)) : WS K W (tIfS tt tv tw) Γ Ω O := fun m G H σ D c s k1 k2 k3 k4 z =>
  h m G H σ _ c s (fun m1 G1 Ω1 H1 b c1 n1 l1 h1 => by
    cases b with
    | true => exact (h1.1 rfl) m1 G1 H1 σ D c1 (s.mono n1 l1) (k1.on n1 l1) (k2.on n1 l1) (k3.on n1 l1) (k4.on n1 l1) (z.on n1 l1)
    | false => exact (h1.2 rfl) m1 G1 H1 σ D c1 (s.mono n1 l1) (k1.on n1 l1) (k2.on n1 l1) (k3.on n1 l1) (k4.on n1 l1) (z.on n1 l1)) (xok_of z s)
theorem ws_ret (h : WE K W te Γ Ω O.rt (fun e Ω1 => O.er Γ e Ω1)) : WS K W (tRet te) Γ Ω O := fun m G H σ D c s k1 k2 k3 k4 z => h m G H σ _ c s k2 (xok_of z s)
theorem ws_retN (q : O.rt (.d .none) Ω) : WS K W tRetN Γ Ω O := fun m G H σ D c s k1 k2 k3 k4 z => k2 _ _ _ _ (.d .none) _ c (Nxt.refl ..) (Nat.le_refl _) Dp.non q
theorem ws_drop (h : WE K W te Γ Ω (fun _ Ω1 => O.nx Γ Ω1) (fun e Ω1 => O.er Γ e Ω1)) : WS K W (tDrop te) Γ Ω O := fun m G H σ D c s k1 k2 k3 k4 z =>
  h m G H σ _ c s (fun m1 G1 Ω1 H1 d1 v1 c1 n1 l1 r1 h1 => k1 _ _ _ _ _ _ c1 n1 l1 (s.mono n1 l1) h1) (xok_of z s)
theorem ws_while (P : Nat → Gm → Om → Prop) (n0 : Nat) (h0 : P n0 Γ Ω)
    (hs : ∀ n Γ1 Ω1, Ω.length ≤ Ω1.length → P n Γ1 Ω1 → WT K W tt Γ1 Ω1 (fun b Ω2 => (b = true → WS K W tv Γ1 Ω2 { nx := fun Γ3 Ω3 => ∃ k, k < n ∧ P k Γ3 Ω3, ct := fun Γ3 Ω3 => ∃ k, k < n ∧ P k Γ3 Ω3, bk := O.nx, rt := O.rt, er := O.er }) ∧ (b = false → O.nx Γ1 Ω2)) (fun e Ω2 => O.er Γ1 e Ω2)) :
    WS K W (tWhile tt tv) Γ Ω O := fun m G H σ D c s k1 k2 k3 k4 z => by
  refine ⟨fun n σ' H' => ∃ m' G' Ω' Γ', Core K m' G' Ω' H' ∧ Nxt m Ω.length G m' G' ∧ Ω.length ≤ Ω'.length ∧ Slots K m' G' Ω'.length Γ' σ' ∧ P n Γ' Ω', ⟨n0, m, G, Ω, Γ, c, Nxt.refl .., Nat.le_refl _, s, h0⟩, ?_⟩
  rintro n σ1 H1 ⟨m1, G1, Ω1, Γ1, c1, n1, l1, s1, p1⟩
  refine hs n Γ1 Ω1 l1 p1 m1 G1 H1 σ1 _ c1 s1 (fun m2 G2 Ω2 H2 b c2 n2 l2 h2 => ?_) (xok_of (z.on n1 l1) s1)
  have n12 := n1.trans l1 n2
  have l12 := Nat.le_trans l1 l2
  cases b with
  | false =>
    rw [if_neg Bool.false_ne_true]
    exact k1 _ _ _ _ _ _ c2 n12 l12 (s1.mono n2 l2) (h2.2 rfl)
  | true =>
    rw [if_pos rfl]
    refine ⟨fun σ' H' => ∃ k, k < n ∧ ∃ m' G' Ω' Γ', Core K m' G' Ω' H' ∧ Nxt m Ω.length G m' G' ∧ Ω.length ≤ Ω'.length ∧ Slots K m' G' Ω'.length Γ' σ' ∧ P k Γ' Ω', fun σ' H' ⟨k, hk, q⟩ => ⟨k, hk, q⟩, ?_⟩
    have again : SOk K m2 G2 Ω2.length (fun Γ3 Ω3 => ∃ k, k < n ∧ P k Γ3 Ω3) (fun σ' H' => ∃ k, k < n ∧ ∃ m' G' Ω' Γ', Core K m' G' Ω' H' ∧ Nxt m Ω.length G m' G' ∧ Ω.length ≤ Ω'.length ∧ Slots K m' G' Ω'.length Γ' σ' ∧ P k Γ' Ω') := fun m3 G3 Ω3 H3 Γ3 σ3 c3 n3 l3 s3 ⟨k, hk, p3⟩ =>
      ⟨k, hk, m3, G3, Ω3, Γ3, c3, n12.trans l12 n3, Nat.le_trans l12 l3, s3, p3⟩
    exact (h2.1 rfl) m2 G2 H2 σ1 { D with nx := _, ct := _, bk := D.nx } c2 (s1.mono n2 l2) again (k2.on n12 l12) (k1.on n12 l12) again (z.on n12 l12)
end
end HL
namespace HL
open PySem PySem.Spec PyProof.Rows L2 Evl
/-! more operators -/
def CDivX (_ j : Int) : Prop := j ≠ 0 ∧ j.natAbs.log2 < 9000
section
variable {X : Cx}
theorem op_fdivX : OpR X (binaryOp .FloorDiv) (rI CDivX fun i j => .int (i.fdiv j)) := opI fun _ _ _ _ _ _ _ hc q => floordiv_int hc.1 q (.inl (PyProof.noPylong_of_log2 hc.2))
def rCatS (K : KF) : R2 := fun x y H Q => ∃ l b xs zs, x = .ref l ∧ y = .ref b ∧ SqL K H l xs ∧ SqL K H b zs ∧ xs.length + zs.length ≤ sizeLine ∧ ∀ p, H p = none → Q (.ref p) (upd H p (.lst (xs ++ zs)))
theorem op_catS : OpR X (binaryOp .Add) (rCatS X.K) := by
  intro pins s σ H x y v u Q I rx ry h
  obtain ⟨l, b, xs, zs, rfl, rfl, hl, hb, hz, q⟩ := h
  cases rx
  cases ry
  obtain ⟨its, r1, p1, _⟩ := I.list hl
  obtain ⟨its2, r2, p2, _⟩ := I.list hb
  obtain ⟨⟨cls, dd, data, sl⟩, ho, hc, n, hd⟩ := p1.isList
  obtain ⟨⟨cls2, dd2, data2, sl2⟩, ho2, hc2, n2, hd2⟩ := p2.isList
  simp only at hc hd hc2 hd2
  subst hc hd hc2 hd2
  have e : its.toArray ++ its2.toArray = (its ++ its2).toArray := by simp
  have l1 := r1.length
  have l2 := r2.length
  refine concat_meets ⟨_, ho, rfl⟩ ⟨_, ho2, rfl⟩ PySem.noFill_list_add PySem.seq_list_add PySem.F.slot_list_add PySem.F.entry_list_add (PySem.F.args_list_add_2 _ _) (list_addW l b its.toArray its2.toArray n n2 dd dd2 sl sl2 (by simp only [List.size_toArray]; omega)) ⟨ho, ho2, ?_⟩
  rw [e]
  exact ⟨.ref _, _, I.lnew (t' := s.toks) (r1.append r2) (by rw [List.length_append]; omega), rfl, q _ I.fresh⟩
/-- x + y of numbers, texts, lists, tuples -/
def rAddX (K : KF) : R2 := fun x y H Q => rI0 (fun i j => .int (i + j)) x y H Q ∨ (∃ i j, x = .str i ∧ y = .str j ∧ i.length + j.length ≤ sizeLine ∧ Q (.str (i ++ j)) H) ∨ rCatS K x y H Q ∨ rCatA K x y H Q
theorem op_addX : OpR X (binaryOp .Add) (rAddX X.K) := fun pins s σ H x y v u Q I rx ry h =>
  h.elim (fun h => op_add pins s σ H x y v u Q I rx ry h) fun h => h.elim (fun h => op_add_str pins s σ H x y v u Q I rx ry h) fun h => h.elim (fun h => op_catS pins s σ H x y v u Q I rx ry h) fun h => op_catA pins s σ H x y v u Q I rx ry h
def rSlS (K : KF) : V → Option Int → Option Int → Hp → VK → Prop := fun x lo hi H Q => rSlL K x lo hi H Q ∨ rSlA K x lo hi H Q
theorem sl_seq : SlR X (rSlS X.K) := fun pins s σ H x v vl vu lo hi sl Q I rx hs pl pu h =>
  h.elim (fun h => sl_list pins s σ H x v vl vu lo hi sl Q I rx hs pl pu h) fun h => sl_tupA pins s σ H x v vl vu lo hi sl Q I rx hs pl pu h
/-- a walked list or tuple -/
def iSeq (K : KF) (tl : TE) : TI := fun σ H R => tl σ H fun x H1 => ∃ a, x = .ref a ∧ (((∃ xs, SqL K H1 a xs) ∧ R (Itl K a) H1) ∨ ((∃ xs, SqT K H1 a xs) ∧ R (Itt K a) H1))
theorem pi_seq {tg : Expr} {l : Expr} {tl : TE} (hl : PE X l tl) : PI X tg l (iSeq X.K tl) := by
  refine ⟨fun pins s σ H R I h => ?_⟩
  refine thn (hl.run pins s σ H _ I h) fun v s1 ⟨x, H1, I1, r1, q1⟩ => ?_
  obtain ⟨a, e, q1⟩ := q1
  subst e
  cases r1
  rcases q1 with ⟨⟨xs, hq⟩, q⟩ | ⟨⟨xs, hq⟩, q⟩
  · obtain ⟨its, rv, p, hz⟩ := I1.list hq
    refine wpAny_pyIter_list p.isList ?_
    refine ⟨s1.heap.objs.size, [s1.heap.objs.size], _, _, H1, rfl, I1.kept (t' := s1.toks) fun b o e => Heap.get?_push_of_some _ e, turn_list a _, ⟨_, Heap.get?_push_size _ rfl, rfl, rfl⟩, fun b hb => ?_, q⟩
    have e : b = s1.heap.objs.size := by simpa using hb
    subst e
    exact I1.fpOk (Nat.le_refl _) (I1.hok.fresh (Nat.le_refl _))
  · obtain ⟨its, rv, p, hz⟩ := I1.tuple hq
    refine wpAny_pyIter_tuple (show s1.heap.IsTuple a its.toArray from p) ?_
    refine ⟨s1.heap.objs.size, [s1.heap.objs.size], _, _, H1, rfl, I1.kept (t' := s1.toks) fun b o e => Heap.get?_push_of_some _ e, turn_tuple a _, ⟨_, Heap.get?_push_size _ rfl, rfl, rfl⟩, fun b hb => ?_, q⟩
    have e : b = s1.heap.objs.size := by simpa using hb
    subst e
    exact I1.fpOk (Nat.le_refl _) (I1.hok.fresh (Nat.le_refl _))
end
section
variable {K : KF} {W : WX} {Γ : Gm} {Ω : Om} {R : DV → Om → Prop} {X : Exc → Om → Prop}
/-! operators -/
theorem wr_I {C : Int → Int → Prop} {f : Int → Int → Int} {i j : Int} (hc : C i j) (q : R (.d (.int (f i j))) Ω) : WR K (rI C fun i j => .int (f i j)) (.d (.int i)) (.d (.int j)) Ω R := fun m G H v w Q c r1 r2 k => by
  cases r1; cases r2
  exact ⟨i, j, rfl, rfl, hc, k _ _ _ _ (.d (.int (f i j))) _ c (Nxt.refl ..) (Nat.le_refl _) (Dp.int _) q⟩
theorem wr_I0b {f : Int → Int → Bool} {i j : Int} (q : R (.d (.bool (f i j))) Ω) : WR K (rI0 fun i j => .bl (f i j)) (.d (.int i)) (.d (.int j)) Ω R := fun m G H v w Q c r1 r2 k => by
  cases r1; cases r2
  exact ⟨i, j, rfl, rfl, k _ _ _ _ (.d (.bool (f i j))) _ c (Nxt.refl ..) (Nat.le_refl _) (Dp.bl _) q⟩
theorem wr_I0 {f : Int → Int → Int} {i j : Int} (q : R (.d (.int (f i j))) Ω) : WR K (rI0 fun i j => .int (f i j)) (.d (.int i)) (.d (.int j)) Ω R := fun m G H v w Q c r1 r2 k => by
  cases r1; cases r2
  exact ⟨i, j, rfl, rfl, k _ _ _ _ (.d (.int (f i j))) _ c (Nxt.refl ..) (Nat.le_refl _) (Dp.int _) q⟩
theorem wr_addI {i j : Int} (q : R (.d (.int (i + j))) Ω) : WR K (rAddX K) (.d (.int i)) (.d (.int j)) Ω R := fun m G H v w Q c r1 r2 k => .inl (wr_I0 (f := fun i j => i + j) q m G H v w Q c r1 r2 k)
theorem wr_addS {i j : Str} (h : i.length + j.length ≤ 100000) (q : R (.d (.str (i ++ j))) Ω) : WR K (rAddX K) (.d (.str i)) (.d (.str j)) Ω R := fun m G H v w Q c r1 r2 k => by
  cases r1; cases r2
  exact .inr (.inl ⟨i, j, rfl, rfl, sz_of h, k _ _ _ _ (.d (.str (i ++ j))) _ c (Nxt.refl ..) (Nat.le_refl _) (Dp.str _) q⟩)
theorem dps_app {K : KF} {G : Hp} : ∀ {vs ws : List V} {xs ys : List PyData}, DpAll K G vs xs → DpAll K G ws ys → DpAll K G (vs ++ ws) (xs ++ ys)
  | [], _, [], _, .nil, h => h
  | _ :: _, _, _ :: _, _, .cons a b, h => .cons a (dps_app b h)
theorem dps_len {K : KF} {G : Hp} : ∀ {vs : List V} {xs : List PyData}, DpAll K G vs xs → vs.length = xs.length
  | [], [], .nil => rfl
  | _ :: _, _ :: _, .cons a b => congrArg Nat.succ (dps_len b)
/-! views with their parts of the frozen heap -/
def lsL (Ω : Om) : DV → Option (List PyData)
  | .d (.list xs) => some xs
  | .o i => (sqO Ω[i]?).bind asDs
  | _ => none
def lsT : DV → Option (List PyData)
  | .d (.tuple xs) => some xs
  | _ => none
def ls (Ω : Om) : DV → Option (List PyData)
  | .d (.list xs) => some xs
  | .d (.tuple xs) => some xs
  | .o i => (sqO Ω[i]?).bind asDs
  | _ => none
theorem lsL_get {m : Mp} {G H : Hp} {d : DV} {xs : List PyData} {v : V} (c : Core K m G Ω H) (r : RV K m G Ω.length d v) (h : lsL Ω d = some xs) : ∃ a vs, v = .ref a ∧ SqL K H a vs ∧ DpAll K G vs xs := by
  cases d with
  | v y => cases h
  | e _ _ _ _ => cases h
  | t _ => cases h
  | o i =>
    have h : (sqO Ω[i]?).bind asDs = some xs := h
    cases e : sqO Ω[i]? with
    | none => rw [e] at h; cases h
    | some ds =>
      rw [e] at h
      have e2 : Ω[i]? = some (.lst ds) := sq_o (Ω := Ω) e
      obtain ⟨_, vs, hv, rp⟩ := c.fr i _ e2 (by intro z; cases z)
      obtain ⟨hi, rfl⟩ := r
      rw [asDs_eq (ds := ds) (xs := xs) h] at rp
      exact ⟨m i, vs, rfl, sq_of hv, dps_of rp⟩
  | d y =>
    cases y with
    | list xs =>
      cases h
      cases r with
      | lst hs ha => exact ⟨_, _, rfl, ex_l c.ex hs, ha⟩
    | tuple xs => cases h
    | none => cases h
    | bool b => cases h
    | int b => cases h
    | str b => cases h
    | dict b => cases h
theorem lsT_get {m : Mp} {G H : Hp} {d : DV} {xs : List PyData} {v : V} (c : Core K m G Ω H) (r : RV K m G Ω.length d v) (h : lsT d = some xs) : ∃ a vs, v = .ref a ∧ SqT K G a vs ∧ DpAll K G vs xs := by
  cases d with
  | v y => cases h
  | e _ _ _ _ => cases h
  | t _ => cases h
  | o i => cases h
  | d y =>
    cases y with
    | tuple xs =>
      cases h
      cases r with
      | tup hs ha => exact ⟨_, _, rfl, hs, ha⟩
    | list xs => cases h
    | none => cases h
    | bool b => cases h
    | int b => cases h
    | str b => cases h
    | dict b => cases h
theorem ls_get {m : Mp} {G H : Hp} {d : DV} {xs : List PyData} {v : V} (c : Core K m G Ω H) (r : RV K m G Ω.length d v) (h : ls Ω d = some xs) : ∃ a vs, v = .ref a ∧ (SqL K H a vs ∨ SqT K G a vs) ∧ DpAll K G vs xs := by
  have go1 : lsL Ω d = some xs → ∃ a vs, v = .ref a ∧ (SqL K H a vs ∨ SqT K G a vs) ∧ DpAll K G vs xs := fun h => by
    obtain ⟨a, vs, e, q, p⟩ := lsL_get c r h
    exact ⟨a, vs, e, .inl q, p⟩
  have go2 : lsT d = some xs → ∃ a vs, v = .ref a ∧ (SqL K H a vs ∨ SqT K G a vs) ∧ DpAll K G vs xs := fun h => by
    obtain ⟨a, vs, e, q, p⟩ := lsT_get c r h
    exact ⟨a, vs, e, .inr q, p⟩
  cases d with
  | v y => cases h
  | e _ _ _ _ => cases h
  | t _ => cases h
  | o i => exact go1 h
  | d y =>
    cases y with
    | tuple xs => exact go2 h
    | list xs => exact go1 h
    | none => cases h
    | bool b => cases h
    | int b => cases h
    | str b => cases h
    | dict b => cases h
/-- list + list: a list that nobody changes -/
theorem wr_addL {x y : DV} {xs ys : List PyData} (hx : lsL Ω x = some xs) (hy : lsL Ω y = some ys) (h : xs.length + ys.length ≤ 100000) (q : R (.d (.list (xs ++ ys))) Ω) : WR K (rAddX K) x y Ω R := fun m G H v w Q c r1 r2 k => by
  obtain ⟨a, vs, rfl, s1, a1⟩ := lsL_get c r1 hx
  obtain ⟨b, ws, rfl, s2, a2⟩ := lsL_get c r2 hy
  refine .inr (.inr (.inl ⟨_, _, _, _, rfl, rfl, s1, s2, sz_of (by rw [dps_len a1, dps_len a2]; exact h), fun p hp => ?_⟩))
  obtain ⟨c2, n2⟩ := c.frz hp (.lst (vs ++ ws))
  exact k _ _ _ _ (.d (.list (xs ++ ys))) _ c2 n2 (Nat.le_refl _) (.lst (sq_of upd_same) (dps_ex n2.gg _ _ (dps_app a1 a2))) q
theorem wr_eq {x y : DV} {a b : PyData} (hx : vw Ω x = some a) (hy : vw Ω y = some b) (sa : SeqAt.shaped a = true) (sb : SeqAt.shaped b = true) (q : R (.d (.bool (PyData.eqv a b))) Ω) : WR K (rEqD K) x y Ω R := fun m G H v w Q c r1 r2 k =>
  ⟨a, b, vw_dp c r1 hx, vw_dp c r2 hy, sa, sb, k _ _ _ _ (.d (.bool (PyData.eqv a b))) _ c (Nxt.refl ..) (Nat.le_refl _) (Dp.bl _) q⟩
theorem wr_ne {x y : DV} {a b : PyData} (hx : vw Ω x = some a) (hy : vw Ω y = some b) (sa : SeqAt.shaped a = true) (sb : SeqAt.shaped b = true) (q : R (.d (.bool (!PyData.eqv a b))) Ω) : WR K (rNeD K) x y Ω R := fun m G H v w Q c r1 r2 k =>
  ⟨a, b, vw_dp c r1 hx, vw_dp c r2 hy, sa, sb, k _ _ _ _ (.d (.bool (!PyData.eqv a b))) _ c (Nxt.refl ..) (Nat.le_refl _) (Dp.bl _) q⟩
def isNo : DV → Bool
  | .d .none => true
  | _ => false
def plainV : DV → Bool
  | .v _ => false
  | _ => true
theorem isNo_v {m : Mp} {G : Hp} {n : Nat} {x : DV} {v : V} (r : RV K m G n x v) (p : plainV x = true) : decide (v = .non) = isNo x := by
  cases x with
  | v y => cases p
  | e _ _ _ _ =>
    obtain ⟨rfl, _⟩ := r
    rfl
  | t _ =>
    obtain ⟨_, _, rfl, _⟩ := r
    rfl
  | o i =>
    obtain ⟨_, rfl⟩ := r
    rfl
  | d y => cases y <;> cases r <;> rfl
theorem wr_isN {x : DV} (p : plainV x = true) (q : R (.d (.bool (isNo x))) Ω) : WR K (fun x y H Q => y = .non ∧ Q (.bl (decide (x = .non))) H) x (.d .none) Ω R := fun m G H v w Q c r1 r2 k => by
  cases r2
  refine ⟨rfl, ?_⟩
  rw [isNo_v r1 p]
  exact k _ _ _ _ (.d (.bool (isNo x))) _ c (Nxt.refl ..) (Nat.le_refl _) (Dp.bl _) q
theorem wr_notN {x : DV} (p : plainV x = true) (q : R (.d (.bool (!isNo x))) Ω) : WR K (fun x y H Q => y = .non ∧ Q (.bl (!decide (x = .non))) H) x (.d .none) Ω R := fun m G H v w Q c r1 r2 k => by
  cases r2
  refine ⟨rfl, ?_⟩
  rw [isNo_v r1 p]
  exact k _ _ _ _ (.d (.bool (!isNo x))) _ c (Nxt.refl ..) (Nat.le_refl _) (Dp.bl _) q
/-! items -/
theorem atI_pair {F : DV → V → Prop} {xs : List DV} {vs : List V} {i : Int} {x : DV} (r : Paired F xs vs) (h : atI xs i = some x) : ∃ v, atI vs i = some v ∧ F x v := by
  unfold atI at h ⊢
  rw [← Paired.length r]
  cases e : ixN xs.length i with
  | none => rw [e] at h; cases h
  | some j =>
    rw [e] at h
    exact Paired.getL r h
theorem wr_ix {x : DV} {ds : List DV} {i : Int} {y : DV} (hx : sq Ω x = some ds) (hi : atI ds i = some y) (q : R y Ω) : WR K (rIx K) x (.d (.int i)) Ω R := fun m G H v w Q c r1 r2 k => by
  cases r2
  obtain ⟨a, vs, rfl, hs, rp⟩ := sq_get c r1 hx
  obtain ⟨u, e, ru⟩ := atI_pair rp hi
  rcases hs with hs | hs
  · exact .inl ⟨a, vs, i, u, rfl, rfl, hs, e, k _ _ _ _ _ _ c (Nxt.refl ..) (Nat.le_refl _) ru q⟩
  · exact .inr (.inl ⟨a, vs, i, u, rfl, rfl, hs, e, k _ _ _ _ _ _ c (Nxt.refl ..) (Nat.le_refl _) ru q⟩)
theorem atI_map {α β : Type} (f : α → β) (xs : List α) (i : Int) : atI (xs.map f) i = (atI xs i).map f := by
  unfold atI
  rw [List.length_map]
  cases ixN xs.length i with
  | none => rfl
  | some j => show (xs.map f)[j]? = (xs[j]?).map f; rw [List.getElem?_map]
theorem wr_ixT {xs : List PyData} {i : Int} {y : PyData} (hi : atI xs i = some y) (q : R (.d y) Ω) : WR K (rIx K) (.d (.tuple xs)) (.d (.int i)) Ω R := wr_ix (ds := xs.map DV.d) rfl (by rw [atI_map, hi]; rfl) q
theorem wr_ixL {xs : List PyData} {i : Int} {y : PyData} (hi : atI xs i = some y) (q : R (.d y) Ω) : WR K (rIx K) (.d (.list xs)) (.d (.int i)) Ω R := wr_ix (ds := xs.map DV.d) rfl (by rw [atI_map, hi]; rfl) q
theorem wr_ixS {z : Str} {i : Int} {c0 : Nat} (hz : z.length ≤ 100000) (hi : atI z.cps.toList i = some c0) (q : R (.d (.str ⟨#[c0]⟩)) Ω) : WR K (rIx K) (.d (.str z)) (.d (.int i)) Ω R := fun m G H v w Q c r1 r2 k => by
  cases r1; cases r2
  exact .inr (.inr ⟨z, i, c0, rfl, rfl, sz_of hz, hi, k _ _ _ _ (.d (.str ⟨#[c0]⟩)) _ c (Nxt.refl ..) (Nat.le_refl _) (Dp.str _) q⟩)
/-! built-in functions -/
theorem wc_abs {i : Int} (q : R (.d (.int (if i < 0 then -i else i))) Ω) : WC K (fun xs H Q => ∃ i, xs = [.int i] ∧ Q (.int (if i < 0 then -i else i)) H) [.d (.int i)] Ω R := fun m G H vs Q c r k => by
  cases r with | cons a b => cases b; cases a; exact ⟨i, rfl, k _ _ _ _ (.d (.int (if i < 0 then -i else i))) _ c (Nxt.refl ..) (Nat.le_refl _) (Dp.int _) q⟩
theorem wc_max {i j : Int} (q : R (.d (.int (if j > i then j else i))) Ω) : WC K (fun xs H Q => ∃ i j, xs = [.int i, .int j] ∧ Q (.int (if j > i then j else i)) H) [.d (.int i), .d (.int j)] Ω R := fun m G H vs Q c r k => by
  cases r with | cons a b => cases b with | cons b d => cases d; cases a; cases b; exact ⟨i, j, rfl, k _ _ _ _ (.d (.int (if j > i then j else i))) _ c (Nxt.refl ..) (Nat.le_refl _) (Dp.int _) q⟩
theorem wc_min {i j : Int} (q : R (.d (.int (if j < i then j else i))) Ω) : WC K (fun xs H Q => ∃ i j, xs = [.int i, .int j] ∧ Q (.int (if j < i then j else i)) H) [.d (.int i), .d (.int j)] Ω R := fun m G H vs Q c r k => by
  cases r with | cons a b => cases b with | cons b d => cases d; cases a; cases b; exact ⟨i, j, rfl, k _ _ _ _ (.d (.int (if j < i then j else i))) _ c (Nxt.refl ..) (Nat.le_refl _) (Dp.int _) q⟩
theorem wc_intI {i : Int} (q : R (.d (.int i)) Ω) : WC K (fun xs H Q => (∃ i, xs = [.int i] ∧ Q (.int i) H) ∨ ∃ k, xs = [.bl k] ∧ Q (.int (if k then 1 else 0)) H) [.d (.int i)] Ω R := fun m G H vs Q c r k => by
  cases r with | cons a b => cases b; cases a; exact .inl ⟨i, rfl, k _ _ _ _ (.d (.int i)) _ c (Nxt.refl ..) (Nat.le_refl _) (Dp.int _) q⟩
theorem wc_intB {b : Bool} (q : R (.d (.int (if b then 1 else 0))) Ω) : WC K (fun xs H Q => (∃ i, xs = [.int i] ∧ Q (.int i) H) ∨ ∃ k, xs = [.bl k] ∧ Q (.int (if k then 1 else 0)) H) [.d (.bool b)] Ω R := fun m G H vs Q c r k => by
  cases r with | cons a b => cases b; cases a; exact .inr ⟨_, rfl, k _ _ _ _ (.d (.int _)) _ c (Nxt.refl ..) (Nat.le_refl _) (Dp.int _) q⟩
theorem wc_len {x : DV} {ds : List DV} (hx : sq Ω x = some ds) (q : R (.d (.int ds.length)) Ω) : WC K (fun xs H Q => ∃ p ys, xs = [.ref p] ∧ (SqL K H p ys ∨ SqT K H p ys) ∧ Q (.int ys.length) H) [x] Ω R := fun m G H vs Q c r k => by
  cases r with
  | cons a b =>
    cases b
    obtain ⟨p, ws, rfl, hs, rp⟩ := sq_get c a hx
    refine ⟨p, ws, rfl, hs, ?_⟩
    rw [← Paired.length rp]
    exact k _ _ _ _ (.d (.int ds.length)) _ c (Nxt.refl ..) (Nat.le_refl _) (Dp.int _) q
theorem wc_tuple {x : DV} {xs : List PyData} (hx : ls Ω x = some xs) (q : R (.d (.tuple xs)) Ω) : WC K (fun xs H Q => ∃ p ys, xs = [.ref p] ∧ ((SqL K H p ys ∧ ∀ l, H l = none → Q (.ref l) (upd H l (.tup ys))) ∨ (SqT K H p ys ∧ Q (.ref p) H))) [x] Ω R := fun m G H vs Q c r k => by
  cases r with
  | cons a b =>
    cases b
    obtain ⟨p, ws, rfl, hs, rp⟩ := ls_get c a hx
    refine ⟨p, ws, rfl, ?_⟩
    rcases hs with hs | hs
    · refine .inl ⟨hs, fun l hl => ?_⟩
      obtain ⟨c2, n2⟩ := c.frz hl (.tup ws)
      exact k _ _ _ _ (.d (.tuple xs)) _ c2 n2 (Nat.le_refl _) (.tup (st_of upd_same) (dps_ex n2.gg _ _ rp)) q
    · exact .inr ⟨ex_t c.ex hs, k _ _ _ _ (.d (.tuple xs)) _ c (Nxt.refl ..) (Nat.le_refl _) (.tup hs rp) q⟩
theorem hs_h {m : Mp} {G H : Hp} (c : Core K m G Ω H) {a : Addr} {vs : List V} (h : SqL K H a vs ∨ SqT K G a vs) : SqL K H a vs ∨ SqT K H a vs := h.imp id fun z => ex_t c.ex z
theorem wc_listD {x : DV} {xs : List PyData} (hx : ls Ω x = some xs) (q : R (.d (.list xs)) Ω) : WC K (fun xs H Q => ∃ p ys, xs = [.ref p] ∧ (SqL K H p ys ∨ SqT K H p ys) ∧ ∀ l, H l = none → Q (.ref l) (upd H l (.lst ys))) [x] Ω R := fun m G H vs Q c r k => by
  cases r with
  | cons a b =>
    cases b
    obtain ⟨p, ws, rfl, hs, rp⟩ := ls_get c a hx
    refine ⟨p, ws, rfl, hs_h c hs, fun l hl => ?_⟩
    obtain ⟨c2, n2⟩ := c.frz hl (.lst ws)
    exact k _ _ _ _ (.d (.list xs)) _ c2 n2 (Nat.le_refl _) (.lst (sq_of upd_same) (dps_ex n2.gg _ _ rp)) q
theorem dps_bools {K : KF} {G : Hp} : ∀ {ns : List Bool} {vs : List V}, DpAll K G vs (ns.map PyData.bool) → vs = ns.map V.bl
  | [], _, .nil => rfl
  | n :: ns, _, .cons a b => by cases a; rw [dps_bools b]; rfl
theorem wc_all {x : DV} {bs : List Bool} (hx : lsL Ω x = some (bs.map PyData.bool)) (q : R (.d (.bool (bs.all id))) Ω) : WC K (rAll K) [x] Ω R := fun m G H vs Q c r k => by
  cases r with
  | cons a b =>
    cases b
    obtain ⟨p, ws, rfl, hs, rp⟩ := lsL_get c a hx
    rw [dps_bools rp] at hs
    exact ⟨p, bs, rfl, hs, k _ _ _ _ (.d (.bool (bs.all id))) _ c (Nxt.refl ..) (Nat.le_refl _) (Dp.bl _) q⟩
/-! isinstance -/
def tyN : PyData → Option String
  | .none => some "NoneType"
  | .bool _ => some "bool"
  | .int _ => some "int"
  | .str _ => some "str"
  | .list _ => some "list"
  | .tuple _ => some "tuple"
  | .dict _ => none
theorem ty_of {H : Hp} {x : PyData} {v : V} {n : String} (h : Dp K H v x) (e : tyN x = some n) : TyX K H v (.type n) := by
  cases h with
  | non => cases e; exact .base .non
  | bl b => cases e; exact .base (.bl b)
  | int b => cases e; exact .base (.int b)
  | str b => cases e; exact .base (.str b)
  | lst hs ha =>
    cases e
    rcases hs with (hs | ⟨o, hs⟩) | ⟨o, its, n, hk, hc, _⟩
    · exact .base (.lst hs)
    · exact .base (.frz hs)
    · exact .kList hk hc
  | tup hs ha =>
    cases e
    rcases hs with (hs | ⟨o, hs⟩) | ⟨o, its, n, hk, hc, _⟩
    · exact .base (.tup hs)
    · exact .fTuple hs
    · exact .kTuple hk hc
theorem wc_isi {x : DV} {y : PyData} {a b : String} {z : Bool} (hx : vw Ω x = some y) (ha : tyN y = some a) (hk : kitB a b = some z) (q : R (.d (.bool z)) Ω) : WC K (rIsi K) [x, .v (.ty b)] Ω R := fun m G H vs Q c r k => by
  cases r with
  | cons r1 rs => cases rs with
    | cons r2 rs =>
      cases rs
      cases r2
      exact ⟨_, _, _, _, z, rfl, .ty b, ty_of (vw_dp c r1 hx) ha, kit_ty hk, k _ _ _ _ (.d (.bool z)) _ c (Nxt.refl ..) (Nat.le_refl _) (Dp.bl _) q⟩
end
end HL
namespace HL
open PySem PySem.Spec PyProof.Rows L2 Evl
/-! ### slices -/
def cutG {α : Type} (xs : List α) (lo hi : Option Int) : List α := (xs.drop (HT.sIx xs.length 0 lo)).take (HT.sIx xs.length xs.length hi - HT.sIx xs.length 0 lo)
theorem dps_drop {K : KF} {G : Hp} : ∀ (n : Nat) {vs : List V} {xs : List PyData}, DpAll K G vs xs → DpAll K G (vs.drop n) (xs.drop n)
  | 0, _, _, h => h
  | _ + 1, [], [], .nil => .nil
  | n + 1, _ :: _, _ :: _, .cons _ b => dps_drop n b
theorem dps_take {K : KF} {G : Hp} : ∀ (n : Nat) {vs : List V} {xs : List PyData}, DpAll K G vs xs → DpAll K G (vs.take n) (xs.take n)
  | 0, _, _, _ => .nil
  | _ + 1, [], [], .nil => .nil
  | n + 1, _ :: _, _ :: _, .cons a b => .cons a (dps_take n b)
theorem dps_cut {K : KF} {G : Hp} {vs : List V} {xs : List PyData} (lo hi : Option Int) (h : DpAll K G vs xs) : DpAll K G (cutV vs lo hi) (cutG xs lo hi) := by
  unfold cutV cutG
  rw [dps_len h]
  exact dps_take _ (dps_drop _ h)
theorem cut_whole {α : Type} {xs : List α} {lo hi : Option Int} (h : HT.sIx xs.length 0 lo = 0 ∧ HT.sIx xs.length xs.length hi = xs.length) : cutG xs lo hi = xs := by
  unfold cutG
  rw [h.1, h.2]
  simp
section
variable (K : KF) (W : WX)
def WO (to : TO) (Γ : Gm) (Ω : Om) (R : Option Int → Om → Prop) (X : Exc → Om → Prop) : Prop :=
  ∀ m G H σ Q, Core K m G Ω H → Slots K m G Ω.length Γ σ → (∀ m' G' Ω' H' b, Core K m' G' Ω' H' → Nxt m Ω.length G m' G' → Ω.length ≤ Ω'.length → R b Ω' → Q b H') → XOk K m G Ω.length X (fun c d H' => W c d σ H') → to σ H Q
def WSl (r : V → Option Int → Option Int → Hp → VK → Prop) (x : DV) (lo hi : Option Int) (Ω : Om) (R : DV → Om → Prop) : Prop :=
  ∀ m G H v Q, Core K m G Ω H → RV K m G Ω.length x v → QOk K m G Ω.length R Q → r v lo hi H Q
end
section
variable {K : KF} {W : WX} {Γ : Gm} {Ω : Om} {R : DV → Om → Prop} {X : Exc → Om → Prop} {te : TE}
theorem wo_none {S : Option Int → Om → Prop} (q : S none Ω) : WO K W tNoPart Γ Ω S X := fun m G H σ Q c s k x => k _ _ _ _ _ c (Nxt.refl ..) (Nat.le_refl _) q
theorem wo_some {S : Option Int → Om → Prop} (h : WE K W te Γ Ω (fun d Ω1 => ∃ i, d = .d (.int i) ∧ S (some i) Ω1) X) : WO K W (tPart te) Γ Ω S X := fun m G H σ Q c s k x =>
  h m G H σ _ c s (fun m1 G1 Ω1 H1 d1 v1 c1 n1 l1 r1 ⟨i, e, q⟩ => by
    subst e
    cases r1
    exact ⟨i, rfl, k _ _ _ _ _ c1 n1 l1 q⟩) x
theorem we_sl {r : V → Option Int → Option Int → Hp → VK → Prop} {tl th : TO} (h : WE K W te Γ Ω (fun d Ω1 => WO K W tl Γ Ω1 (fun lo Ω2 => WO K W th Γ Ω2 (fun hi Ω3 => WSl K r d lo hi Ω3 R) X) X) X) : WE K W (tSl r te tl th) Γ Ω R X := fun m G H σ Q c s k x =>
  h m G H σ _ c s (fun m1 G1 Ω1 H1 d1 v1 c1 n1 l1 r1 h1 => h1 m1 G1 H1 σ _ c1 (s.mono n1 l1) (fun m2 G2 Ω2 H2 lo c2 n2 l2 h2 =>
    h2 m2 G2 H2 σ _ c2 ((s.mono n1 l1).mono n2 l2) (fun m3 G3 Ω3 H3 hi c3 n3 l3 h3 =>
      h3 m3 G3 H3 v1 Q c3 (RV.mono (n2.trans l2 n3) (Nat.le_trans l2 l3) r1) (k.on (n1.trans l1 (n2.trans l2 n3)) (Nat.le_trans l1 (Nat.le_trans l2 l3)))) (x.on (n1.trans l1 n2) (Nat.le_trans l1 l2))) (x.on n1 l1)) x
theorem wsl_T {xs : List PyData} {lo hi : Option Int} (q : R (.d (.tuple (cutG xs lo hi))) Ω) : WSl K (rSlS K) (.d (.tuple xs)) lo hi Ω R := fun m G H v Q c r k => by
  obtain ⟨a, vs, rfl, hs, rp⟩ := lsT_get c r rfl
  refine .inr ⟨a, vs, rfl, ex_t c.ex hs, fun e => ?_, fun _ p hp => ?_⟩
  · rw [dps_len rp] at e
    rw [cut_whole e] at q
    exact k _ _ _ _ (.d (.tuple xs)) _ c (Nxt.refl ..) (Nat.le_refl _) r q
  · obtain ⟨c2, n2⟩ := c.frz hp (.tup (cutV vs lo hi))
    exact k _ _ _ _ (.d (.tuple (cutG xs lo hi))) _ c2 n2 (Nat.le_refl _) (.tup (st_of upd_same) (dps_ex n2.gg _ _ (dps_cut lo hi rp))) q
end
/-! ### methods of lists -/
section
variable {K : KF} {W : WX} {Γ : Gm} {Ω : Om} {R : DV → Om → Prop} {X : Exc → Om → Prop} {to : TE} {ta : TA}
/-- a method of one's own list -/
theorem we_bm {r : V → List V → Hp → VK → Prop} (h : WE K W to Γ Ω (fun d Ω1 => (∃ ds, sq Ω1 d = some ds ∧ lsT d = none) ∧ WA K W ta Γ Ω1 (fun ds Ω2 => WM K r d ds Ω2 R) X) X) : WE K W (tBM K "list" r to ta) Γ Ω R X := fun m G H σ Q c s k x =>
  h m G H σ _ c s (fun m1 G1 Ω1 H1 d1 v1 c1 n1 l1 r1 ⟨⟨ds, e1, e2⟩, h1⟩ => by
    refine ⟨?_, h1 m1 G1 H1 σ _ c1 (s.mono n1 l1) (fun m2 G2 Ω2 H2 es vs c2 n2 l2 r2 h2 => h2 m2 G2 H2 v1 vs Q c2 (RV.mono n2 l2 r1) r2 (k.on (n1.trans l1 n2) (Nat.le_trans l1 l2))) (x.on n1 l1)⟩
    obtain ⟨a, vs, rfl, hs, rp⟩ := sq_get c1 r1 e1
    rcases hs with hs | hs
    · exact Or.inl ⟨rfl, vs, hs⟩
    · cases d1 with
      | v y => cases e1
      | e _ _ _ _ => cases e1
      | t _ => cases e1
      | o i =>
        obtain ⟨_, q⟩ := c1.fr i _ (sq_o e1) (by intro z; cases z)
        obtain ⟨vs', hv, _⟩ := q
        obtain ⟨_, er⟩ := r1
        cases er
        exact Or.inl ⟨rfl, vs', sq_of hv⟩
      | d y =>
        cases y with
        | list xs =>
          cases r1 with
          | lst hl ha => exact Or.inl ⟨rfl, _, ex_l c1.ex hl⟩
        | tuple xs => cases e2
        | none => cases e1
        | bool b => cases e1
        | int b => cases e1
        | str b => cases e1
        | dict b => cases e1) x
theorem we_bm0 {r : V → List V → Hp → VK → Prop} (h : WE K W to Γ Ω (fun d Ω1 => (∃ ds, sq Ω1 d = some ds ∧ lsT d = none) ∧ WM K r d [] Ω1 R) X) : WE K W (tBM0 K "list" r to) Γ Ω R X := fun m G H σ Q c s k x =>
  we_bm (ta := tNil) (K := K) (W := W) (Γ := Γ) (Ω := Ω) (R := R) (X := X) (to := to) (r := r) (fun m G H σ Q c s k x => h m G H σ _ c s (fun m1 G1 Ω1 H1 d1 v1 c1 n1 l1 r1 ⟨e1, h1⟩ => k m1 G1 Ω1 H1 d1 v1 c1 n1 l1 r1 ⟨e1, wa_nil h1⟩) x) m G H σ Q c s k x
theorem wm_append {i : Nat} {y : DV} {ds : List DV} (hx : Ω[i]? = some (.lst ds)) (hl : ds.length < 100000) (q : R (.d .none) (Ω.set i (.lst (ds ++ [y])))) : WM K rAppend (.o i) [y] Ω R := fun m G H v vs Q c r1 r2 k => by
  obtain ⟨hi, rfl⟩ := r1
  cases r2 with
  | cons ry rn =>
    cases rn
    obtain ⟨q1, ws, hw, rp⟩ := c.fr i _ hx (by intro z; cases z)
    refine ⟨m i, ws, _, rfl, rfl, hw, sz_lt (by rw [← Paired.length rp]; exact hl), ?_⟩
    have c2 := c.write (y := .lst (ds ++ [y])) (o := .lst (ws ++ [_])) hx (by intro z; cases z) ⟨_, upd_same, Paired.snoc rp ry⟩
    exact k _ _ _ _ (.d .none) _ c2 (Nxt.refl ..) (by rw [List.length_set]; exact Nat.le_refl _) Dp.non q
/-- o[i] = v, a list of one's own -/
theorem wg_subL {to ti : TE} {y : DV} {S : Gm → Om → Prop} (h : WE K W to Γ Ω (fun d Ω1 => WE K W ti Γ Ω1 (fun e Ω2 => ∃ k ds i j, d = .o k ∧ e = .d (.int i) ∧ Ω2[k]? = some (.lst ds) ∧ ixN ds.length i = some j ∧ S Γ (Ω2.set k (.lst (ds.set j y)))) (fun _ _ => False)) (fun _ _ => False))
    (hW : True) : WG K (gSub to ti rSetL) y Γ Ω S := fun m G H σ v Q c s ry k => by
  have x0 : ∀ {m' : Mp} {G' : Hp} {n' : Nat}, XOk K m' G' n' (fun _ _ => False) (fun c d H' => W c d σ H') := fun {m' G' n'} _ _ _ _ _ _ _ _ _ _ _ z => z.elim
  refine h m G H σ _ c s (fun m1 G1 Ω1 H1 d1 v1 c1 n1 l1 r1 h1 => h1 m1 G1 H1 σ _ c1 (s.mono n1 l1) (fun m2 G2 Ω2 H2 d2 v2 c2 n2 l2 r2 ⟨kk, ds, i, j, e1, e2, hx, hj, q⟩ => ?_) x0) x0
  subst e1 e2
  cases r2
  have n12 := n1.trans l1 n2
  have l12 := Nat.le_trans l1 l2
  obtain ⟨_, er⟩ := RV.mono n2 l2 r1
  obtain ⟨q1, ws, hw, rp⟩ := c2.fr kk _ hx (by intro z; cases z)
  have c3 := c2.write (y := .lst (ds.set j y)) (o := .lst (ws.set j v)) hx (by intro z; cases z) ⟨_, upd_same, Paired.setP (RV.mono n12 l12 ry) j rp⟩
  have le : Ω2.length ≤ (Ω2.set kk (OC.lst (ds.set j y))).length := by rw [List.length_set]; exact Nat.le_refl _
  exact ⟨m2 kk, ws, i, j, er, rfl, hw, by rw [← Paired.length rp]; exact hj, k _ _ _ _ _ _ c3 n12 (Nat.le_trans l12 le) ((s.mono n12 l12).mono (Nxt.refl ..) le) q⟩
end
/-! ### what is walked -/
def ItOk (K : KF) (J : It) (ys : List DV) (stay : Om → Prop) (m1 : Mp) (G1 : Hp) (n1 : Nat) : Prop :=
  ∀ m' G' Ω' H', Core K m' G' Ω' H' → Nxt m1 n1 G1 m' G' → n1 ≤ Ω'.length → stay Ω' → ∀ i, (ys.length ≤ i → J.stop i H') ∧
    ∀ y, ys[i]? = some y → J.go i H' ∧ ∀ x H'', J.yld i H' x H'' → ∃ G'', Core K m' G'' Ω' H'' ∧ Ex G' G'' ∧ RV K m' G'' Ω'.length y x
def WI (K : KF) (W : WX) (wi : TI) (Γ : Gm) (Ω : Om) (Rc : List DV → (Om → Prop) → Om → Prop) (X : Exc → Om → Prop) : Prop :=
  ∀ m G H σ (R : It → Hp → Prop), Core K m G Ω H → Slots K m G Ω.length Γ σ → XOk K m G Ω.length X (fun c d H' => W c d σ H') →
    (∀ m1 G1 Ω1 H1 J ys stay, Core K m1 G1 Ω1 H1 → Nxt m Ω.length G m1 G1 → Ω.length ≤ Ω1.length → ItOk K J ys stay m1 G1 Ω1.length → Rc ys stay Ω1 → R J H1) → wi σ H R
section
variable {K : KF} {W : WX} {Γ : Gm} {Ω : Om} {X : Exc → Om → Prop} {Rc : List DV → (Om → Prop) → Om → Prop} {te : TE} {ta : TA}
def sqLs (Ω : Om) : DV → Option (List DV)
  | .d (.list xs) => some (xs.map DV.d)
  | .o i => sqO Ω[i]?
  | _ => none
theorem sqLs_get {m : Mp} {G H : Hp} {d : DV} {ds : List DV} {v : V} (c : Core K m G Ω H) (r : RV K m G Ω.length d v) (h : sqLs Ω d = some ds) : ∃ a vs, v = .ref a ∧ SqL K H a vs ∧ Paired (RV K m G Ω.length) ds vs := by
  cases d with
  | v y => cases h
  | e _ _ _ _ => cases h
  | t _ => cases h
  | o i =>
    have e2 : Ω[i]? = some (.lst ds) := sq_o (Ω := Ω) h
    obtain ⟨_, vs, hv, rp⟩ := c.fr i _ e2 (by intro z; cases z)
    obtain ⟨hi, rfl⟩ := r
    exact ⟨m i, vs, rfl, sq_of hv, rp⟩
  | d y =>
    cases y with
    | list xs =>
      cases h
      cases r with
      | lst hs ha => exact ⟨_, _, rfl, ex_l c.ex hs, of_dps ha⟩
    | tuple xs => cases h
    | none => cases h
    | bool b => cases h
    | int b => cases h
    | str b => cases h
    | dict b => cases h
theorem itok_list {m1 : Mp} {G1 : Hp} {n1 : Nat} {d : DV} {ds : List DV} {a : Addr} (r : RV K m1 G1 n1 d (.ref a)) : ItOk K (Itl K a) ds (fun Ω' => sqLs Ω' d = some ds) m1 G1 n1 := fun m' G' Ω' H' c' n' l' st i => by
  obtain ⟨a', vs, ea, hs, rp⟩ := sqLs_get c' (RV.mono n' l' r) st
  cases ea
  have el := Paired.length rp
  refine ⟨fun h => ⟨vs, hs, by rw [← el]; exact h⟩, fun y hy => ?_⟩
  obtain ⟨u, hu, ru⟩ := Paired.getL rp hy
  refine ⟨⟨vs, u, hs, hu⟩, fun x H'' ⟨e, hx⟩ => ?_⟩
  subst e
  have ex : u = x := Option.some.inj (hu.symm.trans (hx vs hs))
  subst ex
  exact ⟨G', c', Ex.refl _, ru⟩
theorem itok_tup {m1 : Mp} {G1 : Hp} {n1 : Nat} {xs : List PyData} {a : Addr} (r : RV K m1 G1 n1 (.d (.tuple xs)) (.ref a)) : ItOk K (Itt K a) (xs.map DV.d) (fun _ => True) m1 G1 n1 := fun m' G' Ω' H' c' n' l' st i => by
  have r' := RV.mono n' l' r
  obtain ⟨a', vs, ea, hs, rp0⟩ := lsT_get c' r' rfl
  cases ea
  have rp : Paired (RV K m' G' Ω'.length) (xs.map DV.d) vs := of_dps rp0
  have hs' := ex_t c'.ex hs
  have el := Paired.length rp
  refine ⟨fun h => ⟨vs, hs', by rw [← el]; exact h⟩, fun y hy => ?_⟩
  obtain ⟨u, hu, ru⟩ := Paired.getL rp hy
  refine ⟨⟨vs, u, hs', hu⟩, fun x H'' ⟨e, hx⟩ => ?_⟩
  subst e
  have ex : u = x := Option.some.inj (hu.symm.trans (hx vs hs'))
  subst ex
  exact ⟨G', c', Ex.refl _, ru⟩
theorem itok_rng {m1 : Mp} {G1 : Hp} {n1 : Nat} {lo : Int} {n : Nat} : ItOk K (Itr lo n) ((List.range n).map fun (i : Nat) => .d (.int (lo + (i : Int)))) (fun _ => True) m1 G1 n1 := fun m' G' Ω' H' c' n' l' st i => by
  refine ⟨fun h => ?_, fun y hy => ?_⟩
  · rw [List.length_map, List.length_range] at h
    exact h
  · rw [List.getElem?_map] at hy
    have hi : i < n := by
      by_cases h : i < n
      · exact h
      · rw [List.getElem?_eq_none (by rw [List.length_range]; omega)] at hy
        cases hy
    rw [List.getElem?_range hi] at hy
    cases hy
    refine ⟨hi, fun x H'' ⟨e, hx⟩ => ?_⟩
    subst e hx
    exact ⟨G', c', Ex.refl _, Dp.int _⟩
/-- what is walked, by its kind -/
theorem wi_seqL (h : WE K W te Γ Ω (fun d Ω1 => ∃ ds, sqLs Ω1 d = some ds ∧ Rc ds (fun Ω' => sqLs Ω' d = some ds) Ω1) X) : WI K W (iSeq K te) Γ Ω Rc X := fun m G H σ R c s x k =>
  h m G H σ _ c s (fun m1 G1 Ω1 H1 d v c1 n1 l1 r1 ⟨ds, e, q⟩ => by
    obtain ⟨a, vs, rfl, hs, rp⟩ := sqLs_get c1 r1 e
    exact ⟨a, rfl, .inl ⟨⟨vs, hs⟩, k m1 G1 Ω1 H1 _ ds _ c1 n1 l1 (itok_list r1) q⟩⟩) x
theorem wi_seqT (h : WE K W te Γ Ω (fun d Ω1 => ∃ xs, d = .d (.tuple xs) ∧ Rc (xs.map DV.d) (fun _ => True) Ω1) X) : WI K W (iSeq K te) Γ Ω Rc X := fun m G H σ R c s x k =>
  h m G H σ _ c s (fun m1 G1 Ω1 H1 d v c1 n1 l1 r1 ⟨xs, e, q⟩ => by
    subst e
    obtain ⟨a, vs, rfl, hs, rp⟩ := lsT_get c1 r1 rfl
    exact ⟨a, rfl, .inr ⟨⟨vs, ex_t c1.ex hs⟩, k m1 G1 Ω1 H1 _ _ _ c1 n1 l1 (itok_tup r1) q⟩⟩) x
theorem wi_rng1 (h : WA K W ta Γ Ω (fun ds Ω1 => ∃ j : Int, ds = [.d (.int j)] ∧ -(2 ^ 62) ≤ j ∧ j < 2 ^ 62 ∧ Rc ((List.range j.toNat).map fun (i : Nat) => .d (.int (0 + (i : Int)))) (fun _ => True) Ω1) X) : WI K W (iRng1 ta) Γ Ω Rc X := fun m G H σ R c s x k =>
  h m G H σ _ c s (fun m1 G1 Ω1 H1 ds vs c1 n1 l1 r1 ⟨j, e, h1, h2, q⟩ => by
    subst e
    cases r1 with
    | cons a b => cases b; cases a; exact ⟨j, rfl, h1, h2, k m1 G1 Ω1 H1 _ _ _ c1 n1 l1 itok_rng q⟩) x
/-! ### for -/
variable {O : Outs} {g : TG} {tb : TS} {wi : TI}
theorem ws_for (h : WI K W wi Γ Ω (fun ys stay Ω1 => ∃ P : Nat → Gm → Om → Prop, P 0 Γ Ω1 ∧ (∀ i Γ' Ω', i ≤ ys.length → P i Γ' Ω' → stay Ω' ∧ Ω1.length ≤ Ω'.length) ∧
      (∀ i y Γ' Ω', ys[i]? = some y → P i Γ' Ω' → WG K g y Γ' Ω' (fun Γ2 Ω2 => WS K W tb Γ2 Ω2 { nx := P (i + 1), ct := P (i + 1), bk := O.nx, rt := O.rt, er := O.er })) ∧ ∀ Γ' Ω', P ys.length Γ' Ω' → O.nx Γ' Ω') (fun e Ω1 => O.er Γ e Ω1)) :
    WS K W (tFor wi g tb) Γ Ω O := fun m G H σ D c s k1 k2 k3 k4 z => by
  refine h m G H σ _ c s (xok_of z s) (fun m1 G1 Ω1 H1 J ys stay c1 n1 l1 it ⟨P, p0, pst, step, fin⟩ => ?_)
  have s1 := s.mono n1 l1
  refine ⟨fun i n σ' H' => n = ys.length - i ∧ i ≤ ys.length ∧ ∃ m' G' Ω' Γ', Core K m' G' Ω' H' ∧ Nxt m1 Ω1.length G1 m' G' ∧ Ω1.length ≤ Ω'.length ∧ Slots K m' G' Ω'.length Γ' σ' ∧ P i Γ' Ω',
    ⟨ys.length, by simp, Nat.zero_le _, m1, G1, Ω1, Γ, c1, Nxt.refl .., Nat.le_refl _, s1, p0⟩, ?_⟩
  rintro i n σ2 H2 ⟨rfl, hi, m2, G2, Ω2, Γ2, c2, n2, l2, s2, p2⟩
  have n12 := n1.trans l1 n2
  have l12 := Nat.le_trans l1 l2
  have ik := it m2 G2 Ω2 H2 c2 n2 l2 (pst i Γ2 Ω2 hi p2).1 i
  by_cases hlt : i < ys.length
  · obtain ⟨go, yl⟩ := ik.2 ys[i] (List.getElem?_eq_getElem hlt)
    refine .inr ⟨go, fun σ' H' => ∃ m' G' Ω' Γ', Core K m' G' Ω' H' ∧ Nxt m1 Ω1.length G1 m' G' ∧ Ω1.length ≤ Ω'.length ∧ Slots K m' G' Ω'.length Γ' σ' ∧ P (i + 1) Γ' Ω', fun σ' H' q => ⟨ys.length - (i + 1), by omega, rfl, hlt, q⟩, fun x H'' hy => ?_⟩
    obtain ⟨G3, c3, e3, r3⟩ := yl x H'' hy
    have n3 : Nxt m2 Ω2.length G2 m2 G3 := ⟨fun _ _ => rfl, e3⟩
    have n13 := n12.trans l12 n3
    refine step i ys[i] Γ2 Ω2 (List.getElem?_eq_getElem hlt) p2 m2 G3 H'' σ2 x _ c3 (s2.mono n3 (Nat.le_refl _)) r3 (fun m4 G4 Ω4 H4 Γ4 σ4 c4 n4 l4 s4 h4 => ?_)
    have n14 := n13.trans l12 n4
    have l14 := Nat.le_trans l12 l4
    have again : SOk K m4 G4 Ω4.length (P (i + 1)) (fun σ' H' => ∃ m' G' Ω' Γ', Core K m' G' Ω' H' ∧ Nxt m1 Ω1.length G1 m' G' ∧ Ω1.length ≤ Ω'.length ∧ Slots K m' G' Ω'.length Γ' σ' ∧ P (i + 1) Γ' Ω') := fun m5 G5 Ω5 H5 Γ5 σ5 c5 n5 l5 s5 p5 =>
      ⟨m5, G5, Ω5, Γ5, c5, (n2.trans l2 (n3.trans (Nat.le_refl _) n4)).trans (Nat.le_trans l2 l4) n5, Nat.le_trans (Nat.le_trans l2 l4) l5, s5, p5⟩
    exact h4 m4 G4 H4 σ4 { D with nx := _, ct := _, bk := D.nx } c4 s4 again (k2.on n14 l14) (k1.on n14 l14) again (z.on n14 l14)
  · have ei : i = ys.length := by omega
    subst ei
    exact .inl ⟨ik.1 (Nat.le_refl _), k1 _ _ _ _ _ _ c2 n12 l12 s2 (fin Γ2 Ω2 p2)⟩
end
/-! ### comprehensions -/
def wipeG (Γ : Gm) : List Nat → Gm
  | [] => Γ
  | v :: vs => (wipeG Γ vs).set v none
theorem wipeG_slots {K : KF} {m : Mp} {G : Hp} {n : Nat} {Γ : Gm} {σ : L2.St} (s : Slots K m G n Γ σ) : ∀ vs, Slots K m G n (wipeG Γ vs) (wipe σ vs)
  | [] => s
  | v :: vs => by
    have ih := wipeG_slots s vs
    refine ⟨?_, fun i d h => ?_⟩
    · show ((wipeG Γ vs).set v none).length = ((wipe σ vs).set v none).length
      rw [List.length_set, List.length_set]
      exact ih.len
    · have h : ((wipeG Γ vs).set v none)[i]? = some (some d) := h
      show ∃ w, ((wipe σ vs).set v none)[i]? = some (some w) ∧ _
      rw [List.getElem?_set] at h ⊢
      by_cases hv : v = i
      · rw [if_pos hv] at h
        split at h <;> cases h
      · rw [if_neg hv] at h ⊢
        exact ih.at_ i d h
theorem wipe_ext {σ τ : L2.St} : ∀ {vs : List Nat}, σ.length = τ.length → (∀ i, i ∉ vs → σ[i]? = τ[i]?) → wipe σ vs = wipe τ vs
  | [], _, h => List.ext_getElem? fun i => h i (by simp)
  | v :: vs, hl, h => by
    show (wipe σ vs).set v none = (wipe τ vs).set v none
    refine List.ext_getElem? fun i => ?_
    rw [List.getElem?_set, List.getElem?_set, wipe_length, wipe_length, hl]
    by_cases hv : v = i
    · rw [if_pos hv, if_pos hv]
    · rw [if_neg hv, if_neg hv]
      have e : wipe (σ.set v none) vs = wipe (τ.set v none) vs := wipe_ext (by rw [List.length_set, List.length_set]; exact hl) fun j hj => by
        rw [List.getElem?_set, List.getElem?_set, hl]
        by_cases hvj : v = j
        · rw [if_pos hvj, if_pos hvj]
        · rw [if_neg hvj, if_neg hvj]
          exact h j (by simp; exact ⟨fun z => hvj z.symm, hj⟩)
      have at_ : ∀ (ρ : L2.St), (wipe ρ vs)[i]? = (wipe (ρ.set v none) vs)[i]? := fun ρ => by
        clear e h hl
        induction vs with
        | nil => show ρ[i]? = (ρ.set v none)[i]?; rw [List.getElem?_set, if_neg hv]
        | cons w ws ih =>
          show ((wipe ρ ws).set w none)[i]? = ((wipe (ρ.set v none) ws).set w none)[i]?
          rw [List.getElem?_set, List.getElem?_set, wipe_length, wipe_length, List.length_set, ih]
      rw [at_ σ, at_ τ, e]
theorem wipe_out {σ : L2.St} {i : Nat} : ∀ {vs : List Nat}, i ∉ vs → (wipe σ vs)[i]? = σ[i]?
  | [], _ => rfl
  | v :: vs, h => by
    show ((wipe σ vs).set v none)[i]? = σ[i]?
    rw [List.getElem?_set, if_neg (fun z : v = i => h (by simp [z]))]
    exact wipe_out fun z => h (List.mem_cons_of_mem _ z)
theorem wipe_idem (σ : L2.St) (vs : List Nat) : wipe (wipe σ vs) vs = wipe σ vs := wipe_ext (wipe_length σ vs) fun _ h => wipe_out h
def Only (g : TG) (vs : List Nat) : Prop := ∀ v σ H Q, g v σ H Q → g v σ H fun σ2 H2 => (wipe σ2 vs = wipe σ vs) ∧ Q σ2 H2
def Onlys (g : TGs) (vs : List Nat) : Prop := ∀ xs σ H Q, g xs σ H Q → g xs σ H fun σ2 H2 => (wipe σ2 vs = wipe σ vs) ∧ Q σ2 H2
theorem only_name {i : Nat} {vs : List Nat} (h : i ∈ vs) : Only (gName i) vs := fun v σ H Q q =>
  ⟨wipe_ext (by rw [List.length_set]) fun j hj => by rw [List.getElem?_set, if_neg (fun z : i = j => hj (z ▸ h))], q⟩
theorem onlys_nil {vs : List Nat} : Onlys gNil vs := fun xs σ H Q q => ⟨q.1, rfl, q.2⟩
theorem onlys_cons {g : TG} {gs : TGs} {vs : List Nat} (mono : ∀ v σ H Q Q', (∀ a b, Q a b → Q' a b) → g v σ H Q → g v σ H Q') (h : Only g vs) (t : Onlys gs vs) : Onlys (gCons g gs) vs := fun xs σ H Q q => by
  obtain ⟨v, r, e, q⟩ := q
  refine ⟨v, r, e, mono _ _ _ _ _ (fun a b z => ?_) (h v σ H _ q)⟩
  have z2 := t r a b Q z.2
  rw [z.1] at z2
  exact z2
theorem mono_name {i : Nat} : ∀ v σ H Q Q', (∀ a b, Q a b → Q' a b) → gName i v σ H Q → gName i v σ H Q' := fun _ _ _ _ _ k q => k _ _ q
theorem only_tup {K : KF} {n : Nat} {gs : TGs} {vs : List Nat} (h : Onlys gs vs) : Only (gTup K n gs) vs := fun v σ H Q q => by
  obtain ⟨a, xs, e1, e2, e3, q⟩ := q
  exact ⟨a, xs, e1, e2, e3, h _ _ _ _ q⟩
/-- targets hand on what is wanted -/
def MonoG (g : TG) : Prop := ∀ v σ H Q Q', (∀ a b, Q a b → Q' a b) → g v σ H Q → g v σ H Q'
def MonoGs (g : TGs) : Prop := ∀ v σ H Q Q', (∀ a b, Q a b → Q' a b) → g v σ H Q → g v σ H Q'
section
variable {K : KF} {W : WX} {Γ : Gm} {Ω : Om} {R : DV → Om → Prop} {X : Exc → Om → Prop} {wi : TI} {g : TG} {tt : TT} {te : TE} {vs : List Nat}
abbrev NoX : Exc → Om → Prop := fun _ _ => False
theorem noX {K : KF} {m : Mp} {G : Hp} {n : Nat} {Q : XK} : XOk K m G n NoX Q := fun _ _ _ _ _ _ _ _ _ _ _ z => z.elim
theorem we_lc (og : Only g vs) (h : WI K W wi Γ Ω (fun ys stay Ω1 => ∃ P : Nat → List DV → Om → Prop, P 0 [] (Ω1 ++ [.lst []]) ∧
      (∀ i acc Ω', i ≤ ys.length → P i acc Ω' → stay Ω' ∧ Ω1.length < Ω'.length) ∧
      (∀ i y acc Ω', ys[i]? = some y → P i acc Ω' → WG K g y (wipeG Γ vs) Ω' (fun Γ2 Ω2 => WT K (fun _ _ _ _ => False) tt Γ2 Ω2 (fun b Ω3 =>
        (b = true → WE K (fun _ _ _ _ => False) te Γ2 Ω3 (fun x Ω4 => Ω4[Ω1.length]? = some (.lst acc) ∧ acc.length < 100000 ∧ P (i + 1) (acc ++ [x]) (Ω4.set Ω1.length (.lst (acc ++ [x])))) NoX) ∧ (b = false → P (i + 1) acc Ω3)) NoX)) ∧
      ∀ acc Ω', P ys.length acc Ω' → R (.o Ω1.length) Ω') X) : WE K W (tLc wi g tt te vs) Γ Ω R X := fun m G H σ Q c s k x => by
  refine h m G H σ _ c s x (fun m1 G1 Ω1 H1 J ys stay c1 n1 l1 it ⟨P, p0, pst, step, fin⟩ D hD => ?_)
  have s1 := s.mono n1 l1
  obtain ⟨m2, c2, n2, e2⟩ := c1.own (x := .lst []) (o := .lst []) hD ⟨[], upd_same, .nil⟩
  have le1 : Ω1.length ≤ (Ω1 ++ [OC.lst []]).length := by simp
  refine ⟨fun i n H' => n = ys.length - i ∧ i ≤ ys.length ∧ ∃ m' G' Ω' acc, Core K m' G' Ω' H' ∧ Nxt m2 (Ω1 ++ [OC.lst []]).length G1 m' G' ∧ (Ω1 ++ [OC.lst []]).length ≤ Ω'.length ∧ P i acc Ω',
    ⟨ys.length, by simp, Nat.zero_le _, m2, G1, _, [], c2, Nxt.refl .., Nat.le_refl _, p0⟩, ?_⟩
  rintro i n H3 ⟨rfl, hi, m3, G3, Ω3, acc, c3, n3, l3, p3⟩
  have l3' : Ω1.length < Ω3.length := by simp at l3; omega
  have n13 : Nxt m1 Ω1.length G1 m3 G3 := n2.trans le1 n3
  have n03 := n1.trans l1 n13
  have l03 : Ω.length ≤ Ω3.length := Nat.le_trans l1 (Nat.le_of_lt l3')
  have em : m3 Ω1.length = D := by
    rw [n3.mm _ (by simp), e2]
  have ik := it m3 G3 Ω3 H3 c3 n13 (Nat.le_of_lt l3') (pst i acc Ω3 hi p3).1 i
  by_cases hlt : i < ys.length
  · obtain ⟨go, yl⟩ := ik.2 ys[i] (List.getElem?_eq_getElem hlt)
    refine .inr ⟨go, fun H' => ∃ m' G' Ω' acc', Core K m' G' Ω' H' ∧ Nxt m2 (Ω1 ++ [OC.lst []]).length G1 m' G' ∧ (Ω1 ++ [OC.lst []]).length ≤ Ω'.length ∧ P (i + 1) acc' Ω', fun H' q => ⟨ys.length - (i + 1), by omega, rfl, hlt, q⟩, fun y H'' hy => ?_⟩
    obtain ⟨G4, c4, e4, r4⟩ := yl y H'' hy
    have n4 : Nxt m3 Ω3.length G3 m3 G4 := ⟨fun _ _ => rfl, e4⟩
    refine (fun q => by
      have q := og _ _ _ _ q
      rw [wipe_idem] at q
      exact q) (?_ : g y (wipe σ vs) H'' fun σ2 H2 => tt σ2 H2 fun b H3 => if b = true then te σ2 H3 fun y H4 => ∃ acc, H4 D = some (.lst acc) ∧ acc.length < sizeLine ∧ (∃ m' G' Ω' acc', Core K m' G' Ω' (upd H4 D (.lst (acc ++ [y]))) ∧ Nxt m2 (Ω1 ++ [OC.lst []]).length G1 m' G' ∧ (Ω1 ++ [OC.lst []]).length ≤ Ω'.length ∧ P (i + 1) acc' Ω')
        else (∃ m' G' Ω' acc', Core K m' G' Ω' H3 ∧ Nxt m2 (Ω1 ++ [OC.lst []]).length G1 m' G' ∧ (Ω1 ++ [OC.lst []]).length ≤ Ω'.length ∧ P (i + 1) acc' Ω'))
    refine step i ys[i] acc Ω3 (List.getElem?_eq_getElem hlt) p3 m3 G4 H'' (wipe σ vs) y _ c4 (wipeG_slots (s.mono (n03.trans l03 n4) l03) vs) r4 (fun m5 G5 Ω5 H5 Γ5 σ5 c5 n5 l5 s5 h5 => ?_)
    refine h5 m5 G5 H5 σ5 _ c5 s5 (fun m6 G6 Ω6 H6 b c6 n6 l6 h6 => ?_) noX
    have n36 : Nxt m3 Ω3.length G3 m6 G6 := n4.trans (Nat.le_refl _) (n5.trans l5 n6)
    have l36 : Ω3.length ≤ Ω6.length := Nat.le_trans l5 l6
    cases b with
    | false =>
      rw [if_neg Bool.false_ne_true]
      exact ⟨m6, G6, Ω6, acc, c6, n3.trans l3 n36, Nat.le_trans l3 l36, h6.2 rfl⟩
    | true =>
      rw [if_pos rfl]
      refine (h6.1 rfl) m6 G6 H6 σ5 _ c6 (s5.mono n6 l6) (fun m7 G7 Ω7 H7 x7 v7 c7 n7 l7 r7 ⟨e7, z7, p7⟩ => ?_) noX
      have n37 := n36.trans l36 n7
      have l37 := Nat.le_trans l36 l7
      obtain ⟨_, ws, hw, rp⟩ := c7.fr Ω1.length _ e7 (by intro z; cases z)
      have em7 : m7 Ω1.length = D := by rw [n37.mm _ l3', em]
      rw [em7] at hw
      have c8 := c7.write (y := .lst (acc ++ [x7])) (o := .lst (ws ++ [v7])) e7 (by intro z; cases z) ⟨_, upd_same, Paired.snoc rp r7⟩
      rw [em7] at c8
      exact ⟨ws, hw, sz_lt (by rw [← Paired.length rp]; exact z7), m7, G7, _, _, c8, n3.trans l3 n37, by rw [List.length_set]; exact Nat.le_trans l3 l37, p7⟩
  · have ei : i = ys.length := by omega
    subst ei
    exact .inl ⟨ik.1 (Nat.le_refl _), k _ _ _ _ (.o Ω1.length) _ c3 n03 l03 ⟨l3', by rw [em]⟩ (fin acc Ω3 p3)⟩
/-! ### what is left behind -/
def ptOk (k : Nat) : Pt → Prop
  | .o i => i < k
  | _ => True
def idOk (k : Nat) : DV → Prop
  | .o i => i < k
  | .t ps => ∀ p ∈ ps, ptOk k p
  | _ => True
def flatV : DV → Prop
  | .o _ => False
  | .t _ => False
  | _ => True
def flatO : OC → Prop
  | .lst xs => ∀ x ∈ xs, flatV x
  | .ins _ fs => ∀ p ∈ fs, flatV p.2
  | .dic kvs => ∀ p ∈ kvs, flatV p.2
  | .dit kvs => ∀ p ∈ kvs, flatV p.2
  | .tab _ _ => True
  | .lkt _ _ kvs => ∀ p ∈ kvs, flatV p.2
  | .lkk _ _ kvs => ∀ p ∈ kvs, flatV p.2
  | .gone => True
def idsOc (k : Nat) : OC → Prop
  | .lst xs => ∀ x ∈ xs, idOk k x
  | .ins _ fs => ∀ p ∈ fs, idOk k p.2
  | .dic kvs => ∀ p ∈ kvs, idOk k p.2
  | .dit kvs => ∀ p ∈ kvs, idOk k p.2
  | .tab _ _ => True
  | .lkt _ _ kvs => ∀ p ∈ kvs, idOk k p.2
  | .lkk _ _ kvs => ∀ p ∈ kvs, idOk k p.2
  | .gone => True
theorem idOk_flat {k : Nat} : ∀ {d : DV}, flatV d → idOk k d
  | .d _, _ => trivial
  | .o i, h => h.elim
  | .v _, _ => trivial
  | .e _ _ _ _, _ => trivial
  | .t _, h => h.elim
theorem flat_ids {k : Nat} : ∀ {c : OC}, flatO c → idsOc k c
  | .lst _, h => fun x hx => idOk_flat (h x hx)
  | .ins _ _, h => fun p hp => idOk_flat (h p hp)
  | .dic _, h => fun p hp => idOk_flat (h p hp)
  | .dit _, h => fun p hp => idOk_flat (h p hp)
  | .tab _ _, _ => trivial
  | .lkt _ _ _, h => fun p hp => idOk_flat (h p hp)
  | .lkk _ _ _, h => fun p hp => idOk_flat (h p hp)
  | .gone, _ => trivial
def Cut (Ω : Om) (k : Nat) (Ω' : Om) : Prop := Ω.length ≤ k ∧ k ≤ Ω'.length ∧ ∀ j c, j < k → Ω'[j]? = some c → Ω[j]? = some c ∨ idsOc k c
theorem pt_cut {m : Mp} {G : Hp} {n k : Nat} : ∀ {ps : List Pt} {vs : List V}, (∀ p ∈ ps, ptOk k p) → Paired (RPt K m G n) ps vs → Paired (RPt K m G k) ps vs
  | _, _, _, .nil => .nil
  | .d _ :: _, _, h, .cons a b => .cons a (pt_cut (fun x hx => h x (List.mem_cons_of_mem _ hx)) b)
  | .o _ :: _, _, h, .cons a b => .cons ⟨h _ List.mem_cons_self, a.2⟩ (pt_cut (fun x hx => h x (List.mem_cons_of_mem _ hx)) b)
theorem pt_ids {m : Mp} {G : Hp} {n k : Nat} (h : n ≤ k) : ∀ {ps : List Pt} {vs : List V}, Paired (RPt K m G n) ps vs → ∀ p ∈ ps, ptOk k p
  | _, _, .nil, x, hx => by cases hx
  | .d y :: _, _, .cons a b, x, hx => by
    rcases List.mem_cons.mp hx with e | hx
    · subst e; trivial
    · exact pt_ids h b x hx
  | .o i :: _, _, .cons a b, x, hx => by
    rcases List.mem_cons.mp hx with e | hx
    · subst e; exact Nat.lt_of_lt_of_le a.1 h
    · exact pt_ids h b x hx
theorem RV.cut {m m0 : Mp} {G G0 : Hp} {n k : Nat} : ∀ {d : DV} {v : V}, idOk k d → RV K m G n d v → RV K m G k d v
  | .d _, _, _, r => r
  | .o _, _, h, r => ⟨h, r.2⟩
  | .v _, _, _, r => r
  | .e _ _ _ _, _, _, r => r
  | .t _, _, h, ⟨a, vs, e, g, r⟩ => ⟨a, vs, e, g, pt_cut h r⟩
theorem idOk_of {m : Mp} {G : Hp} {n k : Nat} (h : n ≤ k) : ∀ {d : DV} {v : V}, RV K m G n d v → idOk k d
  | .d _, _, _ => trivial
  | .o _, _, r => Nat.lt_of_lt_of_le r.1 h
  | .v _, _, _ => trivial
  | .e _ _ _ _, _, _ => trivial
  | .t _, _, ⟨_, _, _, _, r⟩ => pt_ids h r
theorem paired_cut {m : Mp} {G : Hp} {n k : Nat} : ∀ {xs : List DV} {vs : List V}, (∀ x ∈ xs, idOk k x) → Paired (RV K m G n) xs vs → Paired (RV K m G k) xs vs
  | _, _, _, .nil => .nil
  | _, _, h, .cons a b => .cons (RV.cut (m0 := m) (G0 := G) (h _ List.mem_cons_self) a) (paired_cut (fun x hx => h x (List.mem_cons_of_mem _ hx)) b)
theorem paired_ids {m : Mp} {G : Hp} {n k : Nat} (h : n ≤ k) : ∀ {xs : List DV} {vs : List V}, Paired (RV K m G n) xs vs → ∀ x ∈ xs, idOk k x
  | _, _, .nil, x, hx => by cases hx
  | _, _, .cons a b, x, hx => by
    rcases List.mem_cons.mp hx with e | hx
    · subst e; exact idOk_of h a
    · exact paired_ids h b x hx
theorem fpaired_cut {m : Mp} {G : Hp} {n k : Nat} : ∀ {xs : List (Str × DV)} {vs : List (Str × V)}, (∀ x ∈ xs, idOk k x.2) → Paired (FRel K m G n) xs vs → Paired (FRel K m G k) xs vs
  | _, _, _, .nil => .nil
  | _, _, h, .cons a b => .cons ⟨a.1, RV.cut (m0 := m) (G0 := G) (h _ List.mem_cons_self) a.2⟩ (fpaired_cut (fun x hx => h x (List.mem_cons_of_mem _ hx)) b)
theorem fpaired_ids {m : Mp} {G : Hp} {n k : Nat} (h : n ≤ k) : ∀ {xs : List (Str × DV)} {vs : List (Str × V)}, Paired (FRel K m G n) xs vs → ∀ x ∈ xs, idOk k x.2
  | _, _, .nil, x, hx => by cases hx
  | _, _, .cons a b, x, hx => by
    rcases List.mem_cons.mp hx with e | hx
    · subst e; exact idOk_of h a.2
    · exact fpaired_ids h b x hx
theorem kpaired_cut {m : Mp} {G : Hp} {n k : Nat} : ∀ {xs : List (Key × DV)} {vs : List (Key × V)}, (∀ x ∈ xs, idOk k x.2) → Paired (KRel K m G n) xs vs → Paired (KRel K m G k) xs vs
  | _, _, _, .nil => .nil
  | _, _, h, .cons a b => .cons ⟨a.1, RV.cut (m0 := m) (G0 := G) (h _ List.mem_cons_self) a.2⟩ (kpaired_cut (fun x hx => h x (List.mem_cons_of_mem _ hx)) b)
theorem kpaired_ids {m : Mp} {G : Hp} {n k : Nat} (h : n ≤ k) : ∀ {xs : List (Key × DV)} {vs : List (Key × V)}, Paired (KRel K m G n) xs vs → ∀ x ∈ xs, idOk k x.2
  | _, _, .nil, x, hx => by cases hx
  | _, _, .cons a b, x, hx => by
    rcases List.mem_cons.mp hx with e | hx
    · subst e; exact idOk_of h a.2
    · exact kpaired_ids h b x hx
theorem tpaired_cut {m : Mp} {G : Hp} {n k : Nat} : ∀ {xs : List (List Key × DV)} {vs : List (List Key × V)}, (∀ x ∈ xs, idOk k x.2) → Paired (KTRel K m G n) xs vs → Paired (KTRel K m G k) xs vs
  | _, _, _, .nil => .nil
  | _, _, h, .cons a b => .cons ⟨a.1, RV.cut (m0 := m) (G0 := G) (h _ List.mem_cons_self) a.2⟩ (tpaired_cut (fun x hx => h x (List.mem_cons_of_mem _ hx)) b)
theorem tpaired_ids {m : Mp} {G : Hp} {n k : Nat} (h : n ≤ k) : ∀ {xs : List (List Key × DV)} {vs : List (List Key × V)}, Paired (KTRel K m G n) xs vs → ∀ x ∈ xs, idOk k x.2
  | _, _, .nil, x, hx => by cases hx
  | _, _, .cons a b, x, hx => by
    rcases List.mem_cons.mp hx with e | hx
    · subst e; exact idOk_of h a.2
    · exact tpaired_ids h b x hx
theorem flatV_of : ∀ {d : DV}, (∀ i, d ≠ .o i) → (∀ ps, d ≠ .t ps) → flatV d
  | .d _, _, _ => trivial
  | .o i, h, _ => absurd rfl (h i)
  | .v _, _, _ => trivial
  | .e _ _ _ _, _, _ => trivial
  | .t ps, _, h => absurd rfl (h ps)
theorem Holds.cut {m : Mp} {G H : Hp} {n k : Nat} {a : Addr} : ∀ {c : OC}, idsOc k c → Holds K m G n H a c → Holds K m G k H a c
  | .lst _, h, ⟨vs, e, r⟩ => ⟨vs, e, paired_cut h r⟩
  | .ins _ _, h, ⟨dx, vs, e, r⟩ => ⟨dx, vs, e, fpaired_cut h r⟩
  | .dic _, h, ⟨vs, e, r⟩ => ⟨vs, e, kpaired_cut h r⟩
  | .dit _, h, ⟨vs, e, r⟩ => ⟨vs, e, tpaired_cut h r⟩
  | .tab _ _, _, h => h
  | .lkt _ _ _, h, ⟨e, r⟩ => ⟨e, tpaired_cut h r⟩
  | .lkk _ _ _, h, ⟨e, r⟩ => ⟨e, kpaired_cut h r⟩
  | .gone, _, _ => trivial
theorem Core.cut {m0 m : Mp} {G0 G H0 H : Hp} {Ω' : Om} {k : Nat} (c0 : Core K m0 G0 Ω H0) (c : Core K m G Ω' H) (h : Cut Ω k Ω') : Core K m G (Ω'.take k) H := by
  obtain ⟨h1, h2, h3⟩ := h
  have el : (Ω'.take k).length = k := by rw [List.length_take]; omega
  have get : ∀ {j : Nat} {x : OC}, (Ω'.take k)[j]? = some x → j < k ∧ Ω'[j]? = some x := fun {j x} e => by
    have hj := lt_of_get e
    rw [el] at hj
    rw [List.getElem?_take, if_pos hj] at e
    exact ⟨hj, e⟩
  refine ⟨c.ex, fun i x e g => ?_, fun i j ci cj e1 e2 g1 g2 z => c.inj i j ci cj (get e1).2 (get e2).2 g1 g2 z⟩
  obtain ⟨hi, e'⟩ := get e
  obtain ⟨q1, q2⟩ := c.fr i x e' g
  refine ⟨q1, ?_⟩
  rw [el]
  refine Holds.cut ?_ q2
  rcases h3 i x hi e' with z | z
  · obtain ⟨_, q3⟩ := c0.fr i x z g
    cases x with
    | gone => exact absurd rfl g
    | lst xs => obtain ⟨vs, _, r⟩ := q3; exact paired_ids h1 r
    | ins C fs => obtain ⟨dx, vs, _, r⟩ := q3; exact fpaired_ids h1 r
    | dic kvs => obtain ⟨vs, _, r⟩ := q3; exact kpaired_ids h1 r
    | dit kvs => obtain ⟨vs, _, r⟩ := q3; exact tpaired_ids h1 r
    | tab P q => trivial
    | lkt _ _ _ => obtain ⟨_, r⟩ := q3; exact tpaired_ids h1 r
    | lkk _ _ _ => obtain ⟨_, r⟩ := q3; exact kpaired_ids h1 r
  · exact z
/-- a new list is given away at once, what lies behind it is left -/
theorem we_frz (h : WE K W te Γ Ω (fun d Ω1 => ∃ n ds xs, d = .o n ∧ Ω1[n]? = some (.lst ds) ∧ asDs ds = some xs ∧ Cut Ω n Ω1 ∧ R (.d (.list xs)) (Ω1.take n)) X) : WE K W te Γ Ω R X := fun m G H σ Q c s k x =>
  h m G H σ Q c s (fun m1 G1 Ω1 H1 d v c1 n1 l1 r1 ⟨n, ds, xs, e1, e0, e3, cu, q⟩ => by
    subst e1
    obtain ⟨hi, rfl⟩ := r1
    obtain ⟨q1, ws, hw, rp⟩ := c1.fr _ _ e0 (by intro z; cases z)
    obtain ⟨c2, n2⟩ := c1.freeze e0 (by intro z; cases z) hw
    rw [asDs_eq e3] at rp
    have el : (Ω1.take n).length = n := by rw [List.length_take]; have := cu.2.1; omega
    have et : (Ω1.set n .gone).take n = Ω1.take n := by
      refine List.ext_getElem? fun j => ?_
      rw [List.getElem?_take, List.getElem?_take]
      by_cases hj : j < n
      · rw [if_pos hj, if_pos hj, List.getElem?_set, if_neg (fun z : n = j => absurd hj (by omega))]
      · rw [if_neg hj, if_neg hj]
    have c3 : Core K m1 (upd G1 (m1 n) (HO.lst ws)) (Ω1.take n) H1 := by
      rw [← et]
      refine c.cut c2 ⟨cu.1, by rw [List.length_set]; exact cu.2.1, fun j x hj e => ?_⟩
      rw [List.getElem?_set, if_neg (fun z : n = j => absurd hj (by omega))] at e
      exact cu.2.2 j x hj e
    exact k _ _ _ _ (.d (.list xs)) _ c3 (n1.trans l1 n2) (by rw [el]; exact cu.1) (.lst (sq_of upd_same) (dps_ex n2.gg _ _ (dps_of rp))) q) x
def tYesT : TT := tYes
theorem wt_yes {B : Bool → Om → Prop} (q : B true Ω) : WT K W tYes Γ Ω B X := fun m G H σ Q c s k x => k _ _ _ _ _ c (Nxt.refl ..) (Nat.le_refl _) q
theorem asDs_data (xs : List PyData) : asDs (xs.map DV.d) = some xs := by
  have h := asDs_map (fun x : PyData => x) xs
  rw [List.map_id'] at h
  exact h
theorem take_app {α : Type} (l r : List α) : (l ++ r).take l.length = l := by simp
/-- [F(a) for a in ..if p(a)], a list that nobody changes; nothing else changes -/
theorem we_lcP {α : Type} (og : Only g vs) (h : WI K W wi Γ Ω (fun ys stay Ω1 => ∃ (l : List α) (f : α → DV) (p : α → Bool) (F : α → PyData), ys = l.map f ∧ l.length ≤ 100000 ∧ Ω1 = Ω ∧ (∀ ds, stay (Ω ++ [.lst ds])) ∧
      (∀ a Ω', a ∈ l → (∃ ds, Ω' = Ω ++ [.lst ds]) → WG K g (f a) (wipeG Γ vs) Ω' (fun Γ2 Ω2 => WT K (fun _ _ _ _ => False) tt Γ2 Ω2 (fun b Ω3 => b = p a ∧ Ω3 = Ω' ∧ (b = true → WE K (fun _ _ _ _ => False) te Γ2 Ω' (fun x Ω4 => x = .d (F a) ∧ Ω4 = Ω') NoX)) NoX)) ∧
      R (.d (.list ((l.filter p).map F))) Ω) X) : WE K W (tLc wi g tt te vs) Γ Ω R X := by
  refine we_frz (we_lc og fun m G H σ R' c s x k => h m G H σ R' c s x fun m1 G1 Ω1 H1 J ys stay c1 n1 l1 it ⟨l, f, p, F, e1, hl, e2, st, el, q⟩ => ?_)
  subst e1 e2
  have ln : ∀ i, ((((l.take i).filter p).map F).length ≤ i) := fun i => by
    rw [List.length_map]
    refine Nat.le_trans (List.length_filter_le _ _) ?_
    rw [List.length_take]; omega
  refine k m1 G1 Ω1 H1 J _ stay c1 n1 l1 it ⟨fun i acc Ω' => acc = (((l.take i).filter p).map F).map DV.d ∧ Ω' = Ω1 ++ [.lst acc], ⟨rfl, rfl⟩, fun i acc Ω' hi hp => ?_, fun i y acc Ω' hy hp => ?_, fun acc Ω' hp => ?_⟩
  · obtain ⟨rfl, rfl⟩ := hp
    exact ⟨st _, by simp⟩
  · obtain ⟨ha, rfl⟩ := hp
    rw [List.getElem?_map] at hy
    cases ea : l[i]? with
    | none => rw [ea] at hy; cases hy
    | some a =>
      rw [ea] at hy
      cases hy
      have hi := lt_of_get ea
      have em : a ∈ l := List.mem_iff_getElem?.mpr ⟨i, ea⟩
      have et : l.take (i + 1) = l.take i ++ [a] := by rw [List.take_add_one, ea]; rfl
      intro m2 G2 H2 σ2 v Q2 c2 s2 r2 k2
      refine el a _ em ⟨acc, rfl⟩ m2 G2 H2 σ2 v Q2 c2 s2 r2 fun m3 G3 Ω3 H3 Γ3 σ3 c3 n3 l3 s3 h3 => k2 m3 G3 Ω3 H3 Γ3 σ3 c3 n3 l3 s3 fun m4 G4 H4 σ4 Q4 c4 s4 k4 x4 => ?_
      refine h3 m4 G4 H4 σ4 Q4 c4 s4 (fun m5 G5 Ω5 H5 b c5 n5 l5 ⟨eb, eo, hb⟩ => k4 m5 G5 Ω5 H5 b c5 n5 l5 ⟨fun hbt => ?_, fun hbf => ?_⟩) x4
      · subst eo
        intro m6 G6 H6 σ6 Q6 c6 s6 k6 x6
        refine hb hbt m6 G6 H6 σ6 Q6 c6 s6 (fun m7 G7 Ω7 H7 d v c7 n7 l7 r7 ⟨ex, eo7⟩ => k6 m7 G7 Ω7 H7 d v c7 n7 l7 r7 ?_) x6
        subst eo7 ex
        refine ⟨by simp, ?_, ?_, ?_⟩
        · rw [ha, List.length_map]
          have := ln i
          omega
        · rw [ha, et, List.filter_append, List.filter_cons, if_pos (by rw [← eb]; exact hbt)]
          simp
        · simp
      · subst eo
        refine ⟨?_, rfl⟩
        rw [ha, et, List.filter_append, List.filter_cons, if_neg (by rw [← eb, hbf]; exact Bool.false_ne_true)]
        simp
  · obtain ⟨ha, rfl⟩ := hp
    refine ⟨Ω1.length, acc, ((l.take (l.map f).length).filter p).map F, rfl, by simp, ?_, ⟨Nat.le_refl _, by simp, fun j c hj e => .inl ?_⟩, ?_⟩
    · rw [ha]; exact asDs_data _
    · rw [List.getElem?_append_left hj] at e; exact e
    · rw [List.length_map, List.take_length, take_app]
      exact q
end
end HL
namespace HL
open PySem PySem.Spec PyProof.Rows L2 Evl
/-! ### a def's body against its promise -/
def Dr (Ω : Om) (R : DV → Om → Prop) (d : DV) (Ω' : Om) : Prop := R d Ω' ∨ ∃ k, Cut Ω k Ω' ∧ idOk k d ∧ R d (Ω'.take k)
def DrX (Ω : Om) (R : Exc → Om → Prop) (e : Exc) (Ω' : Om) : Prop := R e Ω' ∨ ∃ k, Cut Ω k Ω' ∧ R e (Ω'.take k)
def fnO (Ω : Om) (R : DV → Om → Prop) (X : Exc → Om → Prop) : Outs := ⟨fun _ Ω' => Dr Ω R (.d .none) Ω', fun d Ω' => Dr Ω R d Ω', fun _ _ => False, fun _ _ => False, fun _ e Ω' => DrX Ω X e Ω'⟩
def startG (N : Nat) (ds : List DV) : Gm := ds.map some ++ List.replicate (N - ds.length) none
section
variable {K : KF} {spec : Spec} {vs : List V} {H : Hp} {Q : VK} {E : XK}
theorem fs_len {n : Nat} (h : FS K spec vs H Q E) (hl : ∀ ds Ω R X, spec ds Ω R X → ds.length = n) : vs.length = n := by
  obtain ⟨m, G, Ω, ds, R, X, c, r, q, _⟩ := h
  rw [← Paired.length r]
  exact hl ds Ω R X q
theorem startG_slots {m : Mp} {G : Hp} {n : Nat} {ds : List DV} {vs : List V} (N : List Str) (r : Paired (RV K m G n) ds vs) : Slots K m G n (startG N.length ds) (L2.start N vs) := by
  have e := Paired.length r
  refine ⟨by unfold startG L2.start; simp [e], fun i d h => ?_⟩
  unfold startG at h
  unfold L2.start
  by_cases hi : i < ds.length
  · rw [List.getElem?_append_left (by rw [List.length_map]; exact hi), List.getElem?_map] at h
    cases q : ds[i]? with
    | none => rw [q] at h; cases h
    | some x =>
      rw [q] at h
      cases h
      obtain ⟨v, hv, rv⟩ := Paired.getL r q
      exact ⟨v, by rw [List.getElem?_append_left (by rw [List.length_map, ← e]; exact hi), List.getElem?_map, hv]; rfl, rv⟩
  · rw [List.getElem?_append_right (by rw [List.length_map]; omega), List.getElem?_replicate] at h
    split at h <;> cases h
theorem fs_run {N : List Str} {t : TS} (h : FS K spec vs H Q E) (hb : ∀ ds Ω R X, spec ds Ω R X → WS K (fun c d _ H' => E c d H') t (startG N.length ds) Ω (fnO Ω R X)) :
    t { nx := fun _ H' => Q .non H', rt := Q } (L2.start N vs) H := by
  obtain ⟨m, G, Ω, ds, R, X, c, r, q, k, x⟩ := h
  have nc : ∀ {k : Nat} {Ω' : Om}, Cut Ω k Ω' → (Ω'.take k).length = k := fun {k Ω'} cu => by rw [List.length_take]; have := cu.2.1; omega
  have rt : ∀ m' G' Ω' H' d v, Core K m' G' Ω' H' → Nxt m Ω.length G m' G' → Ω.length ≤ Ω'.length → RV K m' G' Ω'.length d v → Dr Ω R d Ω' → Q v H' := fun m' G' Ω' H' d v c' n' l' r' q' => by
    rcases q' with q' | ⟨kk, cu, io, q'⟩
    · exact k m' G' Ω' H' d v c' n' l' r' q'
    · refine k m' G' (Ω'.take kk) H' d v (c.cut c' cu) n' (by rw [nc cu]; exact cu.1) ?_ q'
      rw [nc cu]
      exact RV.cut (m0 := m) (G0 := G) io r'
  refine hb ds Ω R X q m G H _ _ c (startG_slots N r) (fun m' G' Ω' H' Γ' σ' c' n' l' s' q' => rt m' G' Ω' H' (.d .none) .non c' n' l' Dp.non q') rt (fun _ _ _ _ _ _ _ _ _ _ z => z.elim) (fun _ _ _ _ _ _ _ _ _ _ z => z.elim) fun m' G' Ω' H' Γ' σ' e cc d c' n' l' s' r' q' => ?_
  rcases q' with q' | ⟨kk, cu, q'⟩
  · exact x m' G' Ω' H' e cc d c' n' l' r' q'
  · exact x m' G' (Ω'.take kk) H' e cc d (c.cut c' cu) n' (by rw [nc cu]; exact cu.1) r' q'
end
theorem dr_same {Ω Ω' : Om} {R : DV → Om → Prop} {d : DV} (q : R d Ω') : Dr Ω R d Ω' := .inl q
/-- what was added behind is left -/
theorem dr_app {Ω J : Om} {R : DV → Om → Prop} {d : DV} (q : R d Ω) (io : ∀ i, d ≠ .o i) (it : ∀ ps, d ≠ .t ps := by intro ps z; cases z) : Dr Ω R d (Ω ++ J) :=
  .inr ⟨Ω.length, ⟨Nat.le_refl _, by simp, fun j c hj e => .inl (by rw [List.getElem?_append_left hj] at e; exact e)⟩, idOk_flat (flatV_of io it), by rw [take_app]; exact q⟩
/-! ### raise, try -/
section
variable {K : KF} {W : WX} {Γ : Gm} {Ω : Om} {O : Outs}
theorem ws_raise {C : Addr} (q : O.er Γ (.own C) Ω) : WS K W (fun _ σ H => W (.ref C) none σ H) Γ Ω O := fun m G H σ D c s k1 k2 k3 k4 z => z _ _ _ _ _ _ (.own C) _ _ c (Nxt.refl ..) (Nat.le_refl _) s ⟨rfl, rfl⟩ q
def clsOf : Exc → Value
  | .own C => .ref C
  | .low C _ _ => .ref C
  | .vo C _ => .ref C
  | .vl C _ _ _ => .ref C
theorem rx_cls {G : Hp} : ∀ {e : Exc} {c : Value} {d : Option Addr}, RX K G e c d → c = clsOf e
  | .own _, _, _, r => r.1
  | .low _ _ _, _, _, r => r.1
  | .vo _ _, _, _, r => r.1
  | .vl _ _ _ _, _, _, r => r.1
theorem ws_tryOnly {tb : WX → TS} {ts : Addr → Value → Option Addr → TS} {c : Value}
    (h : ∀ W' : WX, WS K W' (tb W') Γ Ω { O with er := fun Γ1 e Ω1 => ∃ b, PySem.W.exmOne K (clsOf e) c = some b ∧ (b = true → ∀ a cls dd, cls = clsOf e → WS K W (ts a cls dd) Γ1 Ω1 O) ∧ (b = false → O.er Γ1 e Ω1) }) :
    WS K W (fun D σ H => tb (wOnly K c ts W D) D σ H) Γ Ω O := fun m G H σ D c0 s k1 k2 k3 k4 z => by
  refine h (wOnly K c ts W D) m G H σ D c0 s k1 k2 k3 k4 fun m' G' Ω' H' Γ1 σ1 e cls d c' n' l' s' rx ⟨b, hb, h1, h2⟩ => ?_
  exact ⟨b, by rw [rx_cls rx]; exact hb, fun hbt a ha => h1 hbt a cls d (rx_cls rx) m' G' H' σ1 D c' s' (k1.on n' l') (k2.on n' l') (k3.on n' l') (k4.on n' l') (z.on n' l'), fun hbf => z m' G' Ω' H' Γ1 σ1 e cls d c' n' l' s' rx (h2 hbf)⟩
end
/-! ### a pool of digits, and what changes only one's own thing -/
def SameBut (k : Nat) (Ω Ω' : Om) : Prop := Ω'.length = Ω.length ∧ ∀ j, j ≠ k → Ω'[j]? = Ω[j]?
theorem SameBut.refl (k : Nat) (Ω : Om) : SameBut k Ω Ω := ⟨rfl, fun _ _ => rfl⟩
theorem SameBut.trans {k : Nat} {Ω Ω1 Ω2 : Om} (a : SameBut k Ω Ω1) (b : SameBut k Ω1 Ω2) : SameBut k Ω Ω2 := ⟨b.1.trans a.1, fun j h => (b.2 j h).trans (a.2 j h)⟩
theorem SameBut.set {k : Nat} {Ω : Om} {c : OC} : SameBut k Ω (Ω.set k c) := ⟨by rw [List.length_set], fun j h => by rw [List.getElem?_set, if_neg (fun z : k = j => h z.symm)]⟩
end HL
namespace HL
open PySem PySem.Spec PyProof.Rows L2 Evl
/-! ### operators by names -/
def oSub : R2 := rI0 fun i j => .int (i - j)
def CMulX (i j : Int) : Prop := CMul i j ∨ CMulW i j
def oMul : R2 := rI CMulX fun i j => .int (i * j)
def oFdiv : R2 := rI CDivX fun i j => .int (i.fdiv j)
def oMod : R2 := rI (fun _ j => j ≠ 0) fun i j => .int (i.fmod j)
def oPow : R2 := rI CPow fun i j => .int (i ^ j.toNat)
def oLt : R2 := rI0 fun i j => .bl (decide (i < j))
def oLe : R2 := rI0 fun i j => .bl (decide (i ≤ j))
def oGt : R2 := rI0 fun i j => .bl (decide (j < i))
def oGe : R2 := rI0 fun i j => .bl (decide (j ≤ i))
def oIsN : R2 := fun x y H Q => y = .non ∧ Q (.bl (decide (x = .non))) H
def oNotN : R2 := fun x y H Q => y = .non ∧ Q (.bl (!decide (x = .non))) H
def uNeg : V → Hp → VK → Prop := rU fun i => .int (-i)
def rAbsI : List V → Hp → VK → Prop := fun xs H Q => ∃ i, xs = [.int i] ∧ Q (.int (if i < 0 then -i else i)) H
def rMaxI : List V → Hp → VK → Prop := fun xs H Q => ∃ i j, xs = [.int i, .int j] ∧ Q (.int (if j > i then j else i)) H
def rMinI : List V → Hp → VK → Prop := fun xs H Q => ∃ i j, xs = [.int i, .int j] ∧ Q (.int (if j < i then j else i)) H
def rIntX : List V → Hp → VK → Prop := fun xs H Q => (∃ i, xs = [.int i] ∧ Q (.int i) H) ∨ ∃ k, xs = [.bl k] ∧ Q (.int (if k then 1 else 0)) H
def rLenQ (K : KF) : List V → Hp → VK → Prop := fun xs H Q => ∃ p ys, xs = [.ref p] ∧ (SqL K H p ys ∨ SqT K H p ys) ∧ Q (.int ys.length) H
def rTupQ (K : KF) : List V → Hp → VK → Prop := fun xs H Q => ∃ p ys, xs = [.ref p] ∧ ((SqL K H p ys ∧ ∀ l, H l = none → Q (.ref l) (upd H l (.tup ys))) ∨ (SqT K H p ys ∧ Q (.ref p) H))
def rListQ (K : KF) : List V → Hp → VK → Prop := fun xs H Q => ∃ p ys, xs = [.ref p] ∧ (SqL K H p ys ∨ SqT K H p ys) ∧ ∀ l, H l = none → Q (.ref l) (upd H l (.lst ys))
section
variable {X : Cx}
theorem op_sub' : OpR X (binaryOp .Sub) oSub := op_sub
theorem op_mul' : OpR X (binaryOp .Mult) oMul := opI fun _ _ _ _ _ _ _ hc q => mul_int q (hc.elim CMul.ok CMulW.ok)
theorem op_fdiv' : OpR X (binaryOp .FloorDiv) oFdiv := op_fdivX
theorem op_mod' : OpR X (binaryOp .Mod) oMod := op_modN
theorem op_pow' : OpR X (binaryOp .Pow) oPow := op_pow
theorem op_lt' : OpR X (compareOp .Lt) oLt := op_lt
theorem op_le' : OpR X (compareOp .LtE) oLe := op_le
theorem op_gt' : OpR X (compareOp .Gt) oGt := op_gt
theorem op_isN' : OpR X (compareOp .Is) oIsN := op_isN
theorem op_notN' : OpR X (compareOp .IsNot) oNotN := op_notN
theorem un_neg' : UnR X (unaryOp .USub) uNeg := un_neg
theorem call_abs' : CallR X (.builtin "abs") rAbsI := call_abs
theorem call_max' (hc : X.calm = true) : CallR X (.builtin "max") rMaxI := call_max2 hc
theorem call_int' : CallR X (.type "int") rIntX := call_int1
theorem call_len' : CallR X (.builtin "len") (rLenQ X.K) := call_len_seq
theorem call_tup' : CallR X (.type "tuple") (rTupQ X.K) := call_tuple_of
end
section
variable {K : KF} {W : WX} {Γ : Gm} {Ω : Om} {R : DV → Om → Prop} {X : Exc → Om → Prop} {i j : Int}
theorem wr_sub (q : R (.d (.int (i - j))) Ω) : WR K oSub (.d (.int i)) (.d (.int j)) Ω R := wr_I0 (f := fun i j => i - j) q
theorem wr_mul (hc : CMulX i j) (q : R (.d (.int (i * j))) Ω) : WR K oMul (.d (.int i)) (.d (.int j)) Ω R := wr_I (f := fun i j => i * j) hc q
theorem wr_fdiv (hc : CDivX i j) (q : R (.d (.int (i.fdiv j))) Ω) : WR K oFdiv (.d (.int i)) (.d (.int j)) Ω R := wr_I (f := fun i j => i.fdiv j) hc q
theorem wr_fdivP (h0 : 0 < j) (hc : j.natAbs.log2 < 9000) (q : R (.d (.int (i / j))) Ω) : WR K oFdiv (.d (.int i)) (.d (.int j)) Ω R := wr_fdiv ⟨by omega, hc⟩ (by rw [Int.fdiv_eq_ediv_of_nonneg i (by omega)]; exact q)
theorem wr_mod (hc : j ≠ 0) (q : R (.d (.int (i.fmod j))) Ω) : WR K oMod (.d (.int i)) (.d (.int j)) Ω R := wr_I (f := fun i j => i.fmod j) hc q
theorem wr_modP (h0 : 0 < j) (q : R (.d (.int (i % j))) Ω) : WR K oMod (.d (.int i)) (.d (.int j)) Ω R := wr_mod (by omega) (by rw [Int.fmod_eq_emod_of_nonneg i (by omega)]; exact q)
theorem wr_pow (hc : CPow i j) (q : R (.d (.int (i ^ j.toNat))) Ω) : WR K oPow (.d (.int i)) (.d (.int j)) Ω R := wr_I (f := fun i j => i ^ j.toNat) hc q
theorem wr_lt (q : R (.d (.bool (decide (i < j)))) Ω) : WR K oLt (.d (.int i)) (.d (.int j)) Ω R := wr_I0b (f := fun i j => decide (i < j)) q
theorem wr_le (q : R (.d (.bool (decide (i ≤ j)))) Ω) : WR K oLe (.d (.int i)) (.d (.int j)) Ω R := wr_I0b (f := fun i j => decide (i ≤ j)) q
theorem wr_gt (q : R (.d (.bool (decide (j < i)))) Ω) : WR K oGt (.d (.int i)) (.d (.int j)) Ω R := wr_I0b (f := fun i j => decide (j < i)) q
theorem wr_ge (q : R (.d (.bool (decide (j ≤ i)))) Ω) : WR K oGe (.d (.int i)) (.d (.int j)) Ω R := wr_I0b (f := fun i j => decide (j ≤ i)) q
theorem wr_isN' {x : DV} (p : plainV x = true) (q : R (.d (.bool (isNo x))) Ω) : WR K oIsN x (.d .none) Ω R := wr_isN p q
theorem wr_notN' {x : DV} (p : plainV x = true) (q : R (.d (.bool (!isNo x))) Ω) : WR K oNotN x (.d .none) Ω R := wr_notN p q
theorem wu_neg (q : R (.d (.int (-i))) Ω) : WU K uNeg (.d (.int i)) Ω R := fun m G H v Q c r k => by
  cases r
  exact ⟨i, rfl, k _ _ _ _ (.d (.int (-i))) _ c (Nxt.refl ..) (Nat.le_refl _) (Dp.int _) q⟩
theorem wc_abs' (q : R (.d (.int (if i < 0 then -i else i))) Ω) : WC K rAbsI [.d (.int i)] Ω R := wc_abs q
theorem wc_max' (q : R (.d (.int (if j > i then j else i))) Ω) : WC K rMaxI [.d (.int i), .d (.int j)] Ω R := wc_max q
theorem wc_min' (q : R (.d (.int (if j < i then j else i))) Ω) : WC K rMinI [.d (.int i), .d (.int j)] Ω R := wc_min q
theorem wc_intI' (q : R (.d (.int i)) Ω) : WC K rIntX [.d (.int i)] Ω R := wc_intI q
theorem wc_intB' {b : Bool} (q : R (.d (.int (if b then 1 else 0))) Ω) : WC K rIntX [.d (.bool b)] Ω R := wc_intB q
theorem wc_len' {x : DV} {ds : List DV} (hx : sq Ω x = some ds) (q : R (.d (.int ds.length)) Ω) : WC K (rLenQ K) [x] Ω R := wc_len hx q
theorem wc_tup' {x : DV} {xs : List PyData} (hx : ls Ω x = some xs) (q : R (.d (.tuple xs)) Ω) : WC K (rTupQ K) [x] Ω R := wc_tuple hx q
theorem wc_listD' {x : DV} {xs : List PyData} (hx : ls Ω x = some xs) (q : R (.d (.list xs)) Ω) : WC K (rListQ K) [x] Ω R := wc_listD hx q
/-! chains of comparisons -/
theorem we_chain {r r' : R2} {ta tb tc : TE} (h : WE K W ta Γ Ω (fun x Ω1 => WE K W tb Γ Ω1 (fun y Ω2 => WR K r x y Ω2 (fun z Ω3 => ∃ b, z = .d (.bool b) ∧ (b = true → WE K W tc Γ Ω3 (fun w Ω4 => WR K r' y w Ω4 R) X) ∧ (b = false → R (.d (.bool false)) Ω3))) X) X) :
    WE K W (tChain r r' ta tb tc) Γ Ω R X := fun m G H σ Q c s k x =>
  h m G H σ _ c s (fun m1 G1 Ω1 H1 d1 v1 c1 n1 l1 r1 h1 => h1 m1 G1 H1 σ _ c1 (s.mono n1 l1) (fun m2 G2 Ω2 H2 d2 v2 c2 n2 l2 r2 h2 => by
    have n12 := n1.trans l1 n2
    have l12 := Nat.le_trans l1 l2
    refine h2 m2 G2 H2 v1 v2 _ c2 (RV.mono n2 l2 r1) r2 (fun m3 G3 Ω3 H3 d3 v3 c3 n3 l3 r3 ⟨b, e, ht, hf⟩ => ?_)
    subst e
    cases r3
    refine ⟨b, rfl, ?_⟩
    have n13 := n12.trans l12 n3
    have l13 := Nat.le_trans l12 l3
    cases b with
    | false =>
      first
        | (rw [if_neg Bool.false_ne_true]; exact k _ _ _ _ (.d (.bool false)) _ c3 n13 l13 (Dp.bl false) (hf rfl))
        | exact k _ _ _ _ (.d (.bool false)) _ c3 n13 l13 (Dp.bl false) (hf rfl)
    | true =>
      first
        | (rw [if_pos rfl]; exact (ht rfl) m3 G3 H3 σ _ c3 (s.mono n13 l13) (fun m4 G4 Ω4 H4 d4 v4 c4 n4 l4 r4 h4 => h4 m4 G4 H4 v2 v4 Q c4 (RV.mono (n3.trans l3 n4) (Nat.le_trans l3 l4) r2) r4 (k.on (n13.trans l13 n4) (Nat.le_trans l13 l4))) (x.on n13 l13))
        | exact (ht rfl) m3 G3 H3 σ _ c3 (s.mono n13 l13) (fun m4 G4 Ω4 H4 d4 v4 c4 n4 l4 r4 h4 => h4 m4 G4 H4 v2 v4 Q c4 (RV.mono (n3.trans l3 n4) (Nat.le_trans l3 l4) r2) r4 (k.on (n13.trans l13 n4) (Nat.le_trans l13 l4))) (x.on n13 l13)) (x.on n1 l1)) x
end
end HL
namespace HL
open PySem PySem.Spec PyProof.Rows L2 Evl
/-! ### the head's facts: defs, names, and one Bool more -/
/-- the function data of a def -/
def noFd : FuncData := PySem.W.fnOf "" "" { posonlyargs := [], args := [], vararg := none, kwonlyargs := [], kw_defaults := [], kwarg := none, defaults := [] } [] { kind := .function, names := [], isGenerator := false, isCoroutine := false } .none .none .none .none none .none .none
def fdK (K : KF) (p : Str × Option Str) : FuncData := match K.lookup (He.fAd K p) with
  | some ⟨_, _, .func fd, _⟩ => fd
  | _ => noFd
theorem fdK_of {K : KF} {p : Str × Option Str} {x qual : Str} {params : Arguments} {body : List Stmt} {scope : Scope} {dvs : List V} {kws : List (Str × V)} {fd : FuncData} (F : FunD K x qual params body scope dvs kws (He.fAd K p) fd) : FunD K x qual params body scope dvs kws (He.fAd K p) (fdK K p) := by
  obtain ⟨oc, od, dV, kV, doc, pm, an, cdv, ct, osl, e, lk, _⟩ := F.ex
  have q : fdK K p = fd := by
    unfold fdK
    rw [lk]
  rw [q]
  exact F
/-- an address where a function stands -/
abbrev fA (K : KF) (x : Str) : Addr := He.fAd K (x, none)
abbrev FD (K : KF) (x : Str) (st : Stmt) (dvs : List V) : Prop := FunD K x x (defArgs st) (defBody st) (defScope st) dvs [] (fA K x) (fdK K (x, none))
abbrev FM (K : KF) (C m q : Str) (st : Stmt) (dvs : List V) : Prop := FunD K m q (defArgs st) (defBody st) (defScope st) dvs [] (He.fAd K (C, some m)) (fdK K (C, some m))
theorem fd_of {fa : List He.Fa} {fn : List He.DefD} {K : KF} (c : He.SaysD fa fn K) (i : Nat) {d : He.DefD} (h : fn[i]? = some d) : FunD K d.name d.qual d.params d.body d.scope (d.dvs K) (d.kws K) (He.fAd K d.at_) (fdK K d.at_) := by
  obtain ⟨fd, F⟩ := c.def_ i h
  exact fdK_of F
/-- facts of an exception's class -/
structure XC (K : KF) (mg : Str → Option Value) (x : Str) : Prop where
  gm : mg x = some (.ref (He.ga K x))
  ec : PySem.W.excIn K (He.ga K x) He.veBase "ValueError.__new__" = true
  kp : PySem.W.keepIn K (.ref (He.ga K x)) = true
  sb : PySem.W.subIn K (.ref (He.ga K x)) (.type "BaseException") = some true
  ty : PySem.W.typeIn K (.ref (He.ga K x)) = some (.type "type")
theorem xc_of {K : KF} {h : Heap} {mg : Str → Option Value} {x : Str} (X : K.In h) (G : h.Ns mainGlobals mg) (c0 : (He.Fa.glo x).ok K = true) (c : (He.Fa.exc x).ok K = true) : XC K mg x := by
  obtain ⟨h1, h2⟩ := He.ba c
  obtain ⟨h3, h4⟩ := He.ba h2
  obtain ⟨h5, h6⟩ := He.ba h4
  exact ⟨He.glo_ok X G c0, h1, h3, of_decide_eq_true h5, of_decide_eq_true h6⟩
theorem XC.raises {K : KF} {mg : Str → Option Value} {x : Str} (c : XC K mg x) {X : Cx} (h : X.K = K := by rfl) : Raises X (.ref (He.ga K x)) := by
  subst h
  exact raises_own c.sb c.ty
/-- a tuple of the module -/
theorem tup_dp {K : KF} {x : Str} {vs : List He.Dv} {xs : List PyData} (h : He.tupB K x vs = true) (hv : ∀ G, DpAll K G (vs.map (He.Dv.v K)) xs) : ∀ G, Dp K G (.ref (He.ga K x)) (.tuple xs) := fun G => .tup (He.tupB_ok h G) (hv G)
/-! ### isinstance of a caught error -/
def rIsEx (K : KF) (cls : Value) (dd : Option Addr) (a : Addr) : List V → Hp → VK → Prop := fun xs H Q => ∃ D, cls = .ref D ∧ dd = none ∧ ExcC K D ∧ rIsE K D a xs H Q
def tTryAs (K : KF) (tb : WX → TS) (ts : Addr → Value → Option Addr → TS) (c : Value) (i : Nat) (W : WX) : TS := fun D σ H => tb (wAs K c i ts W D) D σ H
def tTryOnly (K : KF) (tb : WX → TS) (ts : Addr → Value → Option Addr → TS) (c : Value) (W : WX) : TS := fun D σ H => tb (wOnly K c ts W D) D σ H
def tRaise (K : KF) (x : Str) (W : WX) : TS := fun _ σ H => W (.ref (He.ga K x)) none σ H
section
variable {K : KF} {W : WX} {Γ : Gm} {Ω : Om} {O : Outs}
theorem ws_tryO {tb : WX → TS} {ts : Addr → Value → Option Addr → TS} {c : Value}
    (h : ∀ W' : WX, WS K W' (tb W') Γ Ω { O with er := fun Γ1 e Ω1 => ∃ b, PySem.W.exmOne K (clsOf e) c = some b ∧ (b = true → ∀ a cls dd, cls = clsOf e → WS K W (ts a cls dd) Γ1 Ω1 O) ∧ (b = false → O.er Γ1 e Ω1) }) :
    WS K W (tTryOnly K tb ts c W) Γ Ω O := ws_tryOnly h
theorem ws_rs {x : Str} (q : O.er Γ (.own (He.ga K x)) Ω) : WS K W (tRaise K x W) Γ Ω O := ws_raise q
end
theorem ps_rs {X : Cx} {W : WX} {x m : Str} {j : Nat} {p p2 pos pos2 : Pos} (hc : X.calm = true) (tk : Takes X W) (T : XC X.K X.mg x) (hg : Gl X x) (hdb : (x == ("__debug__" : Str)) = false := by decide) :
    PS X (.Raise (some (.Call (.Name x p) [.Constant (.str m) j p2] [] pos)) none pos2) (tRaise X.K x W) := ps_raise hc tk (pmk_own PySem.F.excBase_ValueError T.ec T.gm T.kp (raises_own T.sb T.ty) hg hdb)
section
variable {X : Cx} {x n : Str} {i : Nat} {body suite : List Stmt} {b₀ : Stmt} {np pos pos' : Pos} {tb : WX → TS} {ts : Addr → Value → Option Addr → TS} {Wout : WX}
theorem ps_tryO (hs : X.stack = X.env :: X.outer) (hf : X.env.frame = some X.env.locals) (hg : Gl X x) (T : XC X.K X.mg x) (tk : Takes X Wout)
    (hb : ∀ (W : WX) (pn : List (Addr × Obj)) (xe : Value → Shared → Prop), Takes (X.tr pn xe) W → PassesOwn (model X.prog X.w) X.A X.env xe → PSs (X.tr pn xe) body (tb W))
    (hsu : ∀ (a : Addr) (oe : Obj) (cls : Value) (d : Option Addr) (pn : List (Addr × Obj)), Zc cls d oe → (∃ vs, oe.data = .fields vs) → PSs (X.suite a ((a, oe) :: pn)) (b₀ :: suite) (ts a cls d)) (hdb : (x == ("__debug__" : Str)) = false := by decide) :
    PS X (.Try body [.ExceptHandler (some (.Name x np)) none (b₀ :: suite) pos'] [] [] pos) (tTryOnly X.K tb ts (.ref (He.ga X.K x)) Wout) := ps_try_only hs hf ⟨hg, hdb, Or.inl T.gm⟩ tk hb hsu
end
end HL
namespace HL
open PySem PySem.Spec PyProof.Rows L2 Evl
theorem bT {b : Bool} {A B : Prop} (hb : b = true) (h : A) : (b = true → A) ∧ (b = false → B) := ⟨fun _ => h, fun e => by rw [hb] at e; cases e⟩
theorem bF {b : Bool} {A B : Prop} (hb : b = false) (h : B) : (b = true → A) ∧ (b = false → B) := ⟨fun e => (by rw [hb] at e; cases e), fun _ => h⟩
theorem ex_b {b : Bool} {B : Bool → Prop} (h : B b) : ∃ b', DV.d (.bool b) = .d (.bool b') ∧ B b' := ⟨b, rfl, h⟩
theorem ex_i {b : Int} {B : Int → Prop} (h : B b) : ∃ b', DV.d (.int b) = .d (.int b') ∧ B b' := ⟨b, rfl, h⟩
theorem ex_p {x y : DV} {B : DV → DV → Prop} (h : B x y) : ∃ a b, [x, y] = [a, b] ∧ B a b := ⟨x, y, rfl, h⟩
theorem ex_as {ds : List DV} {xs : List PyData} {B : List PyData → Prop} (e : asDs ds = some xs) (l : xs.length ≤ 100000) (h : B xs) : ∃ xs, asDs ds = some xs ∧ xs.length ≤ 100000 ∧ B xs := ⟨xs, e, l, h⟩
def isInt : PyData → Bool
  | .int _ => true
  | .bool _ => true
  | _ => false
def isBool : PyData → Bool
  | .bool _ => true
  | _ => false
def isStr : PyData → Bool
  | .str _ => true
  | _ => false
def isTuple : PyData → Bool
  | .tuple _ => true
  | _ => false
def isList : PyData → Bool
  | .list _ => true
  | _ => false
def known : PyData → Bool
  | .dict _ => false
  | _ => true
section
variable {K : KF} {Ω : Om} {R : DV → Om → Prop} {x : DV} {y : PyData}
theorem wc_isInt (hx : vw Ω x = some y) (hk : known y = true) (q : R (.d (.bool (isInt y))) Ω) : WC K (rIsi K) [x, .v (.ty "int")] Ω R := by
  cases y <;> first | exact wc_isi (z := true) hx rfl (by decide +kernel) q | exact wc_isi (z := false) hx rfl (by decide +kernel) q | exact absurd (show false = true from hk) (by decide)
theorem wc_isBool (hx : vw Ω x = some y) (hk : known y = true) (q : R (.d (.bool (isBool y))) Ω) : WC K (rIsi K) [x, .v (.ty "bool")] Ω R := by
  cases y <;> first | exact wc_isi (z := true) hx rfl (by decide +kernel) q | exact wc_isi (z := false) hx rfl (by decide +kernel) q | exact absurd (show false = true from hk) (by decide)
theorem wc_isStr (hx : vw Ω x = some y) (hk : known y = true) (q : R (.d (.bool (isStr y))) Ω) : WC K (rIsi K) [x, .v (.ty "str")] Ω R := by
  cases y <;> first | exact wc_isi (z := true) hx rfl (by decide +kernel) q | exact wc_isi (z := false) hx rfl (by decide +kernel) q | exact absurd (show false = true from hk) (by decide)
theorem wc_isTuple (hx : vw Ω x = some y) (hk : known y = true) (q : R (.d (.bool (isTuple y))) Ω) : WC K (rIsi K) [x, .v (.ty "tuple")] Ω R := by
  cases y <;> first | exact wc_isi (z := true) hx rfl (by decide +kernel) q | exact wc_isi (z := false) hx rfl (by decide +kernel) q | exact absurd (show false = true from hk) (by decide)
theorem wc_isList (hx : vw Ω x = some y) (hk : known y = true) (q : R (.d (.bool (isList y))) Ω) : WC K (rIsi K) [x, .v (.ty "list")] Ω R := by
  cases y <;> first | exact wc_isi (z := true) hx rfl (by decide +kernel) q | exact wc_isi (z := false) hx rfl (by decide +kernel) q | exact absurd (show false = true from hk) (by decide)
end
def dR (x : Rat) : PyData := .tuple [.int x.num, .int x.den]
theorem wr_ixR0 {K : KF} {Ω : Om} {R : DV → Om → Prop} {x : Rat} (q : R (.d (.int x.num)) Ω) : WR K (rIx K) (.d (dR x)) (.d (.int 0)) Ω R := wr_ixT rfl q
theorem wr_ixR1 {K : KF} {Ω : Om} {R : DV → Om → Prop} {x : Rat} (q : R (.d (.int x.den)) Ω) : WR K (rIx K) (.d (dR x)) (.d (.int 1)) Ω R := wr_ixT rfl q
theorem shaped_dR (x : Rat) : SeqAt.shaped (dR x) = true := rfl
theorem eqv_dR (x y : Rat) : PyData.eqv (dR x) (dR y) = decide (x = y) := by
  show (x.num == y.num && (((x.den : Int) == (y.den : Int)) && true)) = _
  rw [Bool.and_true]
  by_cases h : x = y
  · subst h; simp
  · rw [decide_eq_false h]
    by_cases h1 : x.num = y.num
    · have h2 : x.den ≠ y.den := fun e => h (Rat.ext h1 e)
      have : ((x.den : Int) == (y.den : Int)) = false := by rw [beq_eq_false_iff_ne]; omega
      rw [this, Bool.and_false]
    · have : (x.num == y.num) = false := by simpa using h1
      rw [this, Bool.false_and]
theorem wr_eqR {K : KF} {Ω : Om} {R : DV → Om → Prop} {x y : Rat} (q : R (.d (.bool (decide (x = y)))) Ω) : WR K (rEqD K) (.d (dR x)) (.d (dR y)) Ω R := wr_eq rfl rfl (shaped_dR x) (shaped_dR y) (by rw [eqv_dR]; exact q)
theorem wr_neR {K : KF} {Ω : Om} {R : DV → Om → Prop} {x y : Rat} (q : R (.d (.bool (!decide (x = y)))) Ω) : WR K (rNeD K) (.d (dR x)) (.d (dR y)) Ω R := wr_ne rfl rfl (shaped_dR x) (shaped_dR y) (by rw [eqv_dR]; exact q)
theorem eqv_int (a b : Int) : PyData.eqv (.int a) (.int b) = decide (a = b) := by
  show (a == b) = _
  exact (Bool.beq_eq_decide_eq a b)
theorem eqv_bool (a b : Bool) : PyData.eqv (.bool a) (.bool b) = decide (a = b) := by
  show (a == b) = _
  exact (Bool.beq_eq_decide_eq a b)
theorem wr_eqI {K : KF} {Ω : Om} {R : DV → Om → Prop} {x y : Int} (q : R (.d (.bool (decide (x = y)))) Ω) : WR K (rEqD K) (.d (.int x)) (.d (.int y)) Ω R := wr_eq rfl rfl rfl rfl (by rw [eqv_int]; exact q)
theorem wr_neI {K : KF} {Ω : Om} {R : DV → Om → Prop} {x y : Int} (q : R (.d (.bool (!decide (x = y)))) Ω) : WR K (rNeD K) (.d (.int x)) (.d (.int y)) Ω R := wr_ne rfl rfl rfl rfl (by rw [eqv_int]; exact q)
theorem wr_eqB {K : KF} {Ω : Om} {R : DV → Om → Prop} {x y : Bool} (q : R (.d (.bool (decide (x = y)))) Ω) : WR K (rEqD K) (.d (.bool x)) (.d (.bool y)) Ω R := wr_eq rfl rfl rfl rfl (by rw [eqv_bool]; exact q)
theorem wr_neB {K : KF} {Ω : Om} {R : DV → Om → Prop} {x y : Bool} (q : R (.d (.bool (!decide (x = y)))) Ω) : WR K (rNeD K) (.d (.bool x)) (.d (.bool y)) Ω R := wr_ne rfl rfl rfl rfl (by rw [eqv_bool]; exact q)
theorem ws_asgL {K : KF} {W : WX} {Γ : Gm} {Ω : Om} {O : Outs} {i : Nat} (q : O.nx (Γ.set i (some (.o Ω.length))) (Ω ++ [.lst []])) : WS K W (tAsg (tLst tNil) (gName i)) Γ Ω O :=
  ws_asg (we_lstO (wa_nil ⟨by decide, wg_name q⟩))
local macro_rules | `(tactic| walk_at "hl1") => `(tactic| first
  | with_reducible refine ws_seq ?_
  | with_reducible refine ws_asgL ?_
  | with_reducible refine ws_asg ?_
  | with_reducible refine ws_if ?_
  | with_reducible refine ws_ret ?_
  | with_reducible refine ws_drop ?_
  | with_reducible refine ws_par ?_
  | with_reducible refine we_int ?_
  | with_reducible refine we_bl ?_
  | with_reducible refine we_str ?_
  | with_reducible refine we_non ?_
  | with_reducible refine we_ty ?_
  | with_reducible refine we_ref ?_
  | with_reducible refine we_op ?_
  | with_reducible refine we_un ?_
  | with_reducible refine we_if ?_
  | with_reducible refine we_cb ?_
  | with_reducible refine we_call ?_
  | with_reducible refine we_callS ?_
  | with_reducible refine we_tup ?_
  | with_reducible refine we_lstD ?_
  | with_reducible refine we_chain ?_
  | with_reducible refine we_sl ?_
  | with_reducible refine wo_none ?_
  | with_reducible refine wo_some ?_
  | with_reducible refine wa_nil ?_
  | with_reducible refine wa_cons ?_
  | with_reducible refine wt_test ?_
  | with_reducible refine wt_B ?_
  | with_reducible refine wt_and ?_
  | with_reducible refine wt_or ?_
  | with_reducible refine wt_not ?_
  | with_reducible refine wt_yes ?_
  | with_reducible refine we_andV ?_
  | with_reducible refine we_orV ?_
  | with_reducible refine we_notV ?_
  | with_reducible refine wg_name ?_
  | with_reducible refine wgs_nil ?_
  | with_reducible refine wgs_cons ?_
  | with_reducible refine wr_sub ?_
  | with_reducible refine wr_addI ?_
  | with_reducible refine wr_lt ?_
  | with_reducible refine wr_le ?_
  | with_reducible refine wr_gt ?_
  | with_reducible refine wr_ge ?_
  | with_reducible refine wu_neg ?_
  | with_reducible refine wr_ixR0 ?_
  | with_reducible refine wr_eqR ?_
  | with_reducible refine wr_neR ?_
  | with_reducible refine wr_eqI ?_
  | with_reducible refine wr_neI ?_
  | with_reducible refine wr_eqB ?_
  | with_reducible refine wr_neB ?_
  | with_reducible refine wr_ixR1 ?_
  | ((with_reducible refine' wr_mul ?h1 ?_); (case h1 => first | exact .inr (by assumption) | exact .inl (.inl ⟨by decide, by decide⟩) | exact .inl (.inr ⟨by decide, by decide⟩) | assumption))
  | with_reducible refine wc_abs' ?_
  | with_reducible refine wc_max' ?_
  | with_reducible refine wc_min' ?_
  | with_reducible refine wc_intI' ?_
  | with_reducible refine wc_intB' ?_
  | with_reducible refine wsl_T ?_
  | with_reducible refine ex_b ?_
  | with_reducible refine ex_i ?_
  | with_reducible refine ex_p ?_
  | with_reducible refine ws_next ?_
  | with_reducible refine ws_rs ?_
  | with_reducible refine ws_retN ?_
  | with_reducible refine we_bm ?_
  | with_reducible refine we_bm0 ?_
  | ((with_reducible refine' we_var ?h1 ?_); (case h1 => rfl))
  | ((with_reducible refine' wg_tup ?h1 ?_); (case h1 => rfl))
  | ((with_reducible refine' wr_isN' ?h1 ?_); (case h1 => rfl))
  | ((with_reducible refine' wr_notN' ?h1 ?_); (case h1 => rfl))
  | ((with_reducible refine' wr_ixT ?h1 ?_); (case h1 => rfl))
  | ((with_reducible refine' wr_ixL ?h1 ?_); (case h1 => rfl))
  | ((with_reducible refine' wc_len' ?h1 ?_); (case h1 => rfl))
  | ((with_reducible refine' wc_isInt ?h1 ?h2 ?_); (case h1 => rfl); (case h2 => first | rfl | assumption))
  | ((with_reducible refine' wc_isBool ?h1 ?h2 ?_); (case h1 => rfl); (case h2 => first | rfl | assumption))
  | ((with_reducible refine' wc_isTuple ?h1 ?h2 ?_); (case h1 => rfl); (case h2 => first | rfl | assumption))
  | ((with_reducible refine' wc_isStr ?h1 ?h2 ?_); (case h1 => rfl); (case h2 => first | rfl | assumption))
  | ((with_reducible refine' wc_isList ?h1 ?h2 ?_); (case h1 => rfl); (case h2 => first | rfl | assumption))
  | ((with_reducible refine' ex_as ?h1 ?h2 ?_); (case h1 => rfl); (case h2 => exact Nat.le_of_ble_eq_true rfl)))
local macro_rules | `(tactic| walk_at "hl") => `(tactic| repeat walk_at "hl1")
/-! ### ratios are the rational numbers -/
theorem fmod_natAbs_lt {a b : Int} (h : b ≠ 0) : (a.fmod b).natAbs < b.natAbs := by
  have e := Int.mul_fdiv_add_fmod a b
  by_cases h0 : 0 ≤ b
  · have h1 := Int.fmod_nonneg_of_pos a (show 0 < b by omega)
    have h2 := Int.fmod_lt_of_pos a (show 0 < b by omega)
    omega
  · have h3 : (a.fmod b) = -((-a).fmod (-b)) := by
      rw [Int.fmod_eq_emod_of_nonneg (-a) (show 0 ≤ -b by omega)]
      have : a.fmod b = -((-a).fmod (-b)) := by
        have q := Int.neg_fmod_neg (a := a) (b := b)
        rw [q]; omega
      rw [this, Int.fmod_eq_emod_of_nonneg (-a) (show 0 ≤ -b by omega)]
    rw [h3, Int.fmod_eq_emod_of_nonneg (-a) (show 0 ≤ -b by omega)]
    have h1 := Int.emod_nonneg (-a) (show (-b) ≠ 0 by omega)
    have h2 := Int.emod_lt_of_pos (-a) (show 0 < -b by omega)
    omega
theorem gcd_fmod (a b : Int) : Int.gcd b (a.fmod b) = Int.gcd a b := by
  have e := Int.mul_fdiv_add_fmod a b
  have h : a.fmod b = a - b * a.fdiv b := by omega
  rw [h]
  apply Nat.dvd_antisymm
  · apply Int.dvd_gcd
    · have h1 : ((Int.gcd b (a - b * a.fdiv b) : Nat) : Int) ∣ b := Int.gcd_dvd_left ..
      have h2 : ((Int.gcd b (a - b * a.fdiv b) : Nat) : Int) ∣ (a - b * a.fdiv b) := Int.gcd_dvd_right ..
      have h3 := Int.dvd_add h2 (Int.dvd_mul_of_dvd_left (c := a.fdiv b) h1)
      have h4 : a - b * a.fdiv b + b * a.fdiv b = a := by omega
      rw [h4] at h3
      exact h3
    · exact Int.gcd_dvd_left ..
  · apply Int.dvd_gcd
    · exact Int.gcd_dvd_right ..
    · exact Int.dvd_sub (Int.gcd_dvd_left ..) (Int.dvd_mul_of_dvd_left (Int.gcd_dvd_right ..))
theorem abs_if (a : Int) : (if a < 0 then -a else a) = (a.natAbs : Int) := by split <;> omega
/-- by what both are divided: with the sign of the lower one -/
def byOf (a b : Int) : Int := if b < 0 then 0 - (Int.gcd a b : Int) else (Int.gcd a b : Int)
theorem gcd_pos {a b : Int} (h : b ≠ 0) : 0 < (Int.gcd a b : Int) := by
  have : Int.gcd a b ≠ 0 := fun e => h (Int.gcd_eq_zero_iff.mp e).2
  omega
theorem low_num {a b : Int} (h : b ≠ 0) : a.fdiv (byOf a b) = (Rat.divInt a b).num := by
  rw [Rat.num_divInt, Int.gcd_comm b a]
  have hg := gcd_pos (a := a) h
  obtain ⟨c, hc⟩ : ((Int.gcd a b : Nat) : Int) ∣ a := Int.gcd_dvd_left ..
  unfold byOf
  generalize (Int.gcd a b : Int) = g at *
  split
  · rename_i hb
    rw [Int.sign_eq_neg_one_of_neg hb, hc]
    have e1 : (g * c).fdiv (0 - g) = -c := by
      rw [show g * c = (0 - g) * (-c) by grind]
      exact Int.mul_fdiv_cancel_left _ (by omega)
    have e2 : -1 * (g * c) / g = -c := by
      rw [show -1 * (g * c) = g * (-c) by grind]
      exact Int.mul_ediv_cancel_left _ (by omega)
    rw [e1, e2]
  · rename_i hb
    rw [Int.sign_eq_one_of_pos (by omega), hc, Int.mul_fdiv_cancel_left _ (by omega), Int.one_mul, Int.mul_ediv_cancel_left _ (by omega)]
theorem low_den {a b : Int} (h : b ≠ 0) : b.fdiv (byOf a b) = ((Rat.divInt a b).den : Int) := by
  rw [Rat.den_divInt, if_neg h, Int.gcd_comm b a]
  have hg := gcd_pos (a := a) h
  obtain ⟨c, hc⟩ : ((Int.gcd a b : Nat) : Int) ∣ b := Int.gcd_dvd_right ..
  have e3 : ((b.natAbs / Int.gcd a b : Nat) : Int) = (b.natAbs : Int) / (Int.gcd a b : Int) := Int.natCast_ediv ..
  rw [e3]
  unfold byOf
  generalize (Int.gcd a b : Int) = g at *
  have hb0 : (b.natAbs : Int) = if b < 0 then -b else b := by split <;> omega
  rw [hb0]
  split
  · rw [hc]
    have e1 : (g * c).fdiv (0 - g) = -c := by
      rw [show g * c = (0 - g) * (-c) by grind]
      exact Int.mul_fdiv_cancel_left _ (by omega)
    have e2 : -(g * c) / g = -c := by
      rw [show -(g * c) = g * (-c) by grind]
      exact Int.mul_ediv_cancel_left _ (by omega)
    rw [e1, e2]
  · rw [hc, Int.mul_fdiv_cancel_left _ (by omega), Int.mul_ediv_cancel_left _ (by omega)]
theorem dR_eq {a b : Int} (h : b ≠ 0) : dR (Rat.divInt a b) = .tuple [.int (a.fdiv (byOf a b)), .int (b.fdiv (byOf a b))] := by
  rw [low_num h, low_den h]
  rfl
/-! ### sizes -/
structure Sz (n : Nat) (x : Rat) : Prop where
  num : x.num.natAbs < 2 ^ n
  den : x.den < 2 ^ n
theorem Sz.mono {n m : Nat} {x : Rat} (h : Sz n x) (l : n ≤ m) : Sz m x :=
  ⟨Nat.lt_of_lt_of_le h.num (Nat.pow_le_pow_right (by decide) l), Nat.lt_of_lt_of_le h.den (Nat.pow_le_pow_right (by decide) l)⟩
/-- both are small enough to be reckoned with -/
def Sz2 (x y : Rat) : Prop := ∃ n m, Sz n x ∧ Sz m y ∧ n + m ≤ 8900
theorem log2_lt {x n : Nat} (h : x < 2 ^ n) (hn : 0 < n) : x.log2 < n := PySem.Flt.log2_lt_of hn h
theorem mul_lt2 {a b n m : Nat} (ha : a < 2 ^ n) (hb : b < 2 ^ m) : a * b < 2 ^ (n + m) := by
  rw [Nat.pow_add]
  exact Nat.mul_lt_mul'' ha hb
theorem cmul {i j : Int} {n m : Nat} (ha : i.natAbs < 2 ^ n) (hb : j.natAbs < 2 ^ m) (h : n + m ≤ 900000) : CMulW i j :=
  wide_mul (a := n + 1) (b := m + 1) (Nat.lt_of_lt_of_le ha (Nat.pow_le_pow_right (by decide) (by omega))) (Nat.lt_of_lt_of_le hb (Nat.pow_le_pow_right (by decide) (by omega))) (by omega) (by omega) (by omega)
theorem gcd_lt {a b : Int} {n : Nat} (h : b ≠ 0) (hb : b.natAbs < 2 ^ n) : Int.gcd a b < 2 ^ n := by
  refine Nat.lt_of_le_of_lt ?_ hb
  have : Int.gcd a b ∣ b.natAbs := by
    have := Int.gcd_dvd_right a b
    exact Int.ofNat_dvd_left.mp this
  exact Nat.le_of_dvd (by omega) this
theorem byOf_abs {a b : Int} : (byOf a b).natAbs = Int.gcd a b := by
  unfold byOf
  split <;> omega
theorem byOf_ne {a b : Int} (h : b ≠ 0) : byOf a b ≠ 0 := by
  have := gcd_pos (a := a) h
  unfold byOf
  split <;> omega
theorem cdiv_by {a b : Int} {x : Int} {n : Nat} (h : b ≠ 0) (hb : b.natAbs < 2 ^ n) (hn : n ≤ 8990) : CDivX x (byOf a b) := by
  refine ⟨byOf_ne h, ?_⟩
  rw [byOf_abs]
  have h1 := gcd_lt (a := a) h hb
  exact Nat.lt_of_lt_of_le (log2_lt (n := n + 1) (Nat.lt_of_lt_of_le h1 (Nat.pow_le_pow_right (by decide) (by omega))) (by omega)) (by omega)
theorem rat_add (p q : Rat) : Rat.divInt (p.num * q.den + q.num * p.den) (p.den * q.den) = p + q := by
  rw [Rat.add_def', ← Int.natCast_mul, Rat.divInt_ofNat]
theorem rat_sub (p q : Rat) : Rat.divInt (p.num * q.den - q.num * p.den) (p.den * q.den) = p - q := by
  rw [Rat.sub_def', ← Int.natCast_mul, Rat.divInt_ofNat]
theorem rat_mul (p q : Rat) : Rat.divInt (p.num * q.num) (p.den * q.den) = p * q := by
  rw [Rat.mul_def', ← Int.natCast_mul, Rat.divInt_ofNat]
theorem den_pos (p : Rat) : 0 < (p.den : Int) := by have := p.den_pos; omega
theorem den_ne (p : Rat) : (p.den : Int) ≠ 0 := by have := p.den_pos; omega
theorem den_mul_ne (p q : Rat) : (p.den : Int) * (q.den : Int) ≠ 0 := Int.mul_ne_zero (den_ne p) (den_ne q)
theorem den_mul_lt {p q : Rat} {n m : Nat} (hp : Sz n p) (hq : Sz m q) : ((p.den : Int) * (q.den : Int)).natAbs < 2 ^ (n + m) := by
  rw [Int.natAbs_mul]
  exact mul_lt2 (by simpa using hp.den) (by simpa using hq.den)
structure Muls (p q : Rat) : Prop where
  nn : CMulW p.num q.num
  nd : CMulW p.num q.den
  dn : CMulW p.den q.num
  dd : CMulW p.den q.den
theorem muls {p q : Rat} {n m : Nat} (hp : Sz n p) (hq : Sz m q) (h : n + m ≤ 900000) : Muls p q :=
  ⟨cmul hp.num hq.num h, cmul hp.num (m := m) (by simpa using hq.den) h, cmul (n := n) (by simpa using hp.den) hq.num h, cmul (n := n) (m := m) (by simpa using hp.den) (by simpa using hq.den) h⟩
/-- what a product, a sum may have -/
theorem Sz2.symm {p q : Rat} (h : Sz2 p q) : Sz2 q p := let ⟨n, m, a, b, c⟩ := h; ⟨m, n, b, a, by omega⟩
theorem sz_of_divInt {a b : Int} {n : Nat} (hb : b ≠ 0) (ha : a.natAbs < 2 ^ n) (h : b.natAbs < 2 ^ n) : Sz n (Rat.divInt a b) := by
  constructor
  · rw [Rat.num_divInt]
    refine Nat.lt_of_le_of_lt ?_ ha
    have e : (b.sign * a / (b.gcd a : Int)).natAbs ≤ (b.sign * a).natAbs := by
      rw [Int.natAbs_ediv_of_dvd (Int.dvd_mul_of_dvd_right (Int.gcd_dvd_right ..))]
      exact Nat.div_le_self _ _
    refine Nat.le_trans e ?_
    rw [Int.natAbs_mul]
    have : b.sign.natAbs ≤ 1 := by
      rw [Int.natAbs_sign]
      split <;> omega
    calc b.sign.natAbs * a.natAbs ≤ 1 * a.natAbs := Nat.mul_le_mul_right _ this
      _ = a.natAbs := Nat.one_mul _
  · rw [Rat.den_divInt, if_neg hb]
    exact Nat.lt_of_le_of_lt (Nat.div_le_self _ _) h
theorem Sz.add {p q : Rat} {n m : Nat} (hp : Sz n p) (hq : Sz m q) : Sz (n + m + 1) (p + q) := by
  rw [← rat_add]
  refine sz_of_divInt (den_mul_ne p q) ?_ (Nat.lt_of_lt_of_le (den_mul_lt hp hq) (Nat.pow_le_pow_right (by decide) (by omega)))
  have h1 : (p.num * q.den).natAbs < 2 ^ (n + m) := by rw [Int.natAbs_mul]; exact mul_lt2 hp.num (by simpa using hq.den)
  have h2 : (q.num * p.den).natAbs < 2 ^ (n + m) := by rw [Int.natAbs_mul, Nat.mul_comm]; exact mul_lt2 (by simpa using hp.den) hq.num
  have h3 := Int.natAbs_add_le (p.num * q.den) (q.num * p.den)
  rw [Nat.pow_succ]
  omega
theorem Sz.neg {p : Rat} {n : Nat} (hp : Sz n p) : Sz n (-p) := ⟨by rw [Rat.neg_num, Int.natAbs_neg]; exact hp.num, by rw [Rat.neg_den]; exact hp.den⟩
theorem Sz.sub {p q : Rat} {n m : Nat} (hp : Sz n p) (hq : Sz m q) : Sz (n + m + 1) (p - q) := by
  rw [Rat.sub_eq_add_neg]
  exact hp.add hq.neg
theorem Sz.mul {p q : Rat} {n m : Nat} (hp : Sz n p) (hq : Sz m q) : Sz (n + m) (p * q) := by
  rw [← rat_mul]
  exact sz_of_divInt (den_mul_ne p q) (by rw [Int.natAbs_mul]; exact mul_lt2 hp.num hq.num) (den_mul_lt hp hq)
theorem Sz.int {a : Int} {n : Nat} (h : a.natAbs < 2 ^ n) (h0 : 0 < n) : Sz n (a : Rat) := ⟨by rw [Rat.num_intCast]; exact h, by rw [Rat.den_intCast]; exact Nat.one_lt_two_pow (by omega)⟩
/-! ### a pool of digits; the law's state: the pool at k, one's own things behind -/
def IsPool (c : OC) : Prop := ∃ a b d : Int, c = .lst [.d (.int a), .d (.int b), .d (.int d)] ∧ 0 ≤ a ∧ 0 ≤ b ∧ 0 ≤ d
theorem IsPool.flat {c : OC} (h : IsPool c) : flatO c := by
  obtain ⟨a, b, d, rfl, _⟩ := h
  intro x hx
  simp only [List.mem_cons, List.not_mem_nil, or_false] at hx
  rcases hx with rfl | rfl | rfl <;> trivial
abbrev Drawn (k : Nat) (Ω : Om) (b : Int) (R : DV → Om → Prop) : Prop := ∀ (r : Int) (p : OC), 0 ≤ r → r < b → IsPool p → R (.d (.int r)) (Ω.set k p)
theorem get_app {α : Type} {l r : List α} {k : Nat} {x : α} (h : l[k]? = some x) : (l ++ r)[k]? = some x := by rw [List.getElem?_append_left (lt_of_get h)]; exact h
theorem get_set {α : Type} {l : List α} {k : Nat} {x : α} (h : k < l.length) : (l.set k x)[k]? = some x := by rw [List.getElem?_set, if_pos rfl, if_pos h]
/-- the changed pool, what was added behind left -/
theorem dr_pool {Ω : Om} {R : DV → Om → Prop} {d : DV} {k : Nat} {p : OC} {J : Om} (hk : k < Ω.length) (hp : IsPool p) (q : R d (Ω.set k p)) (io : ∀ i, d ≠ .o i) (it : ∀ ps, d ≠ .t ps := by intro ps z; cases z) : Dr Ω R d (Ω.set k p ++ J) := by
  have el : (Ω.set k p).length = Ω.length := List.length_set
  refine .inr ⟨Ω.length, ⟨Nat.le_refl _, by simp, fun j c hj e => ?_⟩, idOk_flat (flatV_of io it), ?_⟩
  · rw [List.getElem?_append_left (by rw [el]; exact hj), List.getElem?_set] at e
    by_cases ek : k = j
    · rw [if_pos ek, if_pos (by omega)] at e
      cases e
      exact .inr (flat_ids hp.flat)
    · rw [if_neg ek] at e
      exact .inl e
  · have : (Ω.set k p ++ J).take Ω.length = Ω.set k p := by rw [← el]; exact take_app _ _
    rw [this]
    exact q
theorem wr_ix_ints {K : KF} {Ω : Om} {R : DV → Om → Prop} {xs : List PyData} {ns : List Int} {i : Int} (e : xs = ns.map PyData.int) (h0 : 0 ≤ i) (h1 : i < ns.length) (q : ∀ n ∈ ns, R (.d (.int n)) Ω) : WR K (rIx K) (.d (.list xs)) (.d (.int i)) Ω R := by
  subst e
  obtain ⟨j, rfl⟩ : ∃ j : Nat, i = (j : Int) := ⟨i.toNat, by omega⟩
  have hj : j < ns.length := by omega
  exact wr_ixL (atI_nat (j := j) (v := .int ns[j]) (by simp [hj])) (q _ (List.getElem_mem hj))
theorem wr_ix_any {K : KF} {Ω : Om} {R : DV → Om → Prop} {xs : List PyData} {i : Int} (h0 : 0 ≤ i) (h1 : i < xs.length) (q : ∀ y ∈ xs, R (.d y) Ω) : WR K (rIx K) (.d (.list xs)) (.d (.int i)) Ω R := by
  obtain ⟨j, rfl⟩ : ∃ j : Nat, i = (j : Int) := ⟨i.toNat, by omega⟩
  have hj : j < xs.length := by omega
  exact wr_ixL (atI_nat (j := j) (v := xs[j]) (by simp [hj])) (q _ (List.getElem_mem hj))
theorem rng_get {α : Type} {n i : Nat} {f : Nat → α} {y : α} (h : ((List.range n).map f)[i]? = some y) : i < n ∧ y = f i := by
  rw [List.getElem?_map] at h
  have hi : i < n := by
    by_cases h1 : i < n
    · exact h1
    · rw [List.getElem?_eq_none (by rw [List.length_range]; omega)] at h
      cases h
  rw [List.getElem?_range hi] at h
  cases h
  exact ⟨hi, rfl⟩
theorem set_app {α : Type} {l r : List α} {k : Nat} {x y : α} (h : k < l.length) : (l.set k x ++ r).set k y = l.set k y ++ r := by
  rw [List.set_append_left _ _ (by rw [List.length_set]; exact h), List.set_set]
/-! ### balls, rows, walls -/
structure Bl where
  p : Rat
  s : Rat
  w : Int
def dB (b : Bl) : PyData := .tuple [dR b.p, dR b.s, .int b.w]
def dRow (l : List Bl) : PyData := .tuple (l.map dB)
abbrev Wl := Option (Rat × Rat)
def dW : Wl → PyData
  | none => .none
  | some (p, s) => .tuple [dR p, dR s]
def dWs (a b : Wl) : PyData := .tuple [dW a, dW b]
abbrev Sd (x : Rat) : Prop := Sz 4000 x
def mayS (p s q t : Rat) : Bool := if p = q then decide (s < t) else decide (p < q)
def mayB (a b : Bl) : Bool := mayS a.p a.s b.p b.s
/-- of neighbours -/
def Nb {α : Type} (f : α → α → Bool) : List α → Bool
  | a :: b :: r => f a b && Nb f (b :: r)
  | _ => true
theorem nb_snoc {α : Type} {f : α → α → Bool} : ∀ {l : List α} {a : α}, Nb f l = true → (∀ b, l.getLast? = some b → f b a = true) → Nb f (l ++ [a]) = true
  | [], _, _, _ => rfl
  | [b], a, _, h => by
    show (f b a && true) = true
    rw [Bool.and_true]
    exact h b rfl
  | b :: c :: r, a, h, h2 => by
    have h' : (f b c && Nb f (c :: r)) = true := h
    obtain ⟨h3, h4⟩ := Bool.and_eq_true_iff.mp h'
    show (f b c && Nb f (c :: r ++ [a])) = true
    rw [h3, nb_snoc h4 (fun d hd => h2 d (by rw [List.getLast?_cons_cons]; exact hd))]
    rfl
structure RowOk (l : List Bl) : Prop where
  nz : l ≠ []
  le : l.length ≤ 8
  w0 : ∀ b ∈ l, 1 ≤ b.w ∧ b.w ≤ 1000
  zp : ∀ b ∈ l, Sz 300 b.p ∧ Sz 300 b.s
  nb : Nb mayB l = true
  zs : ∀ b ∈ l, Sz 80 b.s
end HL
namespace HT
open PySem PyProof.Rows
section
variable {prog : Program} {w : World} {A : Around} {E : Value → Shared → Prop} {s : Shared}
end
end HT
namespace HL
open PySem PySem.Spec PyProof.Rows L2 Evl
/-! ### xs[::-1], of lists and tuples -/
def uRev (K : KF) : V → Hp → VK → Prop := fun x H Q => ∃ a xs, x = .ref a ∧ ((SqL K H a xs ∧ ∀ p, H p = none → Q (.ref p) (upd H p (.lst xs.reverse))) ∨ (SqT K H a xs ∧ ∀ p, H p = none → Q (.ref p) (upd H p (.tup xs.reverse))))
section
variable {X : Cx}
end
section
variable {K : KF} {Ω : Om} {R : DV → Om → Prop}
theorem dps_rev {K : KF} {G : Hp} : ∀ {vs : List V} {xs : List PyData}, DpAll K G vs xs → DpAll K G vs.reverse xs.reverse
  | _, _, .nil => .nil
  | _, _, .cons a b => by rw [List.reverse_cons, List.reverse_cons]; exact dps_app (dps_rev b) (.cons a .nil)
theorem wu_revT {xs : List PyData} (q : R (.d (.tuple xs.reverse)) Ω) : WU K (uRev K) (.d (.tuple xs)) Ω R := fun m G H v Q c r k => by
  obtain ⟨a, vs, rfl, hs, rp⟩ := lsT_get c r rfl
  refine ⟨a, vs, rfl, .inr ⟨ex_t c.ex hs, fun p hp => ?_⟩⟩
  obtain ⟨c2, n2⟩ := c.frz hp (.tup vs.reverse)
  exact k _ _ _ _ (.d (.tuple xs.reverse)) _ c2 n2 (Nat.le_refl _) (.tup (st_of upd_same) (dps_ex n2.gg _ _ (dps_rev rp))) q
end
/-! ### zip, enumerate -/
def zipD (xs ys : List PyData) : List DV := (xs.zip ys).map fun p => DV.d (.tuple [p.1, p.2])
def enumD (xs : List PyData) : List DV := (List.range xs.length).map fun i => DV.d (.tuple [.int (i : Nat), xs.getD i .none])
theorem zipD_get {xs ys : List PyData} {i : Nat} {y : DV} (h : (zipD xs ys)[i]? = some y) : ∃ a b, xs[i]? = some a ∧ ys[i]? = some b ∧ y = .d (.tuple [a, b]) := by
  unfold zipD at h
  rw [List.getElem?_map] at h
  cases hz : (xs.zip ys)[i]? with
  | none => rw [hz] at h; cases h
  | some p =>
    rw [hz] at h
    cases h
    obtain ⟨h1, h2⟩ := List.getElem?_zip_eq_some.mp hz
    exact ⟨_, _, h1, h2, rfl⟩
theorem dps_get {K : KF} {G : Hp} : ∀ {vs : List V} {xs : List PyData}, DpAll K G vs xs → ∀ {i : Nat} {x : PyData}, xs[i]? = some x → ∃ v, vs[i]? = some v ∧ Dp K G v x
  | _, _, .nil, i, x, e => by rw [List.getElem?_nil] at e; cases e
  | _, _, .cons a b, 0, x, e => by cases e; exact ⟨_, rfl, a⟩
  | _, _, .cons a b, i + 1, x, e => by rw [List.getElem?_cons_succ] at e ⊢; exact dps_get b e
section
variable {K : KF} {W : WX} {Γ : Gm} {Ω : Om} {X : Exc → Om → Prop} {Rc : List DV → (Om → Prop) → Om → Prop} {te : TE} {ta : TA}
theorem itok_zipT {m1 : Mp} {G1 : Hp} {n1 : Nat} {xs ys : List PyData} {a b : Addr} (r : RV K m1 G1 n1 (.d (.tuple xs)) (.ref a)) (r2 : RV K m1 G1 n1 (.d (.tuple ys)) (.ref b)) :
    ItOk K (RZ.ItzT K a b) (zipD xs ys) (fun _ => True) m1 G1 n1 := fun m' G' Ω' H' c' n' l' st i => by
  obtain ⟨a', vs, ea, hs, rp⟩ := lsT_get c' (RV.mono n' l' r) rfl
  cases ea
  obtain ⟨b', ws, eb, hw, rq⟩ := lsT_get c' (RV.mono n' l' r2) rfl
  cases eb
  have hs := ex_t c'.ex hs
  have hw := ex_t c'.ex hw
  have el := dps_len rp
  have el2 := dps_len rq
  refine ⟨fun h => ⟨vs, ws, hs, hw, ?_⟩, fun y hy => ?_⟩
  · unfold zipD at h
    rw [List.length_map, List.length_zip] at h
    omega
  · obtain ⟨x1, y1, h1, h2, rfl⟩ := zipD_get hy
    obtain ⟨u, hu, ru⟩ := dps_get rp h1
    obtain ⟨z, hz, rz⟩ := dps_get rq h2
    refine ⟨⟨vs, ws, u, z, hs, hw, hu, hz⟩, fun v H'' ⟨T, x, y, e1, hT, e2, k1, k2⟩ => ?_⟩
    subst e1 e2
    have ex : u = x := Option.some.inj (hu.symm.trans (k1 vs hs))
    have ey : z = y := Option.some.inj (hz.symm.trans (k2 ws hw))
    subst ex ey
    obtain ⟨c2, n2⟩ := c'.frz hT (.tup [u, z])
    exact ⟨_, c2, n2.gg, .tup (st_of upd_same) (.cons (dp_ex n2.gg _ _ ru) (.cons (dp_ex n2.gg _ _ rz) .nil))⟩
theorem wi_zipT (h : WA K W ta Γ Ω (fun ds Ω1 => ∃ xs ys, ds = [.d (.tuple xs), .d (.tuple ys)] ∧ Rc (zipD xs ys) (fun _ => True) Ω1) X) : WI K W (RZ.iZipA K ta) Γ Ω Rc X := fun m G H σ R c s x k =>
  h m G H σ _ c s (fun m1 G1 Ω1 H1 ds vs c1 n1 l1 r1 ⟨xs, ys, e1, q⟩ => by
    subst e1
    cases r1 with
    | cons ra rr =>
      cases rr with
      | cons rb rr =>
        cases rr
        obtain ⟨a, us, rfl, hs, rp⟩ := lsT_get c1 ra rfl
        obtain ⟨b, ws, rfl, hw, rq⟩ := lsT_get c1 rb rfl
        exact ⟨a, b, us, ws, rfl, .inr ⟨ex_t c1.ex hs, ex_t c1.ex hw, k m1 G1 Ω1 H1 _ _ _ c1 n1 l1 (itok_zipT ra rb) q⟩⟩) x
end
/-! ### balls, read -/
section
variable {K : KF} {W : WX} {Γ : Gm} {Ω : Om} {R : DV → Om → Prop} {X : Exc → Om → Prop} {Rc : List DV → (Om → Prop) → Om → Prop} {te : TE} {ta : TA}
theorem wr_ixB0 {b : Bl} (q : R (.d (dR b.p)) Ω) : WR K (rIx K) (.d (dB b)) (.d (.int 0)) Ω R := wr_ixT rfl q
theorem wr_ixB1 {b : Bl} (q : R (.d (dR b.s)) Ω) : WR K (rIx K) (.d (dB b)) (.d (.int 1)) Ω R := wr_ixT rfl q
theorem wr_ixB2 {b : Bl} (q : R (.d (.int b.w)) Ω) : WR K (rIx K) (.d (dB b)) (.d (.int 2)) Ω R := wr_ixT rfl q
/-- a tuple, a list of data walked, the items told by F -/
theorem wi_T {α : Type} (F : α → PyData) (l : List α) (h : WE K W te Γ Ω (fun d Ω1 => d = .d (.tuple (l.map F)) ∧ Rc (l.map fun a => .d (F a)) (fun _ => True) Ω1) X) : WI K W (iSeq K te) Γ Ω Rc X :=
  wi_seqT (fun m G H σ Q c s k x => h m G H σ Q c s (fun m1 G1 Ω1 H1 d v c1 n1 l1 r1 ⟨e, q⟩ => k m1 G1 Ω1 H1 d v c1 n1 l1 r1 ⟨_, e, by rw [List.map_map]; exact q⟩) x)
theorem wi_L {α : Type} (F : α → PyData) (l : List α) (h : WE K W te Γ Ω (fun d Ω1 => d = .d (.list (l.map F)) ∧ Rc (l.map fun a => .d (F a)) (fun _ => True) Ω1) X) : WI K W (iSeq K te) Γ Ω Rc X :=
  wi_seqL (fun m G H σ Q c s k x => h m G H σ Q c s (fun m1 G1 Ω1 H1 d v c1 n1 l1 r1 ⟨e, q⟩ => k m1 G1 Ω1 H1 d v c1 n1 l1 r1 ⟨l.map fun a => .d (F a), by subst e; show some ((l.map F).map DV.d) = _; rw [List.map_map]; rfl, by
    refine Eq.mp ?_ q
    congr 1
    funext Ω'
    subst e
    refine (eq_true ?_).symm
    show some ((l.map F).map DV.d) = _
    rw [List.map_map]; rfl⟩) x)
end
/-! ### sums of ratios -/
def sumR : List Rat → Rat
  | [] => 0
  | a :: l => a + sumR l
def wsum (l : List Bl) : Int := (l.map fun b => b.w).sum
def weighed (f : Bl → Rat) (l : List Bl) : Rat := sumR (l.map fun b => (b.w : Rat) * f b)
def negB (b : Bl) : Bl := ⟨-b.p, -b.s, b.w⟩
theorem lmap_get {α β : Type} {l : List α} {f : α → β} {i : Nat} {y : β} (h : (l.map f)[i]? = some y) : ∃ a, y = f a ∧ l[i]? = some a ∧ a ∈ l ∧ i < l.length ∧ l.take (i + 1) = l.take i ++ [a] := by
  rw [List.getElem?_map] at h
  cases ea : l[i]? with
  | none => rw [ea] at h; cases h
  | some a =>
    rw [ea] at h
    cases h
    exact ⟨a, rfl, rfl, List.mem_of_getElem? ea, lt_of_get ea, by rw [List.take_add_one, ea]; rfl⟩
theorem only1 {i : Nat} : Only (gName i) [i] := only_name (List.mem_singleton.mpr rfl)
theorem filter_yes {α : Type} (l : List α) : l.filter (fun _ => true) = l := List.filter_eq_self.mpr fun _ _ => rfl
section
variable {K : KF} {Γ : Gm} {Ω : Om} {S : Gm → Om → Prop} {gs : TGs}
theorem wg_tupR {q : Rat} (h : WGs K gs [.d (.int q.num), .d (.int q.den)] Γ Ω S) : WG K (gTup K 2 gs) (.d (dR q)) Γ Ω S := wg_tup (xs := [.int q.num, .int q.den]) rfl h
theorem wg_tupB {b : Bl} (h : WGs K gs [.d (dR b.p), .d (dR b.s), .d (.int b.w)] Γ Ω S) : WG K (gTup K 3 gs) (.d (dB b)) Γ Ω S := wg_tup (xs := [dR b.p, dR b.s, .int b.w]) rfl h
end
theorem wu_revRow {K : KF} {Ω : Om} {R : DV → Om → Prop} {l : List Bl} (q : R (.d (dRow l.reverse)) Ω) : WU K (uRev K) (.d (dRow l)) Ω R :=
  wu_revT (xs := l.map dB) (by rw [← List.map_reverse]; exact q)
/-! ### things that may be none of these -/
/-- numbers not too great, no dicts, to a depth -/
def Fit : Nat → PyData → Prop
  | _, .int a => a.natAbs < 2 ^ 4000
  | n + 1, .tuple xs => ∀ x ∈ xs, Fit n x
  | _, x => known x = true
theorem fit_known {n : Nat} {x : PyData} (h : Fit n x) : known x = true := by
  cases x with
  | dict d => cases n <;> exact h
  | _ => rfl
theorem fit_mem {n : Nat} {xs : List PyData} (h : Fit (n + 1) (.tuple xs)) {x : PyData} (hx : x ∈ xs) : Fit n x := h x hx
theorem isTuple_eq {x : PyData} (h : isTuple x = true) : ∃ xs, x = .tuple xs := by
  cases x with
  | tuple xs => exact ⟨xs, rfl⟩
  | _ => cases h
def isRatio : PyData → Bool
  | .tuple [.int a, .int b] => decide (0 < b) && decide (Int.gcd a b = 1)
  | _ => false
theorem isRatio_eq {x : PyData} (h : isRatio x = true) : ∃ q : Rat, x = dR q := by
  unfold isRatio at h
  split at h
  · rename_i a b
    obtain ⟨h1, h2⟩ := Bool.and_eq_true_iff.mp h
    have h1 := of_decide_eq_true h1
    have h2 := of_decide_eq_true h2
    refine ⟨Rat.divInt a b, ?_⟩
    have hb : b ≠ 0 := by omega
    rw [dR_eq hb]
    unfold byOf
    rw [if_neg (by omega), h2]
    simp
  · cases h
theorem isRatio_dR (q : Rat) : isRatio (dR q) = true := by
  show (decide (0 < (q.den : Int)) && decide (Int.gcd q.num q.den = 1)) = true
  rw [decide_eq_true (den_pos q), Bool.true_and]
  refine decide_eq_true ?_
  have := q.reduced
  unfold Nat.Coprime at this
  unfold Int.gcd
  simpa using this
theorem fit_dR {n : Nat} {q : Rat} (h : Fit (n + 1) (dR q)) : Sz 4000 q := by
  have h1 : Fit n (.int q.num) := fit_mem h (List.mem_cons_self ..)
  have h2 : Fit n (.int q.den) := fit_mem h (List.mem_cons_of_mem _ (List.mem_cons_self ..))
  have h1 : q.num.natAbs < 2 ^ 4000 := by cases n <;> exact h1
  have h2 : (q.den : Int).natAbs < 2 ^ 4000 := by cases n <;> exact h2
  exact ⟨h1, by simpa using h2⟩
theorem fit_ofR {n : Nat} {q : Rat} (h : Sz 4000 q) : Fit (n + 1) (dR q) := by
  intro x hx
  rcases List.mem_cons.mp hx with rfl | hx
  · cases n <;> exact h.num
  · rw [List.mem_singleton.mp hx]
    have : (q.den : Int).natAbs < 2 ^ 4000 := by have := h.den; simpa using this
    cases n <;> exact this
def ratOf : PyData → Rat
  | .tuple [.int a, .int b] => Rat.divInt a b
  | _ => 0
theorem ratOf_dR (q : Rat) : ratOf (dR q) = q := Rat.num_divInt_den q
def isWall : PyData → Bool
  | .none => true
  | .tuple [x, y] => isRatio x && isRatio y
  | _ => false
def isBall : PyData → Bool
  | .tuple [x, y, .int w] => isRatio x && (isRatio y && (decide (1 ≤ w) && decide (w ≤ 1000)))
  | _ => false
theorem isBall_eq {x : PyData} (h : isBall x = true) : ∃ b : Bl, x = dB b ∧ 1 ≤ b.w ∧ b.w ≤ 1000 := by
  unfold isBall at h
  split at h
  · obtain ⟨h1, h⟩ := Bool.and_eq_true_iff.mp h
    obtain ⟨h2, h⟩ := Bool.and_eq_true_iff.mp h
    obtain ⟨h3, h4⟩ := Bool.and_eq_true_iff.mp h
    obtain ⟨p, rfl⟩ := isRatio_eq h1
    obtain ⟨s, rfl⟩ := isRatio_eq h2
    exact ⟨⟨p, s, _⟩, rfl, of_decide_eq_true h3, of_decide_eq_true h4⟩
  · cases h
theorem isBall_dB {b : Bl} (h : 1 ≤ b.w ∧ b.w ≤ 1000) : isBall (dB b) = true := by
  show (isRatio (dR b.p) && (isRatio (dR b.s) && (decide (1 ≤ b.w) && decide (b.w ≤ 1000)))) = true
  rw [isRatio_dR, isRatio_dR, decide_eq_true h.1, decide_eq_true h.2]; rfl
def ballOf : PyData → Bl
  | .tuple [x, y, .int w] => ⟨ratOf x, ratOf y, w⟩
  | _ => ⟨0, 0, 0⟩
theorem ballOf_dB (b : Bl) : ballOf (dB b) = b := by
  show (⟨ratOf (dR b.p), ratOf (dR b.s), b.w⟩ : Bl) = b
  rw [ratOf_dR, ratOf_dR]
theorem balls_eq : ∀ {xs : List PyData}, xs.all isBall = true → xs = (xs.map ballOf).map dB ∧ ∀ b ∈ xs.map ballOf, 1 ≤ b.w ∧ b.w ≤ 1000
  | [], _ => ⟨rfl, fun _ h => by cases h⟩
  | x :: xs, h => by
    obtain ⟨h1, h2⟩ := Bool.and_eq_true_iff.mp (show (isBall x && xs.all isBall) = true from h)
    obtain ⟨e, hw⟩ := balls_eq h2
    obtain ⟨b, rfl, hb⟩ := isBall_eq h1
    refine ⟨?_, fun c hc => ?_⟩
    · rw [List.map_cons, List.map_cons, ← e, ballOf_dB]
    · rw [List.map_cons, ballOf_dB] at hc
      rcases List.mem_cons.mp hc with rfl | hc
      · exact hb
      · exact hw c hc
theorem balls_of {l : List Bl} (h : ∀ b ∈ l, 1 ≤ b.w ∧ b.w ≤ 1000) : (l.map dB).all isBall = true ∧ (l.map dB).map ballOf = l := by
  refine ⟨?_, ?_⟩
  · rw [List.all_map, List.all_eq_true]
    exact fun b hb => isBall_dB (h b hb)
  · rw [List.map_map]
    have : (ballOf ∘ dB) = id := funext ballOf_dB
    rw [this, List.map_id]
def withinS (p s q t : Rat) : Bool := decide (p = q ∧ s = t) || mayS p s q t
def lowOk : Wl → List Bl → Bool
  | some (p, s), c :: _ => withinS p s c.p c.s
  | _, _ => true
def highOk : Wl → List Bl → Bool
  | some (p, s), l => match l.getLast? with
    | some c => withinS c.p c.s p s
    | none => true
  | _, _ => true
def apart : Wl → Wl → Bool
  | some (p, _), some (q, _) => decide (p < q)
  | _, _ => true
def wallsGood : PyData → Bool
  | .tuple [x, y] => isWall x && (isWall y && (match x, y with
    | .tuple [p, _], .tuple [q, _] => decide (ratOf p < ratOf q)
    | _, _ => true))
  | _ => false
/-- a row, between walls, of balls -/
def isRow (a b : Wl) : PyData → Bool
  | .tuple xs => (decide (1 ≤ xs.length) && decide (xs.length ≤ 8)) && (xs.all isBall && (Nb mayB (xs.map ballOf) && (lowOk a (xs.map ballOf) && highOk b (xs.map ballOf))))
  | _ => false
theorem isRow_dRow {a b : Wl} {l : List Bl} (h : RowOk l) : isRow a b (dRow l) = (lowOk a l && highOk b l) := by
  obtain ⟨h1, h2⟩ := balls_of h.w0
  have hl : 1 ≤ l.length := by have := h.nz; cases l with | nil => exact absurd rfl this | cons a r => simp
  show ((decide (1 ≤ (l.map dB).length) && decide ((l.map dB).length ≤ 8)) && ((l.map dB).all isBall && (Nb mayB ((l.map dB).map ballOf) && (lowOk a ((l.map dB).map ballOf) && highOk b ((l.map dB).map ballOf))))) = _
  rw [h1, h2, h.nb, List.length_map, decide_eq_true hl, decide_eq_true h.le]
  rfl
def WSz (n : Nat) : Wl → Prop
  | some (p, s) => Sz n p ∧ Sz n s
  | none => True
theorem WSz.mono {n m : Nat} {w : Wl} (h : WSz n w) (l : n ≤ m) : WSz m w := by
  cases w with
  | none => trivial
  | some w => exact ⟨h.1.mono l, h.2.mono l⟩
theorem fit_dB {n : Nat} {b : Bl} (h : Sz 4000 b.p) (h2 : Sz 4000 b.s) (h3 : b.w.natAbs < 2 ^ 4000) : Fit (n + 2) (dB b) := by
  intro x hx
  rcases List.mem_cons.mp hx with rfl | hx
  · exact fit_ofR h
  · rcases List.mem_cons.mp hx with rfl | hx
    · exact fit_ofR h2
    · rw [List.mem_singleton.mp hx]; exact h3
theorem fit_dB' {n : Nat} {b : Bl} (h : Fit (n + 2) (dB b)) : Sz 4000 b.p ∧ Sz 4000 b.s :=
  ⟨fit_dR (n := n) (fit_mem h (List.mem_cons_self ..)), fit_dR (n := n) (fit_mem h (List.mem_cons_of_mem _ (List.mem_cons_self ..)))⟩
theorem nat_pow_lt {a : Int} {k n : Nat} (h : a.natAbs < 2 ^ k) (l : k ≤ n) : a.natAbs < 2 ^ n := Nat.lt_of_lt_of_le h (Nat.pow_le_pow_right (by decide) l)
theorem nb_zip {α : Type} {f : α → α → Bool} : ∀ (l : List α), ((l.zip l.tail).map fun p => f p.1 p.2).all id = Nb f l
  | [] => rfl
  | [a] => rfl
  | a :: b :: l => by
    have := nb_zip (f := f) (b :: l)
    show (f a b && (((b :: l).zip l).map fun p => f p.1 p.2).all id) = (f a b && Nb f (b :: l))
    rw [← this]; rfl
theorem cut_tail {α : Type} (xs : List α) : cutG xs (some 1) none = xs.tail := by
  cases xs with
  | nil => rfl
  | cons a l =>
    unfold cutG
    rw [show HT.sIx (a :: l).length 0 (some 1) = 1 from (HT.sIx_nat _ _ 1).trans (by simp)]
    show ((a :: l).drop 1).take ((a :: l).length - 1) = l
    simp
theorem zipD_map {α : Type} (f : α → PyData) (l r : List α) : zipD (l.map f) (r.map f) = (l.zip r).map fun p => DV.d (.tuple [f p.1, f p.2]) := by
  unfold zipD
  rw [List.zip_map, List.map_map]
  rfl
section
variable {K : KF} {W : WX} {Γ : Gm} {Ω : Om} {R : DV → Om → Prop} {X : Exc → Om → Prop} {S : Gm → Om → Prop} {gs : TGs}
theorem we_nought (q0 : He.tupB K "NOUGHT" [.int 0, .int 1] = true) (q : R (.d (dR 0)) Ω) : WE K W (tC (.ref (He.ga K "NOUGHT"))) Γ Ω R X := we_g (tup_dp q0 fun G => .cons (.int 0) (.cons (.int 1) .nil)) q
theorem cutG_map {α β : Type} (f : α → β) (l : List α) (lo hi : Option Int) : cutG (l.map f) lo hi = (cutG l lo hi).map f := by
  unfold cutG
  rw [List.length_map, List.map_take, List.map_drop]
theorem wsl_Row {l : List Bl} {lo hi : Option Int} (q : R (.d (dRow (cutG l lo hi))) Ω) : WSl K (rSlS K) (.d (dRow l)) lo hi Ω R :=
  wsl_T (xs := l.map dB) (by rw [cutG_map]; exact q)
theorem wr_ixRow {l : List Bl} {i : Int} {b : Bl} (h : atI l i = some b) (q : R (.d (dB b)) Ω) : WR K (rIx K) (.d (dRow l)) (.d (.int i)) Ω R :=
  wr_ixT (xs := l.map dB) (y := dB b) (by rw [atI_map, h]; rfl) q
theorem at_last {α : Type} {l : List α} {a : α} (h : l.getLast? = some a) : atI l (-1) = some a := by
  have h0 : l ≠ [] := fun e => by rw [e] at h; cases h
  have e : l = l.dropLast ++ [a] := (List.dropLast_concat_getLast h0).symm.trans (by rw [show l.getLast h0 = a from Option.some.inj ((List.getLast?_eq_getLast h0).symm.trans h)])
  rw [e]
  exact atI_last _ _
theorem wr_ixW0 {a b : Wl} (q : R (.d (dW a)) Ω) : WR K (rIx K) (.d (dWs a b)) (.d (.int 0)) Ω R := wr_ixT rfl q
theorem wr_ixW1 {a b : Wl} (q : R (.d (dW b)) Ω) : WR K (rIx K) (.d (dWs a b)) (.d (.int 1)) Ω R := wr_ixT rfl q
theorem plain_dW (w : Wl) : plainV (.d (dW w)) = true := by cases w <;> rfl
theorem isNo_dW (w : Wl) : isNo (.d (dW w)) = w.isNone := by cases w <;> rfl
theorem wr_isNW {w : Wl} (q : R (.d (.bool w.isNone)) Ω) : WR K oIsN (.d (dW w)) (.d .none) Ω R := wr_isN' (plain_dW w) (by rw [isNo_dW]; exact q)
theorem wr_notNW {w : Wl} (q : R (.d (.bool (!w.isNone))) Ω) : WR K oNotN (.d (dW w)) (.d .none) Ω R := wr_notN' (plain_dW w) (by rw [isNo_dW]; exact q)
theorem wg_tupW {a b : Wl} (h : WGs K gs [.d (dW a), .d (dW b)] Γ Ω S) : WG K (gTup K 2 gs) (.d (dWs a b)) Γ Ω S := wg_tup (xs := [dW a, dW b]) rfl h
theorem wr_ixw0 {p s : Rat} (q : R (.d (dR p)) Ω) : WR K (rIx K) (.d (dW (some (p, s)))) (.d (.int 0)) Ω R := wr_ixT rfl q
theorem wr_ixw1 {p s : Rat} (q : R (.d (dR s)) Ω) : WR K (rIx K) (.d (dW (some (p, s)))) (.d (.int 1)) Ω R := wr_ixT rfl q
theorem only2 {i j : Nat} : Only (gTup K 2 (gCons (gName i) (gCons (gName j) gNil))) [i, j] :=
  only_tup (onlys_cons mono_name (only_name (List.mem_cons_self ..)) (onlys_cons mono_name (only_name (List.mem_cons_of_mem _ (List.mem_cons_self ..))) onlys_nil))
theorem only3 {i j k : Nat} : Only (gTup K 3 (gCons (gName i) (gCons (gName j) (gCons (gName k) gNil)))) [i, j, k] :=
  only_tup (onlys_cons mono_name (only_name (List.mem_cons_self ..)) (onlys_cons mono_name (only_name (List.mem_cons_of_mem _ (List.mem_cons_self ..))) (onlys_cons mono_name (only_name (List.mem_cons_of_mem _ (List.mem_cons_of_mem _ (List.mem_cons_self ..)))) onlys_nil)))
end
section
variable {K : KF} {Γ : Gm} {Ω : Om} {S : Gm → Om → Prop} {gs : TGs}
theorem wg_tup2 {a b : PyData} (h : WGs K gs [.d a, .d b] Γ Ω S) : WG K (gTup K 2 gs) (.d (.tuple [a, b])) Γ Ω S := wg_tup rfl h
theorem wg_tup3 {a b c : PyData} (h : WGs K gs [.d a, .d b, .d c] Γ Ω S) : WG K (gTup K 3 gs) (.d (.tuple [a, b, c])) Γ Ω S := wg_tup rfl h
theorem wg_tup4 {a b c d : PyData} (h : WGs K gs [.d a, .d b, .d c, .d d] Γ Ω S) : WG K (gTup K 4 gs) (.d (.tuple [a, b, c, d])) Γ Ω S := wg_tup rfl h
end
/-! ### data that can be compared, and what comparing tells -/
def Shp (n : Nat) (d : PyData) : Prop := d.canLay0 = true ∧ d.depth ≤ n
theorem shaped_of {d : PyData} (h : Shp 64 d) : SeqAt.shaped d = true := Bool.and_eq_true_iff.mpr ⟨h.1, decide_eq_true h.2⟩
theorem Shp.mono {n m : Nat} {d : PyData} (h : Shp n d) (l : n ≤ m) : Shp m d := ⟨h.1, Nat.le_trans h.2 l⟩
theorem shp_int {n : Nat} {a : Int} : Shp n (.int a) := ⟨rfl, Nat.zero_le _⟩
theorem shp_none {n : Nat} : Shp n .none := ⟨rfl, Nat.zero_le _⟩
theorem shp_all {n : Nat} : ∀ {xs : List PyData}, (∀ x ∈ xs, Shp n x) → PyData.canLayAll0 xs = true ∧ PyData.depthAll xs ≤ n
  | [], _ => ⟨rfl, Nat.zero_le _⟩
  | x :: xs, h => by
    have h1 := h x (List.mem_cons_self ..)
    have h2 := shp_all (xs := xs) fun y hy => h y (List.mem_cons_of_mem _ hy)
    refine ⟨?_, ?_⟩
    · show (x.canLay0 && PyData.canLayAll0 xs) = true
      rw [h1.1, h2.1]; rfl
    · show max x.depth (PyData.depthAll xs) ≤ n
      have := h1.2
      have := h2.2
      omega
theorem shp_tup {n : Nat} {xs : List PyData} (h : ∀ x ∈ xs, Shp n x) : Shp (n + 1) (.tuple xs) := by
  obtain ⟨h1, h2⟩ := shp_all h
  exact ⟨h1, Nat.succ_le_succ h2⟩
theorem shp_list {n : Nat} {xs : List PyData} (h : ∀ x ∈ xs, Shp n x) : Shp (n + 1) (.list xs) := by
  obtain ⟨h1, h2⟩ := shp_all h
  exact ⟨h1, Nat.succ_le_succ h2⟩
theorem shp_nil {n : Nat} : ∀ x ∈ ([] : List PyData), Shp n x := fun _ h => by cases h
theorem shp_cons {n : Nat} {a : PyData} {l : List PyData} (h : Shp n a) (t : ∀ x ∈ l, Shp n x) : ∀ x ∈ a :: l, Shp n x := fun x hx => by
  rcases List.mem_cons.mp hx with rfl | hx
  · exact h
  · exact t x hx
theorem shp_map {α : Type} {n : Nat} {f : α → PyData} {l : List α} (h : ∀ a, Shp n (f a)) : ∀ x ∈ l.map f, Shp n x := fun x hx => by
  obtain ⟨a, _, rfl⟩ := List.mem_map.mp hx
  exact h a
theorem shp_dR {n : Nat} (q : Rat) : Shp (n + 1) (dR q) := shp_tup (shp_cons shp_int (shp_cons shp_int shp_nil))
theorem shp_dB {n : Nat} (b : Bl) : Shp (n + 2) (dB b) := shp_tup (shp_cons (shp_dR _) (shp_cons (shp_dR _) (shp_cons shp_int shp_nil)))
theorem shp_dRow {n : Nat} (l : List Bl) : Shp (n + 3) (dRow l) := shp_tup (shp_map fun b => shp_dB b)
/-- told apart by == as they are -/
def EqvI {α : Type} [DecidableEq α] (f : α → PyData) : Prop := ∀ a b, PyData.eqv (f a) (f b) = decide (a = b)
theorem eqvAll_map {α : Type} [DecidableEq α] {f : α → PyData} (h : EqvI f) : ∀ (l m : List α), PyData.eqvAll (l.map f) (m.map f) = decide (l = m)
  | [], [] => rfl
  | [], _ :: _ => rfl
  | _ :: _, [] => rfl
  | a :: l, b :: m => by
    show (PyData.eqv (f a) (f b) && PyData.eqvAll (l.map f) (m.map f)) = _
    rw [h, eqvAll_map h l m]
    by_cases h1 : a = b <;> by_cases h2 : l = m <;> simp [h1, h2]
theorem eqv_tup {α : Type} [DecidableEq α] {f : α → PyData} (h : EqvI f) : EqvI fun l : List α => .tuple (l.map f) := fun l m => eqvAll_map h l m
instance : DecidableEq Bl := fun a b => decidable_of_iff (a.p = b.p ∧ a.s = b.s ∧ a.w = b.w) ⟨fun h => by cases a; cases b; simp at h; simp [h], fun h => by subst h; exact ⟨rfl, rfl, rfl⟩⟩
theorem eqvI_dB : EqvI dB := fun a b => by
  show (PyData.eqv (dR a.p) (dR b.p) && (PyData.eqv (dR a.s) (dR b.s) && (PyData.eqv (.int a.w) (.int b.w) && true))) = _
  rw [eqv_dR, eqv_dR, eqv_int]
  obtain ⟨p, s, w⟩ := a
  obtain ⟨q, t, v⟩ := b
  by_cases h1 : p = q <;> by_cases h2 : s = t <;> by_cases h3 : w = v <;> simp [h1, h2, h3]
theorem eqvI_dRow : EqvI dRow := eqv_tup eqvI_dB
section
variable {K : KF} {Ω : Om} {R : DV → Om → Prop}
end
section
variable {K : KF} {Ω : Om} {R : DV → Om → Prop} {α : Type} [DecidableEq α]
end
/-! ### framed: all speeds more by one -/
def addB (u : Rat) (b : Bl) : Bl := ⟨b.p, b.s + u, b.w⟩
def addW (u : Rat) : Wl → Wl
  | none => none
  | some (p, s) => some (p, s + u)
/-- a row and its walls -/
def dRW (x : List Bl × Wl × Wl) : PyData := .tuple [dRow x.1, dWs x.2.1 x.2.2]
section
variable {K : KF} {Γ : Gm} {Ω : Om} {R : DV → Om → Prop} {S : Gm → Om → Prop} {gs : TGs}
theorem wr_ixRW0 {x : List Bl × Wl × Wl} (q : R (.d (dRow x.1)) Ω) : WR K (rIx K) (.d (dRW x)) (.d (.int 0)) Ω R := wr_ixT rfl q
theorem wr_ixRW1 {x : List Bl × Wl × Wl} (q : R (.d (dWs x.2.1 x.2.2)) Ω) : WR K (rIx K) (.d (dRW x)) (.d (.int 1)) Ω R := wr_ixT rfl q
theorem wg_tupRW {x : List Bl × Wl × Wl} (h : WGs K gs [.d (dRow x.1), .d (dWs x.2.1 x.2.2)] Γ Ω S) : WG K (gTup K 2 gs) (.d (dRW x)) Γ Ω S := wg_tup (xs := [dRow x.1, dWs x.2.1 x.2.2]) rfl h
end
/-- a row whose speeds may be greater -/
theorem isRow_of {a b : Wl} {l : List Bl} (hz : l ≠ []) (hl : l.length ≤ 8) (hw : ∀ b ∈ l, 1 ≤ b.w ∧ b.w ≤ 1000) (hn : Nb mayB l = true) : isRow a b (dRow l) = (lowOk a l && highOk b l) := by
  obtain ⟨h1, h2⟩ := balls_of hw
  have hl1 : 1 ≤ l.length := by cases l with | nil => exact absurd rfl hz | cons a r => simp
  show ((decide (1 ≤ (l.map dB).length) && decide ((l.map dB).length ≤ 8)) && ((l.map dB).all isBall && (Nb mayB ((l.map dB).map ballOf) && (lowOk a ((l.map dB).map ballOf) && highOk b ((l.map dB).map ballOf))))) = _
  rw [h1, h2, hn, List.length_map, decide_eq_true hl1, decide_eq_true hl]
  rfl
/-! ### what is no row, no walls; cuts at a place -/
def NotRow (y : PyData) : Prop := ∀ a b, isRow a b y = false
theorem nb_mid {α : Type} {f : α → α → Bool} {a b : α} (h : f a b = false) : ∀ l r : List α, Nb f (l ++ a :: b :: r) = false
  | [], r => by show (f a b && Nb f (b :: r)) = false; rw [h, Bool.false_and]
  | [c], r => by show (f c a && (f a b && Nb f (b :: r))) = false; rw [h, Bool.false_and, Bool.and_false]
  | c :: d :: l, r => by
    show (f c d && Nb f (d :: l ++ a :: b :: r)) = false
    rw [nb_mid h (d :: l) r, Bool.and_false]
section
variable {K : KF} {Ω : Om} {R : DV → Om → Prop}
end
/-- a list display, list(..) that is changed later -/
def tLstO (ta : TA) : TE := tLst ta
def rListO (K : KF) : List V → Hp → VK → Prop := rListQ K
section
variable {K : KF} {W : WX} {Γ : Gm} {Ω : Om} {R : DV → Om → Prop} {X : Exc → Om → Prop} {tl : TA}
theorem we_lstO' (h : WA K W tl Γ Ω (fun ds Ω1 => ds.length ≤ 100000 ∧ R (.o Ω1.length) (Ω1 ++ [.lst ds])) X) : WE K W (tLstO tl) Γ Ω R X := we_lstO h
theorem ex_len {ds : List DV} {B : Prop} (e : ds.length ≤ 100000) (h : B) : ds.length ≤ 100000 ∧ B := ⟨e, h⟩
end
theorem set_last {α : Type} (l : List α) (a b : α) : (l ++ [a]).set l.length b = l ++ [b] := by
  rw [List.set_append_right _ _ (Nat.le_refl _), Nat.sub_self]; rfl
theorem get_last {α : Type} (l : List α) (a : α) : (l ++ [a])[l.length]? = some a := by simp
theorem sq_last (Ω : Om) (ds : List DV) : sq (Ω ++ [.lst ds]) (.o Ω.length) = some ds := by
  show sqO (Ω ++ [OC.lst ds])[Ω.length]? = _
  rw [get_last]; rfl
theorem wm_appL {K : KF} {Ω : Om} {R : DV → Om → Prop} {ds : List DV} {y : DV} (hl : ds.length < 100000) (q : R (.d .none) (Ω ++ [.lst (ds ++ [y])])) : WM K rAppend (.o Ω.length) [y] (Ω ++ [.lst ds]) R :=
  wm_append (get_last Ω (.lst ds)) hl (by rw [set_last]; exact q)
section
variable {K : KF} {W : WX} {Γ : Gm} {Ω : Om} {X : Exc → Om → Prop} {Rc : List DV → (Om → Prop) → Om → Prop} {te : TE}
end
/-- of all items of a list -/
theorem all_nil {α : Type} {P : α → Prop} : ∀ x ∈ ([] : List α), P x := fun _ h => by cases h
theorem all_cons {α : Type} {P : α → Prop} {a : α} {l : List α} (h : P a) (t : ∀ x ∈ l, P x) : ∀ x ∈ a :: l, P x := fun x hx => by
  rcases List.mem_cons.mp hx with rfl | hx
  · exact h
  · exact t x hx
theorem fit_tup {n : Nat} {xs : List PyData} (h : ∀ x ∈ xs, Fit n x) : Fit (n + 1) (.tuple xs) := h
theorem fit_int {n k : Nat} {a : Int} (h : a.natAbs < 2 ^ k) (l : k ≤ 4000) : Fit n (.int a) := by
  have := nat_pow_lt h l
  cases n <;> exact this
theorem wsl_B {K : KF} {Ω : Om} {R : DV → Om → Prop} {b : Bl} {lo hi : Option Int} (q : R (.d (.tuple (cutG [dR b.p, dR b.s, .int b.w] lo hi))) Ω) : WSl K (rSlS K) (.d (dB b)) lo hi Ω R := wsl_T (xs := [dR b.p, dR b.s, .int b.w]) q
/-! ### [x] * k; comprehensions that draw -/
section
variable {K : KF} {Ω : Om} {R : DV → Om → Prop}
end
section
variable {K : KF} {W : WX} {Γ : Gm} {Ω : Om} {R : DV → Om → Prop} {X : Exc → Om → Prop} {wi : TI} {g : TG} {te : TE} {vs : List Nat}
end
/-! ### branches that join: the item's row --JOIN makes the walk stop ahead of each `if` with something behind -/
def tSeqI (a b : TS) : TS := tSeq a b
section
variable {K : KF} {W : WX} {Γ : Gm} {Ω : Om} {O : Outs} {ts tt t1 t2 : TS}
theorem ws_mono {O' : Outs} (h : WS K W ts Γ Ω O') (nx : ∀ Γ1 Ω1, O'.nx Γ1 Ω1 → O.nx Γ1 Ω1) (e1 : O'.rt = O.rt) (e2 : O'.bk = O.bk) (e3 : O'.ct = O.ct) (e4 : O'.er = O.er) : WS K W ts Γ Ω O := fun m G H σ D c s k1 k2 k3 k4 z =>
  h m G H σ D c s (fun m1 G1 Ω1 H1 Γ1 σ1 c1 n1 l1 s1 hM => k1 m1 G1 Ω1 H1 Γ1 σ1 c1 n1 l1 s1 (nx _ _ hM)) (by rw [e1]; exact k2) (by rw [e2]; exact k3) (by rw [e3]; exact k4) (by rw [e4]; exact z)
theorem ws_cut (M : Gm → Om → Prop) (h2 : ∀ Γ1 Ω1, M Γ1 Ω1 → WS K W tt Γ1 Ω1 O) (h1 : WS K W ts Γ Ω { nx := M, rt := O.rt, bk := O.bk, ct := O.ct, er := O.er }) : WS K W (tSeqI ts tt) Γ Ω O :=
  ws_seq (ws_mono h1 h2 rfl rfl rfl rfl)
theorem ws_go (h : WS K W (tSeq ts tt) Γ Ω O) : WS K W (tSeqI ts tt) Γ Ω O := h
end
/-! ### isinstance of a caught error, a tuple of classes -/
def rIsET (K : KF) (cls : Value) (dd : Option Addr) (a : Addr) : List V → Hp → VK → Prop := fun xs H Q => ∃ D, cls = .ref D ∧ dd = none ∧ ExcC K D ∧ ∃ (tp : Addr) (cs : List V) (us : List Value) (b : Bool), xs = [.ref a, .ref tp] ∧ H tp = some (.tup cs) ∧ Paired ClsV cs us ∧ PySem.W.kitAny K (.ref D) us = some b ∧ Q (.bl b) H
def tCs : List V → TA
  | [] => tNil
  | v :: vs => tCons (tC v) (tCs vs)
def tIsET (K : KF) (cls : Value) (dd : Option Addr) (a : Addr) (te : TE) (cs : List Addr) : TE := tCB (rIsET K cls dd a) (tCons te (tCons (tTup (tCs (cs.map V.ref))) tNil))
/-! ### walls at the end balls -/
/-! ### insert, extend on own lists -/
def rInsertS : V → List V → Hp → VK → Prop := fun x vs H Q =>
  ∃ (l : Addr) (xs : List V) (i : Int) (y : V), x = .ref l ∧ vs = [.int i, y] ∧ H l = some (.lst xs) ∧
    xs.length < sizeLine ∧ 0 ≤ i ∧ i < 2 ^ 63 ∧ Q .non (upd H l (.lst (xs.take i.toNat ++ [y] ++ xs.drop i.toNat)))
section
variable {K : KF} {W : WX} {Γ : Gm} {Ω : Om} {R : DV → Om → Prop} {X : Exc → Om → Prop} {wi : TI} {g : TG} {tt : TT} {te : TE} {vs : List Nat}
end
/-! ### broad balls -/
structure Bb where
  p : Rat
  s : Rat
  w : Int
  d : Rat
deriving DecidableEq
def dBb (b : Bb) : PyData := .tuple [dR b.p, dR b.s, .int b.w, dR b.d]
def dBroad (l : List Bb) : PyData := .tuple (l.map dBb)
def thickF : Rat → List Bl → List Rat → List Bb
  | a, b :: l, w :: ws => ⟨b.p + a, b.s, b.w, w⟩ :: thickF (a + w) l ws
  | _, _, _ => []
def thinF : Rat → List Bb → List Bl
  | a, b :: l => ⟨b.p - a, b.s, b.w⟩ :: thinF (a + b.d) l
  | _, [] => []
section
variable {K : KF} {W : WX} {Γ : Gm} {Ω : Om} {R : DV → Om → Prop} {S : Gm → Om → Prop} {gs : TGs}
theorem wr_ixD0 {b : Bb} (q : R (.d (dR b.p)) Ω) : WR K (rIx K) (.d (dBb b)) (.d (.int 0)) Ω R := wr_ixT rfl q
theorem wr_ixD1 {b : Bb} (q : R (.d (dR b.s)) Ω) : WR K (rIx K) (.d (dBb b)) (.d (.int 1)) Ω R := wr_ixT rfl q
theorem wr_ixD2 {b : Bb} (q : R (.d (.int b.w)) Ω) : WR K (rIx K) (.d (dBb b)) (.d (.int 2)) Ω R := wr_ixT rfl q
theorem wr_ixD3 {b : Bb} (q : R (.d (dR b.d)) Ω) : WR K (rIx K) (.d (dBb b)) (.d (.int 3)) Ω R := wr_ixT rfl q
theorem wg_tupD {b : Bb} (h : WGs K gs [.d (dR b.p), .d (dR b.s), .d (.int b.w), .d (dR b.d)] Γ Ω S) : WG K (gTup K 4 gs) (.d (dBb b)) Γ Ω S := wg_tup (xs := [dR b.p, dR b.s, .int b.w, dR b.d]) rfl h
end
def brdB : PyData → Bool
  | .tuple [p, _, _, d] => isRatio p && isRatio d
  | _ => false
def widB : PyData → Bool
  | .tuple [_, _, _, .tuple [.int a, _]] => decide (0 ≤ a)
  | _ => false
def areBroad : PyData → Bool
  | .tuple xs => (decide (1 ≤ xs.length) && decide (xs.length ≤ 8)) && (xs.all brdB && xs.all widB)
  | _ => false
/-! ### is True, is False -/
def rIsBl : R2 := fun x y H Q => ∃ a b : Bool, x = .bl a ∧ y = .bl b ∧
  Q (.bl (decide (a = b))) H
def rIsnBl : R2 := fun x y H Q => ∃ a b : Bool, x = .bl a ∧ y = .bl b ∧
  Q (.bl (!decide (a = b))) H
theorem wr_isB {K : KF} {Ω : Om} {R : DV → Om → Prop} {a b : Bool} (q : R (.d (.bool (decide (a = b)))) Ω) : WR K rIsBl (.d (.bool a)) (.d (.bool b)) Ω R := fun m G H v w Q c r1 r2 k => by
  cases r1
  cases r2
  exact ⟨a, b, rfl, rfl, k _ _ _ _ (.d (.bool (decide (a = b)))) _ c (Nxt.refl ..) (Nat.le_refl _) (Dp.bl _) q⟩
theorem wr_isnB {K : KF} {Ω : Om} {R : DV → Om → Prop} {a b : Bool} (q : R (.d (.bool (!decide (a = b)))) Ω) : WR K rIsnBl (.d (.bool a)) (.d (.bool b)) Ω R := fun m G H v w Q c r1 r2 k => by
  cases r1
  cases r2
  exact ⟨a, b, rfl, rfl, k _ _ _ _ (.d (.bool (!decide (a = b)))) _ c (Nxt.refl ..) (Nat.le_refl _) (Dp.bl _) q⟩
/-! ### x in a list, a tuple -/
def rInA (K : KF) (neg : Bool) : R2 := fun x y H Q => ∃ (d : PyData) (ds : List PyData), Dp K H x d ∧ (Dp K H y (.list ds) ∨ Dp K H y (.tuple ds)) ∧
  Shp 63 d ∧ SeqAt.shaped (.list ds) = true ∧ Q (.bl (neg != ds.any fun z => PyData.eqv z d)) H
theorem in_room {u : Nat} {ds : List PyData} {d : PyData} (h : Shp 63 d) (hu : u + 64 < cLine) : u + 1 + min (PyData.depthAll ds) d.depth < cLine := by
  have := h.2
  have := Nat.min_le_right (PyData.depthAll ds) d.depth
  omega
theorem op_inA {X : Cx} (hu : X.A.units + 64 < cLine) : OpR X (compareOp .In) (rInA X.K false) := by
  intro pins s σ H x y v u Q I rx ry ⟨d, ds, hd, he, sd, se, q⟩
  rw [Bool.false_bne] at q
  obtain ⟨as, r1⟩ := Dp.reads I d x v hd rx
  rcases he with he | he
  · obtain ⟨bs, r2⟩ := Dp.reads I (.list ds) y u he ry
    exact SeqAt.in_list_reads r2 r1 (SeqAt.canLay_of_shaped se) sd.1 (in_room sd hu) ⟨.bl _, H, I, rfl, q⟩
  · obtain ⟨bs, r2⟩ := Dp.reads I (.tuple ds) y u he ry
    exact SeqAt.in_tuple_reads r2 r1 (SeqAt.canLay_of_shaped se) sd.1 (in_room sd hu) ⟨.bl _, H, I, rfl, q⟩
section
variable {K : KF} {W : WX} {Γ : Gm} {Ω : Om} {R : DV → Om → Prop} {X : Exc → Om → Prop} {Rc : List DV → (Om → Prop) → Om → Prop} {te : TE}
theorem wr_in {neg : Bool} {x y : DV} {a : PyData} {bs : List PyData} (hx : vw Ω x = some a) (hy : vw Ω y = some (.list bs) ∨ vw Ω y = some (.tuple bs)) (sa : Shp 63 a) (sb : SeqAt.shaped (.list bs) = true)
    (q : R (.d (.bool (neg != bs.any fun z => PyData.eqv z a))) Ω) : WR K (rInA K neg) x y Ω R := fun m G H v w Q c r1 r2 k =>
  ⟨a, bs, vw_dp c r1 hx, hy.imp (fun h => vw_dp c r2 h) (fun h => vw_dp c r2 h), sa, sb, k _ _ _ _ (.d (.bool _)) _ c (Nxt.refl ..) (Nat.le_refl _) (Dp.bl _) q⟩
end
/-! ### sightings -/
structure Sg where
  i : Int
  j : Int
  v : Rat
  w : Rat
  a : Rat
  b : Rat
deriving DecidableEq
def dSg (x : Sg) : PyData := .tuple [.int x.i, .int x.j, dR x.v, dR x.w, dR x.a, dR x.b]
def Sg.lost (x : Sg) : Rat := x.v - x.a
def Sg.won (x : Sg) : Rat := x.b - x.w
def Sg.reb (x : Sg) : Bool := !decide (x.v = x.w) && decide (x.b - x.a = x.v - x.w)
def Sg.share (x : Sg) : Option Rat := if x.reb = true ∧ 0 < x.lost / x.won then some (x.lost / x.won) else none
structure SgOk (n : Nat) (x : Sg) : Prop where
  i0 : 0 ≤ x.i ∧ x.i ≤ 1000
  j0 : 0 ≤ x.j ∧ x.j ≤ 1000
  v : Sz 300 x.v
  w : Sz 300 x.w
  a : Sz 600 x.a
  b : Sz 600 x.b
  lost : Sz n x.lost
  won : Sz n x.won
def mkMeet (i j m n : Int) (v w : Rat) : Sg := ⟨i, j, v, w, v - (v - w) * Rat.divInt (2 * n) (m + n), w + (v - w) * Rat.divInt (2 * m) (m + n)⟩
def dO : Option Rat → PyData
  | none => .none
  | some q => dR q
section
variable {K : KF} {W : WX} {Γ : Gm} {Ω : Om} {R : DV → Om → Prop} {S : Gm → Om → Prop} {gs : TGs}
theorem wg_tupS {x : Sg} (h : WGs K gs [.d (.int x.i), .d (.int x.j), .d (dR x.v), .d (dR x.w), .d (dR x.a), .d (dR x.b)] Γ Ω S) : WG K (gTup K 6 gs) (.d (dSg x)) Γ Ω S := wg_tup (xs := [.int x.i, .int x.j, dR x.v, dR x.w, dR x.a, dR x.b]) rfl h
theorem wr_ixS0 {x : Sg} (q : R (.d (.int x.i)) Ω) : WR K (rIx K) (.d (dSg x)) (.d (.int 0)) Ω R := wr_ixT rfl q
theorem wr_ixS1 {x : Sg} (q : R (.d (.int x.j)) Ω) : WR K (rIx K) (.d (dSg x)) (.d (.int 1)) Ω R := wr_ixT rfl q
theorem isNo_dO (w : Option Rat) : isNo (.d (dO w)) = w.isNone := by cases w <;> rfl
theorem plain_dO (w : Option Rat) : plainV (.d (dO w)) = true := by cases w <;> rfl
theorem wr_isNO {w : Option Rat} (q : R (.d (.bool w.isNone)) Ω) : WR K oIsN (.d (dO w)) (.d .none) Ω R := wr_isN' (plain_dO w) (by rw [isNo_dO]; exact q)
theorem wr_notNO {w : Option Rat} (q : R (.d (.bool (!w.isNone))) Ω) : WR K oNotN (.d (dO w)) (.d .none) Ω R := wr_notN' (plain_dO w) (by rw [isNo_dO]; exact q)
theorem we_one (q0 : He.tupB K "ONE" [.int 1, .int 1] = true) {X : Exc → Om → Prop} (q : R (.d (dR 1)) Ω) : WE K W (tC (.ref (He.ga K "ONE"))) Γ Ω R X := we_g (tup_dp q0 fun G => .cons (.int 1) (.cons (.int 1) .nil)) q
end
/-! ### rings of sightings -/
def dPr (x : Int × Int) : PyData := .tuple [.int x.1, .int x.2]
abbrev St3 := Int × Int × Rat
def dSt : Option St3 → PyData
  | none => .none
  | some (i, j, q) => .tuple [.int i, .int j, dR q]
def stepF (xs : List Sg) (p : Int × Int) : Option St3 :=
  if 0 ≤ p.1 ∧ p.1 < xs.length ∧ (p.2 = 0 ∨ p.2 = 1) then
    match xs[p.1.toNat]? with
    | none => none
    | some x => match x.share with
      | none => none
      | some q => if p.2 = 0 then some (x.i, x.j, q) else some (x.j, x.i, 1 / q)
  else none
def prodF (l : List St3) : Rat := l.foldl (fun q s => q * s.2.2) 1
def d3 : St3 := (0, 0, 0)
def closes (l : List St3) : Bool := (List.range l.length).all fun at_ => decide ((l.getD (if at_ = 0 then l.length - 1 else at_ - 1) d3).2.1 = (l.getD at_ d3).1)
def ringB (xs : List Sg) (ring : List (Int × Int)) : Bool :=
  if ring = [] ∨ (ring.any fun p => (stepF xs p).isNone) = true then false else closes (ring.filterMap (stepF xs)) && !decide (prodF (ring.filterMap (stepF xs)) = 1)
local macro_rules | `(tactic| walk_at "hl1") => `(tactic| first
  | with_reducible refine wu_revT ?_
  | with_reducible refine wr_ixB0 ?_
  | with_reducible refine wg_tupS ?_
  | with_reducible refine wr_ixS0 ?_
  | with_reducible refine wr_ixS1 ?_
  | with_reducible refine wr_isNO ?_
  | with_reducible refine wr_notNO ?_
  | ((with_reducible refine' we_one ?h1 ?_); (case h1 => assumption))
  | with_reducible refine wr_isB ?_
  | with_reducible refine wr_isnB ?_
  | with_reducible refine wr_ixD0 ?_
  | with_reducible refine wr_ixD1 ?_
  | with_reducible refine wr_ixD2 ?_
  | with_reducible refine wr_ixD3 ?_
  | with_reducible refine wg_tupD ?_
  | with_reducible refine we_lstO' ?_
  | with_reducible refine wsl_B ?_
  | ((with_reducible refine' wc_listD' ?h1 ?_); (case h1 => rfl))
  | ((with_reducible refine' ex_len ?h1 ?_); (case h1 => exact Nat.le_of_ble_eq_true rfl))
  | with_reducible refine wr_ixRW0 ?_
  | with_reducible refine wr_ixRW1 ?_
  | with_reducible refine wg_tupRW ?_
  | with_reducible refine wg_tup2 ?_
  | with_reducible refine wg_tup3 ?_
  | with_reducible refine wg_tup4 ?_
  | ((with_reducible refine' we_nought ?h1 ?_); (case h1 => assumption))
  | with_reducible refine wsl_Row ?_
  | with_reducible refine wr_ixW0 ?_
  | with_reducible refine wr_ixW1 ?_
  | with_reducible refine wr_isNW ?_
  | with_reducible refine wr_notNW ?_
  | with_reducible refine wg_tupW ?_
  | with_reducible refine wr_ixw0 ?_
  | with_reducible refine wr_ixw1 ?_
  | with_reducible refine wu_revRow ?_
  | with_reducible refine wg_tupR ?_
  | with_reducible refine wg_tupB ?_
  | with_reducible refine wr_ixB1 ?_
  | with_reducible refine wr_ixB2 ?_
  | with_reducible refine we_un ?_)
--END TAC
end HL
namespace HL
open PySem PySem.Spec PyProof.Rows L2 Evl RZ
/-! # texts: every text is a list of codes -/
abbrev tS (l : List Nat) : PyData := .str (SX.S l)
section
variable {X : Cx}
def rStrI : List V → Hp → VK → Prop := fun xs H Q => ∃ i, xs = [.int i] ∧ i.natAbs.log2 < 1920 ∧ Q (.str (toString i)) H
theorem call_strI : CallR X (.type "str") rStrI := call_str_int
def rLenT : List V → Hp → VK → Prop := fun xs H Q => ∃ z, xs = [.str z] ∧ z.length ≤ sizeLine ∧ Q (.int z.length) H
theorem call_lenT : CallR X (.builtin "len") rLenT := call_len_str
def rIntT : List V → Hp → VK → Prop := fun xs H Q => ∃ a n, xs = [.str a] ∧ PySem.intText? a = some n ∧ a.length ≤ 640 ∧ Q (.int n) H
theorem call_intT : CallR X (.type "int") rIntT := call_int_str
def rInT (neg : Bool) : R2 := fun x y H Q => ∃ (c : Nat) (z : Str), x = .str ⟨#[c]⟩ ∧ y = .str z ∧ Q (.bl (neg != decide (c ∈ z.cps.toList))) H
theorem op_inT : OpR X (compareOp .In) (rInT false) := fun pins s σ H x y v u Q I rx ry ⟨c, z, e1, e2, q⟩ => op_in_sign pins s σ H x y v u Q I rx ry ⟨c, z, e1, e2, by simpa using q⟩
theorem op_niT : OpR X (compareOp .NotIn) (rInT true) := fun pins s σ H x y v u Q I rx ry ⟨c, z, e1, e2, q⟩ => op_notIn_sign pins s σ H x y v u Q I rx ry ⟨c, z, e1, e2, by simpa using q⟩
def rSplit : V → List V → Hp → VK → Prop := fun x xs H Q => ∃ a b, x = .str a ∧ xs = [.str b] ∧ (b.length == 0) = false ∧ a.length + 2 ≤ sizeLine ∧ rNewStrs (Txt.split a b) H Q
def rSplitO : V → List V → Hp → VK → Prop := rSplit
theorem mt_splitT : MtR X "str.split" rSplit := mt_split
def rJoin (K : KF) : V → List V → Hp → VK → Prop := fun x xs H Q => ∃ a p, ∃ ys : List Str, x = .str a ∧ xs = [.ref p] ∧ (SqL K H p (ys.map V.str) ∨ SqT K H p (ys.map V.str)) ∧
    (ys.map (·.length)).sum + ys.length * a.length ≤ 16777216 ∧ Q (.str (Txt.join a ys)) H
theorem mt_joinT : MtR X "str.join" (rJoin X.K) := mt_join
def rIdxT : V → List V → Hp → VK → Prop := fun x xs H Q => ∃ (a b : Str) (k : Nat), x = .str a ∧ xs = [.str b] ∧ Txt.index0 a b = some k ∧ Q (.int (k : Nat)) H
theorem mt_idxT : MtR X "str.index" rIdxT := by
  intro pins s σ H x xs v us Q I rx rs h
  obtain ⟨a, b, k, rfl, rfl, hk, q⟩ := h
  obtain ⟨t, rfl⟩ := rx
  cases rs with
  | cons r1 rs =>
    cases rs
    obtain ⟨u, rfl⟩ := r1
    cases ho : Builtin.Str.occurrences a b 0 a.length 1 with
    | nil =>
      have : (Builtin.Str.occurrences a b 0 a.length 1).head? = some k := hk
      rw [ho] at this
      cases this
    | cons j rest =>
      have : (Builtin.Str.occurrences a b 0 a.length 1).head? = some k := hk
      rw [ho] at this
      cases this
      exact PySem.SC.index ho ⟨.int (k : Nat), H, I.tok _, ⟨_, rfl⟩, q⟩
end
/-- the codes of a written number -/
def intL (i : Int) : List Nat := if i < 0 then 45 :: TL.numL i.natAbs else TL.numL i.natAbs
theorem str_int (i : Int) : (Str.ofString (toString i)) = SX.S (intL i) := by
  unfold intL
  cases i with
  | ofNat n =>
    rw [if_neg (by have := Int.natCast_nonneg n; show ¬ ((n : Int) < 0); omega)]
    exact SX.num_S n
  | negSucc n =>
    rw [if_pos (Int.negSucc_lt_zero n)]
    refine TL.ext_tl ?_
    rw [TL.tl_ofString]
    show _ = 45 :: TL.numL (n + 1)
    have h := TL.tl_num (n + 1)
    rw [TL.tl_ofString] at h
    rw [← h]
    have e1 : toString (Int.negSucc n) = "-" ++ toString ((n + 1 : Nat) : Int) := rfl
    rw [e1, String.toList_append, List.map_append]
    rfl
section
variable {K : KF} {W : WX} {Γ : Gm} {Ω : Om} {R : DV → Om → Prop} {X : Exc → Om → Prop} {to te : TE} {ta : TA} {a b : List Nat} {i : Int}
theorem we_bmS {r : V → List V → Hp → VK → Prop} (h : WE K W to Γ Ω (fun d Ω1 => (∃ z, d = .d (.str z)) ∧ WA K W ta Γ Ω1 (fun ds Ω2 => WM K r d ds Ω2 R) X) X) : WE K W (tBM K "str" r to ta) Γ Ω R X := fun m G H σ Q c s k x =>
  h m G H σ _ c s (fun m1 G1 Ω1 H1 d1 v1 c1 n1 l1 r1 ⟨⟨z, e1⟩, h1⟩ => by
    refine ⟨?_, h1 m1 G1 H1 σ _ c1 (s.mono n1 l1) (fun m2 G2 Ω2 H2 es vs c2 n2 l2 r2 h2 => h2 m2 G2 H2 v1 vs Q c2 (RV.mono n2 l2 r1) r2 (k.on (n1.trans l1 n2) (Nat.le_trans l1 l2))) (x.on n1 l1)⟩
    subst e1
    cases r1
    rfl) x
theorem wc_strI (h : i.natAbs < 2 ^ 1900) (q : R (.d (tS (intL i))) Ω) : WC K rStrI [.d (.int i)] Ω R := fun m G H vs Q c r k => by
  cases r with
  | cons x y =>
    cases y
    cases x
    refine ⟨i, rfl, ?_, ?_⟩
    · by_cases h0 : i.natAbs = 0
      · rw [h0]; decide
      · exact Nat.lt_of_lt_of_le ((Nat.log2_lt h0).mpr h) (by decide)
    · rw [str_int]
      exact k _ _ _ _ (.d (tS (intL i))) _ c (Nxt.refl ..) (Nat.le_refl _) (Dp.str _) q
theorem wc_lenT (h : a.length ≤ 100000) (q : R (.d (.int a.length)) Ω) : WC K rLenT [.d (tS a)] Ω R := fun m G H vs Q c r k => by
  cases r with
  | cons x y =>
    cases y
    cases x
    refine ⟨SX.S a, rfl, by rw [SX.S_len]; exact sz_of h, ?_⟩
    rw [SX.S_len]
    exact k _ _ _ _ (.d (.int a.length)) _ c (Nxt.refl ..) (Nat.le_refl _) (Dp.int _) q
theorem wc_intT {n : Int} (h : PySem.intText? (SX.S a) = some n) (hl : a.length ≤ 640) (q : R (.d (.int n)) Ω) : WC K rIntT [.d (tS a)] Ω R := fun m G H vs Q c r k => by
  cases r with
  | cons x y =>
    cases y
    cases x
    exact ⟨SX.S a, n, rfl, h, by rw [SX.S_len]; exact hl, k _ _ _ _ (.d (.int n)) _ c (Nxt.refl ..) (Nat.le_refl _) (Dp.int _) q⟩
theorem wr_inT {neg : Bool} {c : Nat} (q : R (.d (.bool (neg != decide (c ∈ a)))) Ω) : WR K (rInT neg) (.d (tS [c])) (.d (tS a)) Ω R := fun m G H v w Q cc r1 r2 k => by
  cases r1; cases r2
  exact ⟨c, SX.S a, rfl, rfl, k _ _ _ _ (.d (.bool (neg != decide (c ∈ a)))) _ cc (Nxt.refl ..) (Nat.le_refl _) (Dp.bl _) q⟩
theorem wr_addT' (h : a.length + b.length ≤ 100000) (q : R (.d (tS (a ++ b))) Ω) : WR K (rAddX K) (.d (tS a)) (.d (tS b)) Ω R :=
  wr_addS (by rw [SX.S_len, SX.S_len]; exact h) (by rw [SX.S_cat]; exact q)
theorem wr_ixT' {c : Nat} (h : a.length ≤ 100000) (hi : atI a i = some c) (q : R (.d (tS [c])) Ω) : WR K (rIx K) (.d (tS a)) (.d (.int i)) Ω R :=
  wr_ixS (by rw [SX.S_len]; exact h) hi q
theorem wsl_from (h0 : 0 ≤ i) (h : a.length ≤ 100000) (q : R (.d (tS (a.drop i.toNat))) Ω) : WSl K C8.rSlX (.d (tS a)) (some i) none Ω R := fun m G H v Q c r k => by
  cases r
  refine ⟨SX.S a, rfl, by rw [SX.S_len]; exact sz_of h, ?_⟩
  rw [SX.slice_from h0]
  exact k _ _ _ _ (.d (tS _)) _ c (Nxt.refl ..) (Nat.le_refl _) (Dp.str _) q
theorem wsl_to (h0 : 0 ≤ i) (h : a.length ≤ 100000) (q : R (.d (tS (a.take i.toNat))) Ω) : WSl K C8.rSlX (.d (tS a)) none (some i) Ω R := fun m G H v Q c r k => by
  cases r
  refine ⟨SX.S a, rfl, by rw [SX.S_len]; exact sz_of h, ?_⟩
  rw [SX.slice_to h0]
  exact k _ _ _ _ (.d (tS _)) _ c (Nxt.refl ..) (Nat.le_refl _) (Dp.str _) q
/-- the parts of a text -/
def parts (b a : List Nat) : List (List Nat) := TL.spl b 0 [] a
theorem strs_dp {G : Hp} : ∀ l : List (List Nat), DpAll K G ((l.map SX.S).map V.str) (l.map tS)
  | [] => .nil
  | x :: l => .cons (.str _) (strs_dp l)
theorem strs_rv {m : Mp} {G : Hp} {n : Nat} : ∀ l : List (List Nat), Paired (RV K m G n) ((l.map tS).map DV.d) ((l.map SX.S).map V.str)
  | [] => .nil
  | x :: l => .cons (Dp.str _) (strs_rv l)
theorem wm_split (hb : b ≠ []) (hk : b.all (· < 256) = true) (h : a.length ≤ 90000) (q : R (.d (.list ((parts b a).map tS))) Ω) : WM K rSplit (.d (tS a)) [.d (tS b)] Ω R := fun m G H v vs Q c r1 r2 k => by
  cases r1
  cases r2 with
  | cons r3 r4 =>
    cases r4
    cases r3
    refine ⟨SX.S a, SX.S b, rfl, rfl, ?_, by rw [SX.S_len]; exact sz_of (by omega), fun p hp => ?_⟩
    · rw [SX.S_len]
      cases b with
      | nil => exact absurd rfl hb
      | cons x y => rfl
    · rw [SX.split_S hb hk]
      obtain ⟨c2, n2⟩ := c.frz hp (.lst (((parts b a).map SX.S).map V.str))
      exact k _ _ _ _ (.d (.list ((parts b a).map tS))) _ c2 n2 (Nat.le_refl _) (.lst (sq_of upd_same) (strs_dp _)) q
theorem wm_splitO (hb : b ≠ []) (hk : b.all (· < 256) = true) (h : a.length ≤ 90000) (q : R (.o Ω.length) (Ω ++ [.lst (((parts b a).map tS).map DV.d)])) : WM K rSplitO (.d (tS a)) [.d (tS b)] Ω R := fun m G H v vs Q c r1 r2 k => by
  cases r1
  cases r2 with
  | cons r3 r4 =>
    cases r4
    cases r3
    refine ⟨SX.S a, SX.S b, rfl, rfl, ?_, by rw [SX.S_len]; exact sz_of (by omega), fun p hp => ?_⟩
    · rw [SX.S_len]
      cases b with
      | nil => exact absurd rfl hb
      | cons x y => rfl
    · rw [SX.split_S hb hk]
      obtain ⟨m2, c2, n2, e2⟩ := c.own (x := .lst (((parts b a).map tS).map DV.d)) (o := .lst (((parts b a).map SX.S).map V.str)) hp ⟨_, upd_same, strs_rv _⟩
      exact k _ _ _ _ (.o Ω.length) _ c2 n2 (by simp) ⟨by simp, by rw [e2]⟩ q
theorem dps_strs {G : Hp} : ∀ {l : List (List Nat)} {vs : List V}, DpAll K G vs (l.map tS) → vs = (l.map SX.S).map V.str
  | [], _, .nil => rfl
  | x :: l, _, .cons p r => by cases p; rw [dps_strs r]; rfl
theorem wm_join {l : List (List Nat)} {x : DV} (hx : ls Ω x = some (l.map tS)) (h : (l.map List.length).sum + l.length * a.length ≤ 100000) (q : R (.d (tS (TL.joinL a l))) Ω) : WM K (rJoin K) (.d (tS a)) [x] Ω R := fun m G H v vs Q c r1 r2 k => by
  cases r1
  cases r2 with
  | cons r3 r4 =>
    cases r4
    obtain ⟨p, ws, rfl, hs, rp⟩ := ls_get c r3 hx
    have e := dps_strs rp
    subst e
    refine ⟨SX.S a, p, l.map SX.S, rfl, rfl, hs_h c hs, ?_, ?_⟩
    · have e : (List.map (fun x : List Nat => x.length) l) = l.map List.length := rfl
      rw [SX.lens, SX.S_len, List.length_map, e]
      omega
    · rw [SX.join_S]
      exact k _ _ _ _ (.d (tS _)) _ c (Nxt.refl ..) (Nat.le_refl _) (Dp.str _) q
theorem wm_idxT {n : Nat} (h : Txt.index0 (SX.S a) (SX.S b) = some n) (q : R (.d (.int (n : Nat))) Ω) : WM K rIdxT (.d (tS a)) [.d (tS b)] Ω R := fun m G H v vs Q c r1 r2 k => by
  cases r1
  cases r2 with
  | cons r3 r4 =>
    cases r4
    cases r3
    exact ⟨SX.S a, SX.S b, n, rfl, rfl, h, k _ _ _ _ (.d (.int n)) _ c (Nxt.refl ..) (Nat.le_refl _) (Dp.int _) q⟩
theorem itok_str {m1 : Mp} {G1 : Hp} {n1 : Nat} : ItOk K (Its (SX.S a)) (a.map fun c => .d (tS [c])) (fun _ => True) m1 G1 n1 := fun m' G' Ω' H' c' n' l' st i => by
  have hsz : (SX.S a).cps.size = a.length := by simp [SX.S]
  refine ⟨fun h => ?_, fun y hy => ?_⟩
  · rw [List.length_map] at h
    show (SX.S a).cps.size ≤ i
    rw [hsz]; exact h
  · rw [List.getElem?_map] at hy
    cases hc : a[i]? with
    | none => rw [hc] at hy; cases hy
    | some c0 =>
      rw [hc] at hy
      cases hy
      refine ⟨?_, fun x H'' ⟨e, c1, h1, h2⟩ => ?_⟩
      · show i < (SX.S a).cps.size
        rw [hsz]; exact lt_of_get hc
      · subst e h2
        have : c0 = c1 := by
          have h3 : (SX.S a).cps[i]? = a[i]? := by simp [SX.S]
          rw [h3, hc] at h1
          exact Option.some.inj h1
        subst this
        exact ⟨G', c', Ex.refl _, Dp.str _⟩
theorem wi_str {Rc : List DV → (Om → Prop) → Om → Prop} (h : WE K W te Γ Ω (fun d Ω1 => ∃ a : List Nat, d = .d (tS a) ∧ Rc (a.map fun c => .d (tS [c])) (fun _ => True) Ω1) X) : WI K W (iStr te) Γ Ω Rc X := fun m G H σ R c s x k =>
  h m G H σ _ c s (fun m1 G1 Ω1 H1 d v c1 n1 l1 r1 ⟨a, e, q⟩ => by
    subst e
    cases r1
    exact ⟨SX.S a, rfl, k m1 G1 Ω1 H1 _ _ _ c1 n1 l1 itok_str q⟩) x
end
/-! ### replace: behind a written text a token is out -/
section
variable {X : Cx} {e f : Expr} {es : List Expr} {te tf : TE} {ta : TA}
def PEU (X : Cx) (e : Expr) (t : TE) : Prop :=
  ∀ (pins : List (Addr × Obj)) (s : Shared) (σ : L2.St) (H : Hp) (Q : VK), Inv X pins σ H s → t σ H Q → wpAny (model X.prog X.w) X.A (eval e X.env) (fun u s' => 1 ≤ s'.toks ∧ EP X pins σ Q u s') X.xe s
theorem peu_str {x : Str} {k : Nat} {p : Pos} : PEU X (.Constant (.str x) k p) (tC (.str x)) := fun pins s σ H Q I h =>
  Calls.Constant_str ⟨by show 1 ≤ s.toks + 1; omega, .str x, H, I.tok _, ⟨_, rfl⟩, h⟩
theorem peu_op {op : Operator} {r : R2} {pos : Pos} (ho : OpR X (binaryOp op) r) (ha : PE X e te) (hb : PEU X f tf) : PEU X (.BinOp e op f pos) (tOp r te tf) := by
  intro pins s σ H Q I h
  refine wpAny_BinOp (thn (ha.run pins s σ H _ I h) fun v s1 ⟨x, H1, I1, r1, q1⟩ => ?_)
  refine thn (hb pins s1 σ H1 _ I1 q1) fun u s2 ⟨h1, y, H2, I2, r2, q2⟩ => ?_
  exact wpAny_mono (PySem.wpAny_toks (ho pins s2 σ H2 x y v u Q I2 r1 r2 q2)) (fun z s3 q => ⟨Nat.le_trans h1 q.1, q.2⟩) fun _ _ z => z.2
theorem pa_u (ha : PEU X e te) (hr : PAT X es ta) (hs : starEach (e :: es) X.env = (false, eval e X.env) :: starEach es X.env := by rfl) : PA X (e :: es) (tCons te ta) := by
  refine ⟨fun pos pins s σ H Q I h => ?_⟩
  rw [hs]
  show wpAny _ _ (spliced ((false, eval e X.env) :: backTo pos (starEach es X.env))) _ _ s
  refine Calls.spliced_cons (thn (ha pins s σ H _ I h) fun u s1 ⟨h1, x, H1, I1, r1, q1⟩ => ?_)
  exact thn (hr pos pins s1 σ H1 _ h1 I1 q1) fun us s2 ⟨xs, H2, I2, r2, q2⟩ => ⟨x :: xs, H2, I2, .cons r1 r2, q2⟩
end
def replT (y z l : List Nat) : List Nat := PySem.StrLaws.replL y z l
/-! ### written texts -/
class Lit (s : String) (l : outParam (List Nat)) : Prop where eq : Str.ofString s = SX.S l
instance : Lit "" [] := ⟨by decide +kernel⟩
instance : Lit "-" [45] := ⟨by decide +kernel⟩
instance : Lit "/" [47] := ⟨by decide +kernel⟩
instance : Lit " " [32] := ⟨by decide +kernel⟩
instance : Lit " | " [32, 124, 32] := ⟨by decide +kernel⟩
instance : Lit "0123456789" [48, 49, 50, 51, 52, 53, 54, 55, 56, 57] := ⟨by decide +kernel⟩
instance : Lit "0" [48] := ⟨by decide +kernel⟩
instance : Lit "|" [124] := ⟨by decide +kernel⟩
instance : Lit " ; " [32, 59, 32] := ⟨by decide +kernel⟩
instance : Lit " | -" [32, 124, 32, 45] := ⟨by decide +kernel⟩
instance : Lit "- |" [45, 32, 124] := ⟨by decide +kernel⟩
instance : Lit "| -" [124, 32, 45] := ⟨by decide +kernel⟩
instance : Lit "- | - " [45, 32, 124, 32, 45, 32] := ⟨by decide +kernel⟩
instance : Lit "--" [45, 45] := ⟨by decide +kernel⟩
instance : Lit "1 2 | 1 3" [49, 32, 50, 32, 124, 32, 49, 32, 51] := ⟨by decide +kernel⟩
instance : Lit "2 0 | 1 0" [50, 32, 48, 32, 124, 32, 49, 32, 48] := ⟨by decide +kernel⟩
instance : Lit "1 | -" [49, 32, 124, 32, 45] := ⟨by decide +kernel⟩
instance : Lit "- | 1 2 3" [45, 32, 124, 32, 49, 32, 50, 32, 51] := ⟨by decide +kernel⟩
instance : Lit "- | 1  2" [45, 32, 124, 32, 49, 32, 32, 50] := ⟨by decide +kernel⟩
instance : Lit "1 2 | 01 3" [49, 32, 50, 32, 124, 32, 48, 49, 32, 51] := ⟨by decide +kernel⟩
instance : Lit "x 1 | -" [120, 32, 49, 32, 124, 32, 45] := ⟨by decide +kernel⟩
instance : Lit "- | 2/4 1" [45, 32, 124, 32, 50, 47, 52, 32, 49] := ⟨by decide +kernel⟩
instance : Lit "- | 1 -0" [45, 32, 124, 32, 49, 32, 45, 48] := ⟨by decide +kernel⟩
instance : Lit "\n" [10] := ⟨by decide +kernel⟩
instance : Lit "0 0 | -1/2 0" [48, 32, 48, 32, 124, 32, 45, 49, 47, 50, 32, 48] := ⟨by decide +kernel⟩
instance : Lit "- - | -" [45, 32, 45, 32, 124, 32, 45] := ⟨by decide +kernel⟩
instance : Lit "None | -" [78, 111, 110, 101, 32, 124, 32, 45] := ⟨by decide +kernel⟩
instance : Lit "- | -" [45, 32, 124, 32, 45] := ⟨by decide +kernel⟩
instance : Lit "0123456789-/ ;|+._a\t\n" [48, 49, 50, 51, 52, 53, 54, 55, 56, 57, 45, 47, 32, 59, 124, 43, 46, 95, 97, 9, 10] := ⟨by decide +kernel⟩
section
variable {K : KF} {W : WX} {Γ : Gm} {Ω : Om} {R : DV → Om → Prop} {X : Exc → Om → Prop} {to te : TE} {a b : List Nat}
theorem we_strL {s : String} {l : List Nat} [h : Lit s l] (q : R (.d (tS l)) Ω) : WE K W (tC (.str (Str.ofString s))) Γ Ω R X := we_str (by rw [h.eq]; exact q)
theorem eqvI_tS : EqvI tS := fun x y => by
  show (SX.S x == SX.S y) = _
  exact SX.S_beq_eq
/-- all signs are signs -/
def okT (l : List Nat) : Bool := l.all fun c => decide (c < 1114112)
theorem okT_iff {l : List Nat} : okT l = true ↔ ∀ c ∈ l, c < 1114112 := by
  unfold okT
  rw [List.all_eq_true]
  exact ⟨fun h c hc => of_decide_eq_true (h c hc), fun h c hc => decide_eq_true (h c hc)⟩
theorem shp_tS {n : Nat} {x : List Nat} (h : okT x = true) : Shp n (tS x) := by
  refine ⟨?_, Nat.zero_le _⟩
  show (SX.S x).cps.all (· < 0x110000) = true
  rw [← Array.all_toList]
  exact h
theorem wr_eqT (ha : okT a = true) (hb : okT b = true) (q : R (.d (.bool (decide (a = b)))) Ω) : WR K (rEqD K) (.d (tS a)) (.d (tS b)) Ω R :=
  wr_eq rfl rfl (shaped_of (shp_tS ha)) (shaped_of (shp_tS hb)) (by rw [eqvI_tS]; exact q)
theorem wr_neT (ha : okT a = true) (hb : okT b = true) (q : R (.d (.bool (!decide (a = b)))) Ω) : WR K (rNeD K) (.d (tS a)) (.d (tS b)) Ω R :=
  wr_ne rfl rfl (shaped_of (shp_tS ha)) (shaped_of (shp_tS hb)) (by rw [eqvI_tS]; exact q)
end
/-! ### numbers in texts -/
def figs (l : List Nat) : Bool := decide (1 ≤ l.length) && decide (l.length ≤ 300) && (l.all (fun c => decide (48 ≤ c) && decide (c ≤ 57)) && (decide (l = [48]) || decide (l.head? ≠ some 48)))
def valT (l : List Nat) : Option Nat := if figs l then some (NumText.digitsVal l) else none
structure Figs (l : List Nat) : Prop where
  one : 1 ≤ l.length
  le : l.length ≤ 300
  dig : NumText.AllDigits l
  hd : l = [48] ∨ l.head? ≠ some 48
theorem figs_iff {l : List Nat} : figs l = true ↔ Figs l := by
  unfold figs
  rw [Bool.and_eq_true, Bool.and_eq_true, Bool.and_eq_true, Bool.or_eq_true]
  constructor
  · rintro ⟨⟨h1, h2⟩, h3, h4⟩
    refine ⟨of_decide_eq_true h1, of_decide_eq_true h2, fun c hc => ?_, ?_⟩
    · have := List.all_eq_true.mp h3 c hc
      rw [Bool.and_eq_true] at this
      exact ⟨of_decide_eq_true this.1, of_decide_eq_true this.2⟩
    · rcases h4 with h | h
      · exact .inl (of_decide_eq_true h)
      · exact .inr (of_decide_eq_true h)
  · intro h
    refine ⟨⟨decide_eq_true h.one, decide_eq_true h.le⟩, List.all_eq_true.mpr fun c hc => ?_, ?_⟩
    · rw [Bool.and_eq_true]
      exact ⟨decide_eq_true (h.dig c hc).1, decide_eq_true (h.dig c hc).2⟩
    · rcases h.hd with h | h
      · exact .inl (decide_eq_true h)
      · exact .inr (decide_eq_true h)
theorem map_back : ∀ {l : List Nat}, NumText.AllDigits l → (l.map Char.ofNat).map Char.toNat = l
  | [], _ => rfl
  | c :: r, h => by
    have hc := h.head
    rw [List.map_cons, List.map_cons, map_back h.tail]
    have : ∀ c, 48 ≤ c → c ≤ 57 → (Char.ofNat c).toNat = c := by
      intro c h1 h2
      have : ∀ d, d < 10 → (Char.ofNat (48 + d)).toNat = 48 + d := by decide
      have := this (c - 48) (by omega)
      rw [show 48 + (c - 48) = c by omega] at this
      exact this
    rw [this c hc.1 hc.2]
theorem num_back {l : List Nat} (h : Figs l) : TL.numL (NumText.digitsVal l) = l := by
  unfold TL.numL
  obtain ⟨n, hn⟩ : ∃ n, l.length = n + 1 := ⟨l.length - 1, by have := h.one; omega⟩
  rw [NumText.toDigits_digitsVal n l hn h.dig ?_, map_back h.dig]
  cases l with
  | nil => cases hn
  | cons c r =>
    rcases h.hd with e | e
    · left
      rw [e] at hn
      simp at hn
      omega
    · right
      refine ⟨c, r, rfl, ?_⟩
      have := h.dig.head
      have : c ≠ 48 := fun z => e (by rw [z]; rfl)
      omega
theorem numL_head {n : Nat} (h : 0 < n) : (TL.numL n).head? ≠ some 48 := by
  induction n using Nat.strongRecOn with
  | _ n ih =>
    by_cases hn : n < 10
    · rw [TL.numL_lt hn]
      intro z
      have : 48 + n = 48 := Option.some.inj z
      omega
    · rw [TL.numL_step (by omega), List.head?_append]
      have h1 := ih (n / 10) (by omega) (by omega)
      cases hl : TL.numL (n / 10) with
      | nil => exact absurd hl (TL.numL_ne _)
      | cons c r => rw [hl] at h1; exact h1
theorem figs_num {n : Nat} (h : n < 10 ^ 300) : Figs (TL.numL n) := by
  refine ⟨?_, TL.numL_len (by decide) h, TL.numL_digits n, ?_⟩
  · have := TL.numL_ne n
    cases hl : TL.numL n with
    | nil => exact absurd hl this
    | cons c r => simp
  · rcases Nat.eq_zero_or_pos n with h | h
    · left; subst h; exact TL.numL_lt (by decide)
    · right; exact numL_head h
theorem dv_lt : ∀ (l : List Nat) (a : Nat), NumText.AllDigits l → l.foldl (fun acc c => acc * 10 + (c - 48)) a < (a + 1) * 10 ^ l.length
  | [], a, _ => by simp
  | c :: r, a, h => by
    have hc := h.head
    have := dv_lt r (a * 10 + (c - 48)) h.tail
    rw [List.foldl_cons, List.length_cons, Nat.pow_succ]
    refine Nat.lt_of_lt_of_le this ?_
    have h2 : (a * 10 + (c - 48) + 1) * 10 ^ r.length ≤ ((a + 1) * 10) * 10 ^ r.length := Nat.mul_le_mul_right _ (by omega)
    rw [Nat.mul_comm (10 ^ r.length) 10, ← Nat.mul_assoc]
    exact h2
theorem val_lt {l : List Nat} (h : Figs l) : NumText.digitsVal l < 10 ^ 300 := by
  have := dv_lt l 0 h.dig
  rw [Nat.zero_add, Nat.one_mul] at this
  exact Nat.lt_of_lt_of_le this (Nat.pow_le_pow_right (by decide) h.le)
theorem valT_num {n : Nat} (h : n < 10 ^ 300) : valT (TL.numL n) = some n := by
  unfold valT
  rw [if_pos (figs_iff.mpr (figs_num h)), TL.numL_val]
theorem valT_some {l : List Nat} {n : Nat} (h : valT l = some n) : Figs l ∧ TL.numL n = l ∧ n < 10 ^ 300 := by
  unfold valT at h
  by_cases hf : figs l = true
  · rw [if_pos hf] at h
    cases h
    have := figs_iff.mp hf
    exact ⟨this, num_back this, val_lt this⟩
  · rw [if_neg hf] at h; cases h
abbrev figL : List Nat := [48, 49, 50, 51, 52, 53, 54, 55, 56, 57]
theorem fig_at : ∀ d : Nat, d < 10 → atI figL ((d : Nat) : Int) = some (48 + d) := by decide
theorem fig_idx : ∀ d : Nat, d < 10 → Txt.index0 (SX.S figL) (SX.S [48 + d]) = some d := by decide +kernel
theorem mem_fig {c : Nat} : c ∈ figL ↔ 48 ≤ c ∧ c ≤ 57 := by simp; omega
/-! ### parts at one sign -/
theorem pre_one {s c : Nat} {r : List Nat} : TL.pre [s] (c :: r) = decide (c = s) := by
  show ([c] == [s]) = _
  by_cases h : c = s
  · subst h; simp
  · rw [decide_eq_false h]
    exact beq_eq_false_iff_ne.mpr fun z => h (List.cons.inj z).1
theorem spl_one (s : Nat) : ∀ (l acc : List Nat), s ∉ acc → TL.joinL [s] (TL.spl [s] 0 acc l) = acc ++ l ∧ TL.spl [s] 0 acc l ≠ [] ∧ ∀ p ∈ TL.spl [s] 0 acc l, s ∉ p
  | [], acc, h => by
    rw [TL.spl_nil]
    exact ⟨by rw [List.append_nil]; rfl, by simp, fun p hp => by rw [List.mem_singleton.mp hp]; exact h⟩
  | c :: r, acc, h => by
    by_cases hc : c = s
    · subst hc
      rw [TL.spl_hit (by rw [pre_one]; simp)]
      obtain ⟨h1, h2, h3⟩ := spl_one c r [] (by simp)
      show TL.joinL [c] (acc :: TL.spl [c] 0 [] r) = _ ∧ acc :: TL.spl [c] 0 [] r ≠ [] ∧ ∀ p ∈ acc :: TL.spl [c] 0 [] r, c ∉ p
      refine ⟨?_, by simp, fun p hp => ?_⟩
      · rw [List.nil_append] at h1
        cases hs : TL.spl [c] 0 [] r with
        | nil => exact absurd hs h2
        | cons p q =>
          rw [hs] at h1
          show acc ++ ([c] ++ TL.joinL [c] (p :: q)) = _
          rw [h1]; rfl
      · rcases List.mem_cons.mp hp with e | e
        · rw [e]; exact h
        · exact h3 p e
    · rw [TL.spl_miss (by rw [pre_one]; exact decide_eq_false hc)]
      obtain ⟨h1, h2, h3⟩ := spl_one s r (acc ++ [c]) (by simp; exact ⟨h, fun z => hc z.symm⟩)
      exact ⟨by rw [h1, List.append_assoc]; rfl, h2, h3⟩
theorem parts_join (s : Nat) (l : List Nat) : TL.joinL [s] (parts [s] l) = l := (spl_one s l [] (by simp)).1
theorem parts_ne (s : Nat) (l : List Nat) : parts [s] l ≠ [] := (spl_one s l [] (by simp)).2.1
theorem parts_free {s : Nat} {l p : List Nat} (h : p ∈ parts [s] l) : s ∉ p := (spl_one s l [] (by simp)).2.2 p h
theorem parts_none {s : Nat} {l : List Nat} (h : s ∉ l) : parts [s] l = [l] := by
  have := SX.spl_join (c := s) (sep := []) (parts := [l]) (by simp) (fun p hp => by rw [List.mem_singleton.mp hp]; exact h)
  exact this
theorem parts_two {s : Nat} {p q : List Nat} (h : s ∉ p) (h2 : s ∉ q) : parts [s] (p ++ s :: q) = [p, q] := by
  have := SX.spl_join (c := s) (sep := []) (parts := [p, q]) (by simp) (fun x hx => by
    rcases List.mem_cons.mp hx with e | e
    · rw [e]; exact h
    · rw [List.mem_singleton.mp e]; exact h2)
  exact this
/-! ### ratios in texts -/
def ratT (q : Rat) : List Nat := if q.den = 1 then intL q.num else intL q.num ++ 47 :: TL.numL q.den
def dashB (p : List Nat) : Bool := decide (p.take 1 = [45])
def undash (p : List Nat) : List Nat := if dashB p then p.drop 1 else p
def sgnT (p : List Nat) : Int := if dashB p then -1 else 1
def readT (l : List Nat) : Option Rat :=
  match parts [47] l with
  | [p] => (valT (undash p)).bind fun t => if dashB p = true ∧ t = 0 then none else some (Rat.divInt (sgnT p * t) 1)
  | [p, b] => (valT (undash p)).bind fun t => (valT b).bind fun b => if (dashB p = true ∧ t = 0) ∨ b < 2 ∨ Nat.gcd t b ≠ 1 then none else some (Rat.divInt (sgnT p * t) b)
  | _ => none
/-- as it is read: the ratio is written again -/
def progT (l : List Nat) : Option Rat :=
  match parts [47] l with
  | p :: r => (valT (undash p)).bind fun t => (match r with | [b] => valT b | _ => some 1).bind fun b => if (b ≠ 0 ∧ Nat.gcd t b = 1) ∧ ratT (Rat.divInt (sgnT p * t) b) = l then some (Rat.divInt (sgnT p * t) b) else none
  | [] => none
theorem gcd_sgn (p : List Nat) (t : Nat) : (sgnT p * (t : Int)).natAbs = t := by
  unfold sgnT
  split <;> omega
theorem low_nd {p : List Nat} {t b : Nat} (hb : b ≠ 0) (hg : Nat.gcd t b = 1) : (Rat.divInt (sgnT p * t) b).num = sgnT p * t ∧ (Rat.divInt (sgnT p * t) b).den = b := by
  have hb' : (0 : Int) < (b : Int) := by omega
  constructor
  · rw [Rat.num_divInt, gcd_sgn p t |> fun h => show Int.gcd (b : Int) (sgnT p * t) = 1 by unfold Int.gcd; rw [h]; show Nat.gcd b t = 1; rw [Nat.gcd_comm]; exact hg]
    rw [Int.sign_eq_one_of_pos hb']; simp
  · rw [Rat.den_divInt]
    have : Int.gcd (b : Int) (sgnT p * t) = 1 := by unfold Int.gcd; rw [gcd_sgn]; show Nat.gcd b t = 1; rw [Nat.gcd_comm]; exact hg
    rw [this, if_neg (by omega)]
    simp
theorem intL_free {i : Int} {c : Nat} (h : c ≠ 45) (h2 : c < 48 ∨ 57 < c) : c ∉ intL i := by
  unfold intL
  split
  · intro z
    rcases List.mem_cons.mp z with e | e
    · exact h e
    · exact TL.numL_free h2 e
  · exact TL.numL_free h2
theorem intL_sgn {p : List Nat} {t : Nat} (h : TL.numL t = undash p) (h0 : ¬ (dashB p = true ∧ t = 0)) : intL (sgnT p * t) = p := by
  unfold sgnT
  by_cases hd : dashB p = true
  · rw [if_pos hd]
    have ht : t ≠ 0 := fun z => h0 ⟨hd, z⟩
    unfold undash at h
    rw [if_pos hd] at h
    unfold intL
    rw [if_pos (by omega), show (-1 * (t : Int)).natAbs = t by omega, h]
    have hd := of_decide_eq_true hd
    cases p with
    | nil => cases hd
    | cons c r =>
      have : c = 45 := by
        have : [c] = [45] := hd
        exact (List.cons.inj this).1
      rw [this]; rfl
  · rw [if_neg hd]
    unfold undash at h
    rw [if_neg hd] at h
    unfold intL
    rw [if_neg (by omega), show (1 * (t : Int)).natAbs = t by omega, h]
theorem intL_dash0 {p : List Nat} (hd : dashB p = true) : intL (sgnT p * ((0 : Nat) : Int)) ≠ p := by
  have e : intL (sgnT p * ((0 : Nat) : Int)) = [48] := by
    rw [show sgnT p * ((0 : Nat) : Int) = 0 by simp]
    exact TL.numL_lt (by decide)
  rw [e]
  intro z
  rw [← z] at hd
  exact absurd hd (by decide)
theorem progT_eq (l : List Nat) : progT l = readT l := by
  have hj := parts_join 47 l
  have hf : ∀ p ∈ parts [47] l, 47 ∉ p := fun p hp => parts_free hp
  unfold progT readT
  match hp : parts [47] l with
  | [] => rfl
  | [p] =>
    rw [hp] at hj
    have hj : p = l := hj
    show ((valT (undash p)).bind fun t => (some 1).bind fun b => if (b ≠ 0 ∧ Nat.gcd t b = 1) ∧ ratT (Rat.divInt (sgnT p * t) b) = l then some (Rat.divInt (sgnT p * t) b) else none) = (valT (undash p)).bind fun t => if dashB p = true ∧ t = 0 then none else some (Rat.divInt (sgnT p * t) 1)
    cases hv : valT (undash p) with
    | none => rfl
    | some t =>
      obtain ⟨hf1, hn, hlt⟩ := valT_some hv
      show (if (1 ≠ 0 ∧ Nat.gcd t 1 = 1) ∧ ratT (Rat.divInt (sgnT p * t) ((1 : Nat) : Int)) = l then some (Rat.divInt (sgnT p * t) ((1 : Nat) : Int)) else none) = if dashB p = true ∧ t = 0 then none else some (Rat.divInt (sgnT p * t) 1)
      obtain ⟨e1, e2⟩ := low_nd (p := p) (t := t) (b := 1) (by decide) (by simp)
      have er : ratT (Rat.divInt (sgnT p * t) ((1 : Nat) : Int)) = intL (sgnT p * t) := by unfold ratT; rw [if_pos e2, e1]
      rw [er]
      by_cases h0 : dashB p = true ∧ t = 0
      · rw [if_pos h0, if_neg]
        rintro ⟨-, z⟩
        rw [h0.2, ← hj] at z
        exact intL_dash0 h0.1 z
      · rw [if_neg h0, if_pos ⟨⟨by decide, by simp⟩, (intL_sgn hn h0).trans hj⟩]; rfl
  | [p, b'] =>
    rw [hp] at hj hf
    have hj : p ++ ([47] ++ b') = l := hj
    show ((valT (undash p)).bind fun t => (valT b').bind fun b => if (b ≠ 0 ∧ Nat.gcd t b = 1) ∧ ratT (Rat.divInt (sgnT p * t) b) = l then some (Rat.divInt (sgnT p * t) b) else none) = (valT (undash p)).bind fun t => (valT b').bind fun b => if (dashB p = true ∧ t = 0) ∨ b < 2 ∨ Nat.gcd t b ≠ 1 then none else some (Rat.divInt (sgnT p * t) b)
    cases hv : valT (undash p) with
    | none => rfl
    | some t =>
      obtain ⟨hf1, hn, hlt⟩ := valT_some hv
      cases hw : valT b' with
      | none => rfl
      | some b =>
        obtain ⟨hf2, hn2, hlt2⟩ := valT_some hw
        show (if (b ≠ 0 ∧ Nat.gcd t b = 1) ∧ ratT (Rat.divInt (sgnT p * t) b) = l then some (Rat.divInt (sgnT p * t) b) else none) = if (dashB p = true ∧ t = 0) ∨ b < 2 ∨ Nat.gcd t b ≠ 1 then none else some (Rat.divInt (sgnT p * t) b)
        by_cases hb0 : b = 0
        · rw [if_neg (fun z => z.1.1 hb0), if_pos (.inr (.inl (by omega)))]
        by_cases hg : Nat.gcd t b = 1
        case neg => rw [if_neg (fun z => hg z.1.2), if_pos (.inr (.inr hg))]
        obtain ⟨e1, e2⟩ := low_nd (p := p) hb0 hg
        by_cases hb1 : b = 1
        · rw [if_neg, if_pos (.inr (.inl (by omega)))]
          rintro ⟨-, z⟩
          have er : ratT (Rat.divInt (sgnT p * t) b) = intL (sgnT p * t) := by unfold ratT; rw [e2, if_pos hb1, e1]
          rw [er] at z
          have : 47 ∈ l := by rw [← hj]; simp
          rw [← z] at this
          exact intL_free (by decide) (by decide) this
        have ht : t ≠ 0 := fun z => by rw [z, Nat.gcd_zero_left] at hg; exact hb1 hg
        have er : ratT (Rat.divInt (sgnT p * t) b) = intL (sgnT p * t) ++ 47 :: TL.numL b := by unfold ratT; rw [e2, if_neg hb1, e1]
        have hl : ratT (Rat.divInt (sgnT p * t) b) = l := by
          rw [er, intL_sgn hn (fun z => ht z.2), hn2]
          exact hj
        rw [if_pos ⟨⟨hb0, hg⟩, hl⟩, if_neg]
        rintro (z | z | z)
        · exact ht z.2
        · omega
        · exact z hg
  | p :: b1 :: b2 :: r =>
    rw [hp] at hj
    show ((valT (undash p)).bind fun t => (some 1).bind fun b => if (b ≠ 0 ∧ Nat.gcd t b = 1) ∧ ratT (Rat.divInt (sgnT p * t) b) = l then some (Rat.divInt (sgnT p * t) b) else none) = none
    cases hv : valT (undash p) with
    | none => rfl
    | some t =>
      show (if (1 ≠ 0 ∧ Nat.gcd t 1 = 1) ∧ ratT (Rat.divInt (sgnT p * t) ((1 : Nat) : Int)) = l then some (Rat.divInt (sgnT p * t) ((1 : Nat) : Int)) else none) = none
      rw [if_neg]
      rintro ⟨-, z⟩
      obtain ⟨e1, e2⟩ := low_nd (p := p) (t := t) (b := 1) (by decide) (by simp)
      have er : ratT (Rat.divInt (sgnT p * t) ((1 : Nat) : Int)) = intL (sgnT p * t) := by unfold ratT; rw [if_pos e2, e1]
      rw [er] at z
      have : 47 ∈ l := by rw [← hj]; show 47 ∈ p ++ ([47] ++ _); simp
      rw [← z] at this
      exact intL_free (by decide) (by decide) this
/-! ### written and read -/
def R300 (q : Rat) : Prop := q.num.natAbs < 10 ^ 300 ∧ q.den < 10 ^ 300
theorem rat_read' {l : List Nat} {q : Rat} (h : readT l = some q) : ratT q = l ∧ R300 q := by
  rw [← progT_eq] at h
  unfold progT at h
  match hp : parts [47] l with
  | [] => rw [hp] at h; cases h
  | p :: r =>
    rw [hp] at h
    have h : ((valT (undash p)).bind fun t => (match r with | [b] => valT b | _ => some 1).bind fun b => if (b ≠ 0 ∧ Nat.gcd t b = 1) ∧ ratT (Rat.divInt (sgnT p * t) b) = l then some (Rat.divInt (sgnT p * t) b) else none) = some q := h
    cases hv : valT (undash p) with
    | none => rw [hv] at h; cases h
    | some t =>
      rw [hv] at h
      cases hw : (match r with | [b] => valT b | _ => some 1) with
      | none =>
        have h : ((match r with | [b] => valT b | _ => some 1).bind fun b => if (b ≠ 0 ∧ Nat.gcd t b = 1) ∧ ratT (Rat.divInt (sgnT p * t) b) = l then some (Rat.divInt (sgnT p * t) b) else none) = some q := h
        rw [hw] at h; cases h
      | some b =>
        have h : ((match r with | [b] => valT b | _ => some 1).bind fun b => if (b ≠ 0 ∧ Nat.gcd t b = 1) ∧ ratT (Rat.divInt (sgnT p * t) b) = l then some (Rat.divInt (sgnT p * t) b) else none) = some q := h
        rw [hw] at h
        have h : (if (b ≠ 0 ∧ Nat.gcd t b = 1) ∧ ratT (Rat.divInt (sgnT p * t) b) = l then some (Rat.divInt (sgnT p * t) b) else none) = some q := h
        split at h
        · rename_i hc
          cases h
          refine ⟨hc.2, ?_⟩
          obtain ⟨e1, e2⟩ := low_nd (p := p) hc.1.1 hc.1.2
          refine ⟨by rw [e1, gcd_sgn]; exact (valT_some hv).2.2, ?_⟩
          rw [e2]
          revert hw
          match r with
          | [] => intro hw; cases hw; exact Nat.one_lt_pow (by decide) (by decide)
          | [b'] => intro hw; exact (valT_some hw).2.2
          | _ :: _ :: _ => intro hw; cases hw; exact Nat.one_lt_pow (by decide) (by decide)
        · cases h
theorem rat_read {l : List Nat} {q : Rat} (h : readT l = some q) : ratT q = l := (rat_read' h).1
theorem dash_num (n : Nat) : dashB (TL.numL n) = false := by
  unfold dashB
  refine decide_eq_false fun z => ?_
  cases hl : TL.numL n with
  | nil => exact TL.numL_ne n hl
  | cons c r =>
    rw [hl] at z
    have : c = 45 := (List.cons.inj z).1
    have h2 := TL.numL_digits n c (by rw [hl]; simp)
    omega
theorem dash_intL (i : Int) : dashB (intL i) = decide (i < 0) := by
  unfold intL
  by_cases h : i < 0
  · rw [if_pos h, decide_eq_true h]; rfl
  · rw [if_neg h, decide_eq_false h, dash_num]
theorem undash_intL (i : Int) : undash (intL i) = TL.numL i.natAbs := by
  unfold undash
  rw [dash_intL]
  unfold intL
  by_cases h : i < 0
  · rw [if_pos (decide_eq_true h), if_pos h]; rfl
  · rw [if_neg (by rw [decide_eq_false h]; decide), if_neg h]
theorem sgn_intL (i : Int) : sgnT (intL i) * (i.natAbs : Int) = i := by
  unfold sgnT
  rw [dash_intL]
  by_cases h : i < 0
  · rw [if_pos (decide_eq_true h)]; omega
  · rw [if_neg (by rw [decide_eq_false h]; decide)]; omega
theorem zero_intL (i : Int) : ¬ (dashB (intL i) = true ∧ i.natAbs = 0) := by
  rw [dash_intL]
  rintro ⟨h, h2⟩
  have := of_decide_eq_true h
  omega
theorem read_rat {q : Rat} (h1 : q.num.natAbs < 10 ^ 300) (h2 : q.den < 10 ^ 300) : readT (ratT q) = some q := by
  have hd : q.den ≠ 0 := q.den_nz
  unfold readT ratT
  by_cases h : q.den = 1
  · rw [if_pos h, parts_none (intL_free (by decide) (by decide))]
    show ((valT (undash (intL q.num))).bind fun t => if dashB (intL q.num) = true ∧ t = 0 then none else some (Rat.divInt (sgnT (intL q.num) * t) 1)) = _
    rw [undash_intL, valT_num h1]
    show (if dashB (intL q.num) = true ∧ q.num.natAbs = 0 then none else some (Rat.divInt (sgnT (intL q.num) * (q.num.natAbs : Int)) 1)) = _
    rw [if_neg (zero_intL _), sgn_intL]
    have := Rat.num_divInt_den q
    rw [h] at this
    exact congrArg some this
  · rw [if_neg h, parts_two (intL_free (by decide) (by decide)) (TL.numL_free (by decide))]
    show ((valT (undash (intL q.num))).bind fun t => (valT (TL.numL q.den)).bind fun b => if (dashB (intL q.num) = true ∧ t = 0) ∨ b < 2 ∨ Nat.gcd t b ≠ 1 then none else some (Rat.divInt (sgnT (intL q.num) * t) b)) = _
    rw [undash_intL, valT_num h1, valT_num h2]
    show (if (dashB (intL q.num) = true ∧ q.num.natAbs = 0) ∨ q.den < 2 ∨ Nat.gcd q.num.natAbs q.den ≠ 1 then none else some (Rat.divInt (sgnT (intL q.num) * (q.num.natAbs : Int)) q.den)) = _
    rw [if_neg, sgn_intL, Rat.num_divInt_den]
    rintro (z | z | z)
    · exact zero_intL _ z
    · omega
    · exact z q.reduced
def RatC (c : Nat) : Prop := c = 45 ∨ c = 47 ∨ (48 ≤ c ∧ c ≤ 57)
theorem intL_c {i : Int} {c : Nat} (h : c ∈ intL i) : RatC c := by
  unfold intL at h
  split at h
  · rcases List.mem_cons.mp h with e | e
    · exact .inl e
    · exact .inr (.inr (TL.numL_digits _ c e))
  · exact .inr (.inr (TL.numL_digits _ c h))
theorem ratT_c {q : Rat} {c : Nat} (h : c ∈ ratT q) : RatC c := by
  unfold ratT at h
  split at h
  · exact intL_c h
  · rcases List.mem_append.mp h with e | e
    · exact intL_c e
    · rcases List.mem_cons.mp e with e | e
      · exact .inr (.inl e)
      · exact .inr (.inr (TL.numL_digits _ c e))
theorem intL_ne (i : Int) : intL i ≠ [] := by
  unfold intL
  split
  · simp
  · exact TL.numL_ne _
theorem ratT_ne (q : Rat) : ratT q ≠ [] := by
  unfold ratT
  split
  · exact intL_ne _
  · simp
theorem intL_len {i : Int} {k : Nat} (hk : 0 < k) (h : i.natAbs < 10 ^ k) : (intL i).length ≤ k + 1 := by
  unfold intL
  have := TL.numL_len hk h
  split
  · rw [List.length_cons]; omega
  · omega
theorem ratT_len {q : Rat} {k : Nat} (hk : 0 < k) (h : q.num.natAbs < 10 ^ k) (h2 : q.den < 10 ^ k) : (ratT q).length ≤ 2 * k + 2 := by
  unfold ratT
  have h1 := intL_len hk h
  have h3 := TL.numL_len hk h2
  split
  · omega
  · rw [List.length_append, List.length_cons]; omega
/-! ### parts at a longer sign -/
theorem spl_joinS {S : List Nat} (hS : S ≠ []) : ∀ (l : List Nat) (k : Nat) (acc : List Nat), TL.joinL S (TL.spl S k acc l) = acc ++ l.drop k ∧ TL.spl S k acc l ≠ []
  | [], k, acc => by
    rw [TL.spl_nil]
    exact ⟨by rw [List.drop_nil, List.append_nil]; rfl, by simp⟩
  | c :: r, 0, acc => by
    by_cases hp : TL.pre S (c :: r) = true
    · rw [TL.spl_hit hp]
      obtain ⟨h1, h2⟩ := spl_joinS hS r (S.length - 1) []
      refine ⟨?_, by simp⟩
      cases hs : TL.spl S (S.length - 1) [] r with
      | nil => exact absurd hs h2
      | cons p q =>
        rw [hs] at h1
        show acc ++ (S ++ TL.joinL S (p :: q)) = _
        rw [h1, List.nil_append, List.drop_zero]
        have hl : 1 ≤ S.length := by cases S with | nil => exact absurd rfl hS | cons a b => simp
        have e1 : r.drop (S.length - 1) = (c :: r).drop S.length := by
          obtain ⟨n, hn⟩ : ∃ n, S.length = n + 1 := ⟨S.length - 1, by omega⟩
          rw [hn]; rfl
        have e2 : S = (c :: r).take S.length := (eq_of_beq hp).symm
        rw [e1]
        congr 1
        calc S ++ (c :: r).drop S.length = (c :: r).take S.length ++ (c :: r).drop S.length := by rw [← e2]
          _ = c :: r := List.take_append_drop _ _
    · rw [TL.spl_miss (by simpa using hp)]
      obtain ⟨h1, h2⟩ := spl_joinS hS r 0 (acc ++ [c])
      exact ⟨by rw [h1, List.append_assoc]; rfl, h2⟩
  | c :: r, k + 1, acc => by
    show TL.joinL S (TL.spl S k acc r) = acc ++ r.drop k ∧ TL.spl S k acc r ≠ []
    exact spl_joinS hS r k acc
theorem parts_joinS {S l : List Nat} (hS : S ≠ []) : TL.joinL S (parts S l) = l := (spl_joinS hS l 0 []).1
abbrev bar : List Nat := [32, 124, 32]
theorem joinL_sub {S : List Nat} : ∀ {ps : List (List Nat)} {x : List Nat}, x ∈ ps → x.length ≤ (TL.joinL S ps).length ∧ ∀ c ∈ x, c ∈ TL.joinL S ps
  | [p], x, h => by
    rw [List.mem_singleton.mp h]
    exact ⟨Nat.le_refl _, fun c hc => hc⟩
  | p :: q :: r, x, h => by
    show x.length ≤ (p ++ (S ++ TL.joinL S (q :: r))).length ∧ ∀ c ∈ x, c ∈ p ++ (S ++ TL.joinL S (q :: r))
    rcases List.mem_cons.mp h with e | e
    · rw [e]
      exact ⟨by rw [List.length_append]; omega, fun c hc => List.mem_append_left _ hc⟩
    · obtain ⟨h1, h2⟩ := joinL_sub (S := S) e
      exact ⟨by rw [List.length_append, List.length_append]; omega, fun c hc => List.mem_append_right _ (List.mem_append_right _ (h2 c hc))⟩
theorem parts_sub {S l x : List Nat} (hS : S ≠ []) (h : x ∈ parts S l) : x.length ≤ l.length ∧ ∀ c ∈ x, c ∈ l := by
  have := joinL_sub (S := S) h
  rw [parts_joinS hS] at this
  exact this
theorem parts_ok {S l x : List Nat} (hS : S ≠ []) (h : x ∈ parts S l) (ho : okT l = true) : okT x = true := okT_iff.mpr fun c hc => okT_iff.mp ho c ((parts_sub hS h).2 c hc)
theorem joinL_len {S : List Nat} (hS : S ≠ []) : ∀ ps : List (List Nat), ps.length ≤ (TL.joinL S ps).length + 1
  | [] => by simp
  | [p] => by simp
  | p :: q :: r => by
    show (p :: q :: r).length ≤ (p ++ (S ++ TL.joinL S (q :: r))).length + 1
    have := joinL_len hS (q :: r)
    have hl : 1 ≤ S.length := by cases S with | nil => exact absurd rfl hS | cons a b => simp
    rw [List.length_append, List.length_append, List.length_cons]
    omega
theorem parts_len {S l : List Nat} (hS : S ≠ []) : (parts S l).length ≤ l.length + 1 := by
  have := joinL_len hS (parts S l)
  rw [parts_joinS hS] at this
  exact this
theorem undash_sub {p : List Nat} : (undash p).length ≤ p.length ∧ ∀ c ∈ undash p, c ∈ p := by
  unfold undash
  split
  · exact ⟨by rw [List.length_drop]; omega, fun c hc => List.mem_of_mem_drop hc⟩
  · exact ⟨Nat.le_refl _, fun c hc => hc⟩
/-! ### walls in texts -/
def two {α : Type} (l : List (List Nat)) (f : List Nat → List Nat → Option α) : Option α :=
  match l with
  | [p, s] => f p s
  | _ => none
def wallT (l : List Nat) : Option Wl := if l = [45] then some none else two (parts [32] l) fun p s => (readT p).bind fun p => (readT s).map fun s => some (p, s)
def wallL : Wl → List Nat
  | none => [45]
  | some (p, s) => ratT p ++ 32 :: ratT s
def wallsT (l : List Nat) : Option (Wl × Wl) := two (parts bar l) fun a c => (wallT a).bind fun a => (wallT c).bind fun c => if apart a c = true then some (a, c) else none
def wallsL (a c : Wl) : List Nat := wallL a ++ (bar ++ wallL c)
def W300 (w : Wl) : Prop := ∀ p s, w = some (p, s) → R300 p ∧ R300 s
theorem ratT_free {q : Rat} {c : Nat} (h : ¬ RatC c) : c ∉ ratT q := fun z => h (ratT_c z)
theorem r300_sz {q : Rat} (h : R300 q) : Sz 1000 q := ⟨Nat.lt_of_lt_of_le h.1 (by decide), Nat.lt_of_lt_of_le h.2 (by decide)⟩
def botT (r : List (List Nat)) : Option Nat :=
  match r with
  | [b] => valT b
  | _ => some 1
def dX : Option Rat → PyData
  | none => .none
  | some x => dR x
def dWO : Option (Wl × Wl) → PyData
  | none => .none
  | some x => dWs x.1 x.2
/-! what the texts of walls look like -/
theorem ixN_zero {n : Nat} (h : 0 < n) : ixN n 0 = some 0 := by
  unfold ixN
  rw [if_pos (Int.le_refl 0), if_pos (by omega)]
  rfl
theorem drx_appP {Ω J : Om} {X : Exc → Om → Prop} {e : Exc} (q : X e Ω) : DrX Ω X e (Ω ++ J) :=
  .inr ⟨Ω.length, ⟨Nat.le_refl _, by simp, fun j c hj e => .inl (by rw [List.getElem?_append_left hj] at e; exact e)⟩, by rw [take_app]; exact q⟩
theorem ex_str {a : List Nat} {P : Prop} (q : P) : (∃ z, DV.d (tS a) = .d (.str z)) ∧ P := ⟨⟨_, rfl⟩, q⟩
--TACP
local macro_rules | `(tactic| walk_at "hl1") => `(tactic| first
  | with_reducible refine we_strL ?_
  | with_reducible refine we_bmS ?_
  | with_reducible refine ex_str ?_
  | with_reducible refine wr_inT ?_
  | ((with_reducible refine' wr_eqT ?h1 ?h2 ?_); (case h1 => first | assumption | decide); (case h2 => first | assumption | decide))
  | ((with_reducible refine' wr_neT ?h1 ?h2 ?_); (case h1 => first | assumption | decide); (case h2 => first | assumption | decide))
  | ((with_reducible refine' wc_lenT ?h1 ?_); (case h1 => (first | assumption | omega | (simp only [List.length_append, List.length_cons, List.length_nil]; omega) | (simp; omega))))
  | ((with_reducible refine' wr_addT' ?h1 ?_); (case h1 => (first | assumption | omega | (simp only [List.length_append, List.length_cons, List.length_nil]; omega) | (simp; omega))))
  | ((with_reducible refine' wsl_from ?h1 ?h2 ?_); (case h1 => first | decide | assumption | omega); (case h2 => (first | assumption | omega | (simp only [List.length_append, List.length_cons, List.length_nil]; omega) | (simp; omega))))
  | ((with_reducible refine' wsl_to ?h1 ?h2 ?_); (case h1 => first | decide | assumption | omega); (case h2 => (first | assumption | omega | (simp only [List.length_append, List.length_cons, List.length_nil]; omega) | (simp; omega))))
  | ((with_reducible refine' wm_split ?h1 ?h2 ?h3 ?_); (case h1 => decide); (case h2 => decide); (case h3 => (first | assumption | omega | (simp only [List.length_append, List.length_cons, List.length_nil]; omega) | (simp; omega))))
  | ((with_reducible refine' wm_splitO ?h1 ?h2 ?h3 ?_); (case h1 => decide); (case h2 => decide); (case h3 => (first | assumption | omega | (simp only [List.length_append, List.length_cons, List.length_nil]; omega) | (simp; omega)))))
--END TACP
end HL
namespace HL
open PySem PySem.Spec PyProof.Rows L2 Evl RZ
/-! grids: whole multiples of one by D, up to B of them -/
def Gr (D B : Nat) (x : Rat) : Prop := ∃ z : Int, x * (D : Rat) = (z : Rat) ∧ z.natAbs ≤ B
theorem Gr.mono {D B C : Nat} {x : Rat} (h : Gr D B x) (l : B ≤ C) : Gr D C x := let ⟨z, e, q⟩ := h; ⟨z, e, Nat.le_trans q l⟩
theorem Gr.add {D B C : Nat} {x y : Rat} (h : Gr D B x) (g : Gr D C y) : Gr D (B + C) (x + y) := by
  obtain ⟨z, e, q⟩ := h
  obtain ⟨w, f, r⟩ := g
  exact ⟨z + w, by rw [Rat.add_mul, e, f, Rat.intCast_add], Nat.le_trans (Int.natAbs_add_le ..) (Nat.add_le_add q r)⟩
theorem Gr.neg {D B : Nat} {x : Rat} (h : Gr D B x) : Gr D B (-x) := by
  obtain ⟨z, e, q⟩ := h
  exact ⟨-z, by rw [Rat.neg_mul, e, Rat.intCast_neg], by rw [Int.natAbs_neg]; exact q⟩
theorem Gr.sub {D B C : Nat} {x y : Rat} (h : Gr D B x) (g : Gr D C y) : Gr D (B + C) (x - y) := by
  rw [Rat.sub_eq_add_neg]; exact h.add g.neg
theorem Gr.mul {D B E C : Nat} {x y : Rat} (h : Gr D B x) (g : Gr E C y) : Gr (D * E) (B * C) (x * y) := by
  obtain ⟨z, e, q⟩ := h
  obtain ⟨w, f, r⟩ := g
  refine ⟨z * w, ?_, by rw [Int.natAbs_mul]; exact Nat.mul_le_mul q r⟩
  rw [Rat.intCast_mul, ← e, ← f, Rat.natCast_mul]
  grind
theorem Gr.int {D : Nat} (w : Int) : Gr D (w.natAbs * D) (w : Rat) := ⟨w * D, by rw [Rat.intCast_mul]; rfl, by rw [Int.natAbs_mul]; exact Nat.le_of_eq rfl⟩
theorem Gr.sz {D B n : Nat} {x : Rat} (h : Gr D B x) (h0 : 0 < D) (hd : D < 2 ^ n) (hb : B < 2 ^ n) : Sz n x := by
  obtain ⟨z, e, q⟩ := h
  have hD : (D : Rat) ≠ 0 := fun z => by
    have := Rat.natCast_inj.mp (show (D : Rat) = ((0 : Nat) : Rat) from z)
    omega
  have ex : x = Rat.divInt z D := by
    rw [Rat.divInt_eq_div, ← e]
    show x = x * (D : Rat) / (((D : Nat) : Int) : Rat)
    rw [Rat.intCast_natCast, Rat.mul_div_cancel hD]
  rw [ex]
  exact sz_of_divInt (by omega) (by omega) (by simpa using hd)
/-- small bottoms -/
abbrev GB : Nat := 360360
theorem gr_den {x : Rat} {N : Nat} (hd : x.den < 16) (hn : x.num.natAbs ≤ N) : Gr GB (N * GB) x := by
  have h0 := x.den_pos
  have dv : ∀ d, d < 16 → 0 < d → d * (GB / d) = GB ∧ GB / d ≤ GB := by decide
  obtain ⟨e1, e2⟩ := dv x.den hd h0
  refine ⟨x.num * ((GB / x.den : Nat) : Int), ?_, ?_⟩
  · have e3 : (GB : Rat) = (x.den : Rat) * ((GB / x.den : Nat) : Rat) := by
      rw [← Rat.natCast_mul, e1]
    rw [e3, ← Rat.mul_assoc, Rat.intCast_mul]
    have e4 : x * (x.den : Rat) = (x.num : Rat) := by
      have h1 : ((x.den : Nat) : Rat) ≠ 0 := fun z => by
        have := Rat.natCast_inj.mp (show ((x.den : Nat) : Rat) = ((0 : Nat) : Rat) from z)
        omega
      have h2 : x = (x.num : Rat) / (x.den : Rat) := by
        have := Rat.num_divInt_den x
        rw [Rat.divInt_eq_div] at this
        exact this.symm
      conv => lhs; arg 1; rw [h2]
      exact Rat.div_mul_cancel h1
    rw [e4]
    rfl
  · rw [Int.natAbs_mul]
    exact Nat.mul_le_mul hn (by rw [Int.natAbs_natCast]; exact e2)
theorem gr_sz4 {x : Rat} (h : Sz 4 x) : Gr GB (15 * GB) x := gr_den h.den (by have := h.num; omega)
theorem den_divInt_le {a b : Int} (h : b ≠ 0) : (Rat.divInt a b).den ≤ b.natAbs := by
  rw [Rat.den_divInt, if_neg h]
  exact Nat.div_le_self _ _
theorem num_divInt_le {a b : Int} (h : b ≠ 0) : (Rat.divInt a b).num.natAbs ≤ a.natAbs := by
  rw [Rat.num_divInt]
  have e : (b.sign * a / (b.gcd a : Int)).natAbs ≤ (b.sign * a).natAbs := by
    rw [Int.natAbs_ediv_of_dvd (Int.dvd_mul_of_dvd_right (Int.gcd_dvd_right ..))]
    exact Nat.div_le_self _ _
  refine Nat.le_trans e ?_
  rw [Int.natAbs_mul]
  have : b.sign.natAbs ≤ 1 := by
    rw [Int.natAbs_sign]
    split <;> omega
  calc b.sign.natAbs * a.natAbs ≤ 1 * a.natAbs := Nat.mul_le_mul_right _ this
    _ = a.natAbs := Nat.one_mul _
theorem gr_divInt {a b : Int} {N : Nat} (h0 : 0 < b) (hb : b < 16) (ha : a.natAbs ≤ N) : Gr GB (N * GB) (Rat.divInt a b) :=
  gr_den (Nat.lt_of_le_of_lt (den_divInt_le (by omega)) (by omega)) (Nat.le_trans (num_divInt_le (by omega)) ha)
theorem gr_sz {N : Nat} {x : Rat} (h : Gr GB (N * GB) x) (hN : N ≤ 1000) : Sz 30 x := h.sz (by decide) (by decide) (Nat.lt_of_le_of_lt (Nat.mul_le_mul_right _ hN) (by decide))
end HL
namespace HL
open PySem PySem.Spec PyProof.Rows L2 Evl RZ
/-! errors that carry a moment -/
/-- what the head tells of such a class -/
structure MC (K : KF) (x : Str) : Prop where
  oc : OexC K (He.ga K x)
  xf : XfC K (He.ga K x)
  no : PySem.W.findIn K (.ref (He.ga K x)) "moment" = some none
  ic : PySem.W.findIn K (.ref (He.ga K x)) "__init__" = some (some (.ref (He.fAd K (x, some "__init__"))))
  ti : PySem.W.typeIn K (.ref (He.fAd K (x, some "__init__"))) = some (.type "function")
/-- self.moment = moment -/
def spIni (K : KF) (x : Str) : Sp := fun vs H Q _ => ∃ (a : Addr) (v : V), vs = [.ref a, v] ∧ H a = some (exo a (He.ga K x) none) ∧
  ∀ dx, H dx = none → dx ≠ a → Q .non (upd (upd H dx (exd dx [("moment", v)])) a (exo a (He.ga K x) (some dx)))
def tRaiseM (K : KF) (x : Str) (te : TE) (W : WX) : TS := fun _ σ H => tMkO (He.ga K x) (spIni K x) [] (tCons te tNil) σ H fun c d H' => W c d σ H'
section
variable {K : KF} {W : WX} {Γ : Gm} {Ω : Om} {O : Outs} {R : DV → Om → Prop} {X : Exc → Om → Prop}
end
section
variable {X : Cx} {x n : Str} {i : Nat} {body suite : List Stmt} {b₀ : Stmt} {np pos pos' : Pos} {tb : WX → TS} {ts : Addr → Value → Option Addr → TS} {Wout : WX}
end
end HL
namespace HL
open PySem PySem.Spec PyProof.Rows L2 Evl RZ
/-! errors made and held as values -/
def tExV (K : KF) (x : Str) (te : TE) : TE := fun σ H Q => te σ H fun _ H1 => ∀ a, H1 a = none → Q (.ref a) (upd H1 a (ExO (.ref (He.ga K x)) a))
def tMkV (K : KF) (x : Str) (te : TE) : TE := fun σ H Q => te σ H fun v H1 => ∀ a dx, H1 a = none → H1 dx = none → dx ≠ a → Q (.ref a) (upd (upd H1 dx (exd dx [("moment", v)])) a (exo a (He.ga K x) (some dx)))
/-- isinstance of such a value -/
def rIsV (K : KF) : List V → Hp → VK → Prop := fun xs H Q => ∃ (a D : Addr) (c : V) (cv : Value) (b : Bool), xs = [.ref a, c] ∧ (∀ u, RelV c u → u = cv) ∧ ExcC K D ∧ PySem.W.kitOne K (.ref D) cv = some b ∧
  (H a = some (ExO (.ref D) a) ∨ ∃ d fs, H a = some (exo a D (some d)) ∧ H d = some (exd d fs)) ∧ Q (.bl b) H
/-- its moment -/
def tXfV (K : KF) (f : Str) (te : TE) : TE := fun σ H Q => te σ H fun x H1 => ∃ (a C d : Addr) (fs : List (Str × V)) (v : V), x = .ref a ∧ XfC K C ∧ PySem.W.findIn K (.ref C) f = some none ∧ H1 a = some (exo a C (some d)) ∧ H1 d = some (exd d fs) ∧ fs.lookup f = some v ∧ Q v H1
section
variable {K : KF} {W : WX} {Γ : Gm} {Ω : Om} {R : DV → Om → Prop} {X : Exc → Om → Prop} {te : TE} {x : Str}
end
/-- the twelve refusals -/
structure Ap (K : KF) (x : Str) : Prop where
  ec : ExcC K (He.ga K x)
  ka : KA K x "ClackError" true
  kv : KV K x "ValueError" true
  kk : ∀ y ∈ refusals, KA K x y (decide (x = y))
/-- held as a value -/
def Held (K : KF) (x : Str) (e : Exc) (a : Addr) (dd : Option Addr) : Prop := (e = .vo (He.ga K x) a ∧ dd = none) ∨ ∃ f y, e = .vl (He.ga K x) f y a
end HL
namespace HL
open PySem PySem.Spec PyProof.Rows L2 Evl RZ
/-! tuples with parts of one's own -/
def Pt.dv : Pt → DV
  | .d x => .d x
  | .o i => .o i
def tTupO : TA → TE := tTup
section
variable {K : KF} {W : WX} {Γ : Gm} {Ω : Om} {R : DV → Om → Prop} {X : Exc → Om → Prop} {tl : TA}
end
/-! things on a line: balls and walls -/
structure Th where
  p : Rat
  s : Rat
  r : List PyData
def dTh (x : Th) : PyData := .tuple (dR x.p :: dR x.s :: x.r)
def thB (b : Bl) : Th := ⟨b.p, b.s, [.int b.w]⟩
def thW (w : Rat × Rat) : Th := ⟨w.1, w.2, []⟩
def meetT (x y : Th) : Option Rat := if y.s < x.s then some ((y.p - x.p) / (x.s - y.s)) else none
def onT (t : Rat) (x : Th) : Th := ⟨x.p + x.s * t, x.s, x.r⟩
def onB (t : Rat) (b : Bl) : Bl := ⟨b.p + b.s * t, b.s, b.w⟩
def onW (t : Rat) (w : Wl) : Wl := w.map fun x => (x.1 + x.2 * t, x.2)
structure ThSz (n : Nat) (x : Th) : Prop where
  p : Sz n x.p
  s : Sz n x.s
theorem ThSz.mono {n m : Nat} {x : Th} (h : ThSz n x) (l : n ≤ m) : ThSz m x := ⟨h.p.mono l, h.s.mono l⟩
section
variable {K : KF} {W : WX} {Γ : Gm} {Ω : Om} {R : DV → Om → Prop} {X : Exc → Om → Prop}
end
def stepM (b m : Option Rat) : Option Rat := match m with
  | none => b
  | some t => match b with
    | none => some t
    | some u => if t < u then some t else some u
def prsT (l : List Th) : List (Th × Th) := l.zip (l.drop 1)
def leastM (l : List Th) : Option Rat := (prsT l).foldl (fun b p => stepM b (meetT p.1 p.2)) none
def thingsL (a : Wl) (l : List Bl) (c : Wl) : List Th := a.toList.map thW ++ l.map thB ++ c.toList.map thW
def dOT : Option Th → PyData
  | none => .none
  | some x => dTh x
def lineO (a : Wl) (l : List Bl) (c : Wl) : List (Option Th) := [a.map thW] ++ l.map (fun b => some (thB b)) ++ [c.map thW]
def stepO (b : Option Rat) (p : Option Th × Option Th) : Option Rat := match p with
  | (some x, some y) => stepM b (meetT x y)
  | _ => b
def runT (b : Option Rat) : List Th → Option Rat
  | x :: y :: r => runT (stepM b (meetT x y)) (y :: r)
  | _ => b
def runO (b : Option Rat) : List (Option Th) → Option Rat
  | x :: y :: r => runO (stepO b (x, y)) (y :: r)
  | _ => b
def OSz (n : Nat) (b : Option Rat) : Prop := ∀ t, b = some t → Sz n t
/-! when walls meet -/
def meetW (a c : Wl) : Option Rat := match a, c with
  | some a, some c => meetT (thW a) (thW c)
  | _, _ => none
def shutB (a c : Wl) (t : Rat) : Bool := match a, c with
  | some a, some c => decide (a.1 + a.2 * t = c.1 + c.2 * t)
  | _, _ => false
structure LinedAt (m : Rat) (a : Wl) (l : List Bl) (c : Wl) : Prop where
  or : ∀ p ∈ prsT (thingsL a l c), p.1.p + p.1.s * m ≤ p.2.p + p.2.s * m
  ap : ∀ w1 w2 : Rat × Rat, a = some w1 → c = some w2 → w1.1 + w1.2 * m < w2.1 + w2.2 * m
/-- a drawn row between walls -/
structure DrawnOk (l : List Bl) (a c : Wl) : Prop where
  nz : l ≠ []
  le : l.length ≤ 8
  w0 : ∀ b ∈ l, 1 ≤ b.w ∧ b.w ≤ 1000
  zl : ∀ b ∈ l, Sz 320 b.p ∧ Sz 320 b.s
  za : WSz 320 a
  zc : WSz 320 c
  ln : (a = none ∨ c = none) ∨ ∃ m, LinedAt m a l c
/-! groups -/
abbrev Gp := Nat × Nat × Str
def dG (g : Gp) : PyData := .tuple [.int (g.1 : Int), .int (g.2.1 : Int), .str g.2.2]
def atB : Wl → Rat → Bool
  | some w, q => decide (w.1 = q)
  | none, _ => false
def thereW (a c : Wl) (q : Rat) : Str := if atB a q = true then "low" else if atB c q = true then "high" else ""
def comesB (b : Bl) (a c : Wl) (z : Str) : Bool := if z = "low" then (match a with | some w => decide (b.s < w.2) | none => false) else if z = "high" then (match c with | some w => decide (w.2 < b.s) | none => false) else false
def endB (b : Bl) : List Bl → Bool
  | [] => true
  | b' :: _ => !decide (b'.p = b.p)
def grp (a c : Wl) : Nat → Nat → List Bl → List Gp
  | _, _, [] => []
  | f, k, b :: r => if endB b r = true then
      (if (decide (f < k) || comesB b a c (thereW a c b.p)) = true then [(f, k, thereW a c b.p)] else []) ++ grp a c (k + 1) (k + 1) r
    else grp a c f (k + 1) r
def gsAt (a : Wl) (l : List Bl) (c : Wl) (t : Rat) : List Gp := grp (onW t a) (onW t c) 0 0 (l.map (onB t))
theorem eqv_self {x : PyData} (h : SeqAt.shaped x = true) : PyData.eqv x x = true := SeqAt.eqv_refl x (SeqAt.canLay_of_shaped h)
section
variable {K : KF} {Ω : Om} {R : DV → Om → Prop}
/-- the same on both sides -/
theorem wr_neSelf {x y : DV} {d : PyData} (hx : vw Ω x = some d) (hy : vw Ω y = some d) (s : SeqAt.shaped d = true) (q : R (.d (.bool false)) Ω) : WR K (rNeD K) x y Ω R := wr_ne hx hy s s (by rw [eqv_self s]; exact q)
end
/-- groups one behind the other, in a row of so many -/
def Where (z : Str) : Prop := z = "low" ∨ z = "high" ∨ z = ""
def GpsOk (N : Nat) : Nat → List Gp → Prop
  | _, [] => True
  | k, g :: gs => k ≤ g.1 ∧ g.1 ≤ g.2.1 ∧ g.2.1 < N ∧ Where g.2.2 ∧ GpsOk N (g.2.1 + 1) gs
theorem GpsOk.mono {N k k' : Nat} : ∀ {gs : List Gp}, GpsOk N k' gs → k ≤ k' → GpsOk N k gs
  | [], _, _ => trivial
  | _ :: _, ⟨h1, h2⟩, h => ⟨Nat.le_trans h h1, h2⟩
/-! isinstance of a caught error that bears a value -/
def rIsXD (K : KF) (cls : Value) (dd : Option Addr) (a : Addr) : List V → Hp → VK → Prop := fun xs H Q => ∃ (D d : Addr) (fs : List (Str × V)) (c : V) (cv : Value) (b : Bool), cls = .ref D ∧ dd = some d ∧ H d = some (.xd fs) ∧ ExcC K D ∧ xs = [.ref a, c] ∧ (∀ u, RelV c u → u = cv) ∧ PySem.W.kitOne K (.ref D) cv = some b ∧ Q (.bl b) H
def rIsTD (K : KF) (cls : Value) (dd : Option Addr) (a : Addr) : List V → Hp → VK → Prop := fun xs H Q => ∃ (D d : Addr) (fs : List (Str × V)), cls = .ref D ∧ dd = some d ∧ H d = some (.xd fs) ∧ ExcC K D ∧ ∃ (tp : Addr) (cs : List V) (us : List Value) (b : Bool), xs = [.ref a, .ref tp] ∧ H tp = some (.tup cs) ∧ Paired ClsV cs us ∧ PySem.W.kitAny K (.ref D) us = some b ∧ Q (.bl b) H
def tIsTD (K : KF) (cls : Value) (dd : Option Addr) (a : Addr) (te : TE) (cs : List Addr) : TE := tCB (rIsTD K cls dd a) (tCons te (tCons (tTup (tCs (cs.map V.ref))) tNil))
/-! all come together at one moment and place -/
/-! a call of what is taken out of a display of two functions -/
def tCallX (tf : TE) (f g : Addr) (sp sp2 : Sp) (E : L2.St → XK) (t : TA) : TE := fun σ H Q => tf σ H fun v H1 => (v = .ref f ∧ t σ H1 fun vs H2 => sp vs H2 Q (E σ)) ∨ (v = .ref g ∧ t σ H1 fun vs H2 => sp2 vs H2 Q (E σ))
/-! dicts of one's own, keys known ahead -/
def lookK (kvs : List (L2.Key × DV)) (k : L2.Key) : Option DV := (kvs.find? fun kv => decide (kv.1 = k)).map (·.2)
def keyD : DV → Option L2.Key
  | .d (.int i) => some (.inl i)
  | .d (.str z) => some (.inr z)
  | _ => none
def tDispC (kts : List (L2.Key × TE)) : TE := tDisp (kts.map fun p => (tC (kV p.1), p.2))
def WPs (K : KF) (W : WX) : List (L2.Key × TE) → Gm → Om → (List (L2.Key × DV) → Om → Prop) → (Exc → Om → Prop) → Prop
  | [], _, Ω, S, _ => S [] Ω
  | (k, t) :: r, Γ, Ω, S, X => WE K W t Γ Ω (fun y Ω1 => WPs K W r Γ Ω1 (fun ps Ω2 => S ((k, y) :: ps) Ω2) X) X
/-! what is behind a coming -/
def twoS (x y : Bl) : List Rat := [x.s - ((2 * y.w : Int) : Rat) * (x.s - y.s) / ((x.w + y.w : Int) : Rat), y.s + ((2 * x.w : Int) : Rat) * (x.s - y.s) / ((x.w + y.w : Int) : Rat)]
def insAt (x : Rat) : List Rat → Nat
  | [] => 0
  | y :: r => if y < x then insAt x r + 1 else 0
def insR (x : Rat) (l : List Rat) : List Rat := l.take (insAt x l) ++ [x] ++ l.drop (insAt x l)
def risingL (l : List Rat) : List Rat := l.foldl (fun acc x => insR x acc) []
def unlikeB (l : List Bl) : Bool := decide (1 < l.length) && (l.map fun b => !decide (b.w = (l.headD ⟨0, 0, 0⟩).w)).any id
def turnW (w : Wl) (s : Rat) : Rat := match w with
  | none => s
  | some w => 2 * w.2 - s
def togS (l : List Bl) (w : Wl) : List Rat := match l, w with
  | [x, y], none => twoS x y
  | l, w => risingL (l.map fun b => turnW w b.s)
def freeB (l : List Bl) (w : Wl) : Bool := (decide (l.length = 2) && w.isNone) || !unlikeB l
def namedW (a c : Wl) (z : Str) : Wl := if z = "low" then a else if z = "high" then c else none
def cutB (l : List Bl) (g : Gp) : List Bl := (l.drop g.1).take (g.2.1 + 1 - g.1)
def newB (bs : List Bl) (ss : List Rat) : List Bl := (bs.zip ss).map fun p => ⟨p.1.p, p.2, p.1.w⟩
def rebL (l : List Bl) (a c : Wl) : Nat → List Gp → Option (List Bl)
  | k, [] => some (l.drop k)
  | k, g :: gs => if freeB (cutB l g) (namedW a c g.2.2) = true then
      (rebL l a c (g.2.1 + 1) gs).map fun r => (l.drop k).take (g.1 - k) ++ newB (cutB l g) (togS (cutB l g) (namedW a c g.2.2)) ++ r
    else none
def behL (a : Wl) (l : List Bl) (c : Wl) (t : Rat) : Option (List Bl) := rebL (l.map (onB t)) (onW t a) (onW t c) 0 (gsAt a l c t)
/-! sorting -/
/-! one turn of a bubble sort -/
def passA (x : Rat) : List Rat → List Rat
  | [] => [x]
  | y :: r => if y < x then y :: passA x r else x :: passA y r
/-- the last so many in their places -/
def Srt (i : Nat) (l : List Rat) : Prop := ∃ P S, l = P ++ S ∧ S.length = i ∧ S.Pairwise (· ≤ ·) ∧ ∀ z ∈ P, ∀ s ∈ S, z ≤ s
end HL
namespace HL
open PySem PySem.Spec PyProof.Rows L2 Evl RZ
/-! a list comprehension whose element may raise -/
theorem noteFrame_congr {u : Value} {e1 e2 : Env} (h : e1.frame = e2.frame) : noteFrame u e1 = noteFrame u e2 := by
  unfold noteFrame PySem.frameOf
  rw [h]
theorem passOn_congr {α : Type} {w : String} {u : Value} {e1 e2 : Env} (h : e1.frame = e2.frame) : (PySem.passOn w u e1 : Sem α) = PySem.passOn w u e2 := by
  unfold PySem.passOn
  rw [h]
def compPostE (M : Model) (A : Around) (E : Value → Shared → Prop) (Q : Value → Shared → Prop) (acc : Value) (C : Addr) (fr : Option Addr) (r : Result) (s' : Shared) : Prop :=
  match r with
  | .ok _ => ∃ m, s'.heap.Ns C m ∧ ∀ h', Heap.SameBut C s'.heap h' → Q acc { s' with heap := h' }
  | .error x => ∃ m, s'.heap.Ns C m ∧ ∀ h', Heap.SameBut C s'.heap h' → ∀ cenv : Env, cenv.frame = fr → wpAny M A (PySem.passOn "comprehension.variables-let-go" x cenv : Sem Value) (fun _ _ => False) E { s' with heap := h' }
theorem comp_freeE {M : Model} {A : Around} {E : Value → Shared → Prop} {s : Shared} {env : Env} {e : Expr} {scope : Scope} {pos : Pos} {newAcc first : Sem Value} {g : Comprehension} {gs : List Comprehension} {cl : List (Str × Addr)}
    {Q : Value → Shared → Prop}
    (hcl : clausesOf e = g :: gs) (hs : ∀ x, foldedSetIterable g.iter env x = pure x) (hclos : closureFor scope env = pure cl)
    (hkind : scope.kind = .function) (hnames : ∀ x ∈ scope.names, x.2 = .local → scope.names.lookup x.1 = some .local)
    (h : wpAny M A first (fun x s₁ => wpAny M A (pyIter x) (fun it s₂ => wpAny M A newAcc (fun acc s₃ =>
      wpAny M A (newFunctionEnv scope env.globals cl [] env.qual none .none (some env)) (fun cenv s₄ =>
        codeAny M A (.compStart e 0 it acc { cenv with scope := relabel scope env }) (compPostE M A E Q acc cenv.locals cenv.frame) s₄) E s₃) E s₂) E s₁) E s) :
    wpAny M A (comprehension e scope env pos newAcc false first none) Q E s := by
  unfold comprehension
  rw [hclos, hcl]
  refine wpAny_bind (wpAny_mono h (fun x s₁ h₁ => wpAny_bind (wpAny_standAt (wpAny_bind (wpAny_of_eq (hs x) (wpAny_bind (wpAny_holding (wpAny_mono h₁ (fun it s₂ h₂ =>
    wpAny_standIf (wpAny_bind (wpAny_mono h₂ (fun acc s₃ h₃ => wpAny_bind (wpAny_pure (wpAny_bind (wpAny_mono h₃ (fun cenv s₄ h₄ => ?_) fun _ _ h' => h')))) fun _ _ h' => h')))
      fun _ _ h' => h'))))))) fun _ _ h' => h')
  dsimp only
  have hv : ∀ x ∈ (scope.names.filter fun x => (x.2 == .local || x.2 == .cell) && x.1 != (".0" : Str)).reverse, x.2 = .local →
      Env.kindOf { cenv with scope := relabel scope env } x.1 = some .local := fun x hx hl => lookup_relabel_local (hnames x (List.mem_filter.mp (List.mem_reverse.mp hx)).1 hl)
  refine wpAny_holding (wpAny_bind (wpAny_attempt (wpAny_holding (wpAny_run (codeAny_mono h₄ fun r s' hr => ?_)))))
  cases r with
  | ok f =>
    obtain ⟨m, hn, hr⟩ := hr
    exact wpAny_bind (wpAny_holding (wpAny_comp_letGo (cenv := { cenv with scope := relabel scope env }) hkind _ s' m hv hn fun h' m' _ hs' => wpAny_pure (hr h' hs')))
  | error x =>
    obtain ⟨m, hn, hr⟩ := hr
    exact wpAny_bind (wpAny_holding (wpAny_comp_letGo (cenv := { cenv with scope := relabel scope env }) hkind _ s' m hv hn fun h' m' _ hs' => wpAny_mono (hr h' hs' _ rfl) (fun _ _ f => f.elim) fun _ _ y => y))
/-- what the element lets out -/
def xeC (X : Cx) (Eσ : XK) : Value → Shared → Prop := fun u s' => ∃ (pins : List (Addr × Obj)) (σ : L2.St) (H : Hp) (s : Shared), Inv X pins σ H s ∧ L2.CX X.prog X.w X.stack H s Eσ u s'
abbrev blkE (X : Cx) (s : Shared) (H : Hp) (scope : Scope) (cenv : Env) (fp : List Addr) (Eσ : XK) : Cx := { X.blk s H scope cenv fp with xe := xeC (X.blk s H scope cenv fp) Eσ }
theorem _root_.L2.Inv.toE {X : Cx} {e : Value → Shared → Prop} {pins : List (Addr × Obj)} {σ : L2.St} {H : Hp} {s : Shared} (I : Inv X pins σ H s) : Inv { X with xe := e } pins σ H s :=
  ⟨⟨I.ok.mod, I.ok.kind, I.ok.glob, I.ok.blt, I.ok.above, I.ok.inj, I.ok.has, I.ok.cab, I.ok.hd, I.ok.frames, I.ok.stk, I.ok.exf, I.ok.bs, I.ok.bsz, I.ok.noex, I.ok.exfs, I.ok.funs, I.ok.frf⟩, I.os, I.bare, I.base, I.loc, I.cell, I.free, I.freeC, I.pin, I.hok, I.len⟩
theorem _root_.L2.Inv.ofE {X : Cx} {e : Value → Shared → Prop} {pins : List (Addr × Obj)} {σ : L2.St} {H : Hp} {s : Shared} (I : Inv { X with xe := e } pins σ H s) : Inv X pins σ H s :=
  ⟨⟨I.ok.mod, I.ok.kind, I.ok.glob, I.ok.blt, I.ok.above, I.ok.inj, I.ok.has, I.ok.cab, I.ok.hd, I.ok.frames, I.ok.stk, I.ok.exf, I.ok.bs, I.ok.bsz, I.ok.noex, I.ok.exfs, I.ok.funs, I.ok.frf⟩, I.os, I.bare, I.base, I.loc, I.cell, I.free, I.freeC, I.pin, I.hok, I.len⟩
theorem passC {X : Cx} {s : Shared} {H : Hp} {scope : Scope} {cenv : Env} {fp : List Addr} {Eσ : XK} (σ : L2.St) : PassesAt (L2.CX X.prog X.w) (blkE X s H scope cenv fp Eσ) σ Eσ := fun pins H' s' e s'' I h => ⟨pins, σ, H', s', I.ofE, h⟩
theorem of_callF {X : Cx} {E : XK} {pins : List (Addr × Obj)} {σ : L2.St} {H : Hp} {s s' : Shared} (I : Inv X pins σ H s) {u : Value} (c : L2.CX X.prog X.w X.stack H s E u s') :
    ∃ (a : Addr) (B : Heap) (sI : Shared) (H' : Hp) (cls : Value) (d : Option Addr), u = .ref a ∧ Inv X pins σ H' sI ∧ (∀ b o, sI.heap.get? b = some o → b ∉ frs X.stack → B.get? b = some o) ∧ sI.heap.UpToSlots s'.heap ∧ HandSPX.FlyingZ B X.stack a (Zc cls d) s'.heap ∧ H' a = none ∧ s'.os = sI.os ∧ AllBare s'.gens ∧ E cls d H' := by
  obtain ⟨a, B, H', cls, d, rfl, fl, hok, ub, na, os, ag, hE⟩ := c
  obtain ⟨G, g1, g2⟩ := restrict s'.heap fun b => (B.get? b).isSome || decide (b ∈ frs X.stack)
  have st : B.StaysIn s'.heap := fl.1
  have gB : ∀ b o, B.get? b = some o → G.get? b = some o := fun b o e => by
    rw [g1 b (by simp [e])]
    exact st b o e
  have gF : ∀ b, b ∈ frs X.stack → G.get? b = s'.heap.get? b := fun b hb => g1 b (by simp [hb])
  have og : ∀ b o, G.get? b = some o → s'.heap.get? b = some o ∧ ((B.get? b).isSome = true ∨ b ∈ frs X.stack) := fun b o e => by
    cases q : ((B.get? b).isSome || decide (b ∈ frs X.stack)) with
    | false => rw [g2 b q] at e; cases e
    | true =>
      rw [g1 b q] at e
      exact ⟨e, by simpa [Bool.or_eq_true] using q⟩
  refine ⟨a, B, { s with heap := G, gens := s'.gens, drawn := s'.drawn, toks := s'.toks }, H', cls, d, rfl, ?_, fun b o e hb => ?_, Heap.UpToSlots.of_keeps fun b o e => (og b o e).1, fl, na, os, ag, hE⟩
  · refine I.call (ch := []) ⟨fun b o e n hb _ => gB b o (ub.keep b o e n hb), fun b o e n hb _ => ?_, fun b o e n _ => ub.free b o e n, fun b o e _ => ?_, ub.tups, ub.frzs, ub.tbls⟩ (hok.kept gB) ag (fun _ z => nomatch z)
    · obtain ⟨sl, q⟩ := ub.slot b o e hb
      exact ⟨sl, by rw [gF b hb]; exact q⟩
    · by_cases hb : b ∈ frs X.stack
      · obtain ⟨sl, q⟩ := ub.slot b o e hb
        exact ⟨_, by rw [gF b hb]; exact q⟩
      · obtain ⟨o', q⟩ := ub.there b o e hb
        exact ⟨o', gB b o' q⟩
  · obtain ⟨h1, h2⟩ := og b o e
    rcases h2 with h2 | h2
    · obtain ⟨o', q⟩ := Option.isSome_iff_exists.mp h2
      have := st b o' q
      rw [h1] at this
      cases this
      exact q
    · exact absurd h2 hb
theorem ff_keep {base B h h' : Heap} : ∀ {l : List Env}, h.FunFrames base l → (∀ L ∈ frs l, ∀ o, h.get? L = some o → h'.get? L = some o) → (∀ L ∈ frs l, B.get? L = none) → h'.FunFrames B l
  | [], _, _, _ => trivial
  | env :: l, h0, hk, hn => by
    obtain ⟨h1, ⟨L, o, hf, _, ho, hd⟩, hr⟩ := h0
    have hm : L ∈ frs (env :: l) := List.mem_filterMap.mpr ⟨env, List.mem_cons_self, hf⟩
    have sub : ∀ b, b ∈ frs l → b ∈ frs (env :: l) := fun b hb => by
      obtain ⟨e, he, q⟩ := List.mem_filterMap.mp hb
      exact List.mem_filterMap.mpr ⟨e, List.mem_cons_of_mem _ he, q⟩
    exact ⟨h1, ⟨L, o, hf, hn L hm, hk L hm o ho, hd⟩, ff_keep hr (fun L hL => hk L (sub L hL)) fun L hL => hn L (sub L hL)⟩
theorem errC {X : Cx} {W : WX} {pins : List (Addr × Obj)} {σ0 : L2.St} {s3 : Shared} {H3 : Hp} {scope : Scope} {ce : Env} {fp : List Addr} {Eσ : XK} {Q : Value → Shared → Prop} {acc : Value} (hs : X.stack = X.env :: X.outer) (hf : X.env.frame = some X.env.locals) (tk : Takes X W)
    (I3 : Inv X pins σ0 H3 s3) (f3 : ∀ b ∈ fp, FpOk X pins H3 b) (hce : ce.frame = X.env.frame) (cL : ce.locals = s3.heap.objs.size) (hE : ∀ c d H, Eσ c d H → W c d σ0 H) {u : Value} {s' : Shared} (hx : xeC (X.blk s3 H3 scope ce fp) Eσ u s') :
    notedBy (model X.prog X.w) X.A ce (fun e s'' => compPostE (model X.prog X.w) X.A X.xe Q acc ce.locals X.env.frame (.error e) s'') u s' := by
  obtain ⟨pins5, σ5, H5, s5, I5, cx⟩ := hx
  have hfr : X.A.frames = some (X.env :: X.outer) := by rw [I3.ok.frames, hs]
  obtain ⟨a, B, sI, H, cls, d, rfl, J, nb, up, fl, na, os, ag, w⟩ := of_callF I5 cx
  have nb : ∀ b o, sI.heap.get? b = some o → b ∉ frs X.stack → B.get? b = some o := nb
  have fl : HandSPX.FlyingZ B X.stack a (Zc cls d) s'.heap := fl
  -- the state without the exception, in the def's own context
  have I7 : Inv X pins σ0 H sI := I3.call' (ch := fp) J.os J.base J.hok J.bare fun b hb => ⟨(f3 b hb).2.2.2.1, (f3 b hb).2.1, (f3 b hb).2.2.2.2.1, (f3 b hb).2.2.2.2.2⟩
  have nC : H ce.locals = none := J.free
  have fC : FpOk X pins H ce.locals := by rw [cL] at nC ⊢; exact I3.fpOk (Nat.le_refl _) nC
  obtain ⟨m, hn, _⟩ := J.loc
  have hn : sI.heap.Ns ce.locals m := hn
  have CnF : ce.locals ∉ frs X.stack := fun hm => by
    have := Heap.lt_size ((I3.stack.mem hm).2.choose_spec.1)
    rw [cL] at this
    exact Nat.lt_irrefl _ this
  obtain ⟨oC, _, _, hoC, _⟩ := id hn
  have BC : B.get? ce.locals = some oC := nb _ _ hoC CnF
  unfold notedBy
  rw [noteFrame_congr hce]
  rw [hs] at fl
  refine HandSPX.looks_onZ Zc.steady hfr hf fl fun h1 hh up1 => ?_
  have upI : sI.heap.UpToSlots h1 := up.trans up1
  refine ⟨m, upI.ns hn, fun h2 sb cenv hcf => ?_⟩
  rw [passOn_congr (e2 := X.env) hcf]
  -- the block's names are given away: the ground is what lies beside them
  obtain ⟨q1, q2, q3, oe, vs, T, oT, ts, he, hz, hd, hv1, hnT, hTe, hT, hdT, h3⟩ := hh
  have aC : a ≠ ce.locals := fun e => by rw [e, BC] at q2; cases q2
  have TC : T ≠ ce.locals := fun e => by rw [e, BC] at hnT; cases hnT
  have hB' : ∀ b o, (PySem.W.hideAll B [ce.locals]).get? b = some o → B.get? b = some o ∧ b ≠ ce.locals := fun b o e => ⟨PySem.W.of_hideAll _ e, fun z => by
    rw [z, PySem.W.hideAll_none _ (by simp)] at e; cases e⟩
  have noB' : ∀ b, B.get? b = none → (PySem.W.hideAll B [ce.locals]).get? b = none := fun b e => by
    cases q : (PySem.W.hideAll B [ce.locals]).get? b with
    | none => rfl
    | some o => rw [(hB' b o q).1] at e; cases e
  have keep2 : ∀ b o, b ≠ ce.locals → h1.get? b = some o → h2.get? b = some o := fun b o hb e => (sb.2 b hb).trans e
  have hh2 : HandSPX.HeldZ (PySem.W.hideAll B [ce.locals]) (X.env :: X.outer) a (Zc cls d) X.env.locals h2 := by
    refine ⟨fun b o e => keep2 b o (hB' b o e).2 (q1 b o (hB' b o e).1), noB' a q2, ?_, oe, vs, T, oT, ts, keep2 _ _ aC he, hz, hd, hv1, noB' T hnT, hTe, keep2 _ _ TC hT, hdT, h3⟩
    refine ff_keep q3 (fun L hL o e => keep2 L o (fun z => ?_) e) fun L hL => noB' L (q3.mem hL).1
    rw [z, ← hs] at hL
    exact CnF hL
  unfold PySem.passOn
  refine wpAny_bind (wpAny_field (keep2 _ _ aC he) hd hv1 ?_)
  rw [if_neg (by simp)]
  rw [hf]
  refine wpAny_bind (HandSPX.setFlight_onZ hh2 fun h3' hh3 up3 => ?_)
  refine wpAny_throw (tk _ _ ?_)
  have hsI : ∀ b o, (PySem.W.hideAll sI.heap [ce.locals]).get? b = some o → sI.heap.get? b = some o ∧ b ≠ ce.locals := fun b o e => ⟨PySem.W.of_hideAll _ e, fun z => by
    rw [z, PySem.W.hideAll_none _ (by simp)] at e; cases e⟩
  obtain ⟨f0, f1, f2, f4, f5, f6⟩ := fC
  have I8 : Inv X pins σ0 H { sI with heap := PySem.W.hideAll sI.heap [ce.locals] } := I7.turned (t' := sI.toks) (it := ce.locals) (fun b o hb e => PySem.W.hideAll_get _ e (by simpa using hb)) f0 f1 f4 f5 f6
  refine ⟨a, PySem.W.hideAll B [ce.locals], _, pins, σ0, H, cls, d, rfl, I8, fun b o e hb => ?_, fun b o e hnf => ?_, .inr (.inr (by rw [hs]; exact hh3)), na, os, ag, hE _ _ _ w⟩
  · obtain ⟨e1, e2⟩ := hsI b o e
    exact PySem.W.hideAll_get _ (nb b o e1 hb) (by simpa using e2)
  · obtain ⟨e1, e2⟩ := hsI b o e
    obtain ⟨sl, e3⟩ := upI b o e1 hnf
    obtain ⟨sl2, e4⟩ := up3 b _ (keep2 b _ e2 e3) hnf
    exact ⟨sl2, e4⟩
/-- [elt for target in iter ..], the element may raise: its exits are those of the def, at the def's own slots -/
def tLcE (W : WX) (wi : TI) (g : TG) (tt : TT) (te : WX → TE) (vs : List Nat) : TE := fun σ H Q => tLc wi g tt (te fun c d _ H' => W c d σ H') vs σ H Q
section
variable {X : Cx}
theorem pe_lcE {W : WX} {elt tg iter : Expr} {ifs : List Expr} {scope : Scope} {own : List (Str × Nat)} {pos : Pos} {wi : TI} {g : TG} {tt : TT} {te : WX → TE} (hst : X.stack = X.env :: X.outer) (hf : X.env.frame = some X.env.locals) (tk : Takes X W) (hc : X.calm = true) (hN : X.N.Nodup) (hi : PI X tg iter wi) (ok : BlkOk X.N X.env.scope scope own)
    (hg : ∀ (s : Shared) (H : Hp) (C : Addr) (cl : List (Str × Addr)) (fp : List Addr), PG (X.blk s H scope (compEnvC scope cl C X.env) fp) tg g) (ht : ∀ (s : Shared) (H : Hp) (C : Addr) (cl : List (Str × Addr)) (fp : List Addr), PTs (X.blk s H scope (compEnvC scope cl C X.env) fp) ifs tt)
    (he : ∀ (s : Shared) (H : Hp) (C : Addr) (cl : List (Str × Addr)) (fp : List Addr) (Eσ : XK), PE (blkE X s H scope (compEnvC scope cl C X.env) fp Eσ) elt (te fun c d _ H => Eσ c d H)) (hs : ∀ x, foldedSetIterable iter X.env x = pure x := by intro _; rfl) :
    PE X (.ListComp elt [⟨tg, iter, ifs, 0⟩] scope pos) (tLcE W wi g tt te (own.map (·.2))) := by
  refine ⟨fun pins s σ H Q I h => ?_⟩
  rw [eval_ListComp]
  have hfree : ∀ y ∈ scope.names, y.2 = .free → ∃ c, X.env.cells.lookup y.1 = some c := fun y hy e => (ok.free y hy e).elim (fun k => I.ok.has _ (.inl k)) fun k => I.ok.has _ (.inr k)
  refine comp_freeE rfl hs (closure_ok hfree) ok.kind (fun y hy e => by rw [ok.uniq y hy, e]) (thn (hi.run pins s σ H _ I h) fun xv s1 hx => thn hx fun itv s2 ⟨it, fp, tn, J, H2, e, I2, T, st2, f2, q⟩ => ?_)
  subst e
  refine wpAny_newObj_type (newEnv_comp ?_) (by show 0 ≤ sizeLine; decide)
  obtain ⟨D, hD⟩ : ∃ D, s2.heap.objs.size = D := ⟨_, rfl⟩
  rw [hD]
  obtain ⟨Wm, ⟨m0, w0⟩, turn⟩ := q D (I2.hok.fresh (Nat.le_of_eq hD))
  obtain ⟨s3, hs3⟩ : ∃ s3 : Shared, s3 = { s2 with heap := s2.heap.push { cls := .type "list", data := .seq ([] : List Value).toArray } } := ⟨_, rfl⟩
  have I3 : Inv X pins σ (upd H2 D (.lst [])) s3 := by
    rw [hs3]
    exact I2.laid (t' := s2.toks) (fun b o e => Heap.get?_push_of_some _ e) (Nat.le_of_eq hD) ⟨Nat.zero_le _, [], 0, .nil, by rw [← hD]; exact Heap.get?_push_size _ rfl⟩
  have h3 : s3.heap = s2.heap.push { cls := .type "list", data := .seq ([] : List Value).toArray } := by rw [hs3]
  have f3 : ∀ b ∈ fp, FpOk X pins (upd H2 D (.lst [])) b ∧ b < s3.heap.objs.size := fun b hb => by
    obtain ⟨o, e, _⟩ := T.obj _ _ st2 b hb
    have hlt := Heap.lt_size e
    exact ⟨⟨by rw [upd_ne (by rw [← hD]; exact Nat.ne_of_lt hlt)]; exact (f2 b hb).1, (f2 b hb).2⟩, by rw [h3, Heap.size_push]; exact Nat.lt_succ_of_lt hlt⟩
  have st3 : tn 0 s3.heap := T.keep _ _ _ st2 fun b _ o e => by rw [h3]; exact Heap.get?_push_of_some _ e
  have I4 := block_start I3 ok hN f3
  have pg := hg s3 (upd H2 D (.lst [])) s3.heap.objs.size (cellsFrom (s3.heap.objs.size + 1) scope.names (cloFrom X.env.cells scope.names [])) fp
  have pt := ht s3 (upd H2 D (.lst [])) s3.heap.objs.size (cellsFrom (s3.heap.objs.size + 1) scope.names (cloFrom X.env.cells scope.names [])) fp
  have pe := he s3 (upd H2 D (.lst [])) s3.heap.objs.size (cellsFrom (s3.heap.objs.size + 1) scope.names (cloFrom X.env.cells scope.names [])) fp fun c d H' => W c d σ H'
  rw [← hs3]
  show codeAny _ _ (.compStart (.ListComp elt [⟨tg, iter, ifs, 0⟩] scope pos) 0 (.ref it) (.ref D) (compEnvC scope (cellsFrom (s3.heap.objs.size + 1) scope.names (cloFrom X.env.cells scope.names [])) s3.heap.objs.size X.env)) (compPostE (model X.prog X.w) X.A X.xe (EP X pins σ Q) (.ref D) s3.heap.objs.size X.env.frame) { s3 with heap := pushCells (s3.heap.push { cls := .type "dict", data := .dict #[] }) scope.names }
  have nfp : ∀ b ∈ fp, (upd H2 D (.lst [])) b = none := fun b hb => (f3 b hb).1.1
  obtain ⟨ce, hce⟩ : ∃ ce, compEnvC scope (cellsFrom (s3.heap.objs.size + 1) scope.names (cloFrom X.env.cells scope.names [])) s3.heap.objs.size X.env = ce := ⟨_, rfl⟩
  have cL : ce.locals = s3.heap.objs.size := by rw [← hce]; rfl
  have cF : ce.frame = X.env.frame := by rw [← hce]; rfl
  rw [hce] at I4 pg pt pe ⊢
  generalize upd H2 D (.lst []) = H3 at I3 I4 pg pt pe w0 nfp f3
  obtain ⟨s4, hs4⟩ : ∃ s4 : Shared, s4 = { s3 with heap := pushCells (s3.heap.push { cls := .type "dict", data := .dict #[] }) scope.names } := ⟨_, rfl⟩
  rw [← hs4] at I4 ⊢
  have st4 : tn 0 s4.heap := T.keep _ _ _ st3 fun b _ o e => by rw [hs4]; exact pushCells_keeps _ _ _ _ (Heap.get?_push_of_some _ e)
  have stat : ∀ {σ' : L2.St} {H' : Hp} {s' : Shared}, Inv (X.blk s3 H3 scope ce fp) [] σ' H' s' → (∀ b ∈ fp, H' b = none) → ∀ b ∈ fp, FpOk (X.blk s3 H3 scope ce fp) [] H' b := fun {σ' H' s'} I' hn b hb =>
    ⟨hn b hb, (I'.ok.exf b hb).1, I'.ok.exfs b hb, .inl hb, fun x c e => (I'.ok.exf b hb).2 x c e, fun p hp => absurd (show p ∈ ([] : List (Addr × Obj)) ++ [] from hp) (by simp)⟩
  have err : ∀ {u : Value} {s' : Shared}, xeC (X.blk s3 H3 scope ce fp) (fun c d H' => W c d σ H') u s' → notedBy (model X.prog X.w) X.A ce (fun e s'' => compPostE (model X.prog X.w) X.A X.xe (EP X pins σ Q) (.ref D) s3.heap.objs.size X.env.frame (.error e) s'') u s' := fun {u s'} hx => by
    have := errC (Q := EP X pins σ Q) (acc := .ref D) hst hf tk I3 (fun b hb => (f3 b hb).1) cF cL (fun c d H h => h) hx
    rw [cL] at this
    exact this
  have loop : codeAny (model X.prog X.w) X.A (.compLoop (.ListComp elt [⟨tg, iter, ifs, 0⟩] scope pos) 0 (.ref it) (.ref D) ce) (compPostE (model X.prog X.w) X.A X.xe (EP X pins σ Q) (.ref D) s3.heap.objs.size X.env.frame) s4 := by
    refine compLoop_any (fun n s' => ∃ i H', Inv (X.blk s3 H3 scope ce fp) [] (wipe σ (own.map (·.2))) H' s' ∧ tn i s'.heap ∧ (∀ b ∈ fp, H' b = none) ∧ Wm i n H') ?_ m0 ⟨0, H3, I4, st4, nfp, w0⟩
    rintro n s5 ⟨i, H5, I5, st5, n5, w5⟩
    rcases turn i n H5 w5 with ⟨stop, qq⟩ | ⟨go, Nx, hNx, step⟩
    · refine thnF (T.done (X.blk s3 H3 scope ce fp) rfl rfl rfl hc i [] s5 _ H5 (fun _ _ => False) I5 (stat I5 n5) st5 stop) fun r s6 ⟨hr, I6⟩ => ?_
      subst hr
      have I7 : Inv X pins σ H5 s6 := I3.call' (ch := fp) I6.os I6.base I6.hok I6.bare fun b hb => ⟨(f3 b hb).1.2.2.2.1, (f3 b hb).1.2.1, (f3 b hb).1.2.2.2.2.1, (f3 b hb).1.2.2.2.2.2⟩
      have nC : H5 s3.heap.objs.size = none := by
        have z : H5 ce.locals = none := I6.free
        rwa [cL] at z
      obtain ⟨m, hn, _⟩ := I6.loc
      have hn : s6.heap.Ns ce.locals m := hn
      rw [cL] at hn
      obtain ⟨f0, f1, f2', f3', f4, f5⟩ := I3.fpOk (H' := H5) (Nat.le_refl _) nC
      exact ⟨m, hn, fun h'' sb => ⟨.ref D, H5, I7.turned (t' := s6.toks) (fun b o hb e => (sb.2 b hb).trans e) f0 f1 f3' f4 f5, rfl, qq⟩⟩
    · refine thnF (T.item (X.blk s3 H3 scope ce fp) rfl rfl rfl hc i [] s5 _ H5 (fun _ _ => False) I5 (stat I5 n5) st5 go) fun r s6 ⟨u, hr, h6⟩ => ?_
      subst hr
      refine thnF h6 fun _ s7 ⟨x, H7, I7, r7, y7, st7, n7⟩ => ?_
      have I7' := I7.pinned (stat I7 n7) (T.obj _ _ st7)
      refine thnF (pg.run _ s7 _ H7 x u _ I7' r7 (step x H7 y7)) fun _ s8 ⟨σ8, H8, I8, hw8, q8⟩ => ?_
      refine thnF (pt.run _ s8 σ8 H8 _ I8 q8) fun b s9 ⟨H9, I9, q9⟩ => ?_
      have fin : ∀ {s' : Shared} {H' : Hp}, Inv (X.blk s3 H3 scope ce fp) ([] ++ pinsAt fp s7.heap) σ8 H' s' → Nx H' → ∃ m, m < n ∧ ∃ i H', Inv (X.blk s3 H3 scope ce fp) [] (wipe σ (own.map (·.2))) H' s' ∧ tn i s'.heap ∧ (∀ b ∈ fp, H' b = none) ∧ Wm i m H' := fun {s' H'} I' nx => by
        obtain ⟨m', hm, w'⟩ := hNx H' nx
        have pin' : ∀ b ∈ fp, ∀ o, s7.heap.get? b = some o → s'.heap.get? b = some o ∧ H' b = none := fun b hb o e =>
          let z := I'.pin (b, o) (List.mem_append_right _ (List.mem_append_right _ (mem_pinsAt hb e)))
          ⟨z.1, z.2.1⟩
        have hl : (wipe σ (own.map (·.2))).length = σ8.length := by rw [← hw8, wipe_length]
        refine ⟨m', hm, i + 1, H', (I'.unpinned (pins := [])).weak hl (fun j v e => by rw [← hw8] at e; exact (wipe_some e).1), T.keep _ _ _ st7 fun b hb o e => (pin' b hb o e).1, fun b hb => ?_, w'⟩
        obtain ⟨o, e, _⟩ := T.obj _ _ st7 b hb
        exact (pin' b hb o e).2
      cases b with
      | false => exact fin I9 q9
      | true =>
        simp only [if_true] at q9 ⊢
        refine wpAny_mono (pe.run _ s9 σ8 H9 _ I9.toE q9) (fun z s10 ⟨yv, H10, I10, r10, acc, hD10, hz10, nx⟩ => ?_) fun u s' hx => err hx
        exact app_ok (X := X.blk s3 H3 scope ce fp) I10.ofE hD10 hz10 r10 fun s11 I11 => fin I11 nx
  exact codeAny_compStart_list loop (T.self X.A 0 _ _ _ st4 loop)
end
section
variable {K : KF} {W : WX} {Γ : Gm} {Ω : Om} {R : DV → Om → Prop} {X : Exc → Om → Prop} {wi : TI} {g : TG} {tt : TT} {vs : List Nat}
theorem we_lcE {te : WX → TE} (og : Only g vs) (h : WI K W wi Γ Ω (fun ys stay Ω1 => ∃ P : Nat → List DV → Om → Prop, P 0 [] (Ω1 ++ [.lst []]) ∧
      (∀ i acc Ω', i ≤ ys.length → P i acc Ω' → stay Ω' ∧ Ω1.length < Ω'.length) ∧
      (∀ i y acc Ω', ys[i]? = some y → P i acc Ω' → WG K g y (wipeG Γ vs) Ω' (fun Γ2 Ω2 => WT K (fun _ _ _ _ => False) tt Γ2 Ω2 (fun b Ω3 =>
        (b = true → ∀ W2 : WX, WE K W2 (te W2) Γ2 Ω3 (fun x Ω4 => Ω4[Ω1.length]? = some (.lst acc) ∧ acc.length < 100000 ∧ P (i + 1) (acc ++ [x]) (Ω4.set Ω1.length (.lst (acc ++ [x])))) X) ∧ (b = false → P (i + 1) acc Ω3)) NoX)) ∧
      ∀ acc Ω', P ys.length acc Ω' → R (.o Ω1.length) Ω') X) : WE K W (tLcE W wi g tt te vs) Γ Ω R X := fun m G H σ Q c s k x => by
  refine h m G H σ _ c s x (fun m1 G1 Ω1 H1 J ys stay c1 n1 l1 it ⟨P, p0, pst, step, fin⟩ D hD => ?_)
  have s1 := s.mono n1 l1
  obtain ⟨m2, c2, n2, e2⟩ := c1.own (x := .lst []) (o := .lst []) hD ⟨[], upd_same, .nil⟩
  have le1 : Ω1.length ≤ (Ω1 ++ [OC.lst []]).length := by simp
  refine ⟨fun i n H' => n = ys.length - i ∧ i ≤ ys.length ∧ ∃ m' G' Ω' acc, Core K m' G' Ω' H' ∧ Nxt m2 (Ω1 ++ [OC.lst []]).length G1 m' G' ∧ (Ω1 ++ [OC.lst []]).length ≤ Ω'.length ∧ P i acc Ω',
    ⟨ys.length, by simp, Nat.zero_le _, m2, G1, _, [], c2, Nxt.refl .., Nat.le_refl _, p0⟩, ?_⟩
  rintro i n H3 ⟨rfl, hi, m3, G3, Ω3, acc, c3, n3, l3, p3⟩
  have l3' : Ω1.length < Ω3.length := by simp at l3; omega
  have n13 : Nxt m1 Ω1.length G1 m3 G3 := n2.trans le1 n3
  have n03 := n1.trans l1 n13
  have l03 : Ω.length ≤ Ω3.length := Nat.le_trans l1 (Nat.le_of_lt l3')
  have em : m3 Ω1.length = D := by
    rw [n3.mm _ (by simp), e2]
  have ik := it m3 G3 Ω3 H3 c3 n13 (Nat.le_of_lt l3') (pst i acc Ω3 hi p3).1 i
  by_cases hlt : i < ys.length
  · obtain ⟨go, yl⟩ := ik.2 ys[i] (List.getElem?_eq_getElem hlt)
    refine .inr ⟨go, fun H' => ∃ m' G' Ω' acc', Core K m' G' Ω' H' ∧ Nxt m2 (Ω1 ++ [OC.lst []]).length G1 m' G' ∧ (Ω1 ++ [OC.lst []]).length ≤ Ω'.length ∧ P (i + 1) acc' Ω', fun H' q => ⟨ys.length - (i + 1), by omega, rfl, hlt, q⟩, fun y H'' hy => ?_⟩
    obtain ⟨G4, c4, e4, r4⟩ := yl y H'' hy
    have n4 : Nxt m3 Ω3.length G3 m3 G4 := ⟨fun _ _ => rfl, e4⟩
    refine (fun q => by
      have q := og _ _ _ _ q
      rw [wipe_idem] at q
      exact q) (?_ : g y (wipe σ vs) H'' fun σ2 H2 => tt σ2 H2 fun b H3 => if b = true then te (fun c d _ H' => W c d σ H') σ2 H3 fun y H4 => ∃ acc, H4 D = some (.lst acc) ∧ acc.length < sizeLine ∧ (∃ m' G' Ω' acc', Core K m' G' Ω' (upd H4 D (.lst (acc ++ [y]))) ∧ Nxt m2 (Ω1 ++ [OC.lst []]).length G1 m' G' ∧ (Ω1 ++ [OC.lst []]).length ≤ Ω'.length ∧ P (i + 1) acc' Ω')
        else (∃ m' G' Ω' acc', Core K m' G' Ω' H3 ∧ Nxt m2 (Ω1 ++ [OC.lst []]).length G1 m' G' ∧ (Ω1 ++ [OC.lst []]).length ≤ Ω'.length ∧ P (i + 1) acc' Ω'))
    refine step i ys[i] acc Ω3 (List.getElem?_eq_getElem hlt) p3 m3 G4 H'' (wipe σ vs) y _ c4 (wipeG_slots (s.mono (n03.trans l03 n4) l03) vs) r4 (fun m5 G5 Ω5 H5 Γ5 σ5 c5 n5 l5 s5 h5 => ?_)
    refine h5 m5 G5 H5 σ5 _ c5 s5 (fun m6 G6 Ω6 H6 b c6 n6 l6 h6 => ?_) noX
    have n36 : Nxt m3 Ω3.length G3 m6 G6 := n4.trans (Nat.le_refl _) (n5.trans l5 n6)
    have l36 : Ω3.length ≤ Ω6.length := Nat.le_trans l5 l6
    cases b with
    | false =>
      rw [if_neg Bool.false_ne_true]
      exact ⟨m6, G6, Ω6, acc, c6, n3.trans l3 n36, Nat.le_trans l3 l36, h6.2 rfl⟩
    | true =>
      rw [if_pos rfl]
      refine (h6.1 rfl) (fun c d _ H' => W c d σ H') m6 G6 H6 σ5 _ c6 (s5.mono n6 l6) (fun m7 G7 Ω7 H7 x7 v7 c7 n7 l7 r7 ⟨e7, z7, p7⟩ => ?_) (x.on (n03.trans l03 n36) (Nat.le_trans l03 l36))
      have n37 := n36.trans l36 n7
      have l37 := Nat.le_trans l36 l7
      obtain ⟨_, ws, hw, rp⟩ := c7.fr Ω1.length _ e7 (by intro z; cases z)
      have em7 : m7 Ω1.length = D := by rw [n37.mm _ l3', em]
      rw [em7] at hw
      have c8 := c7.write (y := .lst (acc ++ [x7])) (o := .lst (ws ++ [v7])) e7 (by intro z; cases z) ⟨_, upd_same, Paired.snoc rp r7⟩
      rw [em7] at c8
      exact ⟨ws, hw, sz_lt (by rw [← Paired.length rp]; exact z7), m7, G7, _, _, c8, n3.trans l3 n37, by rw [List.length_set]; exact Nat.le_trans l3 l37, p7⟩
  · have ei : i = ys.length := by omega
    subst ei
    exact .inl ⟨ik.1 (Nat.le_refl _), k _ _ _ _ (.o Ω1.length) _ c3 n03 l03 ⟨l3', by rw [em]⟩ (fin acc Ω3 p3)⟩
/-- a list that nobody changes, an element that is told or raises -/
theorem we_lcPE {te : WX → TE} {α : Type} (og : Only g vs) (h : WI K W wi Γ Ω (fun ys stay Ω1 => ∃ (l : List α) (f : α → DV) (P : Nat → List PyData → Prop), ys = l.map f ∧ l.length ≤ 100000 ∧ Ω1 = Ω ∧ (∀ ds, stay (Ω ++ [.lst ds])) ∧ P 0 [] ∧
      (∀ i a acc, l[i]? = some a → acc.length = i → P i acc → WG K g (f a) (wipeG Γ vs) (Ω ++ [.lst (acc.map DV.d)]) (fun Γ2 Ω2 => Ω2 = Ω ++ [.lst (acc.map DV.d)] ∧
        ∀ W2 : WX, WE K W2 (te W2) Γ2 (Ω ++ [.lst (acc.map DV.d)]) (fun x Ω4 => ∃ y, x = .d y ∧ Ω4 = Ω ++ [.lst (acc.map DV.d)] ∧ P (i + 1) (acc ++ [y])) X)) ∧
      ∀ acc, acc.length = l.length → P l.length acc → R (.d (.list acc)) Ω) X) : WE K W (tLcE W wi g tYes te vs) Γ Ω R X := by
  refine we_frz (we_lcE og fun m G H σ R' c s x k => h m G H σ R' c s x fun m1 G1 Ω1 H1 J ys stay c1 n1 l1 it ⟨l, f, P, e1, hl, e2, st, p0, el, q⟩ => ?_)
  subst e1 e2
  refine k m1 G1 Ω1 H1 J _ stay c1 n1 l1 it ⟨fun i acc Ω' => ∃ ds : List PyData, acc = ds.map DV.d ∧ ds.length = i ∧ Ω' = Ω1 ++ [.lst acc] ∧ P i ds, ⟨[], rfl, rfl, rfl, p0⟩, fun i acc Ω' hi ⟨ds, ea, el, eo, hp⟩ => ?_, fun i y acc Ω' hy ⟨ds, ea, eln, eo, hp⟩ => ?_, fun acc Ω' ⟨ds, ea, eln, eo, hp⟩ => ?_⟩
  · subst eo
    exact ⟨st _, by simp⟩
  · subst eo ea
    rw [List.getElem?_map] at hy
    obtain ⟨a, ha, rfl⟩ := Option.map_eq_some_iff.mp hy
    have hi := lt_of_get ha
    intro m2 G2 H2 σ2 v Q2 c2 s2 r2 k2
    refine el i a ds ha eln hp m2 G2 H2 σ2 v Q2 c2 s2 r2 fun m3 G3 Ω3 H3 Γ3 σ3 c3 n3 l3 s3 ⟨eo3, h3⟩ => k2 m3 G3 Ω3 H3 Γ3 σ3 c3 n3 l3 s3 ?_
    subst eo3
    intro m4 G4 H4 σ4 Q4 c4 s4 k4 x4
    refine k4 m4 G4 _ H4 true c4 (Nxt.refl ..) (Nat.le_refl _) ⟨fun _ W2 => ?_, fun hb => by cases hb⟩
    intro m6 G6 H6 σ6 Q6 c6 s6 k6 x6
    refine h3 W2 m6 G6 H6 σ6 Q6 c6 s6 (fun m7 G7 Ω7 H7 d v c7 n7 l7 r7 ⟨y, ex, eo7, hp7⟩ => k6 m7 G7 Ω7 H7 d v c7 n7 l7 r7 ?_) x6
    subst eo7 ex
    refine ⟨by simp, by rw [List.length_map]; omega, ds ++ [y], by simp, by simp [eln], by simp, hp7⟩
  · subst eo ea
    rw [List.length_map] at eln hp
    refine ⟨Ω1.length, ds.map DV.d, ds, rfl, by simp, asDs_data _, ⟨Nat.le_refl _, by simp, fun j c hj e => .inl ?_⟩, ?_⟩
    · rw [List.getElem?_append_left hj] at e; exact e
    · rw [take_app]; exact q ds eln hp
end
end HL
namespace HL
open PySem PySem.Spec PyProof PyProof.Rows L2 Evl RZ
/-! # a sign written many times -/
section
variable {X : Cx}
def rRepS : R2 := fun x y H Q => ∃ (c : Nat) (n : Int), x = .str ⟨#[c]⟩ ∧ y = .int n ∧ 2 ≤ n ∧ n ≤ 1000 ∧ Q (.str (SX.S (List.replicate n.toNat c))) H
def CPowW (i j : Int) : Prop := 0 ≤ j ∧ (Builtin.Int.intBits i : Int) * j ≤ 2 ^ 27
/-- a power of any number -/
def oPowW : R2 := rI CPowW fun i j => .int (i ^ j.toNat)
end
section
variable {K : KF} {Ω : Om} {R : DV → Om → Prop}
end
instance : Lit "-0" [45, 48] := ⟨by decide +kernel⟩
instance : Lit "/1" [47, 49] := ⟨by decide +kernel⟩
instance : Lit "/0" [47, 48] := ⟨by decide +kernel⟩
instance : Lit "/-2" [47, 45, 50] := ⟨by decide +kernel⟩
instance : Lit "+" [43] := ⟨by decide +kernel⟩
instance : Lit "/3" [47, 51] := ⟨by decide +kernel⟩
instance : Lit "--1" [45, 45, 49] := ⟨by decide +kernel⟩
instance : Lit "1.5" [49, 46, 53] := ⟨by decide +kernel⟩
instance : Lit "a" [97] := ⟨by decide +kernel⟩
instance : Lit "0/2" [48, 47, 50] := ⟨by decide +kernel⟩
instance : Lit "1" [49] := ⟨by decide +kernel⟩
instance : Lit "-1" [45, 49] := ⟨by decide +kernel⟩
instance : Lit "1/1" [49, 47, 49] := ⟨by decide +kernel⟩
instance : Lit "1_0" [49, 95, 48] := ⟨by decide +kernel⟩
instance : Lit ";" [59] := ⟨by decide +kernel⟩
instance : Lit " 3" [32, 51] := ⟨by decide +kernel⟩
instance : Lit "- | " [45, 32, 124, 32] := ⟨by decide +kernel⟩
instance : Lit "; " [59, 32] := ⟨by decide +kernel⟩
end HL
namespace HL
open PySem PySem.Spec PyProof PyProof.Rows L2 Evl RZ
/-! # one sign of a text replaced, once; texts of rows -/
section
open Builtin Builtin.Str
def oneCut (x y z : Str) : Str := if ((occurrences x y 0 x.length 1).isEmpty || (y.length == 0 && z.length == 0)) = true then x else glued z (partsBetween x (occurrences x y 0 x.length 1) y.length)
theorem gives_cut1 (x y z : Str) (t u v c : Tok) (h0 : (u == 0 || v == 0) = false) (huv : (u == v) = false) (hyz : (y == z) = false)
    (hl : tooLong (x.length + (occurrences x y 0 x.length 1).length * z.length) = false) :
    Gives («str.replace» ⟨[.str x t, .str y u, .str z v, .int 1 c], []⟩) (if ((occurrences x y 0 x.length 1).isEmpty || (y.length == 0 && z.length == 0)) = true then .val (.str x t) else .str (glued z (partsBetween x (occurrences x y 0 x.length 1) y.length))) := by
  show Gives (if ((occurrences x y 0 x.length 1).isEmpty || (y.length == 0 && z.length == 0)) = true then (do rule "str.replace.nothing"; ret (.str x t)) else
          (do let same ← isSame (.str y u) (.str z v)
              if same = true then (do rule "str.replace.old-is-new"; ret (.str x t)) else
              if tooLong (x.length + (occurrences x y 0 x.length 1).length * z.length) = true then unsupported "str.replace:memory" else
              retStr (glued z (partsBetween x (occurrences x y 0 x.length 1) y.length)))) _
  cases hc : ((occurrences x y 0 x.length 1).isEmpty || (y.length == 0 && z.length == 0))
  · rw [isSame_str_other y z u v h0 huv hyz, hl]
    exact .of_eq rfl
  · exact .rule (.of_eq rfl)
theorem call_cut1 {prog : Program} {w : World} {A : Around} {E : Value → Shared → Prop} {s : Shared} {x y z : Str} {t u v c : Tok} {Q : Value → Shared → Prop}
    (hu : u ≠ 0) (hv : v ≠ 0) (huv : u ≠ v) (hyz : (y == z) = false) (hb : (oneCut x y z).length ≤ 16777216) (hb2 : x.length + z.length ≤ 16777216)
    (hq : ∀ t' k, Q (.str (oneCut x y z) t') { s with toks := k }) : wpAny (model prog w) A (call (.builtin "str.replace") [.str x t, .str y u, .str z v, .int 1 c]) Q E s := by
  have e : (2 : Nat) ^ 24 = 16777216 := by decide
  have hl : tooLong (x.length + (occurrences x y 0 x.length 1).length * z.length) = false := by
    have h1 := StrLaws.occ_length_le x y 0 x.length 1
    have h2 : (occurrences x y 0 x.length 1).length * z.length ≤ 1 * z.length := Nat.mul_le_mul_right _ h1
    unfold tooLong sizeLine
    exact decide_eq_false (by omega)
  refine call_gives PySem.F.slot_str_replace (typeIs_str _ _ _) PySem.F.entry_str_replace (PySem.F.args_str_replace_4 _ _ _ _)
    (gives_cut1 x y z t u v c (by simp [hu, hv]) (by simp [huv]) hyz hl) ?_
  unfold oneCut at hq hb
  cases hc : ((occurrences x y 0 x.length 1).isEmpty || (y.length == 0 && z.length == 0))
  · rw [hc] at hq hb
    simp only [Bool.false_eq_true, if_false] at hq hb ⊢
    exact ⟨by rw [sizeLine_eq]; exact hb, hq _ _⟩
  · rw [hc] at hq
    simp only [if_true] at hq ⊢
    exact hq t s.toks
theorem call_m3 {prog : Program} {w : World} {A : Around} {E : Value → Shared → Prop} {s : Shared} {env : Env} {o e₁ e₂ e₃ : Expr} {name : Str} {apos pos : Pos} {Q : Value → Shared → Prop}
    (hbase : attributeBase o name env (eval o env) = eval o env) (hs : starEach [e₁, e₂, e₃] env = [(false, eval e₁ env), (false, eval e₂ env), (false, eval e₃ env)]) (hline : (apos.endLine == pos.line) = true)
    (h : wpAny (model prog w) A (eval o env) (fun ov s₁ => MethodOnS prog w A E name ov pos [(false, eval e₁ env), (false, eval e₂ env), (false, eval e₃ env)] Q s₁) E s) :
    wpAny (model prog w) A (eval (.Call (.Attribute o name apos) [e₁, e₂, e₃] [] pos) env) Q E s := by
  refine wpAny_Call_method_lateS hbase (by rw [hs]; rfl) hline ?_
  rw [hs]; exact h
def tReplO (to : TE) (y z : Str) : TE := fun σ H Q => to σ H fun v H1 => ∃ x, v = .str x ∧ (oneCut x y z).length ≤ 16777216 ∧ x.length + z.length ≤ 16777216 ∧ Q (.str (oneCut x y z)) H1
variable {X : Cx} {o : Expr} {to : TE} {y z : Str} {j k l : Nat} {c0 c1 c2 apos pos : Pos}
theorem pet_replO (ho : PE X o to) (hyz : (y == z) = false := by decide)
    (hst : starEach [.Constant (.str y) j c0, .Constant (.str z) k c1, .Constant (.int 1) l c2] X.env = [(false, eval (.Constant (.str y) j c0) X.env), (false, eval (.Constant (.str z) k c1) X.env), (false, eval (.Constant (.int 1) l c2) X.env)] := by rfl)
    (hbase : attributeBase o "replace" X.env (eval o X.env) = eval o X.env := by rfl) (hline : (apos.endLine == pos.line) = true := by rfl) :
    PET X (.Call (.Attribute o "replace" apos) [.Constant (.str y) j c0, .Constant (.str z) k c1, .Constant (.int 1) l c2] [] pos) (tReplO to y z) := by
  intro pins s σ H Q h0 I h
  refine call_m3 hbase hst hline (wpAny_mono (PySem.wpAny_toks (ho.run pins s σ H _ I h)) (fun v s1 q => ?_) fun _ _ z => z.2)
  obtain ⟨hk, v', H1, I1, r1, x, e1, hb, hb2, q⟩ := q
  subst e1
  obtain ⟨tx, e2⟩ := r1
  subst e2
  refine ⟨"str", _, PySem.F.plainAttrs_str, PySem.F.slot_str_replace, PySem.F.type_str_replace, typeIs_str _ _ _, (fun _ e => nomatch e), Calls.callWith_builtin rfl (Calls.evalArgs_plain (Calls.spliced_cons ?_))⟩
  refine Calls.Constant_str (Calls.spliced_cons (Calls.Constant_str (Calls.spliced_cons (wpAny_Constant_int (Calls.spliced_nil ?_)))))
  exact call_cut1 (by show s1.toks ≠ 0; omega) (by show s1.toks + 1 ≠ 0; omega) (by show s1.toks ≠ s1.toks + 1; omega) hyz hb hb2 fun t' k => ⟨.str (oneCut x y z), H1, I1.tok k, ⟨t', rfl⟩, q⟩
/-- the first such sign is replaced -/
theorem cut_first {a r z : List Nat} {c : Nat} (h : c ∉ a) : oneCut (SX.S (a ++ c :: r)) (SX.S [c]) (SX.S z) = SX.S (a ++ (z ++ r)) := by
  have hlen : (SX.S (a ++ c :: r)).length = (a ++ c :: r).length := SX.S_len _
  have at_iff : ∀ i, StrLaws.At (SX.S (a ++ c :: r)) (SX.S [c]) (SX.S (a ++ c :: r)).length i ↔ (a ++ c :: r)[i]? = some c := fun i => by
    unfold StrLaws.At
    rw [StrLaws.subAt_eq]
    show _ + 1 ≤ _ ∧ ((((a ++ c :: r).drop i).take 1 == [c]) = true) ↔ _
    rw [hlen, beq_iff_eq]
    constructor
    · rintro ⟨h1, h2⟩
      have := List.drop_eq_getElem_cons (l := a ++ c :: r) (i := i) (by omega)
      rw [this] at h2
      have h2 := (List.cons.inj h2).1
      rw [List.getElem?_eq_getElem (by omega), h2]
    · intro h2
      have hi := (List.getElem?_eq_some_iff.mp h2)
      obtain ⟨hi, e⟩ := hi
      refine ⟨by omega, ?_⟩
      rw [List.drop_eq_getElem_cons hi, e]; rfl
  have hat : (a ++ c :: r)[a.length]? = some c := by simp
  have hno : ∀ i, i < a.length → (a ++ c :: r)[i]? ≠ some c := fun i hi e => by
    rw [List.getElem?_append_left hi] at e
    exact h (List.mem_of_getElem? e)
  have hoc : occurrences (SX.S (a ++ c :: r)) (SX.S [c]) 0 (SX.S (a ++ c :: r)).length 1 = [a.length] := by
    have hl := StrLaws.occ_length_le (SX.S (a ++ c :: r)) (SX.S [c]) 0 (SX.S (a ++ c :: r)).length 1
    rcases StrLaws.occ_head (SX.S (a ++ c :: r)) (SX.S [c]) 1 (Nat.le_refl _) with ⟨-, hn⟩ | ⟨i, t, e, hi, hn⟩
    · exact absurd ((at_iff _).mpr hat) (hn _)
    · rw [e] at hl ⊢
      have ht : t = [] := by
        cases t with
        | nil => rfl
        | cons b t => rw [List.length_cons, List.length_cons] at hl; omega
      have h1 := (at_iff i).mp hi
      have h2 : ¬ i < a.length := fun z => hno i z h1
      have h3 : ¬ a.length < i := fun z => hn _ z ((at_iff _).mpr hat)
      rw [ht, show i = a.length by omega]
  unfold oneCut
  rw [hoc]
  show (if (false || ((1 : Nat) == 0 && _)) = true then _ else _) = _
  rw [if_neg (by simp)]
  refine TL.ext_tl ?_
  show (glued (SX.S z) (partsBetween (SX.S (a ++ c :: r)) [a.length] 1)).cps.toList = a ++ (z ++ r)
  show ((strSub (SX.S (a ++ c :: r)) 0 a.length).cps ++ (SX.S z).cps ++ (strSub (SX.S (a ++ c :: r)) (a.length + 1) (SX.S (a ++ c :: r)).length).cps).toList = _
  rw [Array.toList_append, Array.toList_append, StrLaws.strSub_toList, StrLaws.strSub_toList, hlen]
  show (((a ++ c :: r).drop 0).take (a.length - 0)) ++ z ++ (((a ++ c :: r).drop (a.length + 1)).take ((a ++ c :: r).length - (a.length + 1))) = _
  have e1 : (a ++ c :: r).drop (a.length + 1) = r := by
    rw [List.drop_append, List.drop_of_length_le (by omega), List.nil_append, show a.length + 1 - a.length = 1 by omega]; rfl
  rw [e1, List.drop_zero, Nat.sub_zero, List.take_append_of_le_length (Nat.le_refl _), List.take_length, List.take_of_length_le (by rw [List.length_append, List.length_cons]; omega), List.append_assoc]
end
section
variable {K : KF} {W : WX} {Γ : Gm} {Ω : Om} {R : DV → Om → Prop} {X : Exc → Om → Prop} {to : TE}
theorem we_replO {s s' : String} {c : Nat} {z : List Nat} [h1 : Lit s [c]] [h2 : Lit s' z] (h : WE K W to Γ Ω (fun d Ω1 => ∃ a r, d = .d (tS (a ++ c :: r)) ∧ c ∉ a ∧ a.length + r.length + z.length ≤ 100000 ∧ R (.d (tS (a ++ (z ++ r)))) Ω1) X) : WE K W (tReplO to (Str.ofString s) (Str.ofString s')) Γ Ω R X := fun m G H σ Q cc sl k x => by
  rw [h1.eq, h2.eq]
  refine h m G H σ _ cc sl (fun m1 G1 Ω1 H1 d1 v1 c1 n1 l1 r1 ⟨a, r, e, ha, hl, q⟩ => ?_) x
  subst e
  cases r1
  refine ⟨SX.S (a ++ c :: r), rfl, ?_, ?_, ?_⟩
  · rw [cut_first ha, SX.S_len, List.length_append, List.length_append]
    omega
  · rw [SX.S_len, SX.S_len, List.length_append, List.length_cons]
    omega
  · rw [cut_first ha]
    exact k _ _ _ _ (.d (tS _)) _ c1 n1 l1 (Dp.str _) q
end
/-! ## rows in texts -/
instance : Lit "  " [32, 32] := ⟨by decide +kernel⟩
instance : Lit " 1" [32, 49] := ⟨by decide +kernel⟩
instance : Lit "; 1 2 x" [59, 32, 49, 32, 50, 32, 120] := ⟨by decide +kernel⟩
instance : Lit " 1 1" [32, 49, 32, 49] := ⟨by decide +kernel⟩
instance : Lit "\t" [9] := ⟨by decide +kernel⟩
instance : Lit "a b 1; " [97, 32, 98, 32, 49, 59, 32] := ⟨by decide +kernel⟩
instance : Lit "; 1000000 0 " [59, 32, 49, 48, 48, 48, 48, 48, 48, 32, 48, 32] := ⟨by decide +kernel⟩
instance : Lit "1001" [49, 48, 48, 49] := ⟨by decide +kernel⟩
instance : Lit "01" [48, 49] := ⟨by decide +kernel⟩
instance : Lit "1/2" [49, 47, 50] := ⟨by decide +kernel⟩
instance : Lit " 0 1" [32, 48, 32, 49] := ⟨by decide +kernel⟩
def ballW : List (List Nat) → Option Bl
  | [p, s, w] => (readT p).bind fun p => (readT s).bind fun s => (valT w).map fun w => ⟨p, s, w⟩
  | _ => none
def ballT (l : List Nat) : Option Bl := match parts [32] l with
  | [p, s, w] => (readT p).bind fun p => (readT s).bind fun s => (valT w).map fun w => ⟨p, s, w⟩
  | _ => none
theorem ballT_W (l : List Nat) : ballT l = ballW (parts [32] l) := by
  unfold ballT ballW
  split <;> rfl
def ballsT : List (List Nat) → Option (List Bl)
  | [] => some []
  | p :: r => (ballT p).bind fun b => (ballsT r).map fun bs => b :: bs
def rowT (l : List Nat) : Option (List Bl) := (ballsT (parts [59, 32] l)).bind fun bs => if isRow none none (dRow bs) = true then some bs else none
theorem ballsT_snoc (a : List Nat) : ∀ xs : List (List Nat), ballsT (xs ++ [a]) = (ballsT xs).bind fun bs => (ballT a).map fun b => bs ++ [b]
  | [] => by
    show ((ballT a).bind fun b => (ballsT []).map fun bs => b :: bs) = ((some []).bind fun bs => (ballT a).map fun b => bs ++ [b])
    cases ballT a <;> rfl
  | x :: xs => by
    show ((ballT x).bind fun b => (ballsT (xs ++ [a])).map fun bs => b :: bs) = (((ballT x).bind fun b => (ballsT xs).map fun bs => b :: bs)).bind fun bs => (ballT a).map fun b => bs ++ [b]
    rw [ballsT_snoc a xs]
    cases ballT x with
    | none => rfl
    | some b =>
      cases ballsT xs with
      | none => rfl
      | some bs =>
        show ((ballT a).map fun c => bs ++ [c]).map (fun bs => b :: bs) = (ballT a).map fun c => (b :: bs) ++ [c]
        cases ballT a <;> rfl
theorem ballsT_none {a : List Nat} (h : ballT a = none) : ∀ {xs : List (List Nat)}, a ∈ xs → ballsT xs = none
  | x :: xs, hm => by
    show ((ballT x).bind fun b => (ballsT xs).map fun bs => b :: bs) = none
    rcases List.mem_cons.mp hm with rfl | hm
    · rw [h]; rfl
    · rw [ballsT_none h hm]
      cases ballT x <;> rfl
theorem rowT_none {l a : List Nat} (h : ballT a = none) (hm : a ∈ parts [59, 32] l) : rowT l = none := by
  unfold rowT
  rw [ballsT_none h hm]; rfl
theorem ballW_some {ps : List (List Nat)} {b : Bl} (h : ballW ps = some b) : ∃ p s w, ps = [p, s, w] ∧ readT p = some b.p ∧ readT s = some b.s ∧ ∃ n : Nat, valT w = some n ∧ b.w = n := by
  match ps, h with
  | [p, s, w], h =>
    refine ⟨p, s, w, rfl, ?_⟩
    have h : ((readT p).bind fun p => (readT s).bind fun s => (valT w).map fun w => (⟨p, s, w⟩ : Bl)) = some b := h
    cases h1 : readT p with
    | none => rw [h1] at h; cases h
    | some x =>
      rw [h1] at h
      have h : ((readT s).bind fun s => (valT w).map fun w => (⟨x, s, w⟩ : Bl)) = some b := h
      cases h2 : readT s with
      | none => rw [h2] at h; cases h
      | some y =>
        rw [h2] at h
        have h : ((valT w).map fun w => (⟨x, y, w⟩ : Bl)) = some b := h
        cases h3 : valT w with
        | none => rw [h3] at h; cases h
        | some n =>
          rw [h3] at h
          cases h
          exact ⟨rfl, rfl, n, rfl, rfl⟩
theorem ballT_sz {a : List Nat} {b : Bl} (h : ballT a = some b) : Sz 1000 b.p ∧ Sz 1000 b.s ∧ b.w.natAbs < 2 ^ 1000 := by
  rw [ballT_W] at h
  obtain ⟨p, s, w, -, h1, h2, n, h3, h4⟩ := ballW_some h
  have z := (valT_some h3).2.2
  have p3 : (10 : Nat) ^ 300 < 2 ^ 1000 := by decide +kernel
  exact ⟨r300_sz (rat_read' h1).2, r300_sz (rat_read' h2).2, by rw [h4]; show (n : Int).natAbs < _; omega⟩
theorem ballsT_sz : ∀ {xs : List (List Nat)} {bs : List Bl}, ballsT xs = some bs → ∀ b ∈ bs, Sz 1000 b.p ∧ Sz 1000 b.s ∧ b.w.natAbs < 2 ^ 1000
  | [], bs, h, b, hb => by cases h; cases hb
  | x :: xs, bs, h, b, hb => by
    have h : ((ballT x).bind fun b => (ballsT xs).map fun bs => b :: bs) = some bs := h
    cases h1 : ballT x with
    | none => rw [h1] at h; cases h
    | some c =>
      rw [h1] at h
      have h : ((ballsT xs).map fun bs => c :: bs) = some bs := h
      cases h2 : ballsT xs with
      | none => rw [h2] at h; cases h
      | some cs =>
        rw [h2] at h
        cases h
        rcases List.mem_cons.mp hb with rfl | hb
        · exact ballT_sz h1
        · exact ballsT_sz h2 b hb
/-- the text of a ball, of a row -/
def ballL (b : Bl) : List Nat := ratT b.p ++ 32 :: (ratT b.s ++ 32 :: intL b.w)
def rowL (bs : List Bl) : List Nat := TL.joinL [59, 32] (bs.map ballL)
theorem ballL_join (b : Bl) : ballL b = TL.joinL [32] [ratT b.p, ratT b.s, intL b.w] := rfl
/-- a ball that can be written: figures up to three hundred -/
def B300 (b : Bl) : Prop := R300 b.p ∧ R300 b.s ∧ 0 ≤ b.w ∧ b.w.natAbs < 10 ^ 300
theorem intL_pos {i : Int} (h : 0 ≤ i) : intL i = TL.numL i.natAbs := by
  unfold intL
  rw [if_neg (by omega)]
theorem words_parts {ws : List (List Nat)} (hne : ws ≠ []) (h : ∀ p ∈ ws, 32 ∉ p) : parts [32] (TL.joinL [32] ws) = ws := SX.spl_join hne h
theorem lines_parts {ps : List (List Nat)} (hne : ps ≠ []) (h : ∀ p ∈ ps, 59 ∉ p) : parts [59, 32] (TL.joinL [59, 32] ps) = ps := SX.spl_join hne h
theorem ratT_no {q : Rat} {c : Nat} (h : c = 32 ∨ c = 59 ∨ c = 9) : c ∉ ratT q := ratT_free (by unfold RatC; omega)
theorem intL_no {i : Int} {c : Nat} (h : c = 32 ∨ c = 59 ∨ c = 9) : c ∉ intL i := fun z => by
  have := intL_c z
  unfold RatC at this
  omega
theorem ballL_c {b : Bl} {c : Nat} (h : c ∈ ballL b) : RatC c ∨ c = 32 := by
  unfold ballL at h
  rcases List.mem_append.mp h with e | e
  · exact .inl (ratT_c e)
  · rcases List.mem_cons.mp e with e | e
    · exact .inr e
    · rcases List.mem_append.mp e with e | e
      · exact .inl (ratT_c e)
      · rcases List.mem_cons.mp e with e | e
        · exact .inr e
        · exact .inl (intL_c e)
theorem ballL_no {b : Bl} : 59 ∉ ballL b := fun z => by
  have := ballL_c z
  unfold RatC at this
  omega
theorem ballT_L {b : Bl} (h : B300 b) : ballT (ballL b) = some b := by
  obtain ⟨⟨a1, a2⟩, ⟨b1, b2⟩, w0, w1⟩ := h
  rw [ballT_W, ballL_join, words_parts (by simp) (fun p hp => by
    simp only [List.mem_cons, List.not_mem_nil, or_false] at hp
    rcases hp with rfl | rfl | rfl
    · exact ratT_no (.inl rfl)
    · exact ratT_no (.inl rfl)
    · exact intL_no (.inl rfl))]
  show ((readT (ratT b.p)).bind fun p => (readT (ratT b.s)).bind fun s => (valT (intL b.w)).map fun w => (⟨p, s, w⟩ : Bl)) = some b
  rw [read_rat a1 a2, read_rat b1 b2, intL_pos w0, valT_num w1]
  show some (⟨b.p, b.s, (b.w.natAbs : Int)⟩ : Bl) = some b
  rw [Int.natAbs_of_nonneg w0]
theorem ballsT_L : ∀ {bs : List Bl}, (∀ b ∈ bs, B300 b) → ballsT (bs.map ballL) = some bs
  | [], _ => rfl
  | b :: bs, h => by
    show ((ballT (ballL b)).bind fun b => (ballsT (bs.map ballL)).map fun bs => b :: bs) = some (b :: bs)
    rw [ballT_L (h b (by simp)), ballsT_L (fun c hc => h c (List.mem_cons_of_mem _ hc))]; rfl
theorem lineparts {bs : List Bl} (hne : bs ≠ []) : parts [59, 32] (rowL bs) = bs.map ballL := lines_parts (fun e => hne (by cases bs with | nil => rfl | cons a b => cases e)) fun p hp => by
  obtain ⟨b, -, rfl⟩ := List.mem_map.mp hp
  exact ballL_no
theorem rowT_L {bs : List Bl} (hne : bs ≠ []) (h : ∀ b ∈ bs, B300 b) : rowT (rowL bs) = if isRow none none (dRow bs) = true then some bs else none := by
  unfold rowT
  rw [lineparts hne, ballsT_L h]; rfl
theorem ball_read {l : List Nat} {b : Bl} (h : ballT l = some b) : ballL b = l := by
  rw [ballT_W] at h
  obtain ⟨p, s, w, e, h1, h2, n, h3, h4⟩ := ballW_some h
  have hj := parts_join 32 l
  rw [e] at hj
  rw [ballL_join, rat_read h1, rat_read h2, h4, intL_pos (by omega), show ((n : Int)).natAbs = n by omega, (valT_some h3).2.1]
  exact hj
theorem balls_read : ∀ {xs : List (List Nat)} {bs : List Bl}, ballsT xs = some bs → bs.map ballL = xs
  | [], bs, h => by cases h; rfl
  | x :: xs, bs, h => by
    have h : ((ballT x).bind fun b => (ballsT xs).map fun bs => b :: bs) = some bs := h
    cases h1 : ballT x with
    | none => rw [h1] at h; cases h
    | some c =>
      rw [h1] at h
      have h : ((ballsT xs).map fun bs => c :: bs) = some bs := h
      cases h2 : ballsT xs with
      | none => rw [h2] at h; cases h
      | some cs =>
        rw [h2] at h
        cases h
        rw [List.map_cons, ball_read h1, balls_read h2]
theorem row_read {l : List Nat} {bs : List Bl} (h : rowT l = some bs) : rowL bs = l ∧ bs ≠ [] := by
  unfold rowT at h
  have hj := parts_joinS (S := [59, 32]) (l := l) (by decide)
  have hne : parts [59, 32] l ≠ [] := (spl_joinS (S := [59, 32]) (by decide) l 0 []).2
  cases h1 : ballsT (parts [59, 32] l) with
  | none => rw [h1] at h; cases h
  | some cs =>
    rw [h1] at h
    have h : (if isRow none none (dRow cs) = true then some cs else none) = some bs := h
    split at h
    · cases h
      have e := balls_read h1
      unfold rowL
      rw [e]
      exact ⟨hj, fun z => hne (by rw [← e, z]; rfl)⟩
    · cases h
theorem ballL_ends (b : Bl) : (∃ c r, ballL b = c :: r ∧ RatC c) ∧ (∃ r c, ballL b = r ++ [c] ∧ RatC c) := by
  constructor
  · cases h : ratT b.p with
    | nil => exact absurd h (ratT_ne _)
    | cons c r => exact ⟨c, _, by unfold ballL; rw [h]; rfl, ratT_c (q := b.p) (by rw [h]; simp)⟩
  · have hn := intL_ne b.w
    refine ⟨ratT b.p ++ 32 :: (ratT b.s ++ 32 :: (intL b.w).dropLast), (intL b.w).getLast hn, ?_, intL_c (List.getLast_mem hn)⟩
    unfold ballL
    rw [List.append_assoc, List.cons_append, List.append_assoc, List.cons_append, List.dropLast_concat_getLast hn]
theorem rowL_head {b : Bl} {bs : List Bl} : ∃ r, rowL (b :: bs) = ballL b ++ r := by
  cases bs with
  | nil => exact ⟨[], by rw [List.append_nil]; rfl⟩
  | cons c bs => exact ⟨_, rfl⟩
theorem rowL_snoc : ∀ {bs : List Bl} {b : Bl}, bs ≠ [] → rowL (bs ++ [b]) = rowL bs ++ (59 :: 32 :: ballL b)
  | [], b, h => absurd rfl h
  | [a], b, _ => rfl
  | a :: c :: bs, b, _ => by
    show ballL a ++ ([59, 32] ++ rowL (c :: (bs ++ [b]))) = (ballL a ++ ([59, 32] ++ rowL (c :: bs))) ++ _
    have := rowL_snoc (bs := c :: bs) (b := b) (by simp)
    rw [show c :: (bs ++ [b]) = (c :: bs) ++ [b] from rfl, this]
    simp
/-- a text of a row begins and ends with signs of ratios -/
theorem rowT_first {c : Nat} {r : List Nat} (h : ¬ RatC c) : rowT (c :: r) = none := by
  cases e : rowT (c :: r) with
  | none => rfl
  | some bs =>
    obtain ⟨h1, h2⟩ := row_read e
    match bs, h2 with
    | b :: bs, _ =>
      obtain ⟨t, ht⟩ := rowL_head (b := b) (bs := bs)
      obtain ⟨⟨x, y, e1, hx⟩, -⟩ := ballL_ends b
      rw [ht, e1] at h1
      cases (List.cons.inj h1).1
      exact absurd hx h
theorem rowT_last {c : Nat} {r : List Nat} (h : ¬ RatC c) : rowT (r ++ [c]) = none := by
  cases e : rowT (r ++ [c]) with
  | none => rfl
  | some bs =>
    obtain ⟨h1, h2⟩ := row_read e
    obtain ⟨cs, b, rfl⟩ : ∃ cs b, bs = cs ++ [b] := ⟨bs.dropLast, bs.getLast h2, (List.dropLast_concat_getLast h2).symm⟩
    obtain ⟨-, x, y, e1, hx⟩ := ballL_ends b
    have : rowL (cs ++ [b]) = (rowL (cs ++ [b])).dropLast ++ [y] := by
      by_cases hc : cs = []
      · subst hc
        show ballL b = (ballL b).dropLast ++ [y]
        rw [e1]; simp
      · rw [rowL_snoc hc, e1]
        have e2 : rowL cs ++ 59 :: 32 :: (x ++ [y]) = (rowL cs ++ 59 :: 32 :: x) ++ [y] := by simp
        rw [e2, List.dropLast_concat]
    rw [this] at h1
    have := (List.append_inj' h1 rfl).2
    cases this
    exact absurd hx h
/-- what stands between two signs is no ball -/
theorem rowT_piece {ps : List (List Nat)} {a : List Nat} (h : ∀ p ∈ ps, 59 ∉ p) (ha : a ∈ ps) (hb : ballT a = none) : rowT (TL.joinL [59, 32] ps) = none :=
  rowT_none hb (by rw [lines_parts (fun e => by rw [e] at ha; cases ha) h]; exact ha)
theorem joinL_snoc {S : List Nat} : ∀ {ps : List (List Nat)} {a : List Nat}, ps ≠ [] → TL.joinL S (ps ++ [a]) = TL.joinL S ps ++ (S ++ a)
  | [], a, h => absurd rfl h
  | [p], a, _ => rfl
  | p :: q :: ps, a, _ => by
    show p ++ (S ++ TL.joinL S (q :: (ps ++ [a]))) = (p ++ (S ++ TL.joinL S (q :: ps))) ++ (S ++ a)
    have := joinL_snoc (S := S) (ps := q :: ps) (a := a) (by simp)
    rw [show q :: (ps ++ [a]) = (q :: ps) ++ [a] from rfl, this]
    simp
/-- a row and one word more behind it, that is no ball -/
theorem rowT_more {bs : List Bl} {a : List Nat} (hne : bs ≠ []) (h : 59 ∉ a) (hb : ballT a = none) : rowT (rowL bs ++ (59 :: 32 :: a)) = none := by
  have e : rowL bs ++ (59 :: 32 :: a) = TL.joinL [59, 32] (bs.map ballL ++ [a]) := by
    rw [joinL_snoc (fun e => hne (by cases bs with | nil => rfl | cons a b => cases e))]; rfl
  rw [e]
  refine rowT_piece (fun p hp => ?_) (List.mem_append_right _ (List.mem_singleton.mpr rfl)) hb
  rcases List.mem_append.mp hp with hp | hp
  · obtain ⟨b, -, rfl⟩ := List.mem_map.mp hp
    exact ballL_no
  · rw [List.mem_singleton.mp hp]; exact h
/-- a row and a ball behind it that makes no row -/
theorem rowT_add {bs : List Bl} {b : Bl} (hne : bs ≠ []) (h : ∀ c ∈ bs, B300 c) (hb : B300 b) (hn : isRow none none (dRow (bs ++ [b])) = false) : rowT (rowL bs ++ (59 :: 32 :: ballL b)) = none := by
  rw [← rowL_snoc hne, rowT_L (by simp) (fun c hc => by
    rcases List.mem_append.mp hc with hc | hc
    · exact h c hc
    · rw [List.mem_singleton.mp hc]; exact hb), hn]
  rfl
/-- the first ball otherwise -/
theorem rowT_first_ball {b : Bl} {bs : List Bl} {a : List Nat} (h : 59 ∉ a) (hb : ballT a = none) : rowT (TL.joinL [59, 32] (a :: bs.map ballL)) = none :=
  rowT_piece (fun p hp => by
    rcases List.mem_cons.mp hp with rfl | hp
    · exact h
    · obtain ⟨b, -, rfl⟩ := List.mem_map.mp hp
      exact ballL_no) (by simp) hb
theorem ballT_words {ws : List (List Nat)} (hne : ws ≠ []) (h : ∀ p ∈ ws, 32 ∉ p) : ballT (TL.joinL [32] ws) = ballW ws := by
  rw [ballT_W, words_parts hne h]
theorem ballW_no {ws : List (List Nat)} (h : ws.length ≠ 3) : ballW ws = none := by
  match ws, h with
  | [], _ => rfl
  | [_], _ => rfl
  | [_, _], _ => rfl
  | [_, _, _], h => exact absurd rfl h
  | _ :: _ :: _ :: _ :: _, _ => rfl
def dRo : Option (List Bl) → PyData
  | none => .none
  | some x => dRow x
theorem shp_dRo (x : Option (List Bl)) : Shp 64 (dRo x) := by
  cases x with
  | none => exact shp_none
  | some x => exact shp_dRow x
/-- what the balls read so far must be -/
def Pre (bs : List Bl) : Prop := bs.length ≤ 8 ∧ (∀ b ∈ bs, 1 ≤ b.w ∧ b.w ≤ 1000) ∧ Nb mayB bs = true
theorem Pre.nil : Pre [] := ⟨by decide, fun b h => (by cases h), rfl⟩
theorem nb_app {α : Type} {f : α → α → Bool} : ∀ {l r : List α}, Nb f (l ++ r) = true → Nb f l = true
  | [], _, _ => rfl
  | [_], _, _ => rfl
  | a :: b :: l, r, h => by
    have h : (f a b && Nb f ((b :: l) ++ r)) = true := h
    obtain ⟨h1, h2⟩ := Bool.and_eq_true_iff.mp h
    show (f a b && Nb f (b :: l)) = true
    rw [h1, nb_app h2]; rfl
theorem Pre.left {a b : List Bl} (h : Pre (a ++ b)) : Pre a := ⟨by have := h.1; rw [List.length_append] at this; omega, fun c hc => h.2.1 c (List.mem_append_left _ hc), nb_app h.2.2⟩
theorem ballsT_app : ∀ {xs ys : List (List Nat)} {bs : List Bl}, ballsT (xs ++ ys) = some bs → ∃ as cs, ballsT xs = some as ∧ bs = as ++ cs
  | [], ys, bs, h => ⟨[], bs, rfl, rfl⟩
  | x :: xs, ys, bs, h => by
    have h : ((ballT x).bind fun b => (ballsT (xs ++ ys)).map fun bs => b :: bs) = some bs := h
    cases h1 : ballT x with
    | none => rw [h1] at h; cases h
    | some c =>
      rw [h1] at h
      have h : ((ballsT (xs ++ ys)).map fun bs => c :: bs) = some bs := h
      cases h2 : ballsT (xs ++ ys) with
      | none => rw [h2] at h; cases h
      | some cs =>
        rw [h2] at h
        cases h
        obtain ⟨as, ds, e1, e2⟩ := ballsT_app h2
        refine ⟨c :: as, ds, ?_, by rw [e2]; rfl⟩
        show ((ballT x).bind fun b => (ballsT xs).map fun bs => b :: bs) = _
        rw [h1, e1]; rfl
theorem isRow_pre {bs : List Bl} (h : isRow none none (dRow bs) = true) : Pre bs ∧ bs ≠ [] := by
  have h : ((decide (1 ≤ (bs.map dB).length) && decide ((bs.map dB).length ≤ 8)) && ((bs.map dB).all isBall && (Nb mayB ((bs.map dB).map ballOf) && (lowOk none ((bs.map dB).map ballOf) && highOk none ((bs.map dB).map ballOf))))) = true := h
  obtain ⟨h1, h2⟩ := Bool.and_eq_true_iff.mp h
  obtain ⟨h3, h4⟩ := Bool.and_eq_true_iff.mp h2
  obtain ⟨h5, -⟩ := Bool.and_eq_true_iff.mp h4
  obtain ⟨h6, h7⟩ := Bool.and_eq_true_iff.mp h1
  obtain ⟨e, hw⟩ := balls_eq h3
  have hm : (bs.map dB).map ballOf = bs := by
    have : ∀ {a b : List Bl}, a.map dB = b.map dB → a = b := fun {a b} h => by
      have := eqvI_dRow a b
      have e : dRow a = dRow b := by show PyData.tuple _ = PyData.tuple _; rw [h]
      rw [e, eqvI_dRow b b] at this
      simpa using this.symm
    exact (this e).symm
  rw [hm] at hw h5
  rw [List.length_map] at h6 h7
  exact ⟨⟨of_decide_eq_true h7, hw, h5⟩, fun z => by rw [z] at h6; cases h6⟩
theorem rowT_pre {l : List Nat} {i : Nat} {cs : List Bl} (h : ballsT ((parts [59, 32] l).take i) = some cs) (hp : ¬ Pre cs) : rowT l = none := by
  unfold rowT
  cases h1 : ballsT (parts [59, 32] l) with
  | none => rfl
  | some bs =>
    show (if isRow none none (dRow bs) = true then some bs else none) = none
    by_cases hr : isRow none none (dRow bs) = true
    · exfalso
      rw [← List.take_append_drop i (parts [59, 32] l)] at h1
      obtain ⟨as, ds, e1, e2⟩ := ballsT_app h1
      rw [h] at e1
      cases e1
      have := (isRow_pre hr).1
      rw [e2] at this
      exact hp this.left
    · rw [if_neg hr]
theorem isRow_of_pre {bs : List Bl} (h : Pre bs) (hne : bs ≠ []) : isRow none none (dRow bs) = true := by
  rw [isRow_of hne h.1 h.2.1 h.2.2]; rfl
theorem rowT_done {l : List Nat} {bs : List Bl} (h : ballsT (parts [59, 32] l) = some bs) (hp : Pre bs) : rowT l = some bs := by
  have hne : bs ≠ [] := fun z => by
    subst z
    have := balls_read h
    exact (spl_joinS (S := [59, 32]) (by decide) l 0 []).2 this.symm
  unfold rowT
  rw [h]
  show (if isRow none none (dRow bs) = true then some bs else none) = _
  rw [if_pos (isRow_of_pre hp hne)]
end HL
namespace HL
open PySem PySem.Spec PyProof.Rows L2 Evl
theorem walk_ofW {l : PySem.W.OpenLaw} {n k : Nat} {q : Program} {loose : List Str} {XP : (Str → Option Value) → Heap → Prop} {YP : World → Heap → Prop} {d : DefRec} {CX : World → CXT} {x : Str}
    (hn : l.most = some n) (hn2 : n ≤ sizeLine) (hdf : d.params.defaults = []) (hr : Room k callerA)
    (F : ∀ (w : World) (mg : Str → Option Value) (fa : Addr) (h : Heap), YP w h → h.Ns mainGlobals mg → mg d.name = some (.ref fa) →
      ∃ (K : PySem.W.Frag) (fd : FuncData) (sp : Sp), K.In h ∧ (∀ (s : Shared) (u : Value), BindsTo s fd ⟨[u], []⟩ [(x, u)]) ∧
        (∀ (H : Hp) (a : Addr) (ns : List Int), ns.length ≤ n → L2.Only H → SqL K H a (ns.map V.int) → sp [.ref a] H (fun v _ => v = .bl true) fun _ _ _ => False) ∧
        ∀ base : Heap, K.In base → base.Ns mainGlobals mg → FnOk l.prog w K mg base (CX w) k fa fd [x] sp)
    (hCX : ∀ (w : World) (H : Hp) (s : Shared) (e : Value) (s' : Shared), CX w [] H s (fun _ _ _ => False) e s' → False) :
    PySem.W.WalkO q loose XP YP l.row.toRowW d [] (fun f vs => PySem.call f vs) := by
  refine Att.attach_call hn hdf fun w s₀ s₁ mg mb fa o pm cd doc a vs ns G Y ho hd hcd hmg hobj hints hlen hg => ?_
  obtain ⟨K, fd, sp, KX, hb, hsp, hF⟩ := F w mg fa _ Y G.T.g hmg
  exact law_call KX G.T.g G.T.b G.T.builtins G.T.nolimit hg hobj hints (Nat.le_trans hlen hn2) hr hF hb (fun H hO hS => hsp H a ns hlen hO hS) fun H e s' => hCX w H s₁ e s'
theorem cx_no {P : Program} {w : World} {H : Hp} {s : Shared} {e : Value} {s' : Shared} (h : L2.CX P w [] H s (fun _ _ _ => False) e s') : False := by
  obtain ⟨_, _, _, _, _, _, _, _, _, _, _, _, z⟩ := h
  exact z
theorem dps_of_ints {K : KF} {G : Hp} : ∀ ns : List Int, DpAll K G (ns.map V.int) (ns.map PyData.int)
  | [] => .nil
  | n :: ns => .cons (.int n) (dps_of_ints ns)
theorem law_start {K : KF} {spec : Spec} {H : Hp} {a : Addr} {ns : List Int} (hS : SqL K H a (ns.map V.int)) (h : spec [.d (.list (ns.map PyData.int))] [] (fun d _ => d = .d (.bool true)) (fun _ _ => False)) :
    FS K spec [.ref a] H (fun v _ => v = .bl true) fun _ _ _ => False := by
  refine ⟨fun _ => 0, H, [], [.d (.list (ns.map PyData.int))], _, _, ⟨Ex.refl H, fun i c e => by simp at e, fun i j ci cj e => by simp at e⟩, .cons (Dp.lst hS (dps_of_ints ns)) .nil, h, fun m' G' Ω' H' d v _ _ _ r q => ?_, fun _ _ _ _ _ _ _ _ _ _ _ z => z⟩
  subst q
  cases r
  rfl
end HL
namespace HL
open PySem PySem.Spec PyProof.Rows L2 Evl RZ
local macro_rules | `(tactic| walk_at "hl1") => `(tactic| first
  | with_reducible refine ws_seq ?_
  | with_reducible refine ws_asgL ?_
  | with_reducible refine ws_asg ?_
  | with_reducible refine ws_if ?_
  | with_reducible refine ws_ret ?_
  | with_reducible refine ws_drop ?_
  | with_reducible refine ws_par ?_
  | with_reducible refine we_int ?_
  | with_reducible refine we_bl ?_
  | with_reducible refine we_str ?_
  | with_reducible refine we_non ?_
  | with_reducible refine we_ty ?_
  | with_reducible refine we_ref ?_
  | with_reducible refine we_op ?_
  | with_reducible refine we_un ?_
  | with_reducible refine we_if ?_
  | with_reducible refine we_cb ?_
  | with_reducible refine we_call ?_
  | with_reducible refine we_callS ?_
  | with_reducible refine we_tup ?_
  | with_reducible refine we_lstD ?_
  | with_reducible refine we_chain ?_
  | with_reducible refine we_sl ?_
  | with_reducible refine wo_none ?_
  | with_reducible refine wo_some ?_
  | with_reducible refine wa_nil ?_
  | with_reducible refine wa_cons ?_
  | with_reducible refine wt_test ?_
  | with_reducible refine wt_B ?_
  | with_reducible refine wt_and ?_
  | with_reducible refine wt_or ?_
  | with_reducible refine wt_not ?_
  | with_reducible refine wt_yes ?_
  | with_reducible refine we_andV ?_
  | with_reducible refine we_orV ?_
  | with_reducible refine we_notV ?_
  | with_reducible refine wg_name ?_
  | with_reducible refine wgs_nil ?_
  | with_reducible refine wgs_cons ?_
  | with_reducible refine wr_sub ?_
  | with_reducible refine wr_addI ?_
  | with_reducible refine wr_lt ?_
  | with_reducible refine wr_le ?_
  | with_reducible refine wr_gt ?_
  | with_reducible refine wr_ge ?_
  | with_reducible refine wu_neg ?_
  | with_reducible refine wr_ixR0 ?_
  | with_reducible refine wr_eqR ?_
  | with_reducible refine wr_neR ?_
  | with_reducible refine wr_eqI ?_
  | with_reducible refine wr_neI ?_
  | with_reducible refine wr_eqB ?_
  | with_reducible refine wr_neB ?_
  | with_reducible refine wr_ixR1 ?_
  | ((with_reducible refine' wr_mul ?h1 ?_); (case h1 => first | exact .inr (by assumption) | exact .inl (.inl ⟨by decide, by decide⟩) | exact .inl (.inr ⟨by decide, by decide⟩) | assumption))
  | with_reducible refine wc_abs' ?_
  | with_reducible refine wc_max' ?_
  | with_reducible refine wc_min' ?_
  | with_reducible refine wc_intI' ?_
  | with_reducible refine wc_intB' ?_
  | with_reducible refine wsl_T ?_
  | with_reducible refine ex_b ?_
  | with_reducible refine ex_i ?_
  | with_reducible refine ex_p ?_
  | with_reducible refine ws_next ?_
  | with_reducible refine ws_rs ?_
  | with_reducible refine ws_retN ?_
  | with_reducible refine we_bm ?_
  | with_reducible refine we_bm0 ?_
  | ((with_reducible refine' we_var ?h1 ?_); (case h1 => rfl))
  | ((with_reducible refine' wg_tup ?h1 ?_); (case h1 => rfl))
  | ((with_reducible refine' wr_isN' ?h1 ?_); (case h1 => rfl))
  | ((with_reducible refine' wr_notN' ?h1 ?_); (case h1 => rfl))
  | ((with_reducible refine' wr_ixT ?h1 ?_); (case h1 => rfl))
  | ((with_reducible refine' wr_ixL ?h1 ?_); (case h1 => rfl))
  | ((with_reducible refine' wc_len' ?h1 ?_); (case h1 => rfl))
  | ((with_reducible refine' wc_isInt ?h1 ?h2 ?_); (case h1 => rfl); (case h2 => first | rfl | assumption))
  | ((with_reducible refine' wc_isBool ?h1 ?h2 ?_); (case h1 => rfl); (case h2 => first | rfl | assumption))
  | ((with_reducible refine' wc_isTuple ?h1 ?h2 ?_); (case h1 => rfl); (case h2 => first | rfl | assumption))
  | ((with_reducible refine' wc_isStr ?h1 ?h2 ?_); (case h1 => rfl); (case h2 => first | rfl | assumption))
  | ((with_reducible refine' wc_isList ?h1 ?h2 ?_); (case h1 => rfl); (case h2 => first | rfl | assumption))
  | ((with_reducible refine' ex_as ?h1 ?h2 ?_); (case h1 => rfl); (case h2 => exact Nat.le_of_ble_eq_true rfl)))
local macro_rules | `(tactic| walk_at "hl") => `(tactic| repeat walk_at "hl1")
local macro_rules | `(tactic| walk_at "hl1") => `(tactic| first
  | with_reducible refine wu_revT ?_
  | with_reducible refine wr_ixB0 ?_
  | with_reducible refine wg_tupS ?_
  | with_reducible refine wr_ixS0 ?_
  | with_reducible refine wr_ixS1 ?_
  | with_reducible refine wr_isNO ?_
  | with_reducible refine wr_notNO ?_
  | ((with_reducible refine' we_one ?h1 ?_); (case h1 => assumption))
  | with_reducible refine wr_isB ?_
  | with_reducible refine wr_isnB ?_
  | with_reducible refine wr_ixD0 ?_
  | with_reducible refine wr_ixD1 ?_
  | with_reducible refine wr_ixD2 ?_
  | with_reducible refine wr_ixD3 ?_
  | with_reducible refine wg_tupD ?_
  | with_reducible refine we_lstO' ?_
  | with_reducible refine wsl_B ?_
  | ((with_reducible refine' wc_listD' ?h1 ?_); (case h1 => rfl))
  | ((with_reducible refine' ex_len ?h1 ?_); (case h1 => exact Nat.le_of_ble_eq_true rfl))
  | with_reducible refine wr_ixRW0 ?_
  | with_reducible refine wr_ixRW1 ?_
  | with_reducible refine wg_tupRW ?_
  | with_reducible refine wg_tup2 ?_
  | with_reducible refine wg_tup3 ?_
  | with_reducible refine wg_tup4 ?_
  | ((with_reducible refine' we_nought ?h1 ?_); (case h1 => assumption))
  | with_reducible refine wsl_Row ?_
  | with_reducible refine wr_ixW0 ?_
  | with_reducible refine wr_ixW1 ?_
  | with_reducible refine wr_isNW ?_
  | with_reducible refine wr_notNW ?_
  | with_reducible refine wg_tupW ?_
  | with_reducible refine wr_ixw0 ?_
  | with_reducible refine wr_ixw1 ?_
  | with_reducible refine wu_revRow ?_
  | with_reducible refine wg_tupR ?_
  | with_reducible refine wg_tupB ?_
  | with_reducible refine wr_ixB1 ?_
  | with_reducible refine wr_ixB2 ?_
  | with_reducible refine we_un ?_)
local macro_rules | `(tactic| walk_at "hl1") => `(tactic| first
  | with_reducible refine we_strL ?_
  | with_reducible refine we_bmS ?_
  | with_reducible refine ex_str ?_
  | with_reducible refine wr_inT ?_
  | ((with_reducible refine' wr_eqT ?h1 ?h2 ?_); (case h1 => first | assumption | decide); (case h2 => first | assumption | decide))
  | ((with_reducible refine' wr_neT ?h1 ?h2 ?_); (case h1 => first | assumption | decide); (case h2 => first | assumption | decide))
  | ((with_reducible refine' wc_lenT ?h1 ?_); (case h1 => (first | assumption | omega | (simp only [List.length_append, List.length_cons, List.length_nil]; omega) | (simp; omega))))
  | ((with_reducible refine' wr_addT' ?h1 ?_); (case h1 => (first | assumption | omega | (simp only [List.length_append, List.length_cons, List.length_nil]; omega) | (simp; omega))))
  | ((with_reducible refine' wsl_from ?h1 ?h2 ?_); (case h1 => first | decide | assumption | omega); (case h2 => (first | assumption | omega | (simp only [List.length_append, List.length_cons, List.length_nil]; omega) | (simp; omega))))
  | ((with_reducible refine' wsl_to ?h1 ?h2 ?_); (case h1 => first | decide | assumption | omega); (case h2 => (first | assumption | omega | (simp only [List.length_append, List.length_cons, List.length_nil]; omega) | (simp; omega))))
  | ((with_reducible refine' wm_split ?h1 ?h2 ?h3 ?_); (case h1 => decide); (case h2 => decide); (case h3 => (first | assumption | omega | (simp only [List.length_append, List.length_cons, List.length_nil]; omega) | (simp; omega))))
  | ((with_reducible refine' wm_splitO ?h1 ?h2 ?h3 ?_); (case h1 => decide); (case h2 => decide); (case h3 => (first | assumption | omega | (simp only [List.length_append, List.length_cons, List.length_nil]; omega) | (simp; omega)))))
def sp_law_common (K : KF) : Spec := fun ds Ω R X => ∃ a b : Int, ds = [.d (.int a), .d (.int b)] ∧ 0 ≤ a ∧ 0 ≤ b ∧ R (.d (.int (Int.gcd a b))) Ω
def t_law_common (K : KF) (W : WX) : TS :=
  (tSeq (tWhile (tTest (tOp (rNeD K) (tVar 1) (tC (.int 0)))) (tPar 0 1 (tCons (tVar 1) (tCons (tOp oMod (tVar 0) (tVar 1)) tNil))))
    (tRet (tVar 0)))
theorem w_law_common {K : KF} (W : WX) (ds : List DV) (Ω : Om) (R : DV → Om → Prop) (X : Exc → Om → Prop) (h : sp_law_common K ds Ω R X) : WS K W (t_law_common K W) (startG 2 ds) Ω (fnO Ω R X) := by
  obtain ⟨a, b, rfl, ha, hb, q⟩ := h
  show WS K W (t_law_common K W) [some (.d (.int a)), some (.d (.int b))] Ω _
  unfold t_law_common
  refine ws_seq (ws_while (fun n Γ Ω1 => ∃ c d : Int, Γ = [some (.d (.int c)), some (.d (.int d))] ∧ Ω1 = Ω ∧ Int.gcd c d = Int.gcd a b ∧ 0 ≤ c ∧ 0 ≤ d ∧ d.natAbs = n) b.natAbs ⟨a, b, rfl, rfl, rfl, ha, hb, rfl⟩ ?_)
  rintro n Γ Ω1 - ⟨c, d, rfl, rfl, hg, h0, h1, rfl⟩
  walk_at "hl"
  refine ⟨fun hd => ?_, fun hd => ?_⟩
  · have hd : d ≠ 0 := by simpa using hd
    walk_at "hl"
    refine wr_mod hd ?_
    walk_at "hl"
    exact ⟨_, fmod_natAbs_lt hd, d, _, rfl, rfl, (gcd_fmod c d).trans hg, h1, Int.fmod_nonneg_of_pos c (by omega), rfl⟩
  · have hd : d = 0 := by simpa using hd
    subst hd
    have hc : c = (Int.gcd a b : Int) := by rw [← hg, Int.gcd_zero_right]; omega
    walk_at "hl"
    rw [hc]
    exact dr_same q
theorem sp_len_law_common {K : KF} (ds : List DV) (Ω : Om) (R : DV → Om → Prop) (X : Exc → Om → Prop) (h : sp_law_common K ds Ω R X) : ds.length = 2 := by
  unfold sp_law_common at h
  first
    | (obtain ⟨rfl, _⟩ := h; rfl)
    | (obtain ⟨_, rfl, _⟩ := h; rfl)
    | (obtain ⟨_, _, rfl, _⟩ := h; rfl)
    | (obtain ⟨_, _, _, rfl, _⟩ := h; rfl)
    | (obtain ⟨_, _, _, _, rfl, _⟩ := h; rfl)
    | (obtain ⟨_, _, _, _, _, rfl, _⟩ := h; rfl)
    | (obtain ⟨_, _, _, _, _, _, rfl, _⟩ := h; rfl)
    | (obtain ⟨_, _, _, _, _, _, _, rfl, _⟩ := h; rfl)
    | (obtain ⟨_, _, _, _, _, _, _, _, rfl, _⟩ := h; rfl)
    | (obtain ⟨_, _, _, _, _, _, _, _, _, rfl, _⟩ := h; rfl)
    | (obtain ⟨_, _, _, _, _, _, _, _, _, _, rfl, _⟩ := h; rfl)
    | (obtain ⟨_, _, _, _, _, _, _, _, _, _, _, rfl, _⟩ := h; rfl)
    | (obtain ⟨_, _, _, _, _, _, _, _, _, _, _, _, rfl, _⟩ := h; rfl)
    | (obtain ⟨_, _, _, _, _, _, _, _, _, _, _, _, _, rfl, _⟩ := h; rfl)
    | (obtain ⟨_, _, _, _, _, _, _, _, _, _, _, _, _, rfl, _⟩ := h; rfl)
    | (obtain ⟨_, _, _, _, _, _, _, _, _, _, _, _, _, _, rfl, _⟩ := h; rfl)
    | (obtain ⟨_, _, _, _, _, _, _, _, _, _, _, _, _, _, _, rfl, _⟩ := h; rfl)
    | (obtain ⟨_, _, _, _, _, _, _, _, _, _, _, _, _, _, _, _, rfl, _⟩ := h; rfl)
    | (obtain ⟨_, _, _, _, _, _, _, _, _, _, _, _, _, _, _, _, _, rfl, _⟩ := h; rfl)
    | (obtain ⟨_, _, _, _, _, _, _, _, _, _, _, _, _, _, _, _, _, _, rfl, _⟩ := h; rfl)
    | (obtain ⟨_, _, _, _, _, _, _, _, _, _, _, _, _, _, _, _, _, _, _, rfl, _⟩ := h; rfl)
    | (obtain ⟨_, _, _, _, _, _, _, _, _, _, _, _, _, _, _, _, _, _, _, _, rfl, _⟩ := h; rfl)
    | (obtain ⟨_, _, _, _, _, _, _, _, _, _, _, _, _, _, _, _, _, _, _, _, _, rfl, _⟩ := h; rfl)
def sp_law_low (K : KF) : Spec := fun ds Ω R X => ∃ a b : Int, ds = [.d (.int a), .d (.int b)] ∧ b ≠ 0 ∧ (∃ k, b.natAbs < 2 ^ k ∧ k ≤ 8990) ∧ R (.d (dR (Rat.divInt a b))) Ω
def t_law_low (K : KF) (W : WX) : TS :=
  (tSeq (tIfS (tTest (tOp oLt (tVar 1) (tC (.int 0)))) (tSeq (tAsg (tOp oSub (tC (.int 0)) (tVar 0)) (gName 0))
    (tAsg (tOp oSub (tC (.int 0)) (tVar 1)) (gName 1))) tNext)
    (tSeq (tAsg (tCall (FS K (sp_law_common K)) [] E0 (tCons (tCB rAbsI (tCons (tVar 0) tNil)) (tCons (tVar 1) tNil))) (gName 2))
    (tRet (tTup (tCons (tOp oFdiv (tVar 0) (tVar 2)) (tCons (tOp oFdiv (tVar 1) (tVar 2)) tNil))))))
theorem w_law_low {K : KF} (W : WX) (ds : List DV) (Ω : Om) (R : DV → Om → Prop) (X : Exc → Om → Prop) (h : sp_law_low K ds Ω R X) : WS K W (t_law_low K W) (startG 3 ds) Ω (fnO Ω R X) := by
  obtain ⟨a, b, rfl, hb, ⟨k, hk, hk2⟩, q⟩ := h
  show WS K W (t_law_low K W) [some (.d (.int a)), some (.d (.int b)), none] Ω _
  unfold t_law_low
  have eby : ∀ x y : Int, 0 < y → ((Int.gcd (x.natAbs : Int) y : Nat) : Int) = byOf x y := fun x y h => by
    unfold byOf
    rw [if_neg (by omega)]
    simp [Int.gcd]
  walk_at "hl"
  refine ⟨fun h => ?_, fun h => ?_⟩
  case' refine_1 =>
    have h := of_decide_eq_true h
    walk_at "hl"
    obtain ⟨a', ea⟩ : ∃ a' : Int, 0 - a = a' := ⟨_, rfl⟩
    obtain ⟨b', eb⟩ : ∃ b' : Int, 0 - b = b' := ⟨_, rfl⟩
    rw [ea, eb]
    have hb' : 0 < b' := by omega
    have hk' : b'.natAbs < 2 ^ k := by omega
    have q' : R (.d (dR (Rat.divInt a' b'))) Ω := by
      have e : Rat.divInt a' b' = Rat.divInt a b := by
        rw [← ea, ← eb, Int.zero_sub, Int.zero_sub]
        exact Rat.neg_divInt_neg a b
      rw [e]; exact q
  case' refine_2 =>
    have h := of_decide_eq_false h
    walk_at "hl"
    obtain ⟨a', ea⟩ : ∃ a' : Int, a = a' := ⟨_, rfl⟩
    obtain ⟨b', eb⟩ : ∃ b' : Int, b = b' := ⟨_, rfl⟩
    have hb' : 0 < b' := by omega
    have hk' : b'.natAbs < 2 ^ k := by omega
    have q' : R (.d (dR (Rat.divInt a' b'))) Ω := by rw [← ea, ← eb]; exact q
    subst ea eb
  all_goals (
    rw [dR_eq (by omega)] at q'
    rw [abs_if]
    refine ⟨_, _, rfl, by omega, by omega, ?_⟩
    walk_at "hl"
    rw [eby _ _ hb']
    refine wr_fdiv (cdiv_by (by omega) hk' hk2) ?_
    walk_at "hl"
    refine wr_fdiv (cdiv_by (by omega) hk' hk2) ?_
    walk_at "hl"
    exact dr_same q')
theorem sp_len_law_low {K : KF} (ds : List DV) (Ω : Om) (R : DV → Om → Prop) (X : Exc → Om → Prop) (h : sp_law_low K ds Ω R X) : ds.length = 2 := by
  unfold sp_law_low at h
  first
    | (obtain ⟨rfl, _⟩ := h; rfl)
    | (obtain ⟨_, rfl, _⟩ := h; rfl)
    | (obtain ⟨_, _, rfl, _⟩ := h; rfl)
    | (obtain ⟨_, _, _, rfl, _⟩ := h; rfl)
    | (obtain ⟨_, _, _, _, rfl, _⟩ := h; rfl)
    | (obtain ⟨_, _, _, _, _, rfl, _⟩ := h; rfl)
    | (obtain ⟨_, _, _, _, _, _, rfl, _⟩ := h; rfl)
    | (obtain ⟨_, _, _, _, _, _, _, rfl, _⟩ := h; rfl)
    | (obtain ⟨_, _, _, _, _, _, _, _, rfl, _⟩ := h; rfl)
    | (obtain ⟨_, _, _, _, _, _, _, _, _, rfl, _⟩ := h; rfl)
    | (obtain ⟨_, _, _, _, _, _, _, _, _, _, rfl, _⟩ := h; rfl)
    | (obtain ⟨_, _, _, _, _, _, _, _, _, _, _, rfl, _⟩ := h; rfl)
    | (obtain ⟨_, _, _, _, _, _, _, _, _, _, _, _, rfl, _⟩ := h; rfl)
    | (obtain ⟨_, _, _, _, _, _, _, _, _, _, _, _, _, rfl, _⟩ := h; rfl)
    | (obtain ⟨_, _, _, _, _, _, _, _, _, _, _, _, _, rfl, _⟩ := h; rfl)
    | (obtain ⟨_, _, _, _, _, _, _, _, _, _, _, _, _, _, rfl, _⟩ := h; rfl)
    | (obtain ⟨_, _, _, _, _, _, _, _, _, _, _, _, _, _, _, rfl, _⟩ := h; rfl)
    | (obtain ⟨_, _, _, _, _, _, _, _, _, _, _, _, _, _, _, _, rfl, _⟩ := h; rfl)
    | (obtain ⟨_, _, _, _, _, _, _, _, _, _, _, _, _, _, _, _, _, rfl, _⟩ := h; rfl)
    | (obtain ⟨_, _, _, _, _, _, _, _, _, _, _, _, _, _, _, _, _, _, rfl, _⟩ := h; rfl)
    | (obtain ⟨_, _, _, _, _, _, _, _, _, _, _, _, _, _, _, _, _, _, _, rfl, _⟩ := h; rfl)
    | (obtain ⟨_, _, _, _, _, _, _, _, _, _, _, _, _, _, _, _, _, _, _, _, rfl, _⟩ := h; rfl)
    | (obtain ⟨_, _, _, _, _, _, _, _, _, _, _, _, _, _, _, _, _, _, _, _, _, rfl, _⟩ := h; rfl)
def sp_law_gap (K : KF) : Spec := fun ds Ω R X => ∃ p q : Rat, ds = [.d (dR p), .d (dR q)] ∧ Sz2 p q ∧ R (.d (dR (p - q))) Ω
def t_law_gap (K : KF) (W : WX) : TS :=
  (tRet (tCall (FS K (sp_law_low K)) [] E0 (tCons (tOp oSub (tOp oMul (tOp (rIx K) (tVar 0) (tC (.int 0))) (tOp (rIx K) (tVar 1) (tC (.int 1)))) (tOp oMul (tOp (rIx K) (tVar 1) (tC (.int 0))) (tOp (rIx K) (tVar 0) (tC (.int 1))))) (tCons (tOp oMul (tOp (rIx K) (tVar 0) (tC (.int 1))) (tOp (rIx K) (tVar 1) (tC (.int 1)))) tNil))))
theorem w_law_gap {K : KF} (W : WX) (ds : List DV) (Ω : Om) (R : DV → Om → Prop) (X : Exc → Om → Prop) (h : sp_law_gap K ds Ω R X) : WS K W (t_law_gap K W) (startG 2 ds) Ω (fnO Ω R X) := by
  obtain ⟨p, q, rfl, ⟨n, m, hp, hq, hz⟩, k⟩ := h
  show WS K W (t_law_gap K W) [some (.d (dR p)), some (.d (dR q))] Ω _
  unfold t_law_gap
  obtain ⟨nn, nd, dn, dd⟩ := muls hp hq (by omega)
  obtain ⟨nn', nd', dn', dd'⟩ := muls hq hp (by omega)
  walk_at "hl"
  refine ⟨_, _, rfl, den_mul_ne p q, ⟨n + m, den_mul_lt hp hq, by omega⟩, ?_⟩
  walk_at "hl"
  rw [rat_sub]
  exact dr_same k
theorem sp_len_law_gap {K : KF} (ds : List DV) (Ω : Om) (R : DV → Om → Prop) (X : Exc → Om → Prop) (h : sp_law_gap K ds Ω R X) : ds.length = 2 := by
  unfold sp_law_gap at h
  first
    | (obtain ⟨rfl, _⟩ := h; rfl)
    | (obtain ⟨_, rfl, _⟩ := h; rfl)
    | (obtain ⟨_, _, rfl, _⟩ := h; rfl)
    | (obtain ⟨_, _, _, rfl, _⟩ := h; rfl)
    | (obtain ⟨_, _, _, _, rfl, _⟩ := h; rfl)
    | (obtain ⟨_, _, _, _, _, rfl, _⟩ := h; rfl)
    | (obtain ⟨_, _, _, _, _, _, rfl, _⟩ := h; rfl)
    | (obtain ⟨_, _, _, _, _, _, _, rfl, _⟩ := h; rfl)
    | (obtain ⟨_, _, _, _, _, _, _, _, rfl, _⟩ := h; rfl)
    | (obtain ⟨_, _, _, _, _, _, _, _, _, rfl, _⟩ := h; rfl)
    | (obtain ⟨_, _, _, _, _, _, _, _, _, _, rfl, _⟩ := h; rfl)
    | (obtain ⟨_, _, _, _, _, _, _, _, _, _, _, rfl, _⟩ := h; rfl)
    | (obtain ⟨_, _, _, _, _, _, _, _, _, _, _, _, rfl, _⟩ := h; rfl)
    | (obtain ⟨_, _, _, _, _, _, _, _, _, _, _, _, _, rfl, _⟩ := h; rfl)
    | (obtain ⟨_, _, _, _, _, _, _, _, _, _, _, _, _, rfl, _⟩ := h; rfl)
    | (obtain ⟨_, _, _, _, _, _, _, _, _, _, _, _, _, _, rfl, _⟩ := h; rfl)
    | (obtain ⟨_, _, _, _, _, _, _, _, _, _, _, _, _, _, _, rfl, _⟩ := h; rfl)
    | (obtain ⟨_, _, _, _, _, _, _, _, _, _, _, _, _, _, _, _, rfl, _⟩ := h; rfl)
    | (obtain ⟨_, _, _, _, _, _, _, _, _, _, _, _, _, _, _, _, _, rfl, _⟩ := h; rfl)
    | (obtain ⟨_, _, _, _, _, _, _, _, _, _, _, _, _, _, _, _, _, _, rfl, _⟩ := h; rfl)
    | (obtain ⟨_, _, _, _, _, _, _, _, _, _, _, _, _, _, _, _, _, _, _, rfl, _⟩ := h; rfl)
    | (obtain ⟨_, _, _, _, _, _, _, _, _, _, _, _, _, _, _, _, _, _, _, _, rfl, _⟩ := h; rfl)
    | (obtain ⟨_, _, _, _, _, _, _, _, _, _, _, _, _, _, _, _, _, _, _, _, _, rfl, _⟩ := h; rfl)
/-- any number from 0 on, below the base -/
def sp_law_next (K : KF) : Spec := fun ds Ω R X => ∃ (k : Nat) (p : OC) (b : Int), ds = [.o k, .d (.int b)] ∧ Ω[k]? = some p ∧ IsPool p ∧ 0 < b ∧ b ≤ 10 ^ 30 ∧ Drawn k Ω b R
def t_law_next (K : KF) (W : WX) : TS :=
  (tSeq (tIfS (tTest (tOp oGt (tOp (rIx K) (tVar 0) (tC (.int 0))) (tC (.int 0)))) (tSeq (tAsg (tOp oMod (tOp (rIx K) (tVar 0) (tC (.int 0))) (tVar 1)) (gName 2))
    (tSeq (tAsg (tOp oFdiv (tOp (rIx K) (tVar 0) (tC (.int 0))) (tVar 1)) (gSub (tVar 0) (tC (.int 0)) rSetL))
    (tRet (tVar 2)))) tNext)
    (tSeq (tAsg (tOp (rAddX K) (tOp (rIx K) (tVar 0) (tC (.int 2))) (tC (.int 1))) (gSub (tVar 0) (tC (.int 2)) rSetL))
    (tSeq (tAsg (tOp oMod (tOp (rAddX K) (tOp (rIx K) (tVar 0) (tC (.int 1))) (tOp oMul (tC (.int 7919)) (tOp (rIx K) (tVar 0) (tC (.int 2))))) (tC (.int 1000000007))) (gName 3))
    (tSeq (tAsg (tOp oMod (tOp oMul (tOp (rAddX K) (tVar 3) (tC (.int 11))) (tOp (rAddX K) (tVar 3) (tC (.int 48271)))) (tC (.int 998244353))) (gName 4))
    (tRet (tOp oMod (tOp oFdiv (tOp oMod (tOp oMul (tVar 4) (tVar 4)) (tC (.int 2147483647))) (tC (.int 8))) (tVar 1)))))))
theorem small_log {b : Int} (h0 : 0 < b) (h : b ≤ 10 ^ 30) : b.natAbs.log2 < 9000 :=
  Nat.lt_of_lt_of_le (log2_lt (n := 100) (by omega) (by decide)) (by decide)
theorem w_law_next {K : KF} (W : WX) (ds : List DV) (Ω : Om) (R : DV → Om → Prop) (X : Exc → Om → Prop) (h : sp_law_next K ds Ω R X) : WS K W (t_law_next K W) (startG 5 ds) Ω (fnO Ω R X) := by
  obtain ⟨k, p, b, rfl, hp, ⟨a0, a1, a2, rfl, h0, h1, h2⟩, hb, hb2, q⟩ := h
  have hk := lt_of_get hp
  have hs : sq Ω (.o k) = some [.d (.int a0), .d (.int a1), .d (.int a2)] := by show sqO Ω[k]? = _; rw [hp]; rfl
  show WS K W (t_law_next K W) [some (.o k), some (.d (.int b)), none, none, none] Ω _
  unfold t_law_next
  walk_at "hl"
  refine wr_ix hs rfl ?_
  walk_at "hl"
  refine ⟨fun h => ?_, fun h => ?_⟩
  · have ha := of_decide_eq_true h
    walk_at "hl"
    refine wr_ix hs rfl ?_
    walk_at "hl"
    refine wr_modP hb ?_
    walk_at "hl"
    refine wr_ix hs rfl ?_
    walk_at "hl"
    refine wr_fdivP hb (small_log hb hb2) ?_
    refine wg_subL (W := W) ?_ trivial
    walk_at "hl"
    refine ⟨k, _, 0, 0, rfl, rfl, hp, rfl, ?_⟩
    walk_at "hl"
    exact dr_same (q _ _ (Int.emod_nonneg _ (by omega)) (Int.emod_lt_of_pos _ hb) ⟨_, _, _, rfl, Int.ediv_nonneg h0 (by omega), h1, h2⟩)
  · walk_at "hl"
    refine wr_ix hs rfl ?_
    walk_at "hl"
    refine wg_subL (W := W) ?_ trivial
    walk_at "hl"
    refine ⟨k, _, 2, 2, rfl, rfl, hp, rfl, ?_⟩
    have hs' : sq (Ω.set k (.lst [.d (.int a0), .d (.int a1), .d (.int (a2 + 1))])) (.o k) = some [.d (.int a0), .d (.int a1), .d (.int (a2 + 1))] := by
      show sqO _ = _
      rw [get_set hk]
      rfl
    walk_at "hl"
    refine wr_ix hs' rfl ?_
    walk_at "hl"
    refine wr_ix hs' rfl ?_
    walk_at "hl"
    refine wr_modP (by decide) ?_
    have m0 := Int.emod_nonneg (a1 + 7919 * (a2 + 1)) (show (1000000007 : Int) ≠ 0 by decide)
    have m1 := Int.emod_lt_of_pos (a1 + 7919 * (a2 + 1)) (show (0 : Int) < 1000000007 by decide)
    generalize (a1 + 7919 * (a2 + 1)) % 1000000007 = mixed at *
    walk_at "hl"
    refine wr_mul (.inl (.inl ⟨by omega, by omega⟩)) ?_
    walk_at "hl"
    refine wr_modP (by decide) ?_
    have s0 := Int.emod_nonneg ((mixed + 11) * (mixed + 48271)) (show (998244353 : Int) ≠ 0 by decide)
    have s1 := Int.emod_lt_of_pos ((mixed + 11) * (mixed + 48271)) (show (0 : Int) < 998244353 by decide)
    generalize (mixed + 11) * (mixed + 48271) % 998244353 = stir at *
    walk_at "hl"
    refine wr_mul (.inl (.inl ⟨by omega, by omega⟩)) ?_
    walk_at "hl"
    refine wr_modP (by decide) ?_
    walk_at "hl"
    refine wr_fdivP (by decide) (by decide +kernel) ?_
    walk_at "hl"
    refine wr_modP hb ?_
    exact dr_same (q _ _ (Int.emod_nonneg _ (by omega)) (Int.emod_lt_of_pos _ hb) ⟨_, _, _, rfl, h0, h1, by omega⟩)
theorem dn {K : KF} {Ω J : Om} {k : Nat} {p : OC} {b : Int} {R : DV → Om → Prop} {X : Exc → Om → Prop} (hk : k < Ω.length) (ip : IsPool p) (h0 : 0 < b) (h1 : b ≤ 10 ^ 30) (q : ∀ (r : Int) (p' : OC), 0 ≤ r → r < b → IsPool p' → R (.d (.int r)) (Ω.set k p' ++ J)) :
    sp_law_next K [.o k, .d (.int b)] (Ω.set k p ++ J) R X := ⟨k, p, b, rfl, get_app (get_set hk), ip, h0, h1, fun r p' r0 r1 ip' => by rw [set_app hk]; exact q r p' r0 r1 ip'⟩
theorem dn0 {K : KF} {Ω : Om} {k : Nat} {p : OC} {b : Int} {R : DV → Om → Prop} {X : Exc → Om → Prop} (hk : k < Ω.length) (ip : IsPool p) (h0 : 0 < b) (h1 : b ≤ 10 ^ 30) (q : ∀ (r : Int) (p' : OC), 0 ≤ r → r < b → IsPool p' → R (.d (.int r)) (Ω.set k p')) :
    sp_law_next K [.o k, .d (.int b)] (Ω.set k p) R X := ⟨k, p, b, rfl, get_set hk, ip, h0, h1, fun r p' r0 r1 ip' => by rw [List.set_set]; exact q r p' r0 r1 ip'⟩
theorem sp_len_law_next {K : KF} (ds : List DV) (Ω : Om) (R : DV → Om → Prop) (X : Exc → Om → Prop) (h : sp_law_next K ds Ω R X) : ds.length = 2 := by
  unfold sp_law_next at h
  first
    | (obtain ⟨rfl, _⟩ := h; rfl)
    | (obtain ⟨_, rfl, _⟩ := h; rfl)
    | (obtain ⟨_, _, rfl, _⟩ := h; rfl)
    | (obtain ⟨_, _, _, rfl, _⟩ := h; rfl)
    | (obtain ⟨_, _, _, _, rfl, _⟩ := h; rfl)
    | (obtain ⟨_, _, _, _, _, rfl, _⟩ := h; rfl)
    | (obtain ⟨_, _, _, _, _, _, rfl, _⟩ := h; rfl)
    | (obtain ⟨_, _, _, _, _, _, _, rfl, _⟩ := h; rfl)
    | (obtain ⟨_, _, _, _, _, _, _, _, rfl, _⟩ := h; rfl)
    | (obtain ⟨_, _, _, _, _, _, _, _, _, rfl, _⟩ := h; rfl)
    | (obtain ⟨_, _, _, _, _, _, _, _, _, _, rfl, _⟩ := h; rfl)
    | (obtain ⟨_, _, _, _, _, _, _, _, _, _, _, rfl, _⟩ := h; rfl)
    | (obtain ⟨_, _, _, _, _, _, _, _, _, _, _, _, rfl, _⟩ := h; rfl)
    | (obtain ⟨_, _, _, _, _, _, _, _, _, _, _, _, _, rfl, _⟩ := h; rfl)
    | (obtain ⟨_, _, _, _, _, _, _, _, _, _, _, _, _, rfl, _⟩ := h; rfl)
    | (obtain ⟨_, _, _, _, _, _, _, _, _, _, _, _, _, _, rfl, _⟩ := h; rfl)
    | (obtain ⟨_, _, _, _, _, _, _, _, _, _, _, _, _, _, _, rfl, _⟩ := h; rfl)
    | (obtain ⟨_, _, _, _, _, _, _, _, _, _, _, _, _, _, _, _, rfl, _⟩ := h; rfl)
    | (obtain ⟨_, _, _, _, _, _, _, _, _, _, _, _, _, _, _, _, _, rfl, _⟩ := h; rfl)
    | (obtain ⟨_, _, _, _, _, _, _, _, _, _, _, _, _, _, _, _, _, _, rfl, _⟩ := h; rfl)
    | (obtain ⟨_, _, _, _, _, _, _, _, _, _, _, _, _, _, _, _, _, _, _, rfl, _⟩ := h; rfl)
    | (obtain ⟨_, _, _, _, _, _, _, _, _, _, _, _, _, _, _, _, _, _, _, _, rfl, _⟩ := h; rfl)
    | (obtain ⟨_, _, _, _, _, _, _, _, _, _, _, _, _, _, _, _, _, _, _, _, _, rfl, _⟩ := h; rfl)
--USE HLp
def sp_law_figures (K : KF) : Spec := fun ds Ω R X => ∃ i : Int, ds = [.d (.int i)] ∧ i.natAbs < 10 ^ 300 ∧ R (.d (tS (intL i))) Ω
def t_law_figures (K : KF) (W : WX) : TS :=
  (tSeq (tAsg (tC (.str "")) (gName 1))
    (tSeq (tAsg (tCB rAbsI (tCons (tVar 0) tNil)) (gName 2))
    (tSeq (tWhile (tTest (tOp oGt (tVar 2) (tC (.int 0)))) (tSeq (tAsg (tOp (rAddX K) (tOp (rIx K) (tC (.str "0123456789")) (tOp oMod (tVar 2) (tC (.int 10)))) (tVar 1)) (gName 1))
    (tAsg (tOp oFdiv (tVar 2) (tC (.int 10))) (gName 2))))
    (tRet (tOp (rAddX K) (tOp (rIx K) (tLst (tCons (tC (.str "")) (tCons (tC (.str "-")) tNil))) (tCB rIntX (tCons (tOp oLt (tVar 0) (tC (.int 0))) tNil))) (tOp (rIx K) (tLst (tCons (tC (.str "0")) (tCons (tVar 1) tNil))) (tCB rIntX (tCons (tOp (rNeD K) (tVar 0) (tC (.int 0))) tNil))))))))
theorem w_law_figures {K : KF} (W : WX) (ds : List DV) (Ω : Om) (R : DV → Om → Prop) (X : Exc → Om → Prop) (h : sp_law_figures K ds Ω R X) : WS K W (t_law_figures K W) (startG 3 ds) Ω (fnO Ω R X) := by
  obtain ⟨i, rfl, hi, q⟩ := h
  show WS K W (t_law_figures K W) [some (.d (.int i)), none, none] Ω _
  unfold t_law_figures
  walk_at "hl"
  rw [show (if i < 0 then -i else i) = ((i.natAbs : Nat) : Int) by split <;> omega]
  refine ws_while (fun n Γ Ω1 => ∃ (r : Nat) (s : List Nat), Γ = [some (.d (.int i)), some (.d (tS s)), some (.d (.int (r : Int)))] ∧ Ω1 = Ω ∧ (r = 0 → (if i.natAbs = 0 then s = [] else s = TL.numL i.natAbs)) ∧ (r ≠ 0 → TL.numL r ++ s = TL.numL i.natAbs) ∧ s.length ≤ 301 ∧ r ≤ i.natAbs ∧ r = n) i.natAbs ⟨i.natAbs, [], rfl, rfl, fun h => by rw [if_pos h], fun h => by rw [List.append_nil], by simp, Nat.le_refl _, rfl⟩ ?_
  have hlen := TL.numL_len (n := i.natAbs) (k := 300) (by decide) hi
  rintro n Γ Ω1 - ⟨r, s, rfl, rfl, h0, h1, hs, hri, rfl⟩
  walk_at "hl"
  refine ⟨fun h => ?_, fun h => ?_⟩
  · have h := of_decide_eq_true h
    have hr : r ≠ 0 := by omega
    have e1 := h1 hr
    have hs2 : s.length ≤ 299 := by
      have h2 := congrArg List.length e1
      rw [List.length_append] at h2
      have := TL.numL_ne r
      cases hn : TL.numL r with
      | nil => exact absurd hn this
      | cons a b => rw [hn] at h2; simp at h2; omega
    walk_at "hl"
    refine wr_modP (by decide) ?_
    rw [show ((r : Int) % 10) = ((r % 10 : Nat) : Int) by omega]
    have hm : r % 10 < 10 := Nat.mod_lt _ (by decide)
    refine wr_ixT' (a := figL) (by decide) (fig_at _ hm) ?_
    walk_at "hl"
    refine wr_fdivP (j := 10) (by decide) (by decide) ?_
    rw [show ((r : Int) / 10) = ((r / 10 : Nat) : Int) by omega]
    walk_at "hl"
    have hne : i.natAbs ≠ 0 := by omega
    refine ⟨r / 10, by omega, r / 10, [48 + r % 10] ++ s, rfl, rfl, fun hz => ?_, fun hz => ?_, by simp; omega, by omega, rfl⟩
    · rw [if_neg hne, ← e1, TL.numL_lt (by omega), show r % 10 = r by omega]
    · rw [← e1, TL.numL_step (n := r) (by omega), List.append_assoc]
  · have h := of_decide_eq_false h
    have hr : r = 0 := by omega
    have h0 := h0 hr
    have q' : ∀ z, z = intL i → R (.d (tS z)) Ω1 := fun z e => by rw [e]; exact q
    have l0 : s.length ≤ 301 := hs
    walk_at "hl"
    refine wr_ixL (y := tS (if i < 0 then [45] else [])) (by by_cases hi : i < 0 <;> simp [hi] <;> rfl) ?_
    walk_at "hl"
    have ok1 : (if i < 0 then [45] else ([] : List Nat)).length ≤ 1 := by split <;> simp
    refine wr_ixL (y := tS (TL.numL i.natAbs)) ?_ ?_
    · by_cases hz : i = 0
      · subst hz; rfl
      · rw [if_neg (by omega)] at h0
        rw [h0]
        simp [hz]; rfl
    refine wr_addT' (by omega) (dr_same (q' _ ?_))
    unfold intL
    split <;> rfl
theorem sp_len_law_figures {K : KF} (ds : List DV) (Ω : Om) (R : DV → Om → Prop) (X : Exc → Om → Prop) (h : sp_law_figures K ds Ω R X) : ds.length = 1 := by
  unfold sp_law_figures at h
  first
    | (obtain ⟨rfl, _⟩ := h; rfl)
    | (obtain ⟨_, rfl, _⟩ := h; rfl)
    | (obtain ⟨_, _, rfl, _⟩ := h; rfl)
    | (obtain ⟨_, _, _, rfl, _⟩ := h; rfl)
    | (obtain ⟨_, _, _, _, rfl, _⟩ := h; rfl)
    | (obtain ⟨_, _, _, _, _, rfl, _⟩ := h; rfl)
    | (obtain ⟨_, _, _, _, _, _, rfl, _⟩ := h; rfl)
    | (obtain ⟨_, _, _, _, _, _, _, rfl, _⟩ := h; rfl)
    | (obtain ⟨_, _, _, _, _, _, _, _, rfl, _⟩ := h; rfl)
    | (obtain ⟨_, _, _, _, _, _, _, _, _, rfl, _⟩ := h; rfl)
    | (obtain ⟨_, _, _, _, _, _, _, _, _, _, rfl, _⟩ := h; rfl)
    | (obtain ⟨_, _, _, _, _, _, _, _, _, _, _, rfl, _⟩ := h; rfl)
    | (obtain ⟨_, _, _, _, _, _, _, _, _, _, _, _, rfl, _⟩ := h; rfl)
    | (obtain ⟨_, _, _, _, _, _, _, _, _, _, _, _, _, rfl, _⟩ := h; rfl)
    | (obtain ⟨_, _, _, _, _, _, _, _, _, _, _, _, _, rfl, _⟩ := h; rfl)
    | (obtain ⟨_, _, _, _, _, _, _, _, _, _, _, _, _, _, rfl, _⟩ := h; rfl)
    | (obtain ⟨_, _, _, _, _, _, _, _, _, _, _, _, _, _, _, rfl, _⟩ := h; rfl)
    | (obtain ⟨_, _, _, _, _, _, _, _, _, _, _, _, _, _, _, _, rfl, _⟩ := h; rfl)
    | (obtain ⟨_, _, _, _, _, _, _, _, _, _, _, _, _, _, _, _, _, rfl, _⟩ := h; rfl)
    | (obtain ⟨_, _, _, _, _, _, _, _, _, _, _, _, _, _, _, _, _, _, rfl, _⟩ := h; rfl)
    | (obtain ⟨_, _, _, _, _, _, _, _, _, _, _, _, _, _, _, _, _, _, _, rfl, _⟩ := h; rfl)
    | (obtain ⟨_, _, _, _, _, _, _, _, _, _, _, _, _, _, _, _, _, _, _, _, rfl, _⟩ := h; rfl)
    | (obtain ⟨_, _, _, _, _, _, _, _, _, _, _, _, _, _, _, _, _, _, _, _, _, rfl, _⟩ := h; rfl)
--USE HLp
def sp_law_ratio_text (K : KF) : Spec := fun ds Ω R X => ∃ q : Rat, ds = [.d (dR q)] ∧ R300 q ∧ R (.d (tS (ratT q))) Ω
def t_law_ratio_text (K : KF) (W : WX) : TS :=
  (tSeq (tIfS (tTest (tOp (rEqD K) (tOp (rIx K) (tVar 0) (tC (.int 1))) (tC (.int 1)))) (tRet (tCall (FS K (sp_law_figures K)) [] E0 (tCons (tOp (rIx K) (tVar 0) (tC (.int 0))) tNil))) tNext)
    (tRet (tOp (rAddX K) (tOp (rAddX K) (tCall (FS K (sp_law_figures K)) [] E0 (tCons (tOp (rIx K) (tVar 0) (tC (.int 0))) tNil)) (tC (.str "/"))) (tCall (FS K (sp_law_figures K)) [] E0 (tCons (tOp (rIx K) (tVar 0) (tC (.int 1))) tNil)))))
theorem w_law_ratio_text {K : KF} (W : WX) (ds : List DV) (Ω : Om) (R : DV → Om → Prop) (X : Exc → Om → Prop) (h : sp_law_ratio_text K ds Ω R X) : WS K W (t_law_ratio_text K W) (startG 1 ds) Ω (fnO Ω R X) := by
  obtain ⟨x, rfl, ⟨h1, h2⟩, q⟩ := h
  show WS K W (t_law_ratio_text K W) [some (.d (dR x))] Ω _
  unfold t_law_ratio_text
  have l1 := intL_len (k := 300) (by decide) h1
  have l2 := TL.numL_len (k := 300) (by decide) h2
  have e2 : intL (x.den : Int) = TL.numL x.den := by unfold intL; rw [if_neg (by omega)]; rfl
  have h2' : (x.den : Int).natAbs < 10 ^ 300 := h2
  walk_at "hl"
  refine ⟨fun h => ?_, fun h => ?_⟩
  · have h := of_decide_eq_true h
    walk_at "hl"
    refine ⟨x.num, rfl, h1, ?_⟩
    unfold ratT at q
    rw [if_pos (by omega)] at q
    exact dr_same q
  · have h := of_decide_eq_false h
    walk_at "hl"
    refine ⟨x.num, rfl, h1, ?_⟩
    walk_at "hl"
    refine ⟨x.den, rfl, h2', ?_⟩
    rw [e2]
    walk_at "hl"
    unfold ratT at q
    rw [if_neg (by omega)] at q
    rw [List.append_assoc]
    exact dr_same q
theorem sp_len_law_ratio_text {K : KF} (ds : List DV) (Ω : Om) (R : DV → Om → Prop) (X : Exc → Om → Prop) (h : sp_law_ratio_text K ds Ω R X) : ds.length = 1 := by
  unfold sp_law_ratio_text at h
  first
    | (obtain ⟨rfl, _⟩ := h; rfl)
    | (obtain ⟨_, rfl, _⟩ := h; rfl)
    | (obtain ⟨_, _, rfl, _⟩ := h; rfl)
    | (obtain ⟨_, _, _, rfl, _⟩ := h; rfl)
    | (obtain ⟨_, _, _, _, rfl, _⟩ := h; rfl)
    | (obtain ⟨_, _, _, _, _, rfl, _⟩ := h; rfl)
    | (obtain ⟨_, _, _, _, _, _, rfl, _⟩ := h; rfl)
    | (obtain ⟨_, _, _, _, _, _, _, rfl, _⟩ := h; rfl)
    | (obtain ⟨_, _, _, _, _, _, _, _, rfl, _⟩ := h; rfl)
    | (obtain ⟨_, _, _, _, _, _, _, _, _, rfl, _⟩ := h; rfl)
    | (obtain ⟨_, _, _, _, _, _, _, _, _, _, rfl, _⟩ := h; rfl)
    | (obtain ⟨_, _, _, _, _, _, _, _, _, _, _, rfl, _⟩ := h; rfl)
    | (obtain ⟨_, _, _, _, _, _, _, _, _, _, _, _, rfl, _⟩ := h; rfl)
    | (obtain ⟨_, _, _, _, _, _, _, _, _, _, _, _, _, rfl, _⟩ := h; rfl)
    | (obtain ⟨_, _, _, _, _, _, _, _, _, _, _, _, _, rfl, _⟩ := h; rfl)
    | (obtain ⟨_, _, _, _, _, _, _, _, _, _, _, _, _, _, rfl, _⟩ := h; rfl)
    | (obtain ⟨_, _, _, _, _, _, _, _, _, _, _, _, _, _, _, rfl, _⟩ := h; rfl)
    | (obtain ⟨_, _, _, _, _, _, _, _, _, _, _, _, _, _, _, _, rfl, _⟩ := h; rfl)
    | (obtain ⟨_, _, _, _, _, _, _, _, _, _, _, _, _, _, _, _, _, rfl, _⟩ := h; rfl)
    | (obtain ⟨_, _, _, _, _, _, _, _, _, _, _, _, _, _, _, _, _, _, rfl, _⟩ := h; rfl)
    | (obtain ⟨_, _, _, _, _, _, _, _, _, _, _, _, _, _, _, _, _, _, _, rfl, _⟩ := h; rfl)
    | (obtain ⟨_, _, _, _, _, _, _, _, _, _, _, _, _, _, _, _, _, _, _, _, rfl, _⟩ := h; rfl)
    | (obtain ⟨_, _, _, _, _, _, _, _, _, _, _, _, _, _, _, _, _, _, _, _, _, rfl, _⟩ := h; rfl)
--USE HLp
--USE HMf
def sp_law_row_text (K : KF) : Spec := fun ds Ω R X => ∃ bs : List Bl, ds = [.d (dRow bs)] ∧ bs.length ≤ 8 ∧ bs ≠ [] ∧ (∀ b ∈ bs, B300 b) ∧ R (.d (tS (rowL bs))) Ω
def t_law_row_text (K : KF) (W : WX) : TS :=
  (tSeq (tAsg (tC (.str "")) (gName 1))
    (tSeq (tFor (iSeq K (tVar 0)) (gName 2) (tSeq (tAsg (tOp (rAddX K) (tOp (rAddX K) (tOp (rAddX K) (tVar 1) (tC (.str "; "))) (tCall (FS K (sp_law_ratio_text K)) [] E0 (tCons (tOp (rIx K) (tVar 2) (tC (.int 0))) tNil))) (tC (.str " "))) (gName 1))
    (tAsg (tOp (rAddX K) (tOp (rAddX K) (tOp (rAddX K) (tVar 1) (tCall (FS K (sp_law_ratio_text K)) [] E0 (tCons (tOp (rIx K) (tVar 2) (tC (.int 1))) tNil))) (tC (.str " "))) (tCall (FS K (sp_law_figures K)) [] E0 (tCons (tOp (rIx K) (tVar 2) (tC (.int 2))) tNil))) (gName 1))))
    (tRet (tSl C8.rSlX (tVar 1) (tPart (tC (.int 2))) tNoPart))))
def rowM (bs : List Bl) : List Nat := (bs.map fun b => 59 :: 32 :: ballL b).flatten
theorem rowM_snoc (bs : List Bl) (b : Bl) : rowM (bs ++ [b]) = rowM bs ++ (59 :: 32 :: ballL b) := by
  unfold rowM
  rw [List.map_append, List.flatten_append]
  simp
theorem rowM_drop : ∀ {bs : List Bl}, bs ≠ [] → (rowM bs).drop 2 = rowL bs
  | [], h => absurd rfl h
  | [b], _ => by show ballL b ++ [] = _; rw [List.append_nil]; rfl
  | b :: c :: bs, _ => by
    show ballL b ++ rowM (c :: bs) = ballL b ++ ([59, 32] ++ rowL (c :: bs))
    rw [← rowM_drop (bs := c :: bs) (by simp)]
    rfl
theorem ballM_len {b : Bl} (h : B300 b) : (ballL b).length ≤ 1510 := by
  obtain ⟨⟨a1, a2⟩, ⟨b1, b2⟩, w0, w1⟩ := h
  have l1 := ratT_len (k := 300) (by decide) a1 a2
  have l2 := ratT_len (k := 300) (by decide) b1 b2
  have l3 := intL_len (k := 300) (by decide) w1
  unfold ballL
  rw [List.length_append, List.length_cons, List.length_append, List.length_cons]
  omega
theorem rowM_len : ∀ {bs : List Bl}, (∀ b ∈ bs, B300 b) → (rowM bs).length ≤ bs.length * 1512
  | [], _ => Nat.le_refl _
  | b :: bs, h => by
    have h1 := ballM_len (h b (by simp))
    have h2 := rowM_len (bs := bs) fun c hc => h c (List.mem_cons_of_mem _ hc)
    have e : rowM (b :: bs) = (59 :: 32 :: ballL b) ++ rowM bs := rfl
    rw [e, List.length_append, List.length_cons, List.length_cons, List.length_cons]
    omega
theorem w_law_row_text {K : KF} (W : WX) (ds : List DV) (Ω : Om) (R : DV → Om → Prop) (X : Exc → Om → Prop) (h : sp_law_row_text K ds Ω R X) : WS K W (t_law_row_text K W) (startG 3 ds) Ω (fnO Ω R X) := by
  obtain ⟨bs, rfl, hl, hne, hb, q⟩ := h
  show WS K W (t_law_row_text K W) [some (.d (dRow bs)), none, none] Ω _
  unfold t_law_row_text
  walk_at "hl"
  refine ws_for (wi_T dB bs ?_)
  walk_at "hl"
  refine ⟨rfl, fun i Γ Ω1 => ∃ c2, Γ = [some (.d (dRow bs)), some (.d (tS (rowM (bs.take i)))), c2] ∧ Ω1 = Ω, ⟨none, rfl, rfl⟩, ?_, ?_, ?_⟩
  · rintro i Γ Ω1 - ⟨c2, rfl, rfl⟩
    exact ⟨trivial, Nat.le_refl _⟩
  · rintro i y Γ Ω1 hy ⟨c2, rfl, rfl⟩
    obtain ⟨b, hw, rfl⟩ : ∃ b, bs[i]? = some b ∧ y = .d (dB b) := by
      rw [List.getElem?_map] at hy
      cases h : bs[i]? with
      | none => rw [h] at hy; cases hy
      | some c => rw [h] at hy; exact ⟨c, rfl, (Option.some.inj hy).symm⟩
    have htk : bs.take (i + 1) = bs.take i ++ [b] := by rw [List.take_add_one, hw]; rfl
    obtain ⟨a1, b1, w0, w1⟩ := hb b (List.mem_of_getElem? hw)
    have l1 := ratT_len (k := 300) (by decide) a1.1 a1.2
    have l2 := ratT_len (k := 300) (by decide) b1.1 b1.2
    have l3 := intL_len (k := 300) (by decide) w1
    have l4 := rowM_len (bs := bs.take i) fun c hc => hb c (List.mem_of_mem_take hc)
    have l5 : (bs.take i).length ≤ 8 := by rw [List.length_take]; omega
    generalize hM : rowM (bs.take i) = M at *
    walk_at "hl"
    refine ⟨b.p, rfl, a1, ?_⟩
    walk_at "hl"
    refine ⟨b.s, rfl, b1, ?_⟩
    walk_at "hl"
    refine ⟨b.w, rfl, w1, ?_⟩
    walk_at "hl"
    refine ⟨some (.d (dB b)), ?_, rfl⟩
    rw [htk, rowM_snoc, hM]
    simp [ballL]
  · rintro Γ Ω1 ⟨c2, rfl, rfl⟩
    rw [List.length_map, List.take_length]
    have l4 := rowM_len hb
    walk_at "hl"
    show Dr Ω1 R (.d (tS ((rowM bs).drop 2))) Ω1
    rw [rowM_drop hne]
    exact dr_same q
theorem sp_len_law_row_text {K : KF} (ds : List DV) (Ω : Om) (R : DV → Om → Prop) (X : Exc → Om → Prop) (h : sp_law_row_text K ds Ω R X) : ds.length = 1 := by
  unfold sp_law_row_text at h
  first
    | (obtain ⟨rfl, _⟩ := h; rfl)
    | (obtain ⟨_, rfl, _⟩ := h; rfl)
    | (obtain ⟨_, _, rfl, _⟩ := h; rfl)
    | (obtain ⟨_, _, _, rfl, _⟩ := h; rfl)
    | (obtain ⟨_, _, _, _, rfl, _⟩ := h; rfl)
    | (obtain ⟨_, _, _, _, _, rfl, _⟩ := h; rfl)
    | (obtain ⟨_, _, _, _, _, _, rfl, _⟩ := h; rfl)
    | (obtain ⟨_, _, _, _, _, _, _, rfl, _⟩ := h; rfl)
    | (obtain ⟨_, _, _, _, _, _, _, _, rfl, _⟩ := h; rfl)
    | (obtain ⟨_, _, _, _, _, _, _, _, _, rfl, _⟩ := h; rfl)
    | (obtain ⟨_, _, _, _, _, _, _, _, _, _, rfl, _⟩ := h; rfl)
    | (obtain ⟨_, _, _, _, _, _, _, _, _, _, _, rfl, _⟩ := h; rfl)
    | (obtain ⟨_, _, _, _, _, _, _, _, _, _, _, _, rfl, _⟩ := h; rfl)
    | (obtain ⟨_, _, _, _, _, _, _, _, _, _, _, _, _, rfl, _⟩ := h; rfl)
    | (obtain ⟨_, _, _, _, _, _, _, _, _, _, _, _, _, rfl, _⟩ := h; rfl)
    | (obtain ⟨_, _, _, _, _, _, _, _, _, _, _, _, _, _, rfl, _⟩ := h; rfl)
    | (obtain ⟨_, _, _, _, _, _, _, _, _, _, _, _, _, _, _, rfl, _⟩ := h; rfl)
    | (obtain ⟨_, _, _, _, _, _, _, _, _, _, _, _, _, _, _, _, rfl, _⟩ := h; rfl)
    | (obtain ⟨_, _, _, _, _, _, _, _, _, _, _, _, _, _, _, _, _, rfl, _⟩ := h; rfl)
    | (obtain ⟨_, _, _, _, _, _, _, _, _, _, _, _, _, _, _, _, _, _, rfl, _⟩ := h; rfl)
    | (obtain ⟨_, _, _, _, _, _, _, _, _, _, _, _, _, _, _, _, _, _, _, rfl, _⟩ := h; rfl)
    | (obtain ⟨_, _, _, _, _, _, _, _, _, _, _, _, _, _, _, _, _, _, _, _, rfl, _⟩ := h; rfl)
    | (obtain ⟨_, _, _, _, _, _, _, _, _, _, _, _, _, _, _, _, _, _, _, _, _, rfl, _⟩ := h; rfl)
--USE HLp
--USE HMf
def sp_law_amiss (K : KF) : Spec := fun ds Ω R X => ∃ (k : Nat) (p : OC) (bs : List Bl), ds = [.d (dRow bs), .o k] ∧ Ω[k]? = some p ∧ IsPool p ∧ RowOk bs ∧ (∀ b ∈ bs, Sz 30 b.p ∧ Sz 30 b.s) ∧
  ∀ (x : List Nat) (p' : OC), x.length ≤ 5000 → okT x = true → rowT x = none → IsPool p' → R (.d (tS x)) (Ω.set k p')
def t_law_amiss (K : KF) (W : WX) : TS :=
  (tSeq (tAsg (tCall (FS K (sp_law_row_text K)) [] E0 (tCons (tVar 0) tNil)) (gName 2))
    (tSeq (tAsg (tCall (FS K (sp_law_ratio_text K)) [] E0 (tCons (tOp (rIx K) (tOp (rIx K) (tVar 0) (tUn uNeg (tC (.int 1)))) (tC (.int 0))) tNil)) (gName 3))
    (tSeq (tAsg (tCall (FS K (sp_law_ratio_text K)) [] E0 (tCons (tOp (rIx K) (tOp (rIx K) (tVar 0) (tUn uNeg (tC (.int 1)))) (tC (.int 1))) tNil)) (gName 4))
    (tSeq (tAsg (tLst (tCons (tOp (rAddX K) (tVar 2) (tC (.str "; "))) (tCons (tOp (rAddX K) (tC (.str " ")) (tVar 2)) (tCons (tOp (rAddX K) (tVar 2) (tC (.str " "))) (tCons (tOp (rAddX K) (tVar 2) (tC (.str ";"))) (tCons (tC (.str "")) (tCons (tOp (rAddX K) (tC (.str "; ")) (tVar 2)) (tCons (tReplO (tVar 2) " " "  ") (tCons (tOp (rAddX K) (tVar 2) (tC (.str " 1"))) tNil))))))))) (gName 5))
    (tSeq (tAsg (tOp (rAddX K) (tVar 5) (tLst (tCons (tOp (rAddX K) (tOp (rAddX K) (tVar 2) (tC (.str "; "))) (tCall (FS K (sp_law_row_text K)) [] E0 (tCons (tSl (rSlS K) (tVar 0) (tPart (tUn uNeg (tC (.int 1)))) tNoPart) tNil))) (tCons (tOp (rAddX K) (tOp (rAddX K) (tOp (rAddX K) (tOp (rAddX K) (tVar 2) (tC (.str "; "))) (tVar 3)) (tC (.str " "))) (tVar 4)) (tCons (tOp (rAddX K) (tVar 2) (tC (.str "; 1 2 x"))) (tCons (tC (.str "-")) tNil)))))) (gName 5))
    (tSeq (tAsg (tCall (FS K (sp_law_ratio_text K)) [] E0 (tCons (tCall (FS K (sp_law_gap K)) [] E0 (tCons (tOp (rIx K) (tOp (rIx K) (tVar 0) (tUn uNeg (tC (.int 1)))) (tC (.int 0))) (tCons (tTup (tCons (tC (.int 1)) (tCons (tC (.int 7)) tNil))) tNil))) tNil)) (gName 6))
    (tSeq (tAsg (tOp (rAddX K) (tVar 5) (tLst (tCons (tOp (rAddX K) (tOp (rAddX K) (tOp (rAddX K) (tVar 2) (tC (.str "; "))) (tVar 6)) (tC (.str " 1 1"))) (tCons (tReplO (tVar 2) " " "\t") (tCons (tOp (rAddX K) (tVar 2) (tC (.str "\n"))) (tCons (tOp (rAddX K) (tC (.str "a b 1; ")) (tVar 2)) tNil)))))) (gName 5))
    (tSeq (tAsg (tOp (rAddX K) (tVar 5) (tLc (iSeq K (tLst (tCons (tC (.str "0")) (tCons (tC (.str "1001")) (tCons (tC (.str "-1")) (tCons (tC (.str "01")) (tCons (tC (.str "1/2")) (tCons (tC (.str "")) tNil)))))))) (gName 7) tYes (tOp (rAddX K) (tOp (rAddX K) (tVar 2) (tC (.str "; 1000000 0 "))) (tVar 7)) [7])) (gName 5))
    (tRet (tOp (rIx K) (tVar 5) (tCall (FS K (sp_law_next K)) [] E0 (tCons (tVar 1) (tCons (tCB (rLenQ K) (tCons (tVar 5) tNil)) tNil)))))))))))))
theorem rat_len30 {q : Rat} (h : Sz 30 q) : (ratT q).length ≤ 22 := ratT_len (k := 10) (by decide) (Nat.lt_trans h.1 (by decide)) (Nat.lt_trans h.2 (by decide))
theorem r300_30 {q : Rat} {n : Nat} (h : Sz n q) (hn : n ≤ 900) : R300 q := by
  have p3 : (2 : Nat) ^ 900 < 10 ^ 300 := by decide +kernel
  exact ⟨Nat.lt_trans (nat_pow_lt h.1 hn) p3, Nat.lt_trans (Nat.lt_of_lt_of_le h.2 (Nat.pow_le_pow_right (by decide) hn)) p3⟩
theorem b300_30 {b : Bl} (h : Sz 30 b.p ∧ Sz 30 b.s) (hw : 0 ≤ b.w ∧ b.w ≤ 2000) : B300 b := by
  refine ⟨r300_30 h.1 (by decide), r300_30 h.2 (by decide), hw.1, ?_⟩
  have : 2001 < 10 ^ 300 := by decide +kernel
  omega
theorem ball_len30 {b : Bl} (h : Sz 30 b.p ∧ Sz 30 b.s) (hw : 0 ≤ b.w ∧ b.w ≤ 2000) : (ballL b).length ≤ 51 := by
  have l1 := rat_len30 h.1
  have l2 := rat_len30 h.2
  have l3 := intL_len (i := b.w) (k := 4) (by decide) (by omega)
  unfold ballL
  rw [List.length_append, List.length_cons, List.length_append, List.length_cons]
  omega
theorem row_len30 : ∀ {bs : List Bl}, (∀ b ∈ bs, (ballL b).length ≤ 51) → (rowL bs).length ≤ bs.length * 53
  | [], _ => Nat.le_refl _
  | [b], h => by have := h b (by simp); show (ballL b).length ≤ 1 * 53; omega
  | b :: c :: bs, h => by
    have h1 := h b (by simp)
    have h2 := row_len30 (bs := c :: bs) fun d hd => h d (List.mem_cons_of_mem _ hd)
    show (ballL b ++ ([59, 32] ++ rowL (c :: bs))).length ≤ (bs.length + 1 + 1) * 53
    have h2 : (rowL (c :: bs)).length ≤ (bs.length + 1) * 53 := h2
    rw [List.length_append, List.length_append]
    show _ + (2 + _) ≤ _
    omega
theorem okT_row (bs : List Bl) : okT (rowL bs) = true := okT_iff.mpr fun x hx => by
  have : ∀ {bs : List Bl} {x : Nat}, x ∈ rowL bs → x < 1114112 := fun {bs} => by
    intro x hx
    have h : ∀ {ps : List (List Nat)} {x : Nat}, x ∈ TL.joinL [59, 32] ps → (∃ p ∈ ps, x ∈ p) ∨ x = 59 ∨ x = 32 := fun {ps} => by
      induction ps with
      | nil => intro x h; cases h
      | cons p ps ih =>
        intro x h
        cases ps with
        | nil => exact .inl ⟨p, by simp, h⟩
        | cons q ps =>
          have h : x ∈ p ++ ([59, 32] ++ TL.joinL [59, 32] (q :: ps)) := h
          rcases List.mem_append.mp h with h | h
          · exact .inl ⟨p, by simp, h⟩
          · rcases List.mem_append.mp h with h | h
            · simp at h; exact .inr h
            · rcases ih h with ⟨r, hr, h⟩ | h
              · exact .inl ⟨r, List.mem_cons_of_mem _ hr, h⟩
              · exact .inr h
    rcases h hx with ⟨p, hp, h⟩ | h
    · obtain ⟨b, -, rfl⟩ := List.mem_map.mp hp
      have := ballL_c h
      unfold RatC at this
      omega
    · omega
  exact this hx
theorem okT_app {x y : List Nat} (h : okT x = true) (g : okT y = true) : okT (x ++ y) = true := okT_iff.mpr fun z hz => by
  rcases List.mem_append.mp hz with hz | hz
  · exact okT_iff.mp h z hz
  · exact okT_iff.mp g z hz
theorem okT_rat (q : Rat) : okT (ratT q) = true := okT_iff.mpr fun z hz => by
  have := ratT_c hz
  unfold RatC at this
  omega
theorem row_piece_last {cs : List Bl} {c : Bl} {a : List Nat} (h : 59 ∉ a) (hb : ballT (ballL c ++ a) = none) : rowT (rowL (cs ++ [c]) ++ a) = none := by
  have hf : 59 ∉ ballL c ++ a := fun z => by
    rcases List.mem_append.mp z with z | z
    · exact ballL_no z
    · exact h z
  by_cases hc : cs = []
  · subst hc
    exact rowT_piece (ps := [ballL c ++ a]) (fun p hp => by rw [List.mem_singleton.mp hp]; exact hf) (by simp) hb
  · rw [rowL_snoc hc, List.append_assoc]
    exact rowT_more hc hf hb
theorem row_first_cut {b : Bl} {bs : List Bl} {z : List Nat} (h : 59 ∉ z) (hb : ballT (ratT b.p ++ (z ++ (ratT b.s ++ 32 :: intL b.w))) = none) :
    ∃ r, rowL (b :: bs) = ratT b.p ++ 32 :: r ∧ rowT (ratT b.p ++ (z ++ r)) = none ∧ (rowL (b :: bs)).length = (ratT b.p).length + r.length + 1 := by
  have hf : 59 ∉ ratT b.p ++ (z ++ (ratT b.s ++ 32 :: intL b.w)) := fun y => by
    rcases List.mem_append.mp y with y | y
    · exact ratT_no (.inr (.inl rfl)) y
    · rcases List.mem_append.mp y with y | y
      · exact h y
      · rcases List.mem_append.mp y with y | y
        · exact ratT_no (.inr (.inl rfl)) y
        · rcases List.mem_cons.mp y with y | y
          · cases y
          · exact intL_no (.inr (.inl rfl)) y
  have := rowT_first_ball (b := b) (bs := bs) hf hb
  cases bs with
  | nil => exact ⟨ratT b.s ++ 32 :: intL b.w, rfl, this, by show (ratT b.p ++ 32 :: (ratT b.s ++ 32 :: intL b.w)).length = _; rw [List.length_append, List.length_cons]; omega⟩
  | cons c bs =>
    refine ⟨(ratT b.s ++ 32 :: intL b.w) ++ ([59, 32] ++ rowL (c :: bs)), ?_, ?_, ?_⟩
    · show (ratT b.p ++ 32 :: (ratT b.s ++ 32 :: intL b.w)) ++ ([59, 32] ++ rowL (c :: bs)) = _
      simp
    · have e : ratT b.p ++ (z ++ ((ratT b.s ++ 32 :: intL b.w) ++ ([59, 32] ++ rowL (c :: bs)))) = (ratT b.p ++ (z ++ (ratT b.s ++ 32 :: intL b.w))) ++ ([59, 32] ++ rowL (c :: bs)) := by simp
      rw [e]
      exact this
    · show ((ratT b.p ++ 32 :: (ratT b.s ++ 32 :: intL b.w)) ++ ([59, 32] ++ rowL (c :: bs))).length = _
      simp only [List.length_append, List.length_cons]
      omega
theorem pair_no {bs : List Bl} {c d : Bl} (h : mayB c d = false) : isRow none none (dRow (bs ++ [c] ++ [d])) = false := by
  cases e : isRow none none (dRow (bs ++ [c] ++ [d])) with
  | false => rfl
  | true =>
    have h1 := (isRow_pre e).1.2.2
    rw [List.append_assoc] at h1
    have h2 : Nb mayB (bs ++ ([c] ++ [d])) = false := nb_mid (f := mayB) h bs []
    rw [h2] at h1; cases h1
theorem weight_no {bs : List Bl} {d : Bl} (h : ¬ (1 ≤ d.w ∧ d.w ≤ 1000)) : isRow none none (dRow (bs ++ [d])) = false := by
  cases e : isRow none none (dRow (bs ++ [d])) with
  | false => rfl
  | true => exact absurd ((isRow_pre e).1.2.1 d (by simp)) h
theorem w_law_amiss {K : KF} (W : WX) (ds : List DV) (Ω : Om) (R : DV → Om → Prop) (X : Exc → Om → Prop) (h : sp_law_amiss K ds Ω R X) : WS K W (t_law_amiss K W) (startG 8 ds) Ω (fnO Ω R X) := by
  obtain ⟨k, p, bs, rfl, hp, ip, hr, hz, q⟩ := h
  have hk := lt_of_get hp
  have hb : ∀ b ∈ bs, B300 b := fun b hb => b300_30 (hz b hb) (by have := hr.w0 b hb; omega)
  have hl8 := hr.le
  have hlen := row_len30 fun b hb => ball_len30 (hz b hb) (by have := hr.w0 b hb; omega)
  have hlen : (rowL bs).length ≤ 424 := by omega
  have okw := okT_row bs
  obtain ⟨cs, c, hcs⟩ : ∃ cs c, bs = cs ++ [c] := ⟨bs.dropLast, bs.getLast hr.nz, (List.dropLast_concat_getLast hr.nz).symm⟩
  obtain ⟨b0, b1, hbb⟩ : ∃ b0 b1, bs = b0 :: b1 := by
    cases h : bs with
    | nil => exact absurd h hr.nz
    | cons a b => exact ⟨a, b, rfl⟩
  have hc : c ∈ bs := by rw [hcs]; simp
  have zc := hz c hc
  have bc := hb c hc
  have wc := hr.w0 c hc
  have l1 := rat_len30 zc.1
  have l2 := rat_len30 zc.2
  have lc := ball_len30 zc (by omega)
  have n59 : ∀ {q : Rat}, 59 ∉ ratT q := fun {q} => ratT_no (.inr (.inl rfl))
  obtain ⟨r, hr0, no7, hrl⟩ := row_first_cut (b := b0) (bs := b1) (z := [32, 32]) (by decide) (by
    have e : ratT b0.p ++ ([32, 32] ++ (ratT b0.s ++ 32 :: intL b0.w)) = TL.joinL [32] [ratT b0.p, [], ratT b0.s, intL b0.w] := rfl
    rw [e, ballT_words (by simp) (fun p hp => by
      simp only [List.mem_cons, List.not_mem_nil, or_false] at hp
      rcases hp with rfl | rfl | rfl | rfl
      · exact ratT_no (.inl rfl)
      · simp
      · exact ratT_no (.inl rfl)
      · exact intL_no (.inl rfl))]
    exact ballW_no (by simp))
  obtain ⟨r', hr0', no14, -⟩ := row_first_cut (b := b0) (bs := b1) (z := [9]) (by decide) (by
    have e : ratT b0.p ++ ([9] ++ (ratT b0.s ++ 32 :: intL b0.w)) = TL.joinL [32] [ratT b0.p ++ 9 :: ratT b0.s, intL b0.w] := by
      show _ = (ratT b0.p ++ 9 :: ratT b0.s) ++ ([32] ++ intL b0.w)
      simp
    rw [e, ballT_words (by simp) (fun p hp => by
      simp only [List.mem_cons, List.not_mem_nil, or_false] at hp
      rcases hp with rfl | rfl
      · intro z
        rcases List.mem_append.mp z with z | z
        · exact ratT_no (.inl rfl) z
        · rcases List.mem_cons.mp z with z | z
          · cases z
          · exact ratT_no (.inl rfl) z
      · exact intL_no (.inl rfl))]
    exact ballW_no (by simp))
  have er : r' = r := by
    rw [hr0] at hr0'
    have := List.append_cancel_left hr0'
    exact (List.cons.inj this).2.symm
  subst er
  rw [← hbb] at hr0 hrl
  have l0 := rat_len30 (hz b0 (by rw [hbb]; simp)).1
  have no8 : rowT (rowL bs ++ [32, 49]) = none := by
    rw [hcs]
    refine row_piece_last (by decide) ?_
    have e : ballL c ++ [32, 49] = TL.joinL [32] [ratT c.p, ratT c.s, intL c.w, [49]] := by
      rw [ballL_join]
      show (ratT c.p ++ ([32] ++ (ratT c.s ++ ([32] ++ intL c.w)))) ++ [32, 49] = ratT c.p ++ ([32] ++ (ratT c.s ++ ([32] ++ (intL c.w ++ ([32] ++ [49])))))
      simp
    rw [e, ballT_words (by simp) (fun p hp => by
      simp only [List.mem_cons, List.not_mem_nil, or_false] at hp
      rcases hp with rfl | rfl | rfl | rfl
      · exact ratT_no (.inl rfl)
      · exact ratT_no (.inl rfl)
      · exact intL_no (.inl rfl)
      · simp)]
    exact ballW_no (by simp)
  have no9 : rowT (rowL bs ++ [59, 32] ++ rowL [c]) = none := by
    have := rowT_add hr.nz hb bc (by rw [hcs]; exact pair_no (by show mayS c.p c.s c.p c.s = false; unfold mayS; rw [if_pos rfl]; exact decide_eq_false (Rat.lt_irrefl)))
    rw [List.append_assoc]
    exact this
  have no10 : rowT (rowL bs ++ [59, 32] ++ ratT c.p ++ [32] ++ ratT c.s) = none := by
    have := rowT_more (bs := bs) (a := TL.joinL [32] [ratT c.p, ratT c.s]) hr.nz (fun z => by
      have z : 59 ∈ ratT c.p ++ ([32] ++ ratT c.s) := z
      rcases List.mem_append.mp z with z | z
      · exact n59 z
      · rcases List.mem_append.mp z with z | z
        · simp at z
        · exact n59 z) (by
      rw [ballT_words (by simp) (fun p hp => by
        simp only [List.mem_cons, List.not_mem_nil, or_false] at hp
        rcases hp with rfl | rfl
        · exact ratT_no (.inl rfl)
        · exact ratT_no (.inl rfl))]
      exact ballW_no (by simp))
    have e : rowL bs ++ [59, 32] ++ ratT c.p ++ [32] ++ ratT c.s = rowL bs ++ (59 :: 32 :: TL.joinL [32] [ratT c.p, ratT c.s]) := by
      show _ = rowL bs ++ (59 :: 32 :: (ratT c.p ++ ([32] ++ ratT c.s)))
      simp
    rw [e]; exact this
  have s7 : Sz 34 (c.p - Rat.divInt 1 7) := by
    have : Sz 3 (Rat.divInt 1 7) := ⟨by decide +kernel, by decide +kernel⟩
    exact zc.1.sub this
  have r1 : R300 (1 : Rat) := ⟨by decide +kernel, by decide +kernel⟩
  have w1 : (1 : Int).natAbs < 10 ^ 300 := by decide +kernel
  have sM : Sz 30 (1000000 : Rat) := ⟨by decide +kernel, by decide +kernel⟩
  have s0 : Sz 30 (0 : Rat) := ⟨by decide +kernel, by decide +kernel⟩
  have no13 : rowT (rowL bs ++ [59, 32] ++ ratT (c.p - Rat.divInt 1 7) ++ [32, 49, 32, 49]) = none := by
    have h1 := rowT_add (bs := bs) (b := ⟨c.p - Rat.divInt 1 7, 1, 1⟩) hr.nz hb ⟨r300_30 s7 (by decide), r1, Int.zero_le_ofNat 1, w1⟩ (by
      rw [hcs]
      refine pair_no ?_
      show mayS c.p c.s (c.p - Rat.divInt 1 7) 1 = false
      have p7 : (0 : Rat) < Rat.divInt 1 7 := by decide +kernel
      unfold mayS
      rw [if_neg (by grind), decide_eq_false (by grind)])
    have e : rowL bs ++ [59, 32] ++ ratT (c.p - Rat.divInt 1 7) ++ [32, 49, 32, 49] = rowL bs ++ (59 :: 32 :: ballL ⟨c.p - Rat.divInt 1 7, 1, 1⟩) := by
      have e1 : ratT (1 : Rat) = [49] := by decide +kernel
      have e2 : intL (1 : Int) = [49] := by decide +kernel
      show _ = rowL bs ++ (59 :: 32 :: (ratT (c.p - Rat.divInt 1 7) ++ 32 :: (ratT (1 : Rat) ++ 32 :: intL 1)))
      rw [e1, e2]
      simp
    rw [e]; exact h1
  have no17 : ∀ (w : Int) (x : List Nat), 0 ≤ w → w ≤ 2000 → ¬ (1 ≤ w ∧ w ≤ 1000) → ballL ⟨1000000, 0, w⟩ = x → rowT (rowL bs ++ (59 :: 32 :: x)) = none := fun w x h0 h2 h3 e => by
    rw [← e]
    exact rowT_add hr.nz hb (b300_30 ⟨sM, s0⟩ ⟨h0, h2⟩) (weight_no h3)
  have no19 : ∀ x : List Nat, 59 ∉ x → (ballT x).isNone = true → rowT (rowL bs ++ (59 :: 32 :: x)) = none := fun x h1 h2 => rowT_more hr.nz h1 (Option.isNone_iff_eq_none.mp h2)
  have dc : ∀ x : List Nat, (decide (x.length ≤ 5000) && (okT x && (rowT x).isNone)) = true → x.length ≤ 5000 ∧ okT x = true ∧ rowT x = none := fun x h => by
    obtain ⟨h1, h⟩ := Bool.and_eq_true_iff.mp h
    obtain ⟨h2, h3⟩ := Bool.and_eq_true_iff.mp h
    exact ⟨of_decide_eq_true h1, h2, Option.isNone_iff_eq_none.mp h3⟩
  show WS K W (t_law_amiss K W) [some (.d (dRow bs)), some (.o k), none, none, none, none, none, none] Ω _
  unfold t_law_amiss
  have ix : atI (bs.map dB) (-1) = some (dB c) := by
    rw [hcs, List.map_append]
    exact atI_last _ _
  walk_at "hl"
  refine ⟨bs, rfl, hl8, hr.nz, hb, ?_⟩
  walk_at "hl"
  refine wr_ixT (xs := bs.map dB) (y := dB c) ix ?_
  walk_at "hl"
  refine ⟨c.p, rfl, bc.1, ?_⟩
  walk_at "hl"
  refine wr_ixT (xs := bs.map dB) (y := dB c) ix ?_
  walk_at "hl"
  refine ⟨c.s, rfl, bc.2.1, ?_⟩
  walk_at "hl"
  refine we_replO (c := 32) (z := [32, 32]) ?_
  walk_at "hl"
  refine ⟨ratT b0.p, r', by rw [← hr0], ratT_no (.inl rfl), by show _ + _ + 2 ≤ _; omega, ?_⟩
  walk_at "hl"
  have ec : cutG bs (some (-1)) none = [c] := by
    rw [hcs]
    unfold cutG
    have e1 : HT.sIx (cs ++ [c]).length 0 (some (-1)) = cs.length := by
      unfold HT.sIx
      simp
      omega
    have e2 : HT.sIx (cs ++ [c]).length (cs ++ [c]).length none = (cs ++ [c]).length := rfl
    rw [e1, e2]
    simp
  rw [ec]
  refine ⟨[c], rfl, Nat.le_of_ble_eq_true rfl, by simp, fun b hb => by rw [List.mem_singleton.mp hb]; exact bc, ?_⟩
  have lc1 : (rowL [c]).length ≤ 51 := lc
  walk_at "hl"
  refine wr_addL rfl rfl (Nat.le_of_ble_eq_true rfl) ?_
  walk_at "hl"
  refine wr_ixT (xs := bs.map dB) (y := dB c) ix ?_
  walk_at "hl"
  have d7 : dR (Rat.divInt 1 7) = .tuple [.int 1, .int 7] := by rfl
  refine ⟨c.p, Rat.divInt 1 7, by rw [d7], ⟨30, 3, zc.1, ⟨by decide +kernel, by decide +kernel⟩, by decide⟩, ?_⟩
  walk_at "hl"
  have l13 := ratT_len (q := c.p - Rat.divInt 1 7) (k := 11) (by decide) (Nat.lt_trans s7.1 (by decide)) (Nat.lt_trans s7.2 (by decide))
  refine ⟨c.p - Rat.divInt 1 7, rfl, r300_30 s7 (by decide), ?_⟩
  walk_at "hl"
  refine we_replO (c := 32) (z := [9]) ?_
  walk_at "hl"
  refine ⟨ratT b0.p, r', by rw [← hr0], ratT_no (.inl rfl), by show _ + _ + 1 ≤ _; omega, ?_⟩
  walk_at "hl"
  refine wr_addL rfl rfl (Nat.le_of_ble_eq_true rfl) ?_
  walk_at "hl"
  refine we_lcP (α := List Nat) only1 (wi_L tS [[48], [49, 48, 48, 49], [45, 49], [48, 49], [49, 47, 50], []] ?_)
  walk_at "hl"
  refine ⟨rfl, [[48], [49, 48, 48, 49], [45, 49], [48, 49], [49, 47, 50], []], _, fun _ => true, fun x => tS (rowL bs ++ [59, 32, 49, 48, 48, 48, 48, 48, 48, 32, 48, 32] ++ x), rfl, by decide, rfl, fun _ => trivial, ?_, ?_⟩
  · rintro x Ω' hx -
    have hx : x.length ≤ 4 := by
      simp only [List.mem_cons, List.not_mem_nil, or_false] at hx
      rcases hx with rfl | rfl | rfl | rfl | rfl | rfl <;> decide
    walk_at "hl"
    refine ⟨rfl, rfl, fun _ => ?_⟩
    walk_at "hl"
    exact ⟨rfl, rfl⟩
  rw [filter_yes]
  walk_at "hl"
  refine wr_addL rfl rfl (Nat.le_of_ble_eq_true rfl) ?_
  walk_at "hl"
  refine ⟨k, p, (22 : Nat), rfl, hp, ip, by decide, by decide, fun z p1 r0 r1 ip => ?_⟩
  refine wr_ix_any r0 (by exact r1) fun u hu => ?_
  have good : ∀ x : List Nat, x.length ≤ 5000 → okT x = true → rowT x = none → Dr Ω R (.d (tS x)) (Ω.set k p1) := fun x h1 h2 h3 => dr_same (q x p1 h1 h2 h3 ip)
  have nr : ∀ x, (x = 32 ∨ x = 59 ∨ x = 10 ∨ x = 97 ∨ x = 120) → ¬ RatC x := fun x h z => by unfold RatC at z; omega
  have okr : okT r' = true := okT_iff.mpr fun x hx => okT_iff.mp okw x (by rw [hr0]; simp [hx])
  have ln : ∀ {x y : List Nat}, (x ++ y).length = x.length + y.length := List.length_append
  simp only [List.cons_append, List.nil_append, List.map_cons, List.map_nil, List.mem_cons, List.not_mem_nil, or_false] at hu
  generalize hx13 : ratT (c.p - Rat.divInt 1 7) = x13 at *
  have ok13 : okT x13 = true := by rw [← hx13]; exact okT_rat _
  rcases hu with rfl | rfl | rfl | rfl | rfl | rfl | rfl | rfl | rfl | rfl | rfl | rfl | rfl | rfl | rfl | rfl | rfl | rfl | rfl | rfl | rfl | rfl
  · exact good (rowL bs ++ [59, 32]) (by rw [ln]; show _ + 2 ≤ _; omega) (okT_app okw rfl) (by
      have := rowT_last (c := 32) (r := rowL bs ++ [59]) (nr _ (by omega))
      rw [List.append_assoc] at this; exact this)
  · exact good (32 :: rowL bs) (by rw [List.length_cons]; omega) (okT_app (x := [32]) rfl okw) (rowT_first (nr _ (by omega)))
  · exact good (rowL bs ++ [32]) (by rw [ln]; show _ + 1 ≤ _; omega) (okT_app okw rfl) (rowT_last (nr _ (by omega)))
  · exact good (rowL bs ++ [59]) (by rw [ln]; show _ + 1 ≤ _; omega) (okT_app okw rfl) (rowT_last (nr _ (by omega)))
  · obtain ⟨h1, h2, h3⟩ := dc [] (by decide +kernel)
    exact good _ h1 h2 h3
  · exact good (59 :: 32 :: rowL bs) (by rw [List.length_cons, List.length_cons]; omega) (okT_app (x := [59, 32]) rfl okw) (rowT_first (nr _ (by omega)))
  · exact good (ratT b0.p ++ ([32, 32] ++ r')) (by rw [ln, ln]; show _ + (2 + _) ≤ _; omega) (okT_app (okT_rat _) (okT_app rfl okr)) no7
  · exact good (rowL bs ++ [32, 49]) (by rw [ln]; show _ + 2 ≤ _; omega) (okT_app okw rfl) no8
  · exact good (rowL bs ++ [59, 32] ++ rowL [c]) (by rw [ln, ln]; show _ + 2 + _ ≤ _; omega) (okT_app (okT_app okw rfl) (okT_row _)) no9
  · exact good (rowL bs ++ [59, 32] ++ ratT c.p ++ [32] ++ ratT c.s) (by rw [ln, ln, ln, ln]; show _ + 2 + _ + 1 + _ ≤ _; omega) (okT_app (okT_app (okT_app (okT_app okw rfl) (okT_rat _)) rfl) (okT_rat _)) no10
  · exact good (rowL bs ++ [59, 32, 49, 32, 50, 32, 120]) (by rw [ln]; show _ + 7 ≤ _; omega) (okT_app okw rfl) (by
      have := rowT_last (c := 120) (r := rowL bs ++ [59, 32, 49, 32, 50, 32]) (nr _ (by omega))
      rw [List.append_assoc] at this; exact this)
  · obtain ⟨h1, h2, h3⟩ := dc [45] (by decide +kernel)
    exact good _ h1 h2 h3
  · exact good (rowL bs ++ [59, 32] ++ x13 ++ [32, 49, 32, 49]) (by rw [ln, ln, ln]; show _ + 2 + _ + 4 ≤ _; omega) (okT_app (okT_app (okT_app okw rfl) ok13) rfl) no13
  · exact good (ratT b0.p ++ ([9] ++ r')) (by rw [ln, ln]; show _ + (1 + _) ≤ _; omega) (okT_app (okT_rat _) (okT_app rfl okr)) no14
  · exact good (rowL bs ++ [10]) (by rw [ln]; show _ + 1 ≤ _; omega) (okT_app okw rfl) (rowT_last (nr _ (by omega)))
  · exact good ([97, 32, 98, 32, 49, 59, 32] ++ rowL bs) (by rw [ln]; show 7 + _ ≤ _; omega) (okT_app rfl okw) (rowT_first (nr _ (by omega)))
  all_goals refine good (rowL bs ++ _ ++ _) (by rw [ln, ln]; show _ + 12 + _ ≤ _; simp only [List.length_cons, List.length_nil]; omega) (okT_app (okT_app okw rfl) rfl) ?_
  all_goals rw [List.append_assoc]
  · exact no17 0 _ (by decide) (by decide) (by decide) (by decide +kernel)
  · exact no17 1001 _ (by decide) (by decide) (by decide) (by decide +kernel)
  · exact no19 [49, 48, 48, 48, 48, 48, 48, 32, 48, 32, 45, 49] (by decide) (by decide +kernel)
  · exact no19 [49, 48, 48, 48, 48, 48, 48, 32, 48, 32, 48, 49] (by decide) (by decide +kernel)
  · exact no19 [49, 48, 48, 48, 48, 48, 48, 32, 48, 32, 49, 47, 50] (by decide) (by decide +kernel)
  · have := rowT_last (c := 32) (r := rowL bs ++ [59, 32, 49, 48, 48, 48, 48, 48, 48, 32, 48]) (nr _ (by omega))
    rw [List.append_assoc] at this; exact this
theorem sp_len_law_amiss {K : KF} (ds : List DV) (Ω : Om) (R : DV → Om → Prop) (X : Exc → Om → Prop) (h : sp_law_amiss K ds Ω R X) : ds.length = 2 := by
  unfold sp_law_amiss at h
  first
    | (obtain ⟨rfl, _⟩ := h; rfl)
    | (obtain ⟨_, rfl, _⟩ := h; rfl)
    | (obtain ⟨_, _, rfl, _⟩ := h; rfl)
    | (obtain ⟨_, _, _, rfl, _⟩ := h; rfl)
    | (obtain ⟨_, _, _, _, rfl, _⟩ := h; rfl)
    | (obtain ⟨_, _, _, _, _, rfl, _⟩ := h; rfl)
    | (obtain ⟨_, _, _, _, _, _, rfl, _⟩ := h; rfl)
    | (obtain ⟨_, _, _, _, _, _, _, rfl, _⟩ := h; rfl)
    | (obtain ⟨_, _, _, _, _, _, _, _, rfl, _⟩ := h; rfl)
    | (obtain ⟨_, _, _, _, _, _, _, _, _, rfl, _⟩ := h; rfl)
    | (obtain ⟨_, _, _, _, _, _, _, _, _, _, rfl, _⟩ := h; rfl)
    | (obtain ⟨_, _, _, _, _, _, _, _, _, _, _, rfl, _⟩ := h; rfl)
    | (obtain ⟨_, _, _, _, _, _, _, _, _, _, _, _, rfl, _⟩ := h; rfl)
    | (obtain ⟨_, _, _, _, _, _, _, _, _, _, _, _, _, rfl, _⟩ := h; rfl)
    | (obtain ⟨_, _, _, _, _, _, _, _, _, _, _, _, _, rfl, _⟩ := h; rfl)
    | (obtain ⟨_, _, _, _, _, _, _, _, _, _, _, _, _, _, rfl, _⟩ := h; rfl)
    | (obtain ⟨_, _, _, _, _, _, _, _, _, _, _, _, _, _, _, rfl, _⟩ := h; rfl)
    | (obtain ⟨_, _, _, _, _, _, _, _, _, _, _, _, _, _, _, _, rfl, _⟩ := h; rfl)
    | (obtain ⟨_, _, _, _, _, _, _, _, _, _, _, _, _, _, _, _, _, rfl, _⟩ := h; rfl)
    | (obtain ⟨_, _, _, _, _, _, _, _, _, _, _, _, _, _, _, _, _, _, rfl, _⟩ := h; rfl)
    | (obtain ⟨_, _, _, _, _, _, _, _, _, _, _, _, _, _, _, _, _, _, _, rfl, _⟩ := h; rfl)
    | (obtain ⟨_, _, _, _, _, _, _, _, _, _, _, _, _, _, _, _, _, _, _, _, rfl, _⟩ := h; rfl)
    | (obtain ⟨_, _, _, _, _, _, _, _, _, _, _, _, _, _, _, _, _, _, _, _, _, rfl, _⟩ := h; rfl)
--USE HLp
def sp_law_bent (K : KF) : Spec := fun ds Ω R X => ∃ (k : Nat) (p : OC) (l : List Nat), ds = [.d (tS l), .o k] ∧ Ω[k]? = some p ∧ IsPool p ∧ l.length ≤ 2600 ∧ okT l = true ∧ ∀ (x : List Nat) (p' : OC), x.length ≤ 2700 → okT x = true → IsPool p' → R (.d (tS x)) (Ω.set k p')
def t_law_bent (K : KF) (W : WX) : TS :=
  (tSeq (tAsg (tCall (FS K (sp_law_next K)) [] E0 (tCons (tVar 1) (tCons (tOp (rAddX K) (tCB rLenT (tCons (tVar 0) tNil)) (tC (.int 1))) tNil))) (gName 2))
    (tSeq (tAsg (tOp (rIx K) (tC (.str "0123456789-/ ;|+._a\t\n")) (tCall (FS K (sp_law_next K)) [] E0 (tCons (tVar 1) (tCons (tC (.int 21)) tNil)))) (gName 3))
    (tRet (tOp (rAddX K) (tOp (rAddX K) (tSl C8.rSlX (tVar 0) tNoPart (tPart (tVar 2))) (tOp (rIx K) (tLst (tCons (tC (.str "")) (tCons (tVar 3) (tCons (tVar 3) tNil)))) (tCall (FS K (sp_law_next K)) [] E0 (tCons (tVar 1) (tCons (tC (.int 3)) tNil))))) (tSl C8.rSlX (tVar 0) (tPart (tOp (rAddX K) (tVar 2) (tCall (FS K (sp_law_next K)) [] E0 (tCons (tVar 1) (tCons (tC (.int 2)) tNil))))) tNoPart)))))
theorem w_law_bent {K : KF} (W : WX) (ds : List DV) (Ω : Om) (R : DV → Om → Prop) (X : Exc → Om → Prop) (h : sp_law_bent K ds Ω R X) : WS K W (t_law_bent K W) (startG 4 ds) Ω (fnO Ω R X) := by
  obtain ⟨k, p, l, rfl, hp, ip, hl, ho, q⟩ := h
  have hk := lt_of_get hp
  show WS K W (t_law_bent K W) [some (.d (tS l)), some (.o k), none, none] Ω _
  unfold t_law_bent
  walk_at "hl"
  refine ⟨k, p, l.length + 1, rfl, hp, ip, by omega, by omega, fun at' p1 a0 a1 ip => ?_⟩
  walk_at "hl"
  refine dn0 hk ip (by decide) (by decide) fun r p1 r0 r1 ip => ?_
  obtain ⟨c, hc, hco⟩ : ∃ c : Nat, atI [48, 49, 50, 51, 52, 53, 54, 55, 56, 57, 45, 47, 32, 59, 124, 43, 46, 95, 97, 9, 10] r = some c ∧ c < 1114112 := by
    obtain ⟨j, rfl⟩ : ∃ j : Nat, r = j := ⟨r.toNat, by omega⟩
    have : ∀ j, j < 21 → ∃ c : Nat, atI [48, 49, 50, 51, 52, 53, 54, 55, 56, 57, 45, 47, 32, 59, 124, 43, 46, 95, 97, 9, 10] ((j : Nat) : Int) = some c ∧ c < 1114112 := by
      intro j hj
      refine ⟨[48, 49, 50, 51, 52, 53, 54, 55, 56, 57, 45, 47, 32, 59, 124, 43, 46, 95, 97, 9, 10][j]'(by simpa using hj), atI_nat (List.getElem?_eq_getElem _), ?_⟩
      have hm : ∀ x ∈ [48, 49, 50, 51, 52, 53, 54, 55, 56, 57, 45, 47, 32, 59, 124, 43, 46, 95, 97, 9, 10], x < 1114112 := by decide
      exact hm _ (List.getElem_mem _)
    exact this j (by omega)
  refine wr_ixT' (by decide) hc ?_
  walk_at "hl"
  refine dn0 hk ip (by decide) (by decide) fun r2 p1 r20 r21 ip => ?_
  have hc1 : okT [c] = true := okT_iff.mpr fun x hx => by rw [List.mem_singleton.mp hx]; exact hco
  obtain ⟨m, hm, hml, hmo⟩ : ∃ m : List Nat, atI [tS [], tS [c], tS [c]] r2 = some (tS m) ∧ m.length ≤ 1 ∧ okT m = true := by
    have : r2 = 0 ∨ r2 = 1 ∨ r2 = 2 := by omega
    rcases this with rfl | rfl | rfl
    · exact ⟨[], rfl, by decide, rfl⟩
    · exact ⟨[c], rfl, by simp, hc1⟩
    · exact ⟨[c], rfl, by simp, hc1⟩
  refine wr_ixL hm ?_
  have tl : (l.take at'.toNat).length ≤ 2600 := by rw [List.length_take]; omega
  walk_at "hl"
  refine dn0 hk ip (by decide) (by decide) fun r3 p1 r30 r31 ip => ?_
  walk_at "hl"
  have sum : (l.take at'.toNat).length + (l.drop (at' + r3).toNat).length ≤ l.length := by rw [List.length_take, List.length_drop]; omega
  refine dr_same (q _ _ (by rw [List.length_append, List.length_append]; omega) (okT_iff.mpr fun x hx => ?_) ip)
  rcases List.mem_append.mp hx with h | h
  · rcases List.mem_append.mp h with h | h
    · exact okT_iff.mp ho x (List.mem_of_mem_take h)
    · exact okT_iff.mp hmo x h
  · exact okT_iff.mp ho x (List.mem_of_mem_drop h)
theorem sp_len_law_bent {K : KF} (ds : List DV) (Ω : Om) (R : DV → Om → Prop) (X : Exc → Om → Prop) (h : sp_law_bent K ds Ω R X) : ds.length = 2 := by
  unfold sp_law_bent at h
  first
    | (obtain ⟨rfl, _⟩ := h; rfl)
    | (obtain ⟨_, rfl, _⟩ := h; rfl)
    | (obtain ⟨_, _, rfl, _⟩ := h; rfl)
    | (obtain ⟨_, _, _, rfl, _⟩ := h; rfl)
    | (obtain ⟨_, _, _, _, rfl, _⟩ := h; rfl)
    | (obtain ⟨_, _, _, _, _, rfl, _⟩ := h; rfl)
    | (obtain ⟨_, _, _, _, _, _, rfl, _⟩ := h; rfl)
    | (obtain ⟨_, _, _, _, _, _, _, rfl, _⟩ := h; rfl)
    | (obtain ⟨_, _, _, _, _, _, _, _, rfl, _⟩ := h; rfl)
    | (obtain ⟨_, _, _, _, _, _, _, _, _, rfl, _⟩ := h; rfl)
    | (obtain ⟨_, _, _, _, _, _, _, _, _, _, rfl, _⟩ := h; rfl)
    | (obtain ⟨_, _, _, _, _, _, _, _, _, _, _, rfl, _⟩ := h; rfl)
    | (obtain ⟨_, _, _, _, _, _, _, _, _, _, _, _, rfl, _⟩ := h; rfl)
    | (obtain ⟨_, _, _, _, _, _, _, _, _, _, _, _, _, rfl, _⟩ := h; rfl)
    | (obtain ⟨_, _, _, _, _, _, _, _, _, _, _, _, _, rfl, _⟩ := h; rfl)
    | (obtain ⟨_, _, _, _, _, _, _, _, _, _, _, _, _, _, rfl, _⟩ := h; rfl)
    | (obtain ⟨_, _, _, _, _, _, _, _, _, _, _, _, _, _, _, rfl, _⟩ := h; rfl)
    | (obtain ⟨_, _, _, _, _, _, _, _, _, _, _, _, _, _, _, _, rfl, _⟩ := h; rfl)
    | (obtain ⟨_, _, _, _, _, _, _, _, _, _, _, _, _, _, _, _, _, rfl, _⟩ := h; rfl)
    | (obtain ⟨_, _, _, _, _, _, _, _, _, _, _, _, _, _, _, _, _, _, rfl, _⟩ := h; rfl)
    | (obtain ⟨_, _, _, _, _, _, _, _, _, _, _, _, _, _, _, _, _, _, _, rfl, _⟩ := h; rfl)
    | (obtain ⟨_, _, _, _, _, _, _, _, _, _, _, _, _, _, _, _, _, _, _, _, rfl, _⟩ := h; rfl)
    | (obtain ⟨_, _, _, _, _, _, _, _, _, _, _, _, _, _, _, _, _, _, _, _, _, rfl, _⟩ := h; rfl)
/-- a pool of one's own -/
def sp_law_pool (K : KF) : Spec := fun ds Ω R X => ∃ c : Int, ds = [.d (.int c)] ∧ ∀ p, IsPool p → R (.o Ω.length) (Ω ++ [p])
def t_law_pool (K : KF) (W : WX) : TS :=
  (tRet (tLst (tCons (tCB rMaxI (tCons (tC (.int 0)) (tCons (tOp oSub (tVar 0) (tOp oPow (tC (.int 10)) (tC (.int 18)))) tNil))) (tCons (tOp oMod (tVar 0) (tOp oPow (tC (.int 10)) (tC (.int 18)))) (tCons (tC (.int 0)) tNil)))))
theorem w_law_pool {K : KF} (W : WX) (ds : List DV) (Ω : Om) (R : DV → Om → Prop) (X : Exc → Om → Prop) (h : sp_law_pool K ds Ω R X) : WS K W (t_law_pool K W) (startG 1 ds) Ω (fnO Ω R X) := by
  obtain ⟨c, rfl, q⟩ := h
  show WS K W (t_law_pool K W) [some (.d (.int c))] Ω _
  unfold t_law_pool
  refine ws_ret (we_lstO ?_)
  walk_at "hl"
  refine wr_pow ⟨by decide, by decide, by decide⟩ ?_
  walk_at "hl"
  refine wr_pow ⟨by decide, by decide, by decide⟩ ?_
  refine wr_modP (by decide) ?_
  walk_at "hl"
  refine dr_same (q _ ?_)
  exact ⟨_, _, _, rfl, by split <;> omega, Int.emod_nonneg _ (by decide), by omega⟩
theorem sp_len_law_pool {K : KF} (ds : List DV) (Ω : Om) (R : DV → Om → Prop) (X : Exc → Om → Prop) (h : sp_law_pool K ds Ω R X) : ds.length = 1 := by
  unfold sp_law_pool at h
  first
    | (obtain ⟨rfl, _⟩ := h; rfl)
    | (obtain ⟨_, rfl, _⟩ := h; rfl)
    | (obtain ⟨_, _, rfl, _⟩ := h; rfl)
    | (obtain ⟨_, _, _, rfl, _⟩ := h; rfl)
    | (obtain ⟨_, _, _, _, rfl, _⟩ := h; rfl)
    | (obtain ⟨_, _, _, _, _, rfl, _⟩ := h; rfl)
    | (obtain ⟨_, _, _, _, _, _, rfl, _⟩ := h; rfl)
    | (obtain ⟨_, _, _, _, _, _, _, rfl, _⟩ := h; rfl)
    | (obtain ⟨_, _, _, _, _, _, _, _, rfl, _⟩ := h; rfl)
    | (obtain ⟨_, _, _, _, _, _, _, _, _, rfl, _⟩ := h; rfl)
    | (obtain ⟨_, _, _, _, _, _, _, _, _, _, rfl, _⟩ := h; rfl)
    | (obtain ⟨_, _, _, _, _, _, _, _, _, _, _, rfl, _⟩ := h; rfl)
    | (obtain ⟨_, _, _, _, _, _, _, _, _, _, _, _, rfl, _⟩ := h; rfl)
    | (obtain ⟨_, _, _, _, _, _, _, _, _, _, _, _, _, rfl, _⟩ := h; rfl)
    | (obtain ⟨_, _, _, _, _, _, _, _, _, _, _, _, _, rfl, _⟩ := h; rfl)
    | (obtain ⟨_, _, _, _, _, _, _, _, _, _, _, _, _, _, rfl, _⟩ := h; rfl)
    | (obtain ⟨_, _, _, _, _, _, _, _, _, _, _, _, _, _, _, rfl, _⟩ := h; rfl)
    | (obtain ⟨_, _, _, _, _, _, _, _, _, _, _, _, _, _, _, _, rfl, _⟩ := h; rfl)
    | (obtain ⟨_, _, _, _, _, _, _, _, _, _, _, _, _, _, _, _, _, rfl, _⟩ := h; rfl)
    | (obtain ⟨_, _, _, _, _, _, _, _, _, _, _, _, _, _, _, _, _, _, rfl, _⟩ := h; rfl)
    | (obtain ⟨_, _, _, _, _, _, _, _, _, _, _, _, _, _, _, _, _, _, _, rfl, _⟩ := h; rfl)
    | (obtain ⟨_, _, _, _, _, _, _, _, _, _, _, _, _, _, _, _, _, _, _, _, rfl, _⟩ := h; rfl)
    | (obtain ⟨_, _, _, _, _, _, _, _, _, _, _, _, _, _, _, _, _, _, _, _, _, rfl, _⟩ := h; rfl)
def sp_law_below (K : KF) : Spec := fun ds Ω R X => ∃ p q : Rat, ds = [.d (dR p), .d (dR q)] ∧ (∃ n m, Sz n p ∧ Sz m q ∧ n + m ≤ 900000) ∧ R (.d (.bool (decide (p < q)))) Ω
def t_law_below (K : KF) (W : WX) : TS :=
  (tRet (tOp oLt (tOp oMul (tOp (rIx K) (tVar 0) (tC (.int 0))) (tOp (rIx K) (tVar 1) (tC (.int 1)))) (tOp oMul (tOp (rIx K) (tVar 1) (tC (.int 0))) (tOp (rIx K) (tVar 0) (tC (.int 1))))))
theorem w_law_below {K : KF} (W : WX) (ds : List DV) (Ω : Om) (R : DV → Om → Prop) (X : Exc → Om → Prop) (h : sp_law_below K ds Ω R X) : WS K W (t_law_below K W) (startG 2 ds) Ω (fnO Ω R X) := by
  obtain ⟨p, q, rfl, ⟨n, m, hp, hq, hz⟩, k⟩ := h
  show WS K W (t_law_below K W) [some (.d (dR p)), some (.d (dR q))] Ω _
  unfold t_law_below
  obtain ⟨nn, nd, dn, dd⟩ := muls hp hq (by omega)
  obtain ⟨nn', nd', dn', dd'⟩ := muls hq hp (by omega)
  walk_at "hl"
  have e : decide (p.num * q.den < q.num * p.den) = decide (p < q) := decide_eq_decide.mpr (Rat.lt_iff p q).symm
  rw [e]
  exact dr_same k
theorem sp_len_law_below {K : KF} (ds : List DV) (Ω : Om) (R : DV → Om → Prop) (X : Exc → Om → Prop) (h : sp_law_below K ds Ω R X) : ds.length = 2 := by
  unfold sp_law_below at h
  first
    | (obtain ⟨rfl, _⟩ := h; rfl)
    | (obtain ⟨_, rfl, _⟩ := h; rfl)
    | (obtain ⟨_, _, rfl, _⟩ := h; rfl)
    | (obtain ⟨_, _, _, rfl, _⟩ := h; rfl)
    | (obtain ⟨_, _, _, _, rfl, _⟩ := h; rfl)
    | (obtain ⟨_, _, _, _, _, rfl, _⟩ := h; rfl)
    | (obtain ⟨_, _, _, _, _, _, rfl, _⟩ := h; rfl)
    | (obtain ⟨_, _, _, _, _, _, _, rfl, _⟩ := h; rfl)
    | (obtain ⟨_, _, _, _, _, _, _, _, rfl, _⟩ := h; rfl)
    | (obtain ⟨_, _, _, _, _, _, _, _, _, rfl, _⟩ := h; rfl)
    | (obtain ⟨_, _, _, _, _, _, _, _, _, _, rfl, _⟩ := h; rfl)
    | (obtain ⟨_, _, _, _, _, _, _, _, _, _, _, rfl, _⟩ := h; rfl)
    | (obtain ⟨_, _, _, _, _, _, _, _, _, _, _, _, rfl, _⟩ := h; rfl)
    | (obtain ⟨_, _, _, _, _, _, _, _, _, _, _, _, _, rfl, _⟩ := h; rfl)
    | (obtain ⟨_, _, _, _, _, _, _, _, _, _, _, _, _, rfl, _⟩ := h; rfl)
    | (obtain ⟨_, _, _, _, _, _, _, _, _, _, _, _, _, _, rfl, _⟩ := h; rfl)
    | (obtain ⟨_, _, _, _, _, _, _, _, _, _, _, _, _, _, _, rfl, _⟩ := h; rfl)
    | (obtain ⟨_, _, _, _, _, _, _, _, _, _, _, _, _, _, _, _, rfl, _⟩ := h; rfl)
    | (obtain ⟨_, _, _, _, _, _, _, _, _, _, _, _, _, _, _, _, _, rfl, _⟩ := h; rfl)
    | (obtain ⟨_, _, _, _, _, _, _, _, _, _, _, _, _, _, _, _, _, _, rfl, _⟩ := h; rfl)
    | (obtain ⟨_, _, _, _, _, _, _, _, _, _, _, _, _, _, _, _, _, _, _, rfl, _⟩ := h; rfl)
    | (obtain ⟨_, _, _, _, _, _, _, _, _, _, _, _, _, _, _, _, _, _, _, _, rfl, _⟩ := h; rfl)
    | (obtain ⟨_, _, _, _, _, _, _, _, _, _, _, _, _, _, _, _, _, _, _, _, _, rfl, _⟩ := h; rfl)
--USE HLp
def dN : Option Nat → PyData
  | none => .none
  | some n => .int n
def sp_law_value (K : KF) : Spec := fun ds Ω R X => ∃ l : List Nat, ds = [.d (tS l)] ∧ l.length ≤ 5000 ∧ okT l = true ∧ R (.d (dN (valT l))) Ω
def t_law_value (K : KF) (W : WX) : TS :=
  (tSeqI (tIfS (tOr (tTest (tOp (rEqD K) (tVar 0) (tC (.str "")))) (tOr (tTest (tOp oGt (tCB rLenT (tCons (tVar 0) tNil)) (tC (.int 300)))) (tAnd (tTest (tOp (rEqD K) (tOp (rIx K) (tVar 0) (tC (.int 0))) (tC (.str "0")))) (tTest (tOp (rNeD K) (tVar 0) (tC (.str "0"))))))) (tRet (tC .non)) tNext)
    (tSeq (tAsg (tC (.int 0)) (gName 1))
    (tSeq (tFor (iStr (tVar 0)) (gName 2) (tSeqI (tIfS (tTest (tOp (rInT true) (tVar 2) (tC (.str "0123456789")))) (tRet (tC .non)) tNext)
    (tAsg (tOp (rAddX K) (tOp oMul (tVar 1) (tC (.int 10))) (tBM K "str" rIdxT (tC (.str "0123456789")) (tCons (tVar 2) tNil))) (gName 1))))
    (tRet (tVar 1)))))
theorem w_law_value {K : KF} (W : WX) (ds : List DV) (Ω : Om) (R : DV → Om → Prop) (X : Exc → Om → Prop) (h : sp_law_value K ds Ω R X) : WS K W (t_law_value K W) (startG 3 ds) Ω (fnO Ω R X) := by
  obtain ⟨l, rfl, hl, ho, q⟩ := h
  show WS K W (t_law_value K W) [some (.d (tS l)), none, none] Ω _
  unfold t_law_value
  walk_at "hl"
  have no : valT l = none → R (.d .none) Ω := fun h => by rw [h] at q; exact q
  have nf : ¬ Figs l → valT l = none := fun h => by
    unfold valT
    rw [if_neg (fun z => h (figs_iff.mp z))]
  refine ws_cut (fun Γ Ω1 => Γ = [some (.d (tS l)), none, none] ∧ Ω1 = Ω ∧ (1 ≤ l.length ∧ l.length ≤ 300) ∧ (l = [48] ∨ l.head? ≠ some 48)) ?_ ?_
  rotate_left
  · have bad : ¬ Figs l → WS K W (tRet (tC V.non)) [some (DV.d (tS l)), none, none] Ω { nx := fun Γ Ω1 => Γ = [some (DV.d (tS l)), none, none] ∧ Ω1 = Ω ∧ (1 ≤ l.length ∧ l.length ≤ 300) ∧ (l = [48] ∨ l.head? ≠ some 48), rt := (fnO Ω R X).rt, bk := (fnO Ω R X).bk, ct := (fnO Ω R X).ct, er := (fnO Ω R X).er } := fun h => by
      walk_at "hl"
      exact dr_same (no (nf h))
    walk_at "hl"
    refine ⟨fun h => ?_, fun h => ?_⟩
    · have h := of_decide_eq_true h
      exact ⟨fun _ => bad fun z => by have := z.one; rw [h] at this; simp at this, fun h => (by cases h)⟩
    · have h := of_decide_eq_false h
      have h1 : 1 ≤ l.length := by cases l with | nil => exact absurd rfl h | cons a b => simp
      walk_at "hl"
      refine ⟨fun h => ?_, fun h => ?_⟩
      · have h := of_decide_eq_true h
        exact ⟨fun _ => bad fun z => by have := z.le; omega, fun h => (by cases h)⟩
      · have h2 := of_decide_eq_false h
        obtain ⟨c, r, rfl⟩ : ∃ c r, l = c :: r := by cases l with | nil => simp at h1 | cons a b => exact ⟨a, b, rfl⟩
        have hok : okT [c] = true := okT_iff.mpr fun x hx => by rw [List.mem_singleton.mp hx]; exact okT_iff.mp ho c (by simp)
        walk_at "hl"
        refine wr_ixT' (c := c) (by omega) (atI_nat (j := 0) rfl) ?_
        walk_at "hl"
        refine ⟨fun h => ?_, fun h => ?_⟩
        · have h3 := of_decide_eq_true h
          walk_at "hl"
          refine ⟨fun h => ?_, fun h => ?_⟩
          · have h4 : ¬ (c :: r = [48]) := fun z => by rw [decide_eq_true z] at h; cases h
            refine bad fun z => ?_
            rcases z.hd with e | e
            · exact h4 e
            · exact e (by rw [(List.cons.inj h3).1]; rfl)
          · have h4 : c :: r = [48] := by
              cases z : decide (c :: r = [48]) with
              | true => exact of_decide_eq_true z
              | false => rw [z] at h; cases h
            walk_at "hl"
            exact ⟨rfl, rfl, ⟨h1, by omega⟩, .inl h4⟩
        · have h3 := of_decide_eq_false h
          refine ⟨fun h => (by cases h), fun _ => ?_⟩
          walk_at "hl"
          exact ⟨rfl, rfl, ⟨h1, by omega⟩, .inr fun z => h3 (by rw [Option.some.inj z])⟩
  rintro Γ Ω1 ⟨rfl, rfl, hl1, hd⟩
  walk_at "hl"
  refine ws_for (wi_str ?_)
  walk_at "hl"
  refine ⟨l, rfl, fun i Γ Ω2 => ∃ c2, Γ = [some (.d (tS l)), some (.d (.int (NumText.digitsVal (l.take i) : Nat))), c2] ∧ Ω2 = Ω1 ∧ NumText.AllDigits (l.take i), ⟨_, rfl, rfl, fun _ h => by simp at h⟩, ?_, ?_, ?_⟩
  · rintro i Γ Ω2 - ⟨c2, rfl, rfl, -⟩
    exact ⟨trivial, Nat.le_refl _⟩
  · rintro i y Γ Ω2 hy ⟨c2, rfl, rfl, had⟩
    obtain ⟨c, hc, rfl⟩ : ∃ c, l[i]? = some c ∧ y = .d (tS [c]) := by
      rw [List.getElem?_map] at hy
      cases h : l[i]? with
      | none => rw [h] at hy; cases hy
      | some c => rw [h] at hy; exact ⟨c, rfl, (Option.some.inj hy).symm⟩
    walk_at "hl"
    have hi := lt_of_get hc
    have htk : l.take (i + 1) = l.take i ++ [c] := by rw [List.take_add_one, hc]; rfl
    refine ws_go ?_
    walk_at "hl"
    by_cases hm : c ∈ figL
    · rw [decide_eq_true hm]
      refine ⟨fun h => (by cases h), fun _ => ?_⟩
      have hcc := mem_fig.mp hm
      have hv : NumText.digitsVal (l.take i) < 10 ^ 300 := by
        have h1 := dv_lt (l.take i) 0 had
        rw [Nat.zero_add, Nat.one_mul] at h1
        refine Nat.lt_of_lt_of_le h1 (Nat.pow_le_pow_right (by decide) ?_)
        rw [List.length_take]; omega
      have cm : CMulW (NumText.digitsVal (l.take i) : Nat) 10 := cmul (n := 1000) (m := 4) (by
        have : (10 : Nat) ^ 300 < 2 ^ 1000 := by decide +kernel
        show ((NumText.digitsVal (l.take i) : Nat) : Int).natAbs < _
        rw [Int.natAbs_natCast]
        omega) (by decide) (by decide)
      walk_at "hl"
      refine wm_idxT (a := figL) (n := c - 48) ?_ ?_
      · have := fig_idx (c - 48) (by omega)
        rw [show 48 + (c - 48) = c by omega] at this
        exact this
      walk_at "hl"
      refine ⟨some (.d (tS [c])), ?_, rfl, ?_⟩
      · rw [htk, NumText.digitsVal_snoc]
        rw [show ((NumText.digitsVal (l.take i) : Nat) : Int) * 10 + ((c - 48 : Nat) : Int) = ((NumText.digitsVal (l.take i) * 10 + (c - 48) : Nat) : Int) by omega]
        rfl
      · rw [htk]
        intro x hx
        rcases List.mem_append.mp hx with e | e
        · exact had x e
        · rw [List.mem_singleton.mp e]; exact hcc
    · rw [decide_eq_false hm]
      refine ⟨fun _ => ?_, fun h => (by cases h)⟩
      walk_at "hl"
      refine dr_same (no (nf fun z => hm (mem_fig.mpr (z.dig c (List.mem_of_getElem? hc)))))
  · rintro Γ Ω2 ⟨c2, rfl, rfl, had⟩
    walk_at "hl"
    rw [List.length_map, List.take_length] at *
    have hf : Figs l := ⟨hl1.1, hl1.2, had, hd⟩
    unfold valT at q
    rw [if_pos (figs_iff.mpr hf)] at q
    exact dr_same q
theorem sp_len_law_value {K : KF} (ds : List DV) (Ω : Om) (R : DV → Om → Prop) (X : Exc → Om → Prop) (h : sp_law_value K ds Ω R X) : ds.length = 1 := by
  unfold sp_law_value at h
  first
    | (obtain ⟨rfl, _⟩ := h; rfl)
    | (obtain ⟨_, rfl, _⟩ := h; rfl)
    | (obtain ⟨_, _, rfl, _⟩ := h; rfl)
    | (obtain ⟨_, _, _, rfl, _⟩ := h; rfl)
    | (obtain ⟨_, _, _, _, rfl, _⟩ := h; rfl)
    | (obtain ⟨_, _, _, _, _, rfl, _⟩ := h; rfl)
    | (obtain ⟨_, _, _, _, _, _, rfl, _⟩ := h; rfl)
    | (obtain ⟨_, _, _, _, _, _, _, rfl, _⟩ := h; rfl)
    | (obtain ⟨_, _, _, _, _, _, _, _, rfl, _⟩ := h; rfl)
    | (obtain ⟨_, _, _, _, _, _, _, _, _, rfl, _⟩ := h; rfl)
    | (obtain ⟨_, _, _, _, _, _, _, _, _, _, rfl, _⟩ := h; rfl)
    | (obtain ⟨_, _, _, _, _, _, _, _, _, _, _, rfl, _⟩ := h; rfl)
    | (obtain ⟨_, _, _, _, _, _, _, _, _, _, _, _, rfl, _⟩ := h; rfl)
    | (obtain ⟨_, _, _, _, _, _, _, _, _, _, _, _, _, rfl, _⟩ := h; rfl)
    | (obtain ⟨_, _, _, _, _, _, _, _, _, _, _, _, _, rfl, _⟩ := h; rfl)
    | (obtain ⟨_, _, _, _, _, _, _, _, _, _, _, _, _, _, rfl, _⟩ := h; rfl)
    | (obtain ⟨_, _, _, _, _, _, _, _, _, _, _, _, _, _, _, rfl, _⟩ := h; rfl)
    | (obtain ⟨_, _, _, _, _, _, _, _, _, _, _, _, _, _, _, _, rfl, _⟩ := h; rfl)
    | (obtain ⟨_, _, _, _, _, _, _, _, _, _, _, _, _, _, _, _, _, rfl, _⟩ := h; rfl)
    | (obtain ⟨_, _, _, _, _, _, _, _, _, _, _, _, _, _, _, _, _, _, rfl, _⟩ := h; rfl)
    | (obtain ⟨_, _, _, _, _, _, _, _, _, _, _, _, _, _, _, _, _, _, _, rfl, _⟩ := h; rfl)
    | (obtain ⟨_, _, _, _, _, _, _, _, _, _, _, _, _, _, _, _, _, _, _, _, rfl, _⟩ := h; rfl)
    | (obtain ⟨_, _, _, _, _, _, _, _, _, _, _, _, _, _, _, _, _, _, _, _, _, rfl, _⟩ := h; rfl)
--USE HLp
def sp_law_read (K : KF) : Spec := fun ds Ω R X => ∃ l : List Nat, ds = [.d (tS l)] ∧ l.length ≤ 5000 ∧ okT l = true ∧ R (.d (dX (readT l))) Ω
def t_law_read (K : KF) (W : WX) : TS :=
  (tSeq (tAsg (tBM K "str" rSplit (tVar 0) (tCons (tC (.str "/")) tNil)) (gName 1))
    (tSeq (tAsg (tCB rIntX (tCons (tOp (rEqD K) (tSl C8.rSlX (tOp (rIx K) (tVar 1) (tC (.int 0))) tNoPart (tPart (tC (.int 1)))) (tC (.str "-"))) tNil)) (gName 2))
    (tSeq (tAsg (tCall (FS K (sp_law_value K)) [] E0 (tCons (tSl C8.rSlX (tOp (rIx K) (tVar 1) (tC (.int 0))) (tPart (tVar 2)) tNoPart) tNil)) (gName 3))
    (tSeq (tAsg (tC (.int 1)) (gName 4))
    (tSeqI (tIfS (tTest (tOp (rEqD K) (tCB (rLenQ K) (tCons (tVar 1) tNil)) (tC (.int 2)))) (tAsg (tCall (FS K (sp_law_value K)) [] E0 (tCons (tOp (rIx K) (tVar 1) (tC (.int 1))) tNil)) (gName 4)) tNext)
    (tSeqI (tIfS (tOr (tTest (tOp oIsN (tVar 3) (tC .non))) (tOr (tTest (tOp oIsN (tVar 4) (tC .non))) (tOr (tTest (tOp oGt (tCB (rLenQ K) (tCons (tVar 1) tNil)) (tC (.int 2)))) (tAnd (tTest (tOp (rEqD K) (tVar 2) (tC (.int 1)))) (tTest (tOp (rEqD K) (tVar 3) (tC (.int 0)))))))) (tRet (tC .non)) tNext)
    (tSeqI (tIfS (tAnd (tTest (tOp (rEqD K) (tCB (rLenQ K) (tCons (tVar 1) tNil)) (tC (.int 2)))) (tOr (tTest (tOp oLt (tVar 4) (tC (.int 2)))) (tTest (tOp (rNeD K) (tCall (FS K (sp_law_common K)) [] E0 (tCons (tVar 3) (tCons (tVar 4) tNil))) (tC (.int 1)))))) (tRet (tC .non)) tNext)
    (tRet (tTup (tCons (tOp oMul (tVar 3) (tOp (rIx K) (tLst (tCons (tC (.int 1)) (tCons (tUn uNeg (tC (.int 1))) tNil))) (tVar 2))) (tCons (tVar 4) tNil)))))))))))
theorem w_law_read {K : KF} (W : WX) (ds : List DV) (Ω : Om) (R : DV → Om → Prop) (X : Exc → Om → Prop) (h : sp_law_read K ds Ω R X) : WS K W (t_law_read K W) (startG 5 ds) Ω (fnO Ω R X) := by
  obtain ⟨l, rfl, hl, ho, q⟩ := h
  show WS K W (t_law_read K W) [some (.d (tS l)), none, none, none, none] Ω _
  unfold t_law_read
  have hS : ([47] : List Nat) ≠ [] := by decide
  obtain ⟨p, r, hp⟩ : ∃ p r, parts [47] l = p :: r := by
    cases h : parts [47] l with
    | nil => exact absurd h (parts_ne 47 l)
    | cons p r => exact ⟨p, r, rfl⟩
  have hpm : p ∈ parts [47] l := by rw [hp]; simp
  have pl := (parts_sub hS hpm).1
  have po := parts_ok hS hpm ho
  have ul := (undash_sub (p := p)).1
  have uo : okT (undash p) = true := okT_iff.mpr fun c hc => okT_iff.mp po c (undash_sub.2 c hc)
  have rl : r.length ≤ 5001 := by have := parts_len hS (l := l); rw [hp, List.length_cons] at this; omega
  have to : okT (p.take (Int.toNat 1)) = true := okT_iff.mpr fun c hc => okT_iff.mp po c (List.mem_of_mem_take hc)
  obtain ⟨dv, hdv, hd01, hdrop, hdash, hsgn⟩ : ∃ dv : Int, (if decide (p.take (Int.toNat 1) = [45]) = true then (1 : Int) else 0) = dv ∧ (dv = 0 ∨ dv = 1) ∧ p.drop dv.toNat = undash p ∧ (dv = 1 ↔ dashB p = true) ∧ atI [PyData.int 1, PyData.int (-1)] dv = some (.int (sgnT p)) := by
    have e : decide (p.take (Int.toNat 1) = [45]) = dashB p := rfl
    rw [e]
    unfold undash sgnT
    cases h : dashB p with
    | true => exact ⟨1, rfl, .inr rfl, rfl, by simp, rfl⟩
    | false => exact ⟨0, rfl, .inl rfl, rfl, by simp, rfl⟩
  walk_at "hl"
  rw [hp]
  refine wr_ixL (xs := (p :: r).map tS) (y := tS p) (atI_nat (j := 0) rfl) ?_
  walk_at "hl"
  rw [hdv]
  refine wr_ixL (xs := (p :: r).map tS) (y := tS p) (atI_nat (j := 0) rfl) ?_
  walk_at "hl"
  rw [hdrop]
  refine ⟨undash p, rfl, by omega, uo, ?_⟩
  walk_at "hl"
  show WS K W _ _ _ _
  refine ws_cut (fun Γ Ω1 => Γ = [some (.d (tS l)), some (.d (.list ((p :: r).map tS))), some (.d (.int dv)), some (.d (dN (valT (undash p)))), some (.d (dN (botT r)))] ∧ Ω1 = Ω) ?_ ?_
  rotate_left
  · walk_at "hl"
    rw [List.length_map, List.length_map, List.length_cons]
    refine ⟨fun h => ?_, fun h => ?_⟩
    · have h : r.length = 1 := by have := of_decide_eq_true h; omega
      obtain ⟨b', rfl⟩ : ∃ b', r = [b'] := by
        match r, h with
        | [b'], _ => exact ⟨b', rfl⟩
      have hbm : b' ∈ parts [47] l := by rw [hp]; simp
      have bl := (parts_sub hS hbm).1
      have bo := parts_ok hS hbm ho
      walk_at "hl"
      refine ⟨b', rfl, by omega, bo, ?_⟩
      walk_at "hl"
      exact ⟨rfl, rfl⟩
    · have h : r.length ≠ 1 := by have := of_decide_eq_false h; omega
      walk_at "hl"
      refine ⟨?_, rfl⟩
      match r, h with
      | [], _ => rfl
      | _ :: _ :: _, _ => rfl
      | [_], h => exact absurd rfl h
  rintro Γ Ω1 ⟨rfl, rfl⟩
  have key : readT l = match parts [47] l with
    | [p] => (valT (undash p)).bind fun t => if dashB p = true ∧ t = 0 then none else some (Rat.divInt (sgnT p * t) 1)
    | [p, b] => (valT (undash p)).bind fun t => (valT b).bind fun b => if (dashB p = true ∧ t = 0) ∨ b < 2 ∨ Nat.gcd t b ≠ 1 then none else some (Rat.divInt (sgnT p * t) b)
    | _ => none := rfl
  rw [key, hp] at q
  obtain ⟨F, hF⟩ : ∃ F, F = (match p :: r with
    | [p] => (valT (undash p)).bind fun t => if dashB p = true ∧ t = 0 then none else some (Rat.divInt (sgnT p * t) 1)
    | [p, b] => (valT (undash p)).bind fun t => (valT b).bind fun b => if (dashB p = true ∧ t = 0) ∨ b < 2 ∨ Nat.gcd t b ≠ 1 then none else some (Rat.divInt (sgnT p * t) b)
    | _ => none) := ⟨_, rfl⟩
  rw [← hF] at q
  have ret : F = none → ∀ (Γ : Gm) (M : Gm → Om → Prop), WS K W (tRet (tC V.non)) Γ Ω1 { nx := M, rt := (fnO Ω1 R X).rt, bk := (fnO Ω1 R X).bk, ct := (fnO Ω1 R X).ct, er := (fnO Ω1 R X).er } := fun h Γ M => by
    rw [h] at q
    walk_at "hl"
    exact dr_same q
  have h1 : valT (undash p) = none → F = none := fun h => by
    rw [hF]
    match r with
    | [] => show (valT (undash p)).bind _ = none; rw [h]; rfl
    | [b] => show (valT (undash p)).bind _ = none; rw [h]; rfl
    | _ :: _ :: _ => rfl
  have h2 : botT r = none → F = none := fun h => by
    rw [hF]
    match r, h with
    | [b], h =>
      show ((valT (undash p)).bind fun t => (valT b).bind _) = none
      have h : valT b = none := h
      cases valT (undash p) with
      | none => rfl
      | some t => show (valT b).bind _ = none; rw [h]; rfl
  have h3 : 2 ≤ r.length → F = none := fun h => by
    rw [hF]
    match r, h with
    | _ :: _ :: _, _ => rfl
  have h4 : ∀ t, valT (undash p) = some t → dashB p = true ∧ t = 0 → F = none := fun t e h => by
    rw [hF]
    match r with
    | [] =>
      show (valT (undash p)).bind _ = none
      rw [e]
      show (if dashB p = true ∧ t = 0 then none else _) = none
      rw [if_pos h]
    | [b] =>
      show ((valT (undash p)).bind fun t => (valT b).bind _) = none
      rw [e]
      show (valT b).bind _ = none
      cases valT b with
      | none => rfl
      | some b => show (if (dashB p = true ∧ t = 0) ∨ b < 2 ∨ Nat.gcd t b ≠ 1 then none else _) = none; rw [if_pos (.inl h)]
    | _ :: _ :: _ => rfl
  refine ws_cut (fun Γ Ω2 => ∃ t b : Nat, valT (undash p) = some t ∧ botT r = some b ∧ r.length ≤ 1 ∧ ¬ (dashB p = true ∧ t = 0) ∧ Γ = [some (.d (tS l)), some (.d (.list ((p :: r).map tS))), some (.d (.int dv)), some (.d (.int (t : Int))), some (.d (.int (b : Int)))] ∧ Ω2 = Ω1) ?_ ?_
  rotate_left
  · cases hv : valT (undash p) with
    | none =>
      walk_at "hl"
      exact ⟨fun _ => ⟨fun _ => ret (h1 hv) _ _, fun h => (by cases h)⟩, fun h => (by cases h)⟩
    | some t =>
      cases hw : botT r with
      | none =>
        walk_at "hl"
        refine ⟨fun h => (by cases h), fun _ => ?_⟩
        walk_at "hl"
        exact ⟨fun _ => ⟨fun _ => ret (h2 hw) _ _, fun h => (by cases h)⟩, fun h => (by cases h)⟩
      | some b =>
        walk_at "hl"
        refine ⟨fun h => (by cases h), fun _ => ?_⟩
        walk_at "hl"
        refine ⟨fun h => (by cases h), fun _ => ?_⟩
        walk_at "hl"
        rw [List.length_map, List.length_map, List.length_cons]
        refine ⟨fun h => ?_, fun h => ?_⟩
        · have h := of_decide_eq_true h
          exact ⟨fun _ => ret (h3 (by omega)) _ _, fun h => (by cases h)⟩
        · have h5 := of_decide_eq_false h
          walk_at "hl"
          refine ⟨fun h => ?_, fun h => ?_⟩
          · have hdd : dashB p = true := hdash.mp (of_decide_eq_true h)
            refine wt_test (we_op ?_)
            refine we_var (d := .d (.int (t : Int))) rfl ?_
            walk_at "hl"
            refine ⟨fun h => ?_, fun h => ?_⟩
            · have ht : t = 0 := by have := of_decide_eq_true h; omega
              exact ret (h4 t hv ⟨hdd, ht⟩) _ _
            · have ht : t ≠ 0 := by have := of_decide_eq_false h; omega
              walk_at "hl"
              exact ⟨t, b, rfl, rfl, by omega, fun z => ht z.2, rfl, rfl⟩
          · have hdd : ¬ dashB p = true := fun z => by have := of_decide_eq_false h; exact this (hdash.mpr z)
            refine ⟨fun h => (by cases h), fun _ => ?_⟩
            walk_at "hl"
            exact ⟨t, b, rfl, rfl, by omega, fun z => hdd z.1, rfl, rfl⟩
  rintro Γ Ω2 ⟨t, b, hv, hw, hr, h0, rfl, rfl⟩
  obtain ⟨hf1, hn1, ht⟩ := valT_some hv
  have p3 : (10 : Nat) ^ 300 < 2 ^ 1000 := by decide +kernel
  have cm : CMulW (t : Int) (sgnT p) := cmul (n := 1000) (m := 1) (by omega) (by unfold sgnT; split <;> decide) (by decide)
  have fin : ∀ b : Nat, b ≠ 0 → Nat.gcd t b = 1 → F = some (Rat.divInt (sgnT p * t) b) → ∀ Γ : Gm, Γ = [some (.d (tS l)), some (.d (.list ((p :: r).map tS))), some (.d (.int dv)), some (.d (.int (t : Int))), some (.d (.int (b : Int)))] →
      WS K W (tRet (tTup (tCons (tOp oMul (tVar 3) (tOp (rIx K) (tLst (tCons (tC (.int 1)) (tCons (tUn uNeg (tC (.int 1))) tNil))) (tVar 2))) (tCons (tVar 4) tNil)))) Γ Ω2 (fnO Ω2 R X) := by
    rintro b hb hg hF2 Γ rfl
    rw [hF2] at q
    walk_at "hl"
    refine wr_ixL hsgn ?_
    walk_at "hl"
    obtain ⟨e1, e2⟩ := low_nd (p := p) hb hg
    have e : PyData.tuple [.int ((t : Int) * sgnT p), .int (b : Int)] = dR (Rat.divInt (sgnT p * t) b) := by
      show _ = PyData.tuple [.int (Rat.divInt (sgnT p * t) b).num, .int ((Rat.divInt (sgnT p * t) b).den : Nat)]
      rw [e1, e2, Int.mul_comm]
    have q : R (.d (dR (Rat.divInt (sgnT p * t) b))) Ω2 := q
    rw [← e] at q
    exact dr_same q
  match r, hp, rl, hw, hr, hF, fin with
  | [], hp, rl, hw, hr, hF, fin =>
    have hb : 1 = b := Option.some.inj hw
    subst hb
    have hF2 : F = some (Rat.divInt (sgnT p * t) 1) := by
      rw [hF]
      show (valT (undash p)).bind _ = _
      rw [hv]
      show (if dashB p = true ∧ t = 0 then none else some (Rat.divInt (sgnT p * t) 1)) = _
      rw [if_neg h0]
    refine ws_cut (fun Γ Ω3 => Γ = [some (.d (tS l)), some (.d (.list ([p].map tS))), some (.d (.int dv)), some (.d (.int (t : Int))), some (.d (.int ((1 : Nat) : Int)))] ∧ Ω3 = Ω2) ?_ ?_
    · rintro Γ Ω3 ⟨rfl, rfl⟩
      exact fin 1 (by decide) (by simp) hF2 _ rfl
    walk_at "hl"
    refine bF rfl ?_
    refine bF rfl ?_
    walk_at "hl"
    exact ⟨rfl, rfl⟩
  | [b'], hp, rl, hw, hr, hF, fin =>
    have hw : valT b' = some b := hw
    have hF1 : F = (if (dashB p = true ∧ t = 0) ∨ b < 2 ∨ Nat.gcd t b ≠ 1 then none else some (Rat.divInt (sgnT p * t) b)) := by
      rw [hF]
      show ((valT (undash p)).bind fun t => (valT b').bind _) = _
      rw [hv]
      show (valT b').bind _ = _
      rw [hw]; rfl
    refine ws_cut (fun Γ Ω3 => Γ = [some (.d (tS l)), some (.d (.list ([p, b'].map tS))), some (.d (.int dv)), some (.d (.int (t : Int))), some (.d (.int (b : Int)))] ∧ Ω3 = Ω2 ∧ b ≠ 0 ∧ Nat.gcd t b = 1 ∧ F = some (Rat.divInt (sgnT p * t) b)) ?_ ?_
    · rintro Γ Ω3 ⟨rfl, rfl, z1, z2, z3⟩
      exact fin b z1 z2 z3 _ rfl
    walk_at "hl"
    refine bT rfl ?_
    walk_at "hl"
    refine ⟨fun h => ?_, fun h => ?_⟩
    · have h := of_decide_eq_true h
      refine ⟨fun _ => ret (by rw [hF1, if_pos (.inr (.inl (by omega)))]) _ _, fun h => (by cases h)⟩
    · have hb2 := of_decide_eq_false h
      walk_at "hl"
      refine ⟨t, b, rfl, by omega, by omega, ?_⟩
      walk_at "hl"
      have eg : Int.gcd (t : Int) (b : Int) = Nat.gcd t b := rfl
      rw [eg]
      refine ⟨fun h => ?_, fun h => ?_⟩
      · have h : Nat.gcd t b ≠ 1 := fun z => by rw [z] at h; cases h
        exact ret (by rw [hF1, if_pos (.inr (.inr h))]) _ _
      · have h : Nat.gcd t b = 1 := by
          cases z : decide (((Nat.gcd t b : Nat) : Int) = 1) with
          | true => have := of_decide_eq_true z; omega
          | false => rw [z] at h; cases h
        walk_at "hl"
        refine ⟨rfl, rfl, by omega, h, ?_⟩
        rw [hF1, if_neg]
        rintro (z | z | z)
        · exact h0 z
        · omega
        · exact z h
theorem sp_len_law_read {K : KF} (ds : List DV) (Ω : Om) (R : DV → Om → Prop) (X : Exc → Om → Prop) (h : sp_law_read K ds Ω R X) : ds.length = 1 := by
  unfold sp_law_read at h
  first
    | (obtain ⟨rfl, _⟩ := h; rfl)
    | (obtain ⟨_, rfl, _⟩ := h; rfl)
    | (obtain ⟨_, _, rfl, _⟩ := h; rfl)
    | (obtain ⟨_, _, _, rfl, _⟩ := h; rfl)
    | (obtain ⟨_, _, _, _, rfl, _⟩ := h; rfl)
    | (obtain ⟨_, _, _, _, _, rfl, _⟩ := h; rfl)
    | (obtain ⟨_, _, _, _, _, _, rfl, _⟩ := h; rfl)
    | (obtain ⟨_, _, _, _, _, _, _, rfl, _⟩ := h; rfl)
    | (obtain ⟨_, _, _, _, _, _, _, _, rfl, _⟩ := h; rfl)
    | (obtain ⟨_, _, _, _, _, _, _, _, _, rfl, _⟩ := h; rfl)
    | (obtain ⟨_, _, _, _, _, _, _, _, _, _, rfl, _⟩ := h; rfl)
    | (obtain ⟨_, _, _, _, _, _, _, _, _, _, _, rfl, _⟩ := h; rfl)
    | (obtain ⟨_, _, _, _, _, _, _, _, _, _, _, _, rfl, _⟩ := h; rfl)
    | (obtain ⟨_, _, _, _, _, _, _, _, _, _, _, _, _, rfl, _⟩ := h; rfl)
    | (obtain ⟨_, _, _, _, _, _, _, _, _, _, _, _, _, rfl, _⟩ := h; rfl)
    | (obtain ⟨_, _, _, _, _, _, _, _, _, _, _, _, _, _, rfl, _⟩ := h; rfl)
    | (obtain ⟨_, _, _, _, _, _, _, _, _, _, _, _, _, _, _, rfl, _⟩ := h; rfl)
    | (obtain ⟨_, _, _, _, _, _, _, _, _, _, _, _, _, _, _, _, rfl, _⟩ := h; rfl)
    | (obtain ⟨_, _, _, _, _, _, _, _, _, _, _, _, _, _, _, _, _, rfl, _⟩ := h; rfl)
    | (obtain ⟨_, _, _, _, _, _, _, _, _, _, _, _, _, _, _, _, _, _, rfl, _⟩ := h; rfl)
    | (obtain ⟨_, _, _, _, _, _, _, _, _, _, _, _, _, _, _, _, _, _, _, rfl, _⟩ := h; rfl)
    | (obtain ⟨_, _, _, _, _, _, _, _, _, _, _, _, _, _, _, _, _, _, _, _, rfl, _⟩ := h; rfl)
    | (obtain ⟨_, _, _, _, _, _, _, _, _, _, _, _, _, _, _, _, _, _, _, _, _, rfl, _⟩ := h; rfl)
--USE HLp
--USE HMf
def sp_law_read_row (K : KF) : Spec := fun ds Ω R X => ∃ l : List Nat, ds = [.d (tS l)] ∧ l.length ≤ 5000 ∧ okT l = true ∧ R (.d (dRo (rowT l))) Ω
def t_law_read_row (K : KF) (W : WX) : TS :=
  (tSeq (tAsg (tLst tNil) (gName 1))
    (tSeq (tFor (iSeq K (tBM K "str" rSplit (tVar 0) (tCons (tC (.str "; ")) tNil))) (gName 2) (tSeq (tAsg (tBM K "str" rSplit (tVar 2) (tCons (tC (.str " ")) tNil)) (gName 3))
    (tSeqI (tIfS (tTest (tOp (rNeD K) (tCB (rLenQ K) (tCons (tVar 3) tNil)) (tC (.int 3)))) (tRet (tC .non)) tNext)
    (tSeq (tAsg (tTup (tCons (tCall (FS K (sp_law_read K)) [] E0 (tCons (tOp (rIx K) (tVar 3) (tC (.int 0))) tNil)) (tCons (tCall (FS K (sp_law_read K)) [] E0 (tCons (tOp (rIx K) (tVar 3) (tC (.int 1))) tNil)) (tCons (tCall (FS K (sp_law_value K)) [] E0 (tCons (tOp (rIx K) (tVar 3) (tC (.int 2))) tNil)) tNil)))) (gName 4))
    (tSeqI (tIfS (tOr (tTest (tOp (rInA K false) (tC .non) (tVar 4))) (tOr (tNot (tTest (tChain oLt oLt (tC (.int 0)) (tOp (rIx K) (tVar 4) (tC (.int 2))) (tC (.int 1001))))) (tTest (tOp (rEqD K) (tCB (rLenQ K) (tCons (tVar 1) tNil)) (tC (.int 8)))))) (tRet (tC .non)) tNext)
    (tSeqI (tIfS (tAnd (tTest (tOp (rNeD K) (tVar 1) (tLst tNil))) (tNot (tB (tCall (FS K (sp_law_below K)) [] E0 (tCons (tOp (rIx K) (tOp (rIx K) (tVar 1) (tUn uNeg (tC (.int 1)))) (tC (.int 0))) (tCons (tOp (rIx K) (tVar 4) (tC (.int 0))) tNil)))))) (tIfS (tOr (tTest (tOp (rNeD K) (tOp (rIx K) (tOp (rIx K) (tVar 1) (tUn uNeg (tC (.int 1)))) (tC (.int 0))) (tOp (rIx K) (tVar 4) (tC (.int 0))))) (tNot (tB (tCall (FS K (sp_law_below K)) [] E0 (tCons (tOp (rIx K) (tOp (rIx K) (tVar 1) (tUn uNeg (tC (.int 1)))) (tC (.int 1))) (tCons (tOp (rIx K) (tVar 4) (tC (.int 1))) tNil)))))) (tRet (tC .non)) tNext) tNext)
    (tDrop (tBM K "list" rAppend (tVar 1) (tCons (tVar 4) tNil)))))))))
    (tRet (tCB (rTupQ K) (tCons (tVar 1) tNil)))))
theorem w_law_read_row {K : KF} (W : WX) (ds : List DV) (Ω : Om) (R : DV → Om → Prop) (X : Exc → Om → Prop) (h : sp_law_read_row K ds Ω R X) : WS K W (t_law_read_row K W) (startG 5 ds) Ω (fnO Ω R X) := by
  obtain ⟨l, rfl, hl, ho, q⟩ := h
  show WS K W (t_law_read_row K W) [some (.d (tS l)), none, none, none, none] Ω _
  unfold t_law_read_row
  have hS : ([59, 32] : List Nat) ≠ [] := by decide
  have pl : (parts [59, 32] l).length ≤ 5001 := by have := parts_len hS (l := l); omega
  have ret : rowT l = none → ∀ (Ω1 : Om), (∃ J, Ω1 = Ω ++ J) → Dr Ω R (.d .none) Ω1 := fun h Ω1 e => by
    rw [h] at q
    obtain ⟨J, rfl⟩ := e
    exact dr_app q (fun i h => by cases h)
  walk_at "hl"
  refine ws_for (wi_L tS (parts [59, 32] l) ?_)
  walk_at "hl"
  refine ⟨rfl, fun i Γ Ω1 => ∃ (bs : List Bl) (c2 c3 c4 : Option DV), ballsT ((parts [59, 32] l).take i) = some bs ∧ Pre bs ∧ Γ = [some (.d (tS l)), some (.o Ω.length), c2, c3, c4] ∧ Ω1 = Ω ++ [.lst ((bs.map dB).map DV.d)], ⟨[], none, none, none, rfl, Pre.nil, rfl, rfl⟩, ?_, ?_, ?_⟩
  · rintro i Γ Ω1 - ⟨bs, c2, c3, c4, -, -, rfl, rfl⟩
    exact ⟨trivial, by simp⟩
  · rintro i y Γ Ω1 hy ⟨bs, c2, c3, c4, hb, hp, rfl, rfl⟩
    obtain ⟨p, rfl, hpp, hpm, hi, htk⟩ := lmap_get hy
    have lp := Nat.le_trans (parts_sub hS hpm).1 hl
    have op := parts_ok hS hpm ho
    have zb := ballsT_sz hb
    have l8 := hp.1
    have sub : ∀ x ∈ parts [32] p, x.length ≤ 5000 ∧ okT x = true := fun x hx => ⟨Nat.le_trans (parts_sub (by decide) hx).1 lp, parts_ok (by decide) hx op⟩
    have snoc : ∀ b, ballT p = some b → ballsT ((parts [59, 32] l).take (i + 1)) = some (bs ++ [b]) := fun b e => by rw [htk, ballsT_snoc, hb, e]; rfl
    walk_at "hl"
    refine ws_cut (fun Γ Ω1 => ∃ a s w, parts [32] p = [a, s, w] ∧ Γ = [some (.d (tS l)), some (.o Ω.length), some (.d (tS p)), some (.d (.list ([a, s, w].map tS))), c4] ∧ Ω1 = (Ω ++ [.lst ((bs.map dB).map DV.d)])) ?_ ?_
    rotate_left
    · walk_at "hl"
      rw [List.length_map, List.length_map]
      refine ⟨fun h => ?_, fun h => ?_⟩
      · have h : (parts [32] p).length ≠ 3 := fun z => by rw [decide_eq_true (by omega)] at h; cases h
        walk_at "hl"
        exact ret (rowT_none (by rw [ballT_W, ballW_no h]) hpm) _ ⟨_, rfl⟩
      · have h : (parts [32] p).length = 3 := by
          cases z : decide (((parts [32] p).length : Int) = 3) with
          | true => have := of_decide_eq_true z; omega
          | false => rw [z] at h; cases h
        obtain ⟨a, s, w, hp⟩ : ∃ a s w, parts [32] p = [a, s, w] := by
          match hz : parts [32] p, h with
          | [a, s, w], _ => exact ⟨a, s, w, rfl⟩
        walk_at "hl"
        exact ⟨a, s, w, hp, by rw [hp]; rfl, rfl⟩
    rintro Γ Ω1 ⟨a, s, w, hps, rfl, rfl⟩
    have key : ballT p = (readT a).bind fun p => (readT s).bind fun s => (valT w).map fun w => (⟨p, s, w⟩ : Bl) := by rw [ballT_W, hps]; rfl
    rw [hps] at sub
    obtain ⟨la, oa⟩ := sub a (by simp)
    obtain ⟨ls', os⟩ := sub s (by simp)
    obtain ⟨lw, ow⟩ := sub w (by simp)
    walk_at "hl"
    refine ⟨a, rfl, la, oa, ?_⟩
    walk_at "hl"
    refine ⟨s, rfl, ls', os, ?_⟩
    walk_at "hl"
    refine ⟨w, rfl, lw, ow, ?_⟩
    walk_at "hl"
    refine ws_cut (fun Γ Ω1 => ∃ b : Bl, ballT p = some b ∧ (1 ≤ b.w ∧ b.w ≤ 1000) ∧ bs.length < 8 ∧ Γ = [some (.d (tS l)), some (.o Ω.length), some (.d (tS p)), some (.d (.list ([a, s, w].map tS))), some (.d (dB b))] ∧ Ω1 = (Ω ++ [.lst ((bs.map dB).map DV.d)])) ?_ ?_
    rotate_left
    · walk_at "hl"
      have sh : ∀ x : Option Rat, Shp 63 (dX x) := fun x => by
        cases x with
        | none => exact shp_none
        | some x => exact shp_dR x
      have shN : ∀ x : Option Nat, Shp 63 (dN x) := fun x => by
        cases x with
        | none => exact shp_none
        | some x => exact shp_int
      refine wr_in (a := .none) (bs := [dX (readT a), dX (readT s), dN (valT w)]) rfl (.inr rfl) shp_none (shaped_of (shp_list (n := 63) (shp_cons (sh _) (shp_cons (sh _) (shp_cons (shN _) shp_nil))))) ?_
      refine ex_b ?_
      have en : ∀ x : Option Rat, PyData.eqv (dX x) .none = x.isNone := fun x => by cases x <;> rfl
      have en2 : ∀ x : Option Nat, PyData.eqv (dN x) .none = x.isNone := fun x => by cases x <;> rfl
      simp only [List.any_cons, List.any_nil, en, en2, Bool.or_false, Bool.false_bne]
      have bad : ballT p = none → Dr Ω R (.d .none) (Ω ++ [.lst ((bs.map dB).map DV.d)]) := fun e => ret (rowT_none e hpm) _ ⟨_, rfl⟩
      cases h1 : readT a with
      | none =>
        refine bT rfl ⟨fun _ => ?_, fun h => (by cases h)⟩
        walk_at "hl"
        exact bad (by rw [key, h1]; rfl)
      | some x =>
      cases h2 : readT s with
      | none =>
        refine bT rfl ⟨fun _ => ?_, fun h => (by cases h)⟩
        walk_at "hl"
        exact bad (by rw [key, h1, h2]; rfl)
      | some y =>
      cases h3 : valT w with
      | none =>
        refine bT rfl ⟨fun _ => ?_, fun h => (by cases h)⟩
        walk_at "hl"
        exact bad (by rw [key, h1, h2, h3]; rfl)
      | some n =>
      have hball : ballT p = some (⟨x, y, (n : Int)⟩ : Bl) := by rw [key, h1, h2, h3]; rfl
      have bad2 : ¬ Pre (bs ++ [⟨x, y, (n : Int)⟩]) → Dr Ω R (.d .none) (Ω ++ [.lst ((bs.map dB).map DV.d)]) := fun e => ret (rowT_pre (snoc _ hball) e) _ ⟨_, rfl⟩
      refine bF rfl ?_
      rw [show dN (some n) = PyData.int (n : Int) from rfl]
      walk_at "hl"
      refine ⟨fun n0 => ?_, fun n0 => ?_⟩
      rotate_left
      · refine ex_b (bT rfl (bT rfl ?_))
        walk_at "hl"
        exact bad2 fun z => by
          have h1 : (1 : Int) ≤ (n : Int) := (z.2.1 _ (List.mem_append_right _ (List.mem_singleton.mpr rfl))).1
          have := of_decide_eq_false n0; omega
      have n0 := of_decide_eq_true n0
      walk_at "hl"
      by_cases n1 : n ≤ 1000
      case neg =>
        refine bT (by rw [decide_eq_false (by omega)]; rfl) (bT rfl ?_)
        walk_at "hl"
        exact bad2 fun z => by
          have h1 : (n : Int) ≤ 1000 := (z.2.1 _ (List.mem_append_right _ (List.mem_singleton.mpr rfl))).2
          omega
      refine bF (by rw [decide_eq_true (by omega)]; rfl) ?_
      walk_at "hl"
      refine wc_len' (sq_last _ _) ?_
      walk_at "hl"
      rw [List.length_map, List.length_map]
      refine ⟨fun h => ?_, fun h => ?_⟩
      · have h := of_decide_eq_true h
        walk_at "hl"
        exact bad2 fun z => by have := z.1; rw [List.length_append] at this; simp at this; omega
      · have h := of_decide_eq_false h
        walk_at "hl"
        exact ⟨⟨x, y, (n : Int)⟩, hball, ⟨by show (1 : Int) ≤ (n : Int); omega, by show (n : Int) ≤ 1000; omega⟩, by omega, rfl, rfl⟩
    rintro Γ Ω1 ⟨b, hball, hw, h8, rfl, rfl⟩
    have zq := ballT_sz hball
    refine ws_cut (fun Γ Ω1 => Pre (bs ++ [b]) ∧ Γ = [some (.d (tS l)), some (.o Ω.length), some (.d (tS p)), some (.d (.list ([a, s, w].map tS))), some (.d (dB b))] ∧ Ω1 = (Ω ++ [.lst ((bs.map dB).map DV.d)])) ?_ ?_
    · rintro Γ Ω1 ⟨hp, rfl, rfl⟩
      walk_at "hl"
      refine ⟨⟨_, sq_last _ _, rfl⟩, ?_⟩
      walk_at "hl"
      refine wm_appL (by simp; omega) ?_
      walk_at "hl"
      exact ⟨bs ++ [b], _, _, _, snoc b hball, hp, rfl, by simp⟩
    have bad3 : ¬ Pre (bs ++ [b]) → Dr Ω R (.d .none) (Ω ++ [.lst ((bs.map dB).map DV.d)]) := fun e => ret (rowT_pre (snoc _ hball) e) _ ⟨_, rfl⟩
    have fin : (∀ c, bs.getLast? = some c → mayB c b = true) → Pre (bs ++ [b]) := fun e => ⟨by rw [List.length_append]; simp; omega, fun c hc => by
      rcases List.mem_append.mp hc with hc | hc
      · exact hp.2.1 c hc
      · rw [List.mem_singleton.mp hc]; exact hw, nb_snoc hp.2.2 e⟩
    have hv : vw (Ω ++ [OC.lst ((bs.map dB).map DV.d)]) (.o Ω.length) = some (.list (bs.map dB)) := by
      show vwO _ = _
      rw [show (Ω ++ [OC.lst ((bs.map dB).map DV.d)])[Ω.length]? = some (OC.lst ((bs.map dB).map DV.d)) from by simp]
      show (asDs _).map PyData.list = _
      rw [asDs_data]; rfl
    walk_at "hl"
    refine wr_ne hv rfl (shaped_of (shp_list (n := 63) fun z hz => ?_)) (by decide +kernel) ?_
    · obtain ⟨c, -, rfl⟩ := List.mem_map.mp hz
      exact shp_dB c
    refine ex_b ?_
    by_cases hne : bs = []
    · subst hne
      refine bF rfl (bF rfl ?_)
      walk_at "hl"
      exact ⟨fin fun c hc => (by cases hc), rfl, rfl⟩
    obtain ⟨cs, c, rfl⟩ : ∃ cs c, bs = cs ++ [c] := ⟨bs.dropLast, bs.getLast hne, (List.dropLast_concat_getLast hne).symm⟩
    have hev : PyData.eqv (.list ((cs ++ [c]).map dB)) (.list []) = false := by
      cases cs <;> rfl
    rw [hev]
    refine bT rfl ?_
    have zc := zb c (by simp)
    have ix : atI (((cs ++ [c]).map dB).map DV.d) (-1) = some (.d (dB c)) := by
      rw [List.map_append, List.map_append]
      exact atI_last _ _
    have fin2 : mayB c b = true → Pre (cs ++ [c] ++ [b]) := fun e => fin fun d hd => by
      rw [List.getLast?_concat] at hd
      cases hd; exact e
    have bad4 : mayB c b = false → Dr Ω R (.d .none) (Ω ++ [.lst (((cs ++ [c]).map dB).map DV.d)]) := fun e => bad3 fun z => by
      have h1 := z.2.2
      rw [List.append_assoc] at h1
      have h2 : Nb mayB (cs ++ ([c] ++ [b])) = false := nb_mid (f := mayB) e cs []
      rw [h2] at h1; cases h1
    have key : mayB c b = if c.p = b.p then decide (c.s < b.s) else decide (c.p < b.p) := rfl
    walk_at "hl"
    refine wr_ix (sq_last _ _) (y := .d (dB c)) ix ?_
    walk_at "hl"
    refine ⟨c.p, b.p, rfl, ⟨_, _, zc.1, zq.1, by decide⟩, ?_⟩
    walk_at "hl"
    by_cases hlt : c.p < b.p
    · refine bF (by rw [decide_eq_true hlt]; rfl) ?_
      walk_at "hl"
      refine ⟨fin2 ?_, rfl, rfl⟩
      rw [key, if_neg (Rat.ne_of_lt hlt), decide_eq_true hlt]
    refine bT (by rw [decide_eq_false hlt]; rfl) ?_
    walk_at "hl"
    refine wr_ix (sq_last _ _) (y := .d (dB c)) ix ?_
    walk_at "hl"
    by_cases hpe : c.p = b.p
    case neg =>
      refine bT (by rw [decide_eq_false hpe]; rfl) (bT rfl ?_)
      walk_at "hl"
      exact bad4 (by rw [key, if_neg hpe, decide_eq_false hlt])
    refine bF (by rw [decide_eq_true hpe]; rfl) ?_
    walk_at "hl"
    refine wr_ix (sq_last _ _) (y := .d (dB c)) ix ?_
    walk_at "hl"
    refine ⟨c.s, b.s, rfl, ⟨_, _, zc.2.1, zq.2.1, by decide⟩, ?_⟩
    walk_at "hl"
    by_cases hs : c.s < b.s
    · refine bF (by rw [decide_eq_true hs]; rfl) ?_
      walk_at "hl"
      refine ⟨fin2 ?_, rfl, rfl⟩
      rw [key, if_pos hpe, decide_eq_true hs]
    · refine bT (by rw [decide_eq_false hs]; rfl) ?_
      walk_at "hl"
      exact bad4 (by rw [key, if_pos hpe, decide_eq_false hs])
  · rintro Γ Ω1 ⟨bs, c2, c3, c4, hb, hp, rfl, rfl⟩
    rw [List.length_map, List.take_length] at hb
    rw [rowT_done hb hp] at q
    walk_at "hl"
    refine wc_tup' (xs := bs.map dB) (by show (sqO _).bind asDs = _; rw [show (Ω ++ [OC.lst ((bs.map dB).map DV.d)])[Ω.length]? = some (OC.lst ((bs.map dB).map DV.d)) from by simp]; exact asDs_data _) ?_
    exact dr_app q (fun i h => by cases h)
theorem sp_len_law_read_row {K : KF} (ds : List DV) (Ω : Om) (R : DV → Om → Prop) (X : Exc → Om → Prop) (h : sp_law_read_row K ds Ω R X) : ds.length = 1 := by
  unfold sp_law_read_row at h
  first
    | (obtain ⟨rfl, _⟩ := h; rfl)
    | (obtain ⟨_, rfl, _⟩ := h; rfl)
    | (obtain ⟨_, _, rfl, _⟩ := h; rfl)
    | (obtain ⟨_, _, _, rfl, _⟩ := h; rfl)
    | (obtain ⟨_, _, _, _, rfl, _⟩ := h; rfl)
    | (obtain ⟨_, _, _, _, _, rfl, _⟩ := h; rfl)
    | (obtain ⟨_, _, _, _, _, _, rfl, _⟩ := h; rfl)
    | (obtain ⟨_, _, _, _, _, _, _, rfl, _⟩ := h; rfl)
    | (obtain ⟨_, _, _, _, _, _, _, _, rfl, _⟩ := h; rfl)
    | (obtain ⟨_, _, _, _, _, _, _, _, _, rfl, _⟩ := h; rfl)
    | (obtain ⟨_, _, _, _, _, _, _, _, _, _, rfl, _⟩ := h; rfl)
    | (obtain ⟨_, _, _, _, _, _, _, _, _, _, _, rfl, _⟩ := h; rfl)
    | (obtain ⟨_, _, _, _, _, _, _, _, _, _, _, _, rfl, _⟩ := h; rfl)
    | (obtain ⟨_, _, _, _, _, _, _, _, _, _, _, _, _, rfl, _⟩ := h; rfl)
    | (obtain ⟨_, _, _, _, _, _, _, _, _, _, _, _, _, rfl, _⟩ := h; rfl)
    | (obtain ⟨_, _, _, _, _, _, _, _, _, _, _, _, _, _, rfl, _⟩ := h; rfl)
    | (obtain ⟨_, _, _, _, _, _, _, _, _, _, _, _, _, _, _, rfl, _⟩ := h; rfl)
    | (obtain ⟨_, _, _, _, _, _, _, _, _, _, _, _, _, _, _, _, rfl, _⟩ := h; rfl)
    | (obtain ⟨_, _, _, _, _, _, _, _, _, _, _, _, _, _, _, _, _, rfl, _⟩ := h; rfl)
    | (obtain ⟨_, _, _, _, _, _, _, _, _, _, _, _, _, _, _, _, _, _, rfl, _⟩ := h; rfl)
    | (obtain ⟨_, _, _, _, _, _, _, _, _, _, _, _, _, _, _, _, _, _, _, rfl, _⟩ := h; rfl)
    | (obtain ⟨_, _, _, _, _, _, _, _, _, _, _, _, _, _, _, _, _, _, _, _, rfl, _⟩ := h; rfl)
    | (obtain ⟨_, _, _, _, _, _, _, _, _, _, _, _, _, _, _, _, _, _, _, _, _, rfl, _⟩ := h; rfl)
--USE HLp
def sp_are_figures (K : KF) : Spec := fun ds Ω R X => ∃ l : List Nat, ds = [.d (tS l), .d (.int 300)] ∧ l.length ≤ 5000 ∧ okT l = true ∧ R (.d (.bool (figs l))) Ω
def t_are_figures (K : KF) (W : WX) : TS :=
  (tSeqI (tIfS (tOr (tNot (tTest (tChain oLe oLe (tC (.int 1)) (tCB rLenT (tCons (tVar 0) tNil)) (tVar 1)))) (tNot (tB (tCB (rAll K) (tCons (tLc (iStr (tVar 0)) (gName 2) tYes (tOp (rInT false) (tVar 2) (tC (.str "0123456789"))) [2]) tNil))))) (tRet (tC (.bl false))) tNext)
    (tRet (tOrV (tOp (rEqD K) (tVar 0) (tC (.str "0"))) (tOp (rNeD K) (tOp (rIx K) (tVar 0) (tC (.int 0))) (tC (.str "0"))))))
theorem w_are_figures {K : KF} (W : WX) (ds : List DV) (Ω : Om) (R : DV → Om → Prop) (X : Exc → Om → Prop) (h : sp_are_figures K ds Ω R X) : WS K W (t_are_figures K W) (startG 3 ds) Ω (fnO Ω R X) := by
  obtain ⟨l, rfl, hl, ho, q⟩ := h
  show WS K W (t_are_figures K W) [some (.d (tS l)), some (.d (.int 300)), none] Ω _
  unfold t_are_figures
  walk_at "hl"
  have no : figs l = false → R (.d (.bool false)) Ω := fun h => by rw [h] at q; exact q
  refine ws_cut (fun Γ Ω1 => Γ = [some (.d (tS l)), some (.d (.int 300)), none] ∧ Ω1 = Ω ∧ (1 ≤ l.length ∧ l.length ≤ 300) ∧ NumText.AllDigits l) ?_ ?_
  rotate_left
  · walk_at "hl"
    refine ⟨fun h => ?_, fun h => ?_⟩
    · have h1 := of_decide_eq_true h
      walk_at "hl"
      refine ⟨fun hb => ?_, fun hb => ?_⟩
      · have hb : ¬ ((l.length : Int) ≤ 300) := by simpa using hb
        refine ⟨fun _ => ?_, fun h => (by cases h)⟩
        walk_at "hl"
        refine dr_same (no ?_)
        cases h : figs l with
        | false => rfl
        | true => have := (figs_iff.mp h).le; omega
      · have hb : (l.length : Int) ≤ 300 := by simpa using hb
        have h1' : 1 ≤ l.length := by omega
        have h2' : l.length ≤ 300 := by omega
        walk_at "hl"
        refine we_lcP (α := Nat) only1 (wi_str ?_)
        walk_at "hl"
        refine ⟨l, rfl, l, _, fun _ => true, fun c => .bool (false != decide (c ∈ [48, 49, 50, 51, 52, 53, 54, 55, 56, 57])), rfl, by omega, rfl, fun _ => trivial, ?_, ?_⟩
        · rintro c Ω' hc -
          walk_at "hl"
          refine ⟨rfl, rfl, fun _ => ?_⟩
          walk_at "hl"
          exact ⟨rfl, rfl⟩
        rw [filter_yes]
        walk_at "hl"
        refine wc_all (bs := l.map fun c => (false != decide (c ∈ [48, 49, 50, 51, 52, 53, 54, 55, 56, 57]))) (by show some (l.map _) = some _; rw [List.map_map]; rfl) ?_
        have hall : ((l.map fun c => (false != decide (c ∈ [48, 49, 50, 51, 52, 53, 54, 55, 56, 57]))).all id) = true ↔ NumText.AllDigits l := by
          rw [List.all_eq_true]
          constructor
          · intro h c hc
            have := h _ (List.mem_map.mpr ⟨c, hc, rfl⟩)
            have : c ∈ [48, 49, 50, 51, 52, 53, 54, 55, 56, 57] := by simpa using this
            simp at this
            omega
          · intro h b hb
            obtain ⟨c, hc, rfl⟩ := List.mem_map.mp hb
            have := h c hc
            have : c ∈ [48, 49, 50, 51, 52, 53, 54, 55, 56, 57] := by simp; omega
            rw [decide_eq_true this]; rfl
        cases hb2 : (l.map fun c => (false != decide (c ∈ [48, 49, 50, 51, 52, 53, 54, 55, 56, 57]))).all id with
        | true =>
          walk_at "hl"
          refine bF rfl ?_
          walk_at "hl"
          exact ⟨rfl, rfl, ⟨h1', h2'⟩, hall.mp hb2⟩
        | false =>
          walk_at "hl"
          refine bT rfl ?_
          walk_at "hl"
          refine dr_same (no ?_)
          cases h : figs l with
          | false => rfl
          | true => exact absurd (hall.mpr (figs_iff.mp h).dig) (by rw [hb2]; decide)
    · have h1 := of_decide_eq_false h
      refine ⟨_, rfl, fun hb => ?_, fun hb => (by cases hb)⟩
      refine ⟨fun _ => ?_, fun h => (by cases h)⟩
      walk_at "hl"
      refine dr_same (no ?_)
      cases h : figs l with
      | false => rfl
      | true => have := (figs_iff.mp h).one; omega
  rintro Γ Ω1 ⟨rfl, rfl, hl1, hd⟩
  walk_at "hl"
  have hall : l.all (fun c => decide (48 ≤ c) && decide (c ≤ 57)) = true := List.all_eq_true.mpr fun c hc => by rw [decide_eq_true (hd c hc).1, decide_eq_true (hd c hc).2]; rfl
  have key : figs l = (decide (l = [48]) || decide (l.head? ≠ some 48)) := by
    unfold figs
    rw [decide_eq_true hl1.1, decide_eq_true hl1.2, hall]; rfl
  rw [key] at q
  refine ⟨fun h => ?_, fun h => ?_⟩
  · rw [h] at q
    exact dr_same q
  · rw [h] at q
    cases l with
    | nil => have := hl1.1; simp at this
    | cons c r =>
      walk_at "hl"
      refine wr_ixT' (c := c) (by omega) (atI_nat (j := 0) rfl) ?_
      have hc := hd c (by simp)
      have hok : okT [c] = true := okT_iff.mpr fun x hx => by rw [List.mem_singleton.mp hx]; omega
      walk_at "hl"
      have e : (false || decide ((c :: r).head? ≠ some 48)) = !decide ([c] = [48]) := by
        by_cases hz : c = 48
        · subst hz; rfl
        · rw [decide_eq_true (show (c :: r).head? ≠ some 48 from fun z => hz (Option.some.inj z)), decide_eq_false (show ¬ [c] = [48] from fun z => hz (List.cons.inj z).1)]; rfl
      rw [e] at q
      exact dr_same q
theorem sp_len_are_figures {K : KF} (ds : List DV) (Ω : Om) (R : DV → Om → Prop) (X : Exc → Om → Prop) (h : sp_are_figures K ds Ω R X) : ds.length = 2 := by
  unfold sp_are_figures at h
  first
    | (obtain ⟨rfl, _⟩ := h; rfl)
    | (obtain ⟨_, rfl, _⟩ := h; rfl)
    | (obtain ⟨_, _, rfl, _⟩ := h; rfl)
    | (obtain ⟨_, _, _, rfl, _⟩ := h; rfl)
    | (obtain ⟨_, _, _, _, rfl, _⟩ := h; rfl)
    | (obtain ⟨_, _, _, _, _, rfl, _⟩ := h; rfl)
    | (obtain ⟨_, _, _, _, _, _, rfl, _⟩ := h; rfl)
    | (obtain ⟨_, _, _, _, _, _, _, rfl, _⟩ := h; rfl)
    | (obtain ⟨_, _, _, _, _, _, _, _, rfl, _⟩ := h; rfl)
    | (obtain ⟨_, _, _, _, _, _, _, _, _, rfl, _⟩ := h; rfl)
    | (obtain ⟨_, _, _, _, _, _, _, _, _, _, rfl, _⟩ := h; rfl)
    | (obtain ⟨_, _, _, _, _, _, _, _, _, _, _, rfl, _⟩ := h; rfl)
    | (obtain ⟨_, _, _, _, _, _, _, _, _, _, _, _, rfl, _⟩ := h; rfl)
    | (obtain ⟨_, _, _, _, _, _, _, _, _, _, _, _, _, rfl, _⟩ := h; rfl)
    | (obtain ⟨_, _, _, _, _, _, _, _, _, _, _, _, _, rfl, _⟩ := h; rfl)
    | (obtain ⟨_, _, _, _, _, _, _, _, _, _, _, _, _, _, rfl, _⟩ := h; rfl)
    | (obtain ⟨_, _, _, _, _, _, _, _, _, _, _, _, _, _, _, rfl, _⟩ := h; rfl)
    | (obtain ⟨_, _, _, _, _, _, _, _, _, _, _, _, _, _, _, _, rfl, _⟩ := h; rfl)
    | (obtain ⟨_, _, _, _, _, _, _, _, _, _, _, _, _, _, _, _, _, rfl, _⟩ := h; rfl)
    | (obtain ⟨_, _, _, _, _, _, _, _, _, _, _, _, _, _, _, _, _, _, rfl, _⟩ := h; rfl)
    | (obtain ⟨_, _, _, _, _, _, _, _, _, _, _, _, _, _, _, _, _, _, _, rfl, _⟩ := h; rfl)
    | (obtain ⟨_, _, _, _, _, _, _, _, _, _, _, _, _, _, _, _, _, _, _, _, rfl, _⟩ := h; rfl)
    | (obtain ⟨_, _, _, _, _, _, _, _, _, _, _, _, _, _, _, _, _, _, _, _, _, rfl, _⟩ := h; rfl)
--USE HLp
def sp_number_in (K : KF) : Spec := fun ds Ω R X => ∃ l : List Nat, ds = [.d (tS l), .d (.int 300)] ∧ l.length ≤ 5000 ∧ okT l = true ∧ ((∃ n : Nat, valT l = some n ∧ R (.d (.int n)) Ω) ∨ (valT l = none ∧ X (.own (He.ga K "NoText")) Ω))
def t_number_in (K : KF) (W : WX) : TS :=
  (tSeq (tIfS (tNot (tB (tCall (FS K (sp_are_figures K)) [] E0 (tCons (tVar 0) (tCons (tVar 1) tNil))))) (tRaise K "NoText" W) tNext)
    (tRet (tCB rIntT (tCons (tVar 0) tNil))))
theorem w_number_in {K : KF} (W : WX) (ds : List DV) (Ω : Om) (R : DV → Om → Prop) (X : Exc → Om → Prop) (h : sp_number_in K ds Ω R X) : WS K W (t_number_in K W) (startG 2 ds) Ω (fnO Ω R X) := by
  obtain ⟨l, rfl, hl, ho, q⟩ := h
  show WS K W (t_number_in K W) [some (.d (tS l)), some (.d (.int 300))] Ω _
  unfold t_number_in
  walk_at "hl"
  refine ⟨l, rfl, hl, ho, ?_⟩
  walk_at "hl"
  cases hv : figs l with
  | false =>
    have q : X (.own (He.ga K "NoText")) Ω := by
      rcases q with ⟨n, e, -⟩ | ⟨-, q⟩
      · exact absurd (figs_iff.mpr (valT_some e).1) (by rw [hv]; decide)
      · exact q
    refine ⟨fun _ => ?_, fun h => (by cases h)⟩
    walk_at "hl"
    exact .inl q
  | true =>
    obtain ⟨n, hn, q⟩ : ∃ n : Nat, valT l = some n ∧ R (.d (.int n)) Ω := by
      rcases q with q | ⟨e, -⟩
      · exact q
      · unfold valT at e; rw [if_pos hv] at e; cases e
    refine ⟨fun h => (by cases h), fun _ => ?_⟩
    have hf := (valT_some hn).1
    walk_at "hl"
    refine wc_intT (a := l) (n := n) ?_ (by have := hf.le; omega) (dr_same q)
    have e : n = NumText.digitsVal l := by unfold valT at hn; rw [if_pos hv] at hn; exact (Option.some.inj hn).symm
    rw [e]
    exact intText_digits (x := SX.S l) hf.dig (by have := hf.one; intro z; have z : l = [] := z; rw [z] at this; simp at this) (by rw [SX.S_len]; have := hf.le; omega)
theorem sp_len_number_in {K : KF} (ds : List DV) (Ω : Om) (R : DV → Om → Prop) (X : Exc → Om → Prop) (h : sp_number_in K ds Ω R X) : ds.length = 2 := by
  unfold sp_number_in at h
  first
    | (obtain ⟨rfl, _⟩ := h; rfl)
    | (obtain ⟨_, rfl, _⟩ := h; rfl)
    | (obtain ⟨_, _, rfl, _⟩ := h; rfl)
    | (obtain ⟨_, _, _, rfl, _⟩ := h; rfl)
    | (obtain ⟨_, _, _, _, rfl, _⟩ := h; rfl)
    | (obtain ⟨_, _, _, _, _, rfl, _⟩ := h; rfl)
    | (obtain ⟨_, _, _, _, _, _, rfl, _⟩ := h; rfl)
    | (obtain ⟨_, _, _, _, _, _, _, rfl, _⟩ := h; rfl)
    | (obtain ⟨_, _, _, _, _, _, _, _, rfl, _⟩ := h; rfl)
    | (obtain ⟨_, _, _, _, _, _, _, _, _, rfl, _⟩ := h; rfl)
    | (obtain ⟨_, _, _, _, _, _, _, _, _, _, rfl, _⟩ := h; rfl)
    | (obtain ⟨_, _, _, _, _, _, _, _, _, _, _, rfl, _⟩ := h; rfl)
    | (obtain ⟨_, _, _, _, _, _, _, _, _, _, _, _, rfl, _⟩ := h; rfl)
    | (obtain ⟨_, _, _, _, _, _, _, _, _, _, _, _, _, rfl, _⟩ := h; rfl)
    | (obtain ⟨_, _, _, _, _, _, _, _, _, _, _, _, _, rfl, _⟩ := h; rfl)
    | (obtain ⟨_, _, _, _, _, _, _, _, _, _, _, _, _, _, rfl, _⟩ := h; rfl)
    | (obtain ⟨_, _, _, _, _, _, _, _, _, _, _, _, _, _, _, rfl, _⟩ := h; rfl)
    | (obtain ⟨_, _, _, _, _, _, _, _, _, _, _, _, _, _, _, _, rfl, _⟩ := h; rfl)
    | (obtain ⟨_, _, _, _, _, _, _, _, _, _, _, _, _, _, _, _, _, rfl, _⟩ := h; rfl)
    | (obtain ⟨_, _, _, _, _, _, _, _, _, _, _, _, _, _, _, _, _, _, rfl, _⟩ := h; rfl)
    | (obtain ⟨_, _, _, _, _, _, _, _, _, _, _, _, _, _, _, _, _, _, _, rfl, _⟩ := h; rfl)
    | (obtain ⟨_, _, _, _, _, _, _, _, _, _, _, _, _, _, _, _, _, _, _, _, rfl, _⟩ := h; rfl)
    | (obtain ⟨_, _, _, _, _, _, _, _, _, _, _, _, _, _, _, _, _, _, _, _, _, rfl, _⟩ := h; rfl)
def sp_divisor_of (K : KF) : Spec := fun ds Ω R X => ∃ a b : Int, ds = [.d (.int a), .d (.int b)] ∧ R (.d (.int (Int.gcd a b))) Ω
def t_divisor_of (K : KF) (W : WX) : TS :=
  (tSeq (tWhile (tTest (tOp (rNeD K) (tVar 1) (tC (.int 0)))) (tPar 0 1 (tCons (tVar 1) (tCons (tOp oMod (tVar 0) (tVar 1)) tNil))))
    (tRet (tCB rAbsI (tCons (tVar 0) tNil))))
theorem w_divisor_of {K : KF} (W : WX) (ds : List DV) (Ω : Om) (R : DV → Om → Prop) (X : Exc → Om → Prop) (h : sp_divisor_of K ds Ω R X) : WS K W (t_divisor_of K W) (startG 2 ds) Ω (fnO Ω R X) := by
  obtain ⟨a, b, rfl, q⟩ := h
  show WS K W (t_divisor_of K W) [some (.d (.int a)), some (.d (.int b))] Ω _
  unfold t_divisor_of
  refine ws_seq (ws_while (fun n Γ Ω1 => ∃ c d : Int, Γ = [some (.d (.int c)), some (.d (.int d))] ∧ Ω1 = Ω ∧ Int.gcd c d = Int.gcd a b ∧ d.natAbs = n) b.natAbs ⟨a, b, rfl, rfl, rfl, rfl⟩ ?_)
  rintro n Γ Ω1 - ⟨c, d, rfl, rfl, hg, rfl⟩
  walk_at "hl"
  refine ⟨fun hb => ?_, fun hb => ?_⟩
  · have hd : d ≠ 0 := by
      intro e
      subst e
      simp at hb
    walk_at "hl"
    refine wr_mod hd ?_
    walk_at "hl"
    exact ⟨_, fmod_natAbs_lt hd, d, _, rfl, rfl, (gcd_fmod c d).trans hg, rfl⟩
  · have hd : d = 0 := by
      simpa using hb
    subst hd
    walk_at "hl"
    rw [abs_if, ← Int.gcd_zero_right c, hg]
    exact dr_same q
theorem sp_len_divisor_of {K : KF} (ds : List DV) (Ω : Om) (R : DV → Om → Prop) (X : Exc → Om → Prop) (h : sp_divisor_of K ds Ω R X) : ds.length = 2 := by
  unfold sp_divisor_of at h
  first
    | (obtain ⟨rfl, _⟩ := h; rfl)
    | (obtain ⟨_, rfl, _⟩ := h; rfl)
    | (obtain ⟨_, _, rfl, _⟩ := h; rfl)
    | (obtain ⟨_, _, _, rfl, _⟩ := h; rfl)
    | (obtain ⟨_, _, _, _, rfl, _⟩ := h; rfl)
    | (obtain ⟨_, _, _, _, _, rfl, _⟩ := h; rfl)
    | (obtain ⟨_, _, _, _, _, _, rfl, _⟩ := h; rfl)
    | (obtain ⟨_, _, _, _, _, _, _, rfl, _⟩ := h; rfl)
    | (obtain ⟨_, _, _, _, _, _, _, _, rfl, _⟩ := h; rfl)
    | (obtain ⟨_, _, _, _, _, _, _, _, _, rfl, _⟩ := h; rfl)
    | (obtain ⟨_, _, _, _, _, _, _, _, _, _, rfl, _⟩ := h; rfl)
    | (obtain ⟨_, _, _, _, _, _, _, _, _, _, _, rfl, _⟩ := h; rfl)
    | (obtain ⟨_, _, _, _, _, _, _, _, _, _, _, _, rfl, _⟩ := h; rfl)
    | (obtain ⟨_, _, _, _, _, _, _, _, _, _, _, _, _, rfl, _⟩ := h; rfl)
    | (obtain ⟨_, _, _, _, _, _, _, _, _, _, _, _, _, rfl, _⟩ := h; rfl)
    | (obtain ⟨_, _, _, _, _, _, _, _, _, _, _, _, _, _, rfl, _⟩ := h; rfl)
    | (obtain ⟨_, _, _, _, _, _, _, _, _, _, _, _, _, _, _, rfl, _⟩ := h; rfl)
    | (obtain ⟨_, _, _, _, _, _, _, _, _, _, _, _, _, _, _, _, rfl, _⟩ := h; rfl)
    | (obtain ⟨_, _, _, _, _, _, _, _, _, _, _, _, _, _, _, _, _, rfl, _⟩ := h; rfl)
    | (obtain ⟨_, _, _, _, _, _, _, _, _, _, _, _, _, _, _, _, _, _, rfl, _⟩ := h; rfl)
    | (obtain ⟨_, _, _, _, _, _, _, _, _, _, _, _, _, _, _, _, _, _, _, rfl, _⟩ := h; rfl)
    | (obtain ⟨_, _, _, _, _, _, _, _, _, _, _, _, _, _, _, _, _, _, _, _, rfl, _⟩ := h; rfl)
    | (obtain ⟨_, _, _, _, _, _, _, _, _, _, _, _, _, _, _, _, _, _, _, _, _, rfl, _⟩ := h; rfl)
def wholeB : PyData → Bool
  | .int _ => true
  | _ => false
def sp_is_whole (K : KF) : Spec := fun ds Ω R X => ∃ x, ds = [.d x] ∧ known x = true ∧ R (.d (.bool (wholeB x))) Ω
def t_is_whole (K : KF) (W : WX) : TS :=
  (tRet (tAndV (tCB (rIsi K) (tCons (tVar 0) (tCons (tC (.ty "int")) tNil))) (tNotV (tCB (rIsi K) (tCons (tVar 0) (tCons (tC (.ty "bool")) tNil))))))
theorem w_is_whole {K : KF} (W : WX) (ds : List DV) (Ω : Om) (R : DV → Om → Prop) (X : Exc → Om → Prop) (h : sp_is_whole K ds Ω R X) : WS K W (t_is_whole K W) (startG 1 ds) Ω (fnO Ω R X) := by
  obtain ⟨x, rfl, hn, q⟩ := h
  show WS K W (t_is_whole K W) [some (.d x)] Ω _
  unfold t_is_whole
  walk_at "hl"
  refine ⟨fun h => ?_, fun h => ?_⟩
  · walk_at "hl"
    have e : (!isBool x) = wholeB x := by cases x <;> first | rfl | cases h
    rw [e]
    exact dr_same q
  · have e : false = wholeB x := by cases x <;> first | rfl | cases h
    rw [e]
    exact dr_same q
theorem sp_len_is_whole {K : KF} (ds : List DV) (Ω : Om) (R : DV → Om → Prop) (X : Exc → Om → Prop) (h : sp_is_whole K ds Ω R X) : ds.length = 1 := by
  unfold sp_is_whole at h
  first
    | (obtain ⟨rfl, _⟩ := h; rfl)
    | (obtain ⟨_, rfl, _⟩ := h; rfl)
    | (obtain ⟨_, _, rfl, _⟩ := h; rfl)
    | (obtain ⟨_, _, _, rfl, _⟩ := h; rfl)
    | (obtain ⟨_, _, _, _, rfl, _⟩ := h; rfl)
    | (obtain ⟨_, _, _, _, _, rfl, _⟩ := h; rfl)
    | (obtain ⟨_, _, _, _, _, _, rfl, _⟩ := h; rfl)
    | (obtain ⟨_, _, _, _, _, _, _, rfl, _⟩ := h; rfl)
    | (obtain ⟨_, _, _, _, _, _, _, _, rfl, _⟩ := h; rfl)
    | (obtain ⟨_, _, _, _, _, _, _, _, _, rfl, _⟩ := h; rfl)
    | (obtain ⟨_, _, _, _, _, _, _, _, _, _, rfl, _⟩ := h; rfl)
    | (obtain ⟨_, _, _, _, _, _, _, _, _, _, _, rfl, _⟩ := h; rfl)
    | (obtain ⟨_, _, _, _, _, _, _, _, _, _, _, _, rfl, _⟩ := h; rfl)
    | (obtain ⟨_, _, _, _, _, _, _, _, _, _, _, _, _, rfl, _⟩ := h; rfl)
    | (obtain ⟨_, _, _, _, _, _, _, _, _, _, _, _, _, rfl, _⟩ := h; rfl)
    | (obtain ⟨_, _, _, _, _, _, _, _, _, _, _, _, _, _, rfl, _⟩ := h; rfl)
    | (obtain ⟨_, _, _, _, _, _, _, _, _, _, _, _, _, _, _, rfl, _⟩ := h; rfl)
    | (obtain ⟨_, _, _, _, _, _, _, _, _, _, _, _, _, _, _, _, rfl, _⟩ := h; rfl)
    | (obtain ⟨_, _, _, _, _, _, _, _, _, _, _, _, _, _, _, _, _, rfl, _⟩ := h; rfl)
    | (obtain ⟨_, _, _, _, _, _, _, _, _, _, _, _, _, _, _, _, _, _, rfl, _⟩ := h; rfl)
    | (obtain ⟨_, _, _, _, _, _, _, _, _, _, _, _, _, _, _, _, _, _, _, rfl, _⟩ := h; rfl)
    | (obtain ⟨_, _, _, _, _, _, _, _, _, _, _, _, _, _, _, _, _, _, _, _, rfl, _⟩ := h; rfl)
    | (obtain ⟨_, _, _, _, _, _, _, _, _, _, _, _, _, _, _, _, _, _, _, _, _, rfl, _⟩ := h; rfl)
def sp_is_ratio (K : KF) : Spec := fun ds Ω R X => ∃ x n, ds = [.d x] ∧ Fit (n + 1) x ∧ R (.d (.bool (isRatio x))) Ω
def t_is_ratio (K : KF) (W : WX) : TS :=
  (tSeq (tIfS (tOr (tNot (tB (tCB (rIsi K) (tCons (tVar 0) (tCons (tC (.ty "tuple")) tNil))))) (tOr (tTest (tOp (rNeD K) (tCB (rLenQ K) (tCons (tVar 0) tNil)) (tC (.int 2)))) (tOr (tNot (tB (tCall (FS K (sp_is_whole K)) [] E0 (tCons (tOp (rIx K) (tVar 0) (tC (.int 0))) tNil)))) (tNot (tB (tCall (FS K (sp_is_whole K)) [] E0 (tCons (tOp (rIx K) (tVar 0) (tC (.int 1))) tNil))))))) (tRet (tC (.bl false))) tNext)
    (tRet (tAndV (tOp oGt (tOp (rIx K) (tVar 0) (tC (.int 1))) (tC (.int 0))) (tOp (rEqD K) (tCall (FS K (sp_divisor_of K)) [] E0 (tCons (tOp (rIx K) (tVar 0) (tC (.int 0))) (tCons (tOp (rIx K) (tVar 0) (tC (.int 1))) tNil))) (tC (.int 1))))))
theorem w_is_ratio {K : KF} (W : WX) (ds : List DV) (Ω : Om) (R : DV → Om → Prop) (X : Exc → Om → Prop) (h : sp_is_ratio K ds Ω R X) : WS K W (t_is_ratio K W) (startG 1 ds) Ω (fnO Ω R X) := by
  obtain ⟨x, n, rfl, hf, q⟩ := h
  show WS K W (t_is_ratio K W) [some (.d x)] Ω _
  unfold t_is_ratio
  have kx : known x = true := fit_known hf
  walk_at "hl"
  cases hx : isTuple x with
  | false =>
    have e : isRatio x = false := by cases x <;> first | rfl | cases hx
    rw [e] at q
    refine bT rfl (bT rfl ?_)
    walk_at "hl"
    exact dr_same q
  | true =>
    obtain ⟨xs, rfl⟩ := isTuple_eq hx
    refine bF rfl ?_
    walk_at "hl"
    have no : isRatio (.tuple xs) = false → ∀ {O : Outs} (_ : O.rt = (fnO Ω R X).rt := by rfl), WS K W (tRet (tC (.bl false))) [some (.d (.tuple xs))] Ω O := fun e O eo => by
      rw [e] at q
      walk_at "hl"
      rw [eo]
      exact dr_same q
    match xs, hf, q, @no with
    | [], hf, q, no => exact bT rfl (bT rfl (no rfl))
    | [a], hf, q, no => exact bT rfl (bT rfl (no (by cases a <;> rfl)))
    | a :: b :: c :: r, hf, q, no =>
      exact bT (by
        have : ((((a :: b :: c :: r).map DV.d).length : Nat) : Int) ≠ 2 := by simp; omega
        rw [decide_eq_false this]; rfl) (bT rfl (no (by cases a <;> (try rfl); cases b <;> rfl)))
    | [a, b], hf, q, no =>
      have ka := fit_known (fit_mem hf (List.mem_cons_self ..))
      have kb := fit_known (fit_mem hf (List.mem_cons_of_mem _ (List.mem_cons_self ..)))
      refine bF rfl ?_
      walk_at "hl"
      refine ⟨_, rfl, ka, ?_⟩
      walk_at "hl"
      cases ha : wholeB a with
      | false => exact bT rfl (bT rfl (no (by cases a <;> first | rfl | cases ha)))
      | true =>
        refine bF rfl ?_
        walk_at "hl"
        refine ⟨_, rfl, kb, ?_⟩
        walk_at "hl"
        cases hb : wholeB b with
        | false => exact bT rfl (no (by cases a <;> (try rfl); cases b <;> first | rfl | cases hb))
        | true =>
          refine bF rfl ?_
          cases a <;> cases ha
          cases b <;> cases hb
          rename_i i j
          have e : isRatio (.tuple [.int i, .int j]) = (decide (0 < j) && decide (Int.gcd i j = 1)) := rfl
          rw [e] at q
          walk_at "hl"
          refine ⟨fun h => ?_, fun h => ?_⟩
          · rw [h] at q
            walk_at "hl"
            refine ⟨i, j, rfl, ?_⟩
            walk_at "hl"
            have e2 : decide ((Int.gcd i j : Int) = 1) = decide (Int.gcd i j = 1) := decide_eq_decide.mpr ⟨fun h => by omega, fun h => by omega⟩
            rw [e2]
            exact dr_same q
          · rw [h] at q
            exact dr_same q
theorem sp_len_is_ratio {K : KF} (ds : List DV) (Ω : Om) (R : DV → Om → Prop) (X : Exc → Om → Prop) (h : sp_is_ratio K ds Ω R X) : ds.length = 1 := by
  unfold sp_is_ratio at h
  first
    | (obtain ⟨rfl, _⟩ := h; rfl)
    | (obtain ⟨_, rfl, _⟩ := h; rfl)
    | (obtain ⟨_, _, rfl, _⟩ := h; rfl)
    | (obtain ⟨_, _, _, rfl, _⟩ := h; rfl)
    | (obtain ⟨_, _, _, _, rfl, _⟩ := h; rfl)
    | (obtain ⟨_, _, _, _, _, rfl, _⟩ := h; rfl)
    | (obtain ⟨_, _, _, _, _, _, rfl, _⟩ := h; rfl)
    | (obtain ⟨_, _, _, _, _, _, _, rfl, _⟩ := h; rfl)
    | (obtain ⟨_, _, _, _, _, _, _, _, rfl, _⟩ := h; rfl)
    | (obtain ⟨_, _, _, _, _, _, _, _, _, rfl, _⟩ := h; rfl)
    | (obtain ⟨_, _, _, _, _, _, _, _, _, _, rfl, _⟩ := h; rfl)
    | (obtain ⟨_, _, _, _, _, _, _, _, _, _, _, rfl, _⟩ := h; rfl)
    | (obtain ⟨_, _, _, _, _, _, _, _, _, _, _, _, rfl, _⟩ := h; rfl)
    | (obtain ⟨_, _, _, _, _, _, _, _, _, _, _, _, _, rfl, _⟩ := h; rfl)
    | (obtain ⟨_, _, _, _, _, _, _, _, _, _, _, _, _, rfl, _⟩ := h; rfl)
    | (obtain ⟨_, _, _, _, _, _, _, _, _, _, _, _, _, _, rfl, _⟩ := h; rfl)
    | (obtain ⟨_, _, _, _, _, _, _, _, _, _, _, _, _, _, _, rfl, _⟩ := h; rfl)
    | (obtain ⟨_, _, _, _, _, _, _, _, _, _, _, _, _, _, _, _, rfl, _⟩ := h; rfl)
    | (obtain ⟨_, _, _, _, _, _, _, _, _, _, _, _, _, _, _, _, _, rfl, _⟩ := h; rfl)
    | (obtain ⟨_, _, _, _, _, _, _, _, _, _, _, _, _, _, _, _, _, _, rfl, _⟩ := h; rfl)
    | (obtain ⟨_, _, _, _, _, _, _, _, _, _, _, _, _, _, _, _, _, _, _, rfl, _⟩ := h; rfl)
    | (obtain ⟨_, _, _, _, _, _, _, _, _, _, _, _, _, _, _, _, _, _, _, _, rfl, _⟩ := h; rfl)
    | (obtain ⟨_, _, _, _, _, _, _, _, _, _, _, _, _, _, _, _, _, _, _, _, _, rfl, _⟩ := h; rfl)
--USE HLp
def isTxt : PyData → Bool
  | .str _ => true
  | _ => false
def sp_look_at_text (K : KF) : Spec := fun ds Ω R X => ∃ x : PyData, ds = [.d x] ∧ known x = true ∧ (if isTxt x then R (.d .none) Ω else X (.own (He.ga K "NoText")) Ω)
def t_look_at_text (K : KF) (W : WX) : TS :=
  (tIfS (tNot (tB (tCB (rIsi K) (tCons (tVar 0) (tCons (tC (.ty "str")) tNil))))) (tRaise K "NoText" W) tNext)
theorem w_look_at_text {K : KF} (W : WX) (ds : List DV) (Ω : Om) (R : DV → Om → Prop) (X : Exc → Om → Prop) (h : sp_look_at_text K ds Ω R X) : WS K W (t_look_at_text K W) (startG 1 ds) Ω (fnO Ω R X) := by
  obtain ⟨x, rfl, hk, q⟩ := h
  show WS K W (t_look_at_text K W) [some (.d x)] Ω _
  unfold t_look_at_text
  walk_at "hl"
  have e : isStr x = isTxt x := by cases x <;> rfl
  rw [e]
  cases hx : isTxt x with
  | true =>
    rw [hx, if_pos rfl] at q
    refine ⟨fun h => (by cases h), fun _ => ?_⟩
    walk_at "hl"
    exact dr_same q
  | false =>
    rw [hx, if_neg (by decide)] at q
    refine ⟨fun _ => ?_, fun h => (by cases h)⟩
    walk_at "hl"
    exact .inl q
theorem sp_len_look_at_text {K : KF} (ds : List DV) (Ω : Om) (R : DV → Om → Prop) (X : Exc → Om → Prop) (h : sp_look_at_text K ds Ω R X) : ds.length = 1 := by
  unfold sp_look_at_text at h
  first
    | (obtain ⟨rfl, _⟩ := h; rfl)
    | (obtain ⟨_, rfl, _⟩ := h; rfl)
    | (obtain ⟨_, _, rfl, _⟩ := h; rfl)
    | (obtain ⟨_, _, _, rfl, _⟩ := h; rfl)
    | (obtain ⟨_, _, _, _, rfl, _⟩ := h; rfl)
    | (obtain ⟨_, _, _, _, _, rfl, _⟩ := h; rfl)
    | (obtain ⟨_, _, _, _, _, _, rfl, _⟩ := h; rfl)
    | (obtain ⟨_, _, _, _, _, _, _, rfl, _⟩ := h; rfl)
    | (obtain ⟨_, _, _, _, _, _, _, _, rfl, _⟩ := h; rfl)
    | (obtain ⟨_, _, _, _, _, _, _, _, _, rfl, _⟩ := h; rfl)
    | (obtain ⟨_, _, _, _, _, _, _, _, _, _, rfl, _⟩ := h; rfl)
    | (obtain ⟨_, _, _, _, _, _, _, _, _, _, _, rfl, _⟩ := h; rfl)
    | (obtain ⟨_, _, _, _, _, _, _, _, _, _, _, _, rfl, _⟩ := h; rfl)
    | (obtain ⟨_, _, _, _, _, _, _, _, _, _, _, _, _, rfl, _⟩ := h; rfl)
    | (obtain ⟨_, _, _, _, _, _, _, _, _, _, _, _, _, rfl, _⟩ := h; rfl)
    | (obtain ⟨_, _, _, _, _, _, _, _, _, _, _, _, _, _, rfl, _⟩ := h; rfl)
    | (obtain ⟨_, _, _, _, _, _, _, _, _, _, _, _, _, _, _, rfl, _⟩ := h; rfl)
    | (obtain ⟨_, _, _, _, _, _, _, _, _, _, _, _, _, _, _, _, rfl, _⟩ := h; rfl)
    | (obtain ⟨_, _, _, _, _, _, _, _, _, _, _, _, _, _, _, _, _, rfl, _⟩ := h; rfl)
    | (obtain ⟨_, _, _, _, _, _, _, _, _, _, _, _, _, _, _, _, _, _, rfl, _⟩ := h; rfl)
    | (obtain ⟨_, _, _, _, _, _, _, _, _, _, _, _, _, _, _, _, _, _, _, rfl, _⟩ := h; rfl)
    | (obtain ⟨_, _, _, _, _, _, _, _, _, _, _, _, _, _, _, _, _, _, _, _, rfl, _⟩ := h; rfl)
    | (obtain ⟨_, _, _, _, _, _, _, _, _, _, _, _, _, _, _, _, _, _, _, _, _, rfl, _⟩ := h; rfl)
--USE HLp
def sp_ratio_text (K : KF) : Spec := fun ds Ω R X => ∃ q : Rat, ds = [.d (dR q)] ∧ R300 q ∧ R (.d (tS (ratT q))) Ω
def t_ratio_text (K : KF) (W : WX) : TS :=
  (tSeq (tIfS (tTest (tOp (rEqD K) (tOp (rIx K) (tVar 0) (tC (.int 1))) (tC (.int 1)))) (tRet (tCB rStrI (tCons (tOp (rIx K) (tVar 0) (tC (.int 0))) tNil))) tNext)
    (tRet (tOp (rAddX K) (tOp (rAddX K) (tCB rStrI (tCons (tOp (rIx K) (tVar 0) (tC (.int 0))) tNil)) (tC (.str "/"))) (tCB rStrI (tCons (tOp (rIx K) (tVar 0) (tC (.int 1))) tNil)))))
theorem w_ratio_text {K : KF} (W : WX) (ds : List DV) (Ω : Om) (R : DV → Om → Prop) (X : Exc → Om → Prop) (h : sp_ratio_text K ds Ω R X) : WS K W (t_ratio_text K W) (startG 1 ds) Ω (fnO Ω R X) := by
  obtain ⟨x, rfl, ⟨h1, h2⟩, q⟩ := h
  show WS K W (t_ratio_text K W) [some (.d (dR x))] Ω _
  unfold t_ratio_text
  walk_at "hl"
  have z1 : x.num.natAbs < 2 ^ 1900 := Nat.lt_of_lt_of_le h1 (by decide)
  have z2 : (x.den : Int).natAbs < 2 ^ 1900 := Nat.lt_of_lt_of_le h2 (by decide)
  have l1 := intL_len (k := 300) (by decide) h1
  have l2 := TL.numL_len (k := 300) (by decide) h2
  have e2 : intL (x.den : Int) = TL.numL x.den := by unfold intL; rw [if_neg (by omega)]; rfl
  refine ⟨fun h => ?_, fun h => ?_⟩
  · have h := of_decide_eq_true h
    walk_at "hl"
    refine wc_strI z1 ?_
    unfold ratT at q
    rw [if_pos (by omega)] at q
    exact dr_same q
  · have h := of_decide_eq_false h
    walk_at "hl"
    refine wc_strI z1 ?_
    walk_at "hl"
    refine wc_strI z2 ?_
    rw [e2]
    walk_at "hl"
    unfold ratT at q
    rw [if_neg (by omega)] at q
    rw [List.append_assoc]
    exact dr_same q
theorem sp_len_ratio_text {K : KF} (ds : List DV) (Ω : Om) (R : DV → Om → Prop) (X : Exc → Om → Prop) (h : sp_ratio_text K ds Ω R X) : ds.length = 1 := by
  unfold sp_ratio_text at h
  first
    | (obtain ⟨rfl, _⟩ := h; rfl)
    | (obtain ⟨_, rfl, _⟩ := h; rfl)
    | (obtain ⟨_, _, rfl, _⟩ := h; rfl)
    | (obtain ⟨_, _, _, rfl, _⟩ := h; rfl)
    | (obtain ⟨_, _, _, _, rfl, _⟩ := h; rfl)
    | (obtain ⟨_, _, _, _, _, rfl, _⟩ := h; rfl)
    | (obtain ⟨_, _, _, _, _, _, rfl, _⟩ := h; rfl)
    | (obtain ⟨_, _, _, _, _, _, _, rfl, _⟩ := h; rfl)
    | (obtain ⟨_, _, _, _, _, _, _, _, rfl, _⟩ := h; rfl)
    | (obtain ⟨_, _, _, _, _, _, _, _, _, rfl, _⟩ := h; rfl)
    | (obtain ⟨_, _, _, _, _, _, _, _, _, _, rfl, _⟩ := h; rfl)
    | (obtain ⟨_, _, _, _, _, _, _, _, _, _, _, rfl, _⟩ := h; rfl)
    | (obtain ⟨_, _, _, _, _, _, _, _, _, _, _, _, rfl, _⟩ := h; rfl)
    | (obtain ⟨_, _, _, _, _, _, _, _, _, _, _, _, _, rfl, _⟩ := h; rfl)
    | (obtain ⟨_, _, _, _, _, _, _, _, _, _, _, _, _, rfl, _⟩ := h; rfl)
    | (obtain ⟨_, _, _, _, _, _, _, _, _, _, _, _, _, _, rfl, _⟩ := h; rfl)
    | (obtain ⟨_, _, _, _, _, _, _, _, _, _, _, _, _, _, _, rfl, _⟩ := h; rfl)
    | (obtain ⟨_, _, _, _, _, _, _, _, _, _, _, _, _, _, _, _, rfl, _⟩ := h; rfl)
    | (obtain ⟨_, _, _, _, _, _, _, _, _, _, _, _, _, _, _, _, _, rfl, _⟩ := h; rfl)
    | (obtain ⟨_, _, _, _, _, _, _, _, _, _, _, _, _, _, _, _, _, _, rfl, _⟩ := h; rfl)
    | (obtain ⟨_, _, _, _, _, _, _, _, _, _, _, _, _, _, _, _, _, _, _, rfl, _⟩ := h; rfl)
    | (obtain ⟨_, _, _, _, _, _, _, _, _, _, _, _, _, _, _, _, _, _, _, _, rfl, _⟩ := h; rfl)
    | (obtain ⟨_, _, _, _, _, _, _, _, _, _, _, _, _, _, _, _, _, _, _, _, _, rfl, _⟩ := h; rfl)
--USE HLp
def sp_read_ratio (K : KF) : Spec := fun ds Ω R X => ∃ l : List Nat, ds = [.d (tS l)] ∧ l.length ≤ 5000 ∧ okT l = true ∧ ((∃ x : Rat, readT l = some x ∧ R (.d (dR x)) Ω) ∨ (readT l = none ∧ X (.own (He.ga K "NoText")) Ω))
def t_read_ratio (K : KF) (W : WX) : TS :=
  (tSeq (tDrop (tCallS (FS K (sp_look_at_text K)) (L2.WE W) (tCons (tVar 0) tNil)))
    (tSeq (tAsg (tBM K "str" rSplitO (tVar 0) (tCons (tC (.str "/")) tNil)) (gName 1))
    (tSeq (tAsg (tC (.int 1)) (gName 2))
    (tSeqI (tIfS (tTest (tOp (rEqD K) (tSl C8.rSlX (tOp (rIx K) (tVar 1) (tC (.int 0))) tNoPart (tPart (tC (.int 1)))) (tC (.str "-")))) (tSeq (tAsg (tUn uNeg (tC (.int 1))) (gName 2))
    (tAsg (tSl C8.rSlX (tOp (rIx K) (tVar 1) (tC (.int 0))) (tPart (tC (.int 1))) tNoPart) (gSub (tVar 1) (tC (.int 0)) rSetL))) tNext)
    (tSeq (tAsg (tOp oMul (tVar 2) (tCallS (FS K (sp_number_in K)) (L2.WE W) (tCons (tOp (rIx K) (tVar 1) (tC (.int 0))) (tCons (tC (.int (300))) tNil)))) (gName 3))
    (tSeq (tAsg (tC (.int 1)) (gName 4))
    (tSeqI (tIfS (tTest (tOp (rEqD K) (tCB (rLenQ K) (tCons (tVar 1) tNil)) (tC (.int 2)))) (tAsg (tCallS (FS K (sp_number_in K)) (L2.WE W) (tCons (tOp (rIx K) (tVar 1) (tC (.int 1))) (tCons (tC (.int (300))) tNil))) (gName 4)) tNext)
    (tSeq (tAsg (tTup (tCons (tVar 3) (tCons (tVar 4) tNil))) (gName 5))
    (tSeqI (tIfS (tOr (tNot (tB (tCall (FS K (sp_is_ratio K)) [] E0 (tCons (tVar 5) tNil)))) (tTest (tOp (rNeD K) (tCall (FS K (sp_ratio_text K)) [] E0 (tCons (tVar 5) tNil)) (tVar 0)))) (tRaise K "NoText" W) tNext)
    (tRet (tVar 5)))))))))))
theorem w_read_ratio {K : KF} (W : WX) (ds : List DV) (Ω : Om) (R : DV → Om → Prop) (X : Exc → Om → Prop) (h : sp_read_ratio K ds Ω R X) : WS K W (t_read_ratio K W) (startG 6 ds) Ω (fnO Ω R X) := by
  obtain ⟨l, rfl, hl, ho, q⟩ := h
  show WS K W (t_read_ratio K W) [some (.d (tS l)), none, none, none, none, none] Ω _
  unfold t_read_ratio
  walk_at "hl"
  refine ⟨tS l, rfl, rfl, ?_⟩
  rw [if_pos (show isTxt (tS l) = true from rfl)]
  walk_at "hl"
  show WS K W _ _ _ _
  have hS : ([47] : List Nat) ≠ [] := by decide
  obtain ⟨p, r, hp⟩ : ∃ p r, parts [47] l = p :: r := by
    cases h : parts [47] l with
    | nil => exact absurd h (parts_ne 47 l)
    | cons p r => exact ⟨p, r, rfl⟩
  have hpm : p ∈ parts [47] l := by rw [hp]; simp
  have pl := (parts_sub hS hpm).1
  have po := parts_ok hS hpm ho
  have ul := (undash_sub (p := p)).1
  have uo : okT (undash p) = true := okT_iff.mpr fun c hc => okT_iff.mp po c (undash_sub.2 c hc)
  have rl : r.length ≤ 5001 := by have := parts_len hS (l := l); rw [hp, List.length_cons] at this; omega
  rw [← progT_eq] at q
  have key : progT l = (valT (undash p)).bind fun t => (match r with | [b] => valT b | _ => some 1).bind fun b => if (b ≠ 0 ∧ Nat.gcd t b = 1) ∧ ratT (Rat.divInt (sgnT p * t) b) = l then some (Rat.divInt (sgnT p * t) b) else none := by unfold progT; rw [hp] <;> rfl
  rw [key] at q
  rw [hp]
  have hget : ∀ ds, (Ω ++ [OC.lst ds])[Ω.length]? = some (.lst ds) := fun ds => get_last _ _
  refine ws_cut (fun Γ Ω1 => Γ = [some (.d (tS l)), some (.o Ω.length), some (.d (.int (sgnT p))), none, none, none] ∧ Ω1 = Ω ++ [.lst (((undash p :: r).map tS).map DV.d)]) ?_ ?_
  rotate_left
  · walk_at "hl"
    refine wr_ix (sq_last _ _) (y := .d (tS p)) (atI_nat (j := 0) rfl) ?_
    have to : okT (p.take (Int.toNat 1)) = true := okT_iff.mpr fun c hc => okT_iff.mp po c (List.mem_of_mem_take hc)
    walk_at "hl"
    refine ⟨fun h => ?_, fun h => ?_⟩
    · have hd : dashB p = true := h
      walk_at "hl"
      refine wr_ix (sq_last _ _) (y := .d (tS p)) (atI_nat (j := 0) rfl) ?_
      walk_at "hl"
      refine wg_subL (W := W) ?_ trivial
      walk_at "hl"
      refine ⟨_, _, 0, 0, rfl, rfl, hget _, ixN_zero (by simp), ?_⟩
      rw [set_last]
      unfold sgnT undash
      rw [if_pos hd, if_pos hd]
      exact ⟨rfl, rfl⟩
    · have hd : ¬ dashB p = true := fun z => by unfold dashB at z; rw [show decide (p.take 1 = [45]) = false from h] at z; cases z
      walk_at "hl"
      unfold sgnT undash
      rw [if_neg hd, if_neg hd]
      exact ⟨rfl, rfl⟩
  rintro Γ Ω1 ⟨rfl, rfl⟩
  walk_at "hl"
  refine wr_ix (sq_last _ _) (y := .d (tS (undash p))) (atI_nat (j := 0) rfl) ?_
  walk_at "hl"
  refine ⟨undash p, rfl, by omega, uo, ?_⟩
  cases hv : valT (undash p) with
  | none =>
    rw [hv] at q
    have q : X (.own (He.ga K "NoText")) Ω := by
      rcases q with ⟨x, e, -⟩ | ⟨-, q⟩
      · cases e
      · exact q
    exact .inr ⟨rfl, drx_appP q⟩
  | some t =>
    obtain ⟨-, -, ht⟩ := valT_some hv
    rw [hv] at q
    refine .inl ⟨t, rfl, ?_⟩
    have p3 : (10 : Nat) ^ 300 < 2 ^ 1000 := by decide +kernel
    have cm : CMulW (sgnT p) t := cmul (n := 1) (m := 1000) (by unfold sgnT; split <;> decide) (by omega) (by decide)
    walk_at "hl"
    refine ws_cut (fun Γ Ω1 => ∃ b : Nat, (match r with | [b] => valT b | _ => some 1) = some b ∧ Γ = [some (.d (tS l)), some (.o Ω.length), some (.d (.int (sgnT p))), some (.d (.int (sgnT p * t))), some (.d (.int (b : Int))), none] ∧ Ω1 = Ω ++ [.lst (((undash p :: r).map tS).map DV.d)]) ?_ ?_
    rotate_left
    · walk_at "hl"
      refine wc_len' (sq_last _ _) ?_
      rw [List.length_map, List.length_map, List.length_cons]
      walk_at "hl"
      refine ⟨fun h => ?_, fun h => ?_⟩
      · have h : r.length = 1 := by have := of_decide_eq_true h; omega
        obtain ⟨b', rfl⟩ : ∃ b', r = [b'] := by
          match r, h with
          | [b'], _ => exact ⟨b', rfl⟩
        have hbm : b' ∈ parts [47] l := by rw [hp]; simp
        have bl := (parts_sub hS hbm).1
        have bo := parts_ok hS hbm ho
        walk_at "hl"
        refine wr_ix (sq_last _ _) (y := .d (tS b')) (atI_nat (j := 1) rfl) ?_
        walk_at "hl"
        refine ⟨b', rfl, by omega, bo, ?_⟩
        cases hw : valT b' with
        | none =>
          have q : X (.own (He.ga K "NoText")) Ω := by
            rcases q with ⟨x, e, -⟩ | ⟨-, q⟩
            · have e : ((valT b').bind fun b => if (b ≠ 0 ∧ Nat.gcd t b = 1) ∧ ratT (Rat.divInt (sgnT p * t) b) = l then some (Rat.divInt (sgnT p * t) b) else none) = some x := e
              rw [hw] at e; cases e
            · exact q
          exact .inr ⟨rfl, drx_appP q⟩
        | some b =>
          refine .inl ⟨b, rfl, ?_⟩
          walk_at "hl"
          exact ⟨b, hw, rfl, rfl⟩
      · have h : r.length ≠ 1 := by have := of_decide_eq_false h; omega
        walk_at "hl"
        refine ⟨1, ?_, rfl, rfl⟩
        match r, h with
        | [], _ => rfl
        | _ :: _ :: _, _ => rfl
        | [_], h => exact absurd rfl h
    rintro Γ Ω1 ⟨b, hb, rfl, rfl⟩
    have q : (∃ x, (if (b ≠ 0 ∧ Nat.gcd t b = 1) ∧ ratT (Rat.divInt (sgnT p * t) b) = l then some (Rat.divInt (sgnT p * t) b) else none) = some x ∧ R (.d (dR x)) Ω) ∨ (if (b ≠ 0 ∧ Nat.gcd t b = 1) ∧ ratT (Rat.divInt (sgnT p * t) b) = l then some (Rat.divInt (sgnT p * t) b) else none) = none ∧ X (.own (He.ga K "NoText")) Ω := by
      have e : (some t).bind (fun t => (match r with | [b] => valT b | _ => some 1).bind fun b => if (b ≠ 0 ∧ Nat.gcd t b = 1) ∧ ratT (Rat.divInt (sgnT p * t) b) = l then some (Rat.divInt (sgnT p * t) b) else none) = (if (b ≠ 0 ∧ Nat.gcd t b = 1) ∧ ratT (Rat.divInt (sgnT p * t) b) = l then some (Rat.divInt (sgnT p * t) b) else none) := by
        show (match r with | [b] => valT b | _ => some 1).bind _ = _
        rw [hb]; rfl
      rw [e] at q
      exact q
    have hb3 : b < 10 ^ 300 := by
      revert hb
      match r with
      | [] => intro hb; cases hb; exact Nat.one_lt_pow (by decide) (by decide)
      | [b'] => intro hb; exact (valT_some hb).2.2
      | _ :: _ :: _ => intro hb; cases hb; exact Nat.one_lt_pow (by decide) (by decide)
    have gn := gcd_sgn p t
    walk_at "hl"
    show WS K W _ _ _ _
    have isr : isRatio (.tuple [.int (sgnT p * t), .int (b : Int)]) = decide (b ≠ 0 ∧ Nat.gcd t b = 1) := by
      show (decide ((0 : Int) < b) && decide (Int.gcd (sgnT p * t) b = 1)) = _
      have e1 : Int.gcd (sgnT p * t) b = Nat.gcd t b := by unfold Int.gcd; rw [gn]; rfl
      rw [e1]
      by_cases h0 : b = 0
      · rw [show decide ((0 : Int) < b) = false from decide_eq_false (by omega), show decide (b ≠ 0 ∧ Nat.gcd t b = 1) = false from decide_eq_false (fun z => z.1 h0)]; rfl
      · rw [show decide ((0 : Int) < b) = true from decide_eq_true (by omega), Bool.true_and]
        by_cases h1 : Nat.gcd t b = 1
        · rw [decide_eq_true h1, decide_eq_true ⟨h0, h1⟩]
        · rw [decide_eq_false h1, decide_eq_false (fun z => h1 z.2)]
    refine ws_cut (fun Γ Ω1 => Γ = [some (.d (tS l)), some (.o Ω.length), some (.d (.int (sgnT p))), some (.d (.int (sgnT p * t))), some (.d (.int (b : Int))), some (.d (dR (Rat.divInt (sgnT p * t) b)))] ∧ Ω1 = Ω ++ [.lst (((undash p :: r).map tS).map DV.d)] ∧ R (.d (dR (Rat.divInt (sgnT p * t) b))) Ω) ?_ ?_
    · rintro Γ Ω1 ⟨rfl, rfl, q⟩
      walk_at "hl"
      exact dr_app q (fun i h => by cases h)
    walk_at "hl"
    refine ⟨.tuple [.int (sgnT p * t), .int (b : Int)], 0, rfl, fit_tup (all_cons (fit_int (k := 1000) (by omega) (by decide)) (all_cons (fit_int (k := 1000) (by omega) (by decide)) all_nil)), ?_⟩
    rw [isr]
    have bad : X (.own (He.ga K "NoText")) Ω → WS K W (tRaise K (Str.ofString "NoText") W) [some (.d (tS l)), some (.o Ω.length), some (.d (.int (sgnT p))), some (.d (.int (sgnT p * t))), some (.d (.int (b : Int))), some (.d (.tuple [.int (sgnT p * t), .int (b : Int)]))] (Ω ++ [.lst (((undash p :: r).map tS).map DV.d)]) { nx := fun Γ Ω1 => Γ = [some (.d (tS l)), some (.o Ω.length), some (.d (.int (sgnT p))), some (.d (.int (sgnT p * t))), some (.d (.int (b : Int))), some (.d (dR (Rat.divInt (sgnT p * t) b)))] ∧ Ω1 = Ω ++ [.lst (((undash p :: r).map tS).map DV.d)] ∧ R (.d (dR (Rat.divInt (sgnT p * t) b))) Ω, rt := (fnO Ω R X).rt, bk := (fnO Ω R X).bk, ct := (fnO Ω R X).ct, er := (fnO Ω R X).er } := fun q => by
      walk_at "hl"
      exact drx_appP q
    have good : b ≠ 0 ∧ Nat.gcd t b = 1 → PyData.tuple [.int (sgnT p * t), .int (b : Int)] = dR (Rat.divInt (sgnT p * t) b) ∧ R300 (Rat.divInt (sgnT p * t) b) := fun z => by
      obtain ⟨e1, e2⟩ := low_nd (p := p) z.1 z.2
      refine ⟨?_, ?_, ?_⟩
      · show _ = PyData.tuple [.int (Rat.divInt (sgnT p * t) b).num, .int ((Rat.divInt (sgnT p * t) b).den : Nat)]
        rw [e1, e2]
      · rw [e1, gn]; exact ht
      · rw [e2]; exact hb3
    walk_at "hl"
    by_cases hg : b ≠ 0 ∧ Nat.gcd t b = 1
    case neg =>
      rw [decide_eq_false hg]
      have q : X (.own (He.ga K "NoText")) Ω := by
        rw [if_neg (fun z => hg z.1)] at q
        rcases q with ⟨x, e, -⟩ | ⟨-, q⟩
        · cases e
        · exact q
      exact ⟨fun _ => ⟨fun _ => bad q, fun h => (by cases h)⟩, fun h => (by cases h)⟩
    rw [decide_eq_true hg]
    obtain ⟨hdr, h300⟩ := good hg
    have oko : okT (ratT (Rat.divInt (sgnT p * t) b)) = true := okT_iff.mpr fun c hc => by have := ratT_c hc; unfold RatC at this; omega
    refine ⟨fun h => (by cases h), fun _ => ?_⟩
    walk_at "hl"
    refine ⟨Rat.divInt (sgnT p * t) b, by show [DV.d (PyData.tuple [.int (sgnT p * t), .int (b : Int)])] = _; rw [hdr], h300, ?_⟩
    walk_at "hl"
    refine ⟨fun h => ?_, fun h => ?_⟩
    · have h : ¬ ratT (Rat.divInt (sgnT p * t) b) = l := fun z => by rw [decide_eq_true z] at h; cases h
      have q : X (.own (He.ga K "NoText")) Ω := by
        rw [if_neg (fun z => h z.2)] at q
        rcases q with ⟨x, e, -⟩ | ⟨-, q⟩
        · cases e
        · exact q
      exact bad q
    · have h : ratT (Rat.divInt (sgnT p * t) b) = l := by
        cases z : decide (ratT (Rat.divInt (sgnT p * t) b) = l) with
        | true => exact of_decide_eq_true z
        | false => rw [z] at h; cases h
      have q : R (.d (dR (Rat.divInt (sgnT p * t) b))) Ω := by
        rw [if_pos ⟨hg, h⟩] at q
        rcases q with ⟨x, e, q⟩ | ⟨e, -⟩
        · cases e; exact q
        · cases e
      walk_at "hl"
      refine ⟨?_, rfl, q⟩
      rw [← hdr]; rfl
theorem sp_len_read_ratio {K : KF} (ds : List DV) (Ω : Om) (R : DV → Om → Prop) (X : Exc → Om → Prop) (h : sp_read_ratio K ds Ω R X) : ds.length = 1 := by
  unfold sp_read_ratio at h
  first
    | (obtain ⟨rfl, _⟩ := h; rfl)
    | (obtain ⟨_, rfl, _⟩ := h; rfl)
    | (obtain ⟨_, _, rfl, _⟩ := h; rfl)
    | (obtain ⟨_, _, _, rfl, _⟩ := h; rfl)
    | (obtain ⟨_, _, _, _, rfl, _⟩ := h; rfl)
    | (obtain ⟨_, _, _, _, _, rfl, _⟩ := h; rfl)
    | (obtain ⟨_, _, _, _, _, _, rfl, _⟩ := h; rfl)
    | (obtain ⟨_, _, _, _, _, _, _, rfl, _⟩ := h; rfl)
    | (obtain ⟨_, _, _, _, _, _, _, _, rfl, _⟩ := h; rfl)
    | (obtain ⟨_, _, _, _, _, _, _, _, _, rfl, _⟩ := h; rfl)
    | (obtain ⟨_, _, _, _, _, _, _, _, _, _, rfl, _⟩ := h; rfl)
    | (obtain ⟨_, _, _, _, _, _, _, _, _, _, _, rfl, _⟩ := h; rfl)
    | (obtain ⟨_, _, _, _, _, _, _, _, _, _, _, _, rfl, _⟩ := h; rfl)
    | (obtain ⟨_, _, _, _, _, _, _, _, _, _, _, _, _, rfl, _⟩ := h; rfl)
    | (obtain ⟨_, _, _, _, _, _, _, _, _, _, _, _, _, rfl, _⟩ := h; rfl)
    | (obtain ⟨_, _, _, _, _, _, _, _, _, _, _, _, _, _, rfl, _⟩ := h; rfl)
    | (obtain ⟨_, _, _, _, _, _, _, _, _, _, _, _, _, _, _, rfl, _⟩ := h; rfl)
    | (obtain ⟨_, _, _, _, _, _, _, _, _, _, _, _, _, _, _, _, rfl, _⟩ := h; rfl)
    | (obtain ⟨_, _, _, _, _, _, _, _, _, _, _, _, _, _, _, _, _, rfl, _⟩ := h; rfl)
    | (obtain ⟨_, _, _, _, _, _, _, _, _, _, _, _, _, _, _, _, _, _, rfl, _⟩ := h; rfl)
    | (obtain ⟨_, _, _, _, _, _, _, _, _, _, _, _, _, _, _, _, _, _, _, rfl, _⟩ := h; rfl)
    | (obtain ⟨_, _, _, _, _, _, _, _, _, _, _, _, _, _, _, _, _, _, _, _, rfl, _⟩ := h; rfl)
    | (obtain ⟨_, _, _, _, _, _, _, _, _, _, _, _, _, _, _, _, _, _, _, _, _, rfl, _⟩ := h; rfl)
--USE HLp
--USE HMf
def sp_ball_in (K : KF) : Spec := fun ds Ω R X => ∃ l : List Nat, ds = [.d (tS l)] ∧ l.length ≤ 5000 ∧ okT l = true ∧ ((∃ b : Bl, ballT l = some b ∧ R (.d (dB b)) Ω) ∨ (ballT l = none ∧ X (.own (He.ga K "NoText")) Ω))
def t_ball_in (K : KF) (W : WX) : TS :=
  (tSeq (tAsg (tBM K "str" rSplit (tVar 0) (tCons (tC (.str " ")) tNil)) (gName 1))
    (tSeqI (tIfS (tTest (tOp (rNeD K) (tCB (rLenQ K) (tCons (tVar 1) tNil)) (tC (.int 3)))) (tRaise K "NoText" W) tNext)
    (tRet (tTup (tCons (tCallS (FS K (sp_read_ratio K)) (L2.WE W) (tCons (tOp (rIx K) (tVar 1) (tC (.int 0))) tNil)) (tCons (tCallS (FS K (sp_read_ratio K)) (L2.WE W) (tCons (tOp (rIx K) (tVar 1) (tC (.int 1))) tNil)) (tCons (tCallS (FS K (sp_number_in K)) (L2.WE W) (tCons (tOp (rIx K) (tVar 1) (tC (.int 2))) (tCons (tC (.int (300))) tNil))) tNil)))))))
theorem w_ball_in {K : KF} (W : WX) (ds : List DV) (Ω : Om) (R : DV → Om → Prop) (X : Exc → Om → Prop) (h : sp_ball_in K ds Ω R X) : WS K W (t_ball_in K W) (startG 2 ds) Ω (fnO Ω R X) := by
  obtain ⟨l, rfl, hl, ho, q⟩ := h
  show WS K W (t_ball_in K W) [some (.d (tS l)), none] Ω _
  unfold t_ball_in
  have sub : ∀ x ∈ parts [32] l, x.length ≤ 5000 ∧ okT x = true := fun x hx => ⟨Nat.le_trans (parts_sub (by decide) hx).1 hl, parts_ok (by decide) hx ho⟩
  walk_at "hl"
  refine ws_cut (fun Γ Ω1 => ∃ p s w, parts [32] l = [p, s, w] ∧ Γ = [some (.d (tS l)), some (.d (.list ([p, s, w].map tS)))] ∧ Ω1 = Ω) ?_ ?_
  rotate_left
  · walk_at "hl"
    rw [List.length_map, List.length_map]
    refine ⟨fun h => ?_, fun h => ?_⟩
    · have h : (parts [32] l).length ≠ 3 := fun z => by rw [decide_eq_true (by omega)] at h; cases h
      have e : ballT l = none := by
        unfold ballT
        match hz : parts [32] l, h with
        | [], _ => rfl
        | [_], _ => rfl
        | [_, _], _ => rfl
        | _ :: _ :: _ :: _ :: _, _ => rfl
      rw [e] at q
      have q : X (.own (He.ga K "NoText")) Ω := by
        rcases q with ⟨x, e, -⟩ | ⟨-, q⟩
        · cases e
        · exact q
      walk_at "hl"
      exact .inl q
    · have h : (parts [32] l).length = 3 := by
        cases z : decide (((parts [32] l).length : Int) = 3) with
        | true => have := of_decide_eq_true z; omega
        | false => rw [z] at h; cases h
      obtain ⟨p, s, w, hp⟩ : ∃ p s w, parts [32] l = [p, s, w] := by
        match hz : parts [32] l, h with
        | [p, s, w], _ => exact ⟨p, s, w, rfl⟩
      walk_at "hl"
      exact ⟨p, s, w, hp, by rw [hp]; rfl, rfl⟩
  rintro Γ Ω1 ⟨p, s, w, hp, rfl, rfl⟩
  have key : ballT l = (readT p).bind fun p => (readT s).bind fun s => (valT w).map fun w => (⟨p, s, w⟩ : Bl) := by unfold ballT; rw [hp]
  rw [key] at q
  rw [hp] at sub
  obtain ⟨lp, op⟩ := sub p (by simp)
  obtain ⟨ls', os⟩ := sub s (by simp)
  obtain ⟨lw, ow⟩ := sub w (by simp)
  walk_at "hl"
  refine ⟨p, rfl, lp, op, ?_⟩
  cases h1 : readT p with
  | none =>
    rw [h1] at q
    have q : X (.own (He.ga K "NoText")) Ω1 := by
      rcases q with ⟨x, e, -⟩ | ⟨-, q⟩
      · cases e
      · exact q
    exact .inr ⟨rfl, .inl q⟩
  | some x =>
    rw [h1] at q
    have q : (∃ b : Bl, ((readT s).bind fun s => (valT w).map fun w => (⟨x, s, w⟩ : Bl)) = some b ∧ R (.d (dB b)) Ω1) ∨ (((readT s).bind fun s => (valT w).map fun w => (⟨x, s, w⟩ : Bl)) = none ∧ X (.own (He.ga K "NoText")) Ω1) := q
    refine .inl ⟨x, rfl, ?_⟩
    walk_at "hl"
    refine ⟨s, rfl, ls', os, ?_⟩
    cases h2 : readT s with
    | none =>
      rw [h2] at q
      have q : X (.own (He.ga K "NoText")) Ω1 := by
        rcases q with ⟨x, e, -⟩ | ⟨-, q⟩
        · cases e
        · exact q
      exact .inr ⟨rfl, .inl q⟩
    | some y =>
      rw [h2] at q
      have q : (∃ b : Bl, ((valT w).map fun w => (⟨x, y, w⟩ : Bl)) = some b ∧ R (.d (dB b)) Ω1) ∨ (((valT w).map fun w => (⟨x, y, w⟩ : Bl)) = none ∧ X (.own (He.ga K "NoText")) Ω1) := q
      refine .inl ⟨y, rfl, ?_⟩
      walk_at "hl"
      refine ⟨w, rfl, lw, ow, ?_⟩
      cases h3 : valT w with
      | none =>
        rw [h3] at q
        have q : X (.own (He.ga K "NoText")) Ω1 := by
          rcases q with ⟨x, e, -⟩ | ⟨-, q⟩
          · cases e
          · exact q
        exact .inr ⟨rfl, .inl q⟩
      | some n =>
        rw [h3] at q
        have q : R (.d (dB ⟨x, y, n⟩)) Ω1 := by
          rcases q with ⟨b, e, q⟩ | ⟨e, -⟩
          · cases e; exact q
          · cases e
        refine .inl ⟨n, rfl, ?_⟩
        walk_at "hl"
        exact dr_same q
theorem sp_len_ball_in {K : KF} (ds : List DV) (Ω : Om) (R : DV → Om → Prop) (X : Exc → Om → Prop) (h : sp_ball_in K ds Ω R X) : ds.length = 1 := by
  unfold sp_ball_in at h
  first
    | (obtain ⟨rfl, _⟩ := h; rfl)
    | (obtain ⟨_, rfl, _⟩ := h; rfl)
    | (obtain ⟨_, _, rfl, _⟩ := h; rfl)
    | (obtain ⟨_, _, _, rfl, _⟩ := h; rfl)
    | (obtain ⟨_, _, _, _, rfl, _⟩ := h; rfl)
    | (obtain ⟨_, _, _, _, _, rfl, _⟩ := h; rfl)
    | (obtain ⟨_, _, _, _, _, _, rfl, _⟩ := h; rfl)
    | (obtain ⟨_, _, _, _, _, _, _, rfl, _⟩ := h; rfl)
    | (obtain ⟨_, _, _, _, _, _, _, _, rfl, _⟩ := h; rfl)
    | (obtain ⟨_, _, _, _, _, _, _, _, _, rfl, _⟩ := h; rfl)
    | (obtain ⟨_, _, _, _, _, _, _, _, _, _, rfl, _⟩ := h; rfl)
    | (obtain ⟨_, _, _, _, _, _, _, _, _, _, _, rfl, _⟩ := h; rfl)
    | (obtain ⟨_, _, _, _, _, _, _, _, _, _, _, _, rfl, _⟩ := h; rfl)
    | (obtain ⟨_, _, _, _, _, _, _, _, _, _, _, _, _, rfl, _⟩ := h; rfl)
    | (obtain ⟨_, _, _, _, _, _, _, _, _, _, _, _, _, rfl, _⟩ := h; rfl)
    | (obtain ⟨_, _, _, _, _, _, _, _, _, _, _, _, _, _, rfl, _⟩ := h; rfl)
    | (obtain ⟨_, _, _, _, _, _, _, _, _, _, _, _, _, _, _, rfl, _⟩ := h; rfl)
    | (obtain ⟨_, _, _, _, _, _, _, _, _, _, _, _, _, _, _, _, rfl, _⟩ := h; rfl)
    | (obtain ⟨_, _, _, _, _, _, _, _, _, _, _, _, _, _, _, _, _, rfl, _⟩ := h; rfl)
    | (obtain ⟨_, _, _, _, _, _, _, _, _, _, _, _, _, _, _, _, _, _, rfl, _⟩ := h; rfl)
    | (obtain ⟨_, _, _, _, _, _, _, _, _, _, _, _, _, _, _, _, _, _, _, rfl, _⟩ := h; rfl)
    | (obtain ⟨_, _, _, _, _, _, _, _, _, _, _, _, _, _, _, _, _, _, _, _, rfl, _⟩ := h; rfl)
    | (obtain ⟨_, _, _, _, _, _, _, _, _, _, _, _, _, _, _, _, _, _, _, _, _, rfl, _⟩ := h; rfl)
def tupOf (n : Int) : PyData → Bool
  | .tuple xs => decide ((xs.length : Int) = n)
  | _ => false
def sp_is_tuple_of (K : KF) : Spec := fun ds Ω R X => ∃ (x : PyData) (n : Int), ds = [.d x, .d (.int n)] ∧ known x = true ∧ R (.d (.bool (tupOf n x))) Ω
def t_is_tuple_of (K : KF) (W : WX) : TS :=
  (tRet (tAndV (tCB (rIsi K) (tCons (tVar 0) (tCons (tC (.ty "tuple")) tNil))) (tOp (rEqD K) (tCB (rLenQ K) (tCons (tVar 0) tNil)) (tVar 1))))
theorem w_is_tuple_of {K : KF} (W : WX) (ds : List DV) (Ω : Om) (R : DV → Om → Prop) (X : Exc → Om → Prop) (h : sp_is_tuple_of K ds Ω R X) : WS K W (t_is_tuple_of K W) (startG 2 ds) Ω (fnO Ω R X) := by
  obtain ⟨x, n, rfl, kx, q⟩ := h
  show WS K W (t_is_tuple_of K W) [some (.d x), some (.d (.int n))] Ω _
  unfold t_is_tuple_of
  walk_at "hl"
  cases hx : isTuple x with
  | false =>
    have e : tupOf n x = false := by cases x <;> first | rfl | cases hx
    rw [e] at q
    exact bF rfl (dr_same q)
  | true =>
    obtain ⟨xs, rfl⟩ := isTuple_eq hx
    refine bT rfl ?_
    walk_at "hl"
    have e : tupOf n (.tuple xs) = decide (((xs.map DV.d).length : Int) = n) := by rw [List.length_map]; rfl
    rw [e] at q
    exact dr_same q
theorem tupOf_eq {n : Int} {x : PyData} (h : tupOf n x = true) : ∃ xs : List PyData, x = .tuple xs ∧ (xs.length : Int) = n := by
  cases x with
  | tuple xs => exact ⟨xs, rfl, of_decide_eq_true h⟩
  | _ => cases h
theorem len3 {α : Type} {xs : List α} (h : (xs.length : Int) = 3) : ∃ a b c, xs = [a, b, c] := by
  match xs, h with
  | [a, b, c], _ => exact ⟨a, b, c, rfl⟩
  | [], h => simp at h
  | [a], h => simp at h
  | [a, b], h => simp at h
  | a :: b :: c :: d :: r, h => simp at h; omega
theorem sp_len_is_tuple_of {K : KF} (ds : List DV) (Ω : Om) (R : DV → Om → Prop) (X : Exc → Om → Prop) (h : sp_is_tuple_of K ds Ω R X) : ds.length = 2 := by
  unfold sp_is_tuple_of at h
  first
    | (obtain ⟨rfl, _⟩ := h; rfl)
    | (obtain ⟨_, rfl, _⟩ := h; rfl)
    | (obtain ⟨_, _, rfl, _⟩ := h; rfl)
    | (obtain ⟨_, _, _, rfl, _⟩ := h; rfl)
    | (obtain ⟨_, _, _, _, rfl, _⟩ := h; rfl)
    | (obtain ⟨_, _, _, _, _, rfl, _⟩ := h; rfl)
    | (obtain ⟨_, _, _, _, _, _, rfl, _⟩ := h; rfl)
    | (obtain ⟨_, _, _, _, _, _, _, rfl, _⟩ := h; rfl)
    | (obtain ⟨_, _, _, _, _, _, _, _, rfl, _⟩ := h; rfl)
    | (obtain ⟨_, _, _, _, _, _, _, _, _, rfl, _⟩ := h; rfl)
    | (obtain ⟨_, _, _, _, _, _, _, _, _, _, rfl, _⟩ := h; rfl)
    | (obtain ⟨_, _, _, _, _, _, _, _, _, _, _, rfl, _⟩ := h; rfl)
    | (obtain ⟨_, _, _, _, _, _, _, _, _, _, _, _, rfl, _⟩ := h; rfl)
    | (obtain ⟨_, _, _, _, _, _, _, _, _, _, _, _, _, rfl, _⟩ := h; rfl)
    | (obtain ⟨_, _, _, _, _, _, _, _, _, _, _, _, _, rfl, _⟩ := h; rfl)
    | (obtain ⟨_, _, _, _, _, _, _, _, _, _, _, _, _, _, rfl, _⟩ := h; rfl)
    | (obtain ⟨_, _, _, _, _, _, _, _, _, _, _, _, _, _, _, rfl, _⟩ := h; rfl)
    | (obtain ⟨_, _, _, _, _, _, _, _, _, _, _, _, _, _, _, _, rfl, _⟩ := h; rfl)
    | (obtain ⟨_, _, _, _, _, _, _, _, _, _, _, _, _, _, _, _, _, rfl, _⟩ := h; rfl)
    | (obtain ⟨_, _, _, _, _, _, _, _, _, _, _, _, _, _, _, _, _, _, rfl, _⟩ := h; rfl)
    | (obtain ⟨_, _, _, _, _, _, _, _, _, _, _, _, _, _, _, _, _, _, _, rfl, _⟩ := h; rfl)
    | (obtain ⟨_, _, _, _, _, _, _, _, _, _, _, _, _, _, _, _, _, _, _, _, rfl, _⟩ := h; rfl)
    | (obtain ⟨_, _, _, _, _, _, _, _, _, _, _, _, _, _, _, _, _, _, _, _, _, rfl, _⟩ := h; rfl)
def sp_is_ball (K : KF) : Spec := fun ds Ω R X => ∃ x n, ds = [.d x] ∧ Fit (n + 2) x ∧ R (.d (.bool (isBall x))) Ω
def t_is_ball (K : KF) (W : WX) : TS :=
  (tSeq (tIfS (tOr (tNot (tB (tCall (FS K (sp_is_tuple_of K)) [] E0 (tCons (tVar 0) (tCons (tC (.int 3)) tNil))))) (tOr (tNot (tB (tCall (FS K (sp_is_ratio K)) [] E0 (tCons (tOp (rIx K) (tVar 0) (tC (.int (0)))) tNil)))) (tNot (tB (tCall (FS K (sp_is_ratio K)) [] E0 (tCons (tOp (rIx K) (tVar 0) (tC (.int (1)))) tNil)))))) (tRet (tC (.bl false))) tNext)
    (tRet (tAndV (tCall (FS K (sp_is_whole K)) [] E0 (tCons (tOp (rIx K) (tVar 0) (tC (.int (2)))) tNil)) (tChain oLe oLe (tC (.int 1)) (tOp (rIx K) (tVar 0) (tC (.int (2)))) (tC (.int (1000)))))))
theorem w_is_ball {K : KF} (W : WX) (ds : List DV) (Ω : Om) (R : DV → Om → Prop) (X : Exc → Om → Prop) (h : sp_is_ball K ds Ω R X) : WS K W (t_is_ball K W) (startG 1 ds) Ω (fnO Ω R X) := by
  obtain ⟨x, n, rfl, hf, q⟩ := h
  show WS K W (t_is_ball K W) [some (.d x)] Ω _
  unfold t_is_ball
  have kx : known x = true := fit_known hf
  have no : isBall x = false → ∀ {O : Outs} (_ : O.rt = (fnO Ω R X).rt := by rfl), WS K W (tRet (tC (.bl false))) [some (.d x)] Ω O := fun e O eo => by
    rw [e] at q
    walk_at "hl"
    rw [eo]
    exact dr_same q
  walk_at "hl"
  refine ⟨_, 3, rfl, kx, ?_⟩
  walk_at "hl"
  cases ht : tupOf 3 x with
  | false =>
    refine bT rfl (bT rfl (no ?_))
    cases x with
    | tuple xs =>
      match xs, ht with
      | [], _ => rfl
      | [a], _ => rfl
      | [a, b], _ => rfl
      | [a, b, c], h => cases h
      | a :: b :: c :: d :: r, _ => cases c <;> rfl
    | _ => rfl
  | true =>
    obtain ⟨xs, rfl, hl⟩ := tupOf_eq ht
    obtain ⟨a, b, c, rfl⟩ := len3 hl
    have fa : Fit (n + 1) a := fit_mem hf (List.mem_cons_self ..)
    have fb : Fit (n + 1) b := fit_mem hf (List.mem_cons_of_mem _ (List.mem_cons_self ..))
    have fc : Fit (n + 1) c := fit_mem hf (List.mem_cons_of_mem _ (List.mem_cons_of_mem _ (List.mem_cons_self ..)))
    refine bF rfl ?_
    walk_at "hl"
    refine ⟨_, n, rfl, fa, ?_⟩
    walk_at "hl"
    cases ha : isRatio a with
    | false => exact bT rfl (bT rfl (no (by cases c <;> first | rfl | (show (isRatio a && _) = false; rw [ha]; rfl))))
    | true =>
      refine bF rfl ?_
      walk_at "hl"
      refine ⟨_, n, rfl, fb, ?_⟩
      walk_at "hl"
      cases hb : isRatio b with
      | false => exact bT rfl (no (by cases c <;> first | rfl | (show (isRatio a && (isRatio b && _)) = false; rw [ha, hb]; rfl)))
      | true =>
        refine bF rfl ?_
        walk_at "hl"
        refine ⟨_, rfl, fit_known fc, ?_⟩
        walk_at "hl"
        cases hc : wholeB c with
        | false =>
          have e : isBall (.tuple [a, b, c]) = false := by cases c <;> first | rfl | cases hc
          rw [e] at q
          exact bF rfl (dr_same q)
        | true =>
          refine bT rfl ?_
          cases c <;> cases hc
          rename_i w
          have e : isBall (.tuple [a, b, .int w]) = (isRatio a && (isRatio b && (decide (1 ≤ w) && decide (w ≤ 1000)))) := rfl
          rw [e, ha, hb, Bool.true_and, Bool.true_and] at q
          walk_at "hl"
          refine ⟨fun h => ?_, fun h => ?_⟩
          · rw [h, Bool.true_and] at q
            walk_at "hl"
            exact dr_same q
          · rw [h, Bool.false_and] at q
            exact dr_same q
theorem sp_len_is_ball {K : KF} (ds : List DV) (Ω : Om) (R : DV → Om → Prop) (X : Exc → Om → Prop) (h : sp_is_ball K ds Ω R X) : ds.length = 1 := by
  unfold sp_is_ball at h
  first
    | (obtain ⟨rfl, _⟩ := h; rfl)
    | (obtain ⟨_, rfl, _⟩ := h; rfl)
    | (obtain ⟨_, _, rfl, _⟩ := h; rfl)
    | (obtain ⟨_, _, _, rfl, _⟩ := h; rfl)
    | (obtain ⟨_, _, _, _, rfl, _⟩ := h; rfl)
    | (obtain ⟨_, _, _, _, _, rfl, _⟩ := h; rfl)
    | (obtain ⟨_, _, _, _, _, _, rfl, _⟩ := h; rfl)
    | (obtain ⟨_, _, _, _, _, _, _, rfl, _⟩ := h; rfl)
    | (obtain ⟨_, _, _, _, _, _, _, _, rfl, _⟩ := h; rfl)
    | (obtain ⟨_, _, _, _, _, _, _, _, _, rfl, _⟩ := h; rfl)
    | (obtain ⟨_, _, _, _, _, _, _, _, _, _, rfl, _⟩ := h; rfl)
    | (obtain ⟨_, _, _, _, _, _, _, _, _, _, _, rfl, _⟩ := h; rfl)
    | (obtain ⟨_, _, _, _, _, _, _, _, _, _, _, _, rfl, _⟩ := h; rfl)
    | (obtain ⟨_, _, _, _, _, _, _, _, _, _, _, _, _, rfl, _⟩ := h; rfl)
    | (obtain ⟨_, _, _, _, _, _, _, _, _, _, _, _, _, rfl, _⟩ := h; rfl)
    | (obtain ⟨_, _, _, _, _, _, _, _, _, _, _, _, _, _, rfl, _⟩ := h; rfl)
    | (obtain ⟨_, _, _, _, _, _, _, _, _, _, _, _, _, _, _, rfl, _⟩ := h; rfl)
    | (obtain ⟨_, _, _, _, _, _, _, _, _, _, _, _, _, _, _, _, rfl, _⟩ := h; rfl)
    | (obtain ⟨_, _, _, _, _, _, _, _, _, _, _, _, _, _, _, _, _, rfl, _⟩ := h; rfl)
    | (obtain ⟨_, _, _, _, _, _, _, _, _, _, _, _, _, _, _, _, _, _, rfl, _⟩ := h; rfl)
    | (obtain ⟨_, _, _, _, _, _, _, _, _, _, _, _, _, _, _, _, _, _, _, rfl, _⟩ := h; rfl)
    | (obtain ⟨_, _, _, _, _, _, _, _, _, _, _, _, _, _, _, _, _, _, _, _, rfl, _⟩ := h; rfl)
    | (obtain ⟨_, _, _, _, _, _, _, _, _, _, _, _, _, _, _, _, _, _, _, _, _, rfl, _⟩ := h; rfl)
def sp_less (K : KF) : Spec := fun ds Ω R X => ∃ p q : Rat, ds = [.d (dR p), .d (dR q)] ∧ (∃ n m, Sz n p ∧ Sz m q ∧ n + m ≤ 900000) ∧ R (.d (.bool (decide (p < q)))) Ω
def t_less (K : KF) (W : WX) : TS :=
  (tRet (tOp oLt (tOp oMul (tOp (rIx K) (tVar 0) (tC (.int 0))) (tOp (rIx K) (tVar 1) (tC (.int 1)))) (tOp oMul (tOp (rIx K) (tVar 1) (tC (.int 0))) (tOp (rIx K) (tVar 0) (tC (.int 1))))))
theorem w_less {K : KF} (W : WX) (ds : List DV) (Ω : Om) (R : DV → Om → Prop) (X : Exc → Om → Prop) (h : sp_less K ds Ω R X) : WS K W (t_less K W) (startG 2 ds) Ω (fnO Ω R X) := by
  obtain ⟨p, q, rfl, ⟨n, m, hp, hq, hz⟩, k⟩ := h
  show WS K W (t_less K W) [some (.d (dR p)), some (.d (dR q))] Ω _
  unfold t_less
  obtain ⟨nn, nd, dn, dd⟩ := muls hp hq (by omega)
  obtain ⟨nn', nd', dn', dd'⟩ := muls hq hp (by omega)
  walk_at "hl"
  have e : decide (p.num * q.den < q.num * p.den) = decide (p < q) := decide_eq_decide.mpr (Rat.lt_iff p q).symm
  rw [e]
  exact dr_same k
theorem sp_len_less {K : KF} (ds : List DV) (Ω : Om) (R : DV → Om → Prop) (X : Exc → Om → Prop) (h : sp_less K ds Ω R X) : ds.length = 2 := by
  unfold sp_less at h
  first
    | (obtain ⟨rfl, _⟩ := h; rfl)
    | (obtain ⟨_, rfl, _⟩ := h; rfl)
    | (obtain ⟨_, _, rfl, _⟩ := h; rfl)
    | (obtain ⟨_, _, _, rfl, _⟩ := h; rfl)
    | (obtain ⟨_, _, _, _, rfl, _⟩ := h; rfl)
    | (obtain ⟨_, _, _, _, _, rfl, _⟩ := h; rfl)
    | (obtain ⟨_, _, _, _, _, _, rfl, _⟩ := h; rfl)
    | (obtain ⟨_, _, _, _, _, _, _, rfl, _⟩ := h; rfl)
    | (obtain ⟨_, _, _, _, _, _, _, _, rfl, _⟩ := h; rfl)
    | (obtain ⟨_, _, _, _, _, _, _, _, _, rfl, _⟩ := h; rfl)
    | (obtain ⟨_, _, _, _, _, _, _, _, _, _, rfl, _⟩ := h; rfl)
    | (obtain ⟨_, _, _, _, _, _, _, _, _, _, _, rfl, _⟩ := h; rfl)
    | (obtain ⟨_, _, _, _, _, _, _, _, _, _, _, _, rfl, _⟩ := h; rfl)
    | (obtain ⟨_, _, _, _, _, _, _, _, _, _, _, _, _, rfl, _⟩ := h; rfl)
    | (obtain ⟨_, _, _, _, _, _, _, _, _, _, _, _, _, rfl, _⟩ := h; rfl)
    | (obtain ⟨_, _, _, _, _, _, _, _, _, _, _, _, _, _, rfl, _⟩ := h; rfl)
    | (obtain ⟨_, _, _, _, _, _, _, _, _, _, _, _, _, _, _, rfl, _⟩ := h; rfl)
    | (obtain ⟨_, _, _, _, _, _, _, _, _, _, _, _, _, _, _, _, rfl, _⟩ := h; rfl)
    | (obtain ⟨_, _, _, _, _, _, _, _, _, _, _, _, _, _, _, _, _, rfl, _⟩ := h; rfl)
    | (obtain ⟨_, _, _, _, _, _, _, _, _, _, _, _, _, _, _, _, _, _, rfl, _⟩ := h; rfl)
    | (obtain ⟨_, _, _, _, _, _, _, _, _, _, _, _, _, _, _, _, _, _, _, rfl, _⟩ := h; rfl)
    | (obtain ⟨_, _, _, _, _, _, _, _, _, _, _, _, _, _, _, _, _, _, _, _, rfl, _⟩ := h; rfl)
    | (obtain ⟨_, _, _, _, _, _, _, _, _, _, _, _, _, _, _, _, _, _, _, _, _, rfl, _⟩ := h; rfl)
/-- a ball or a wall that stands so -/
def Stands (x : PyData) (p s : Rat) : Prop := x = dW (some (p, s)) ∨ ∃ w, x = dB ⟨p, s, w⟩
def sp_may_stand (K : KF) : Spec := fun ds Ω R X => ∃ x y p s q t, ds = [.d x, .d y] ∧ Stands x p s ∧ Stands y q t ∧ (∃ n, Sz n p ∧ Sz n s ∧ Sz n q ∧ Sz n t ∧ n ≤ 400000) ∧ R (.d (.bool (mayS p s q t))) Ω
def t_may_stand (K : KF) (W : WX) : TS :=
  (tSeq (tIfS (tTest (tOp (rEqD K) (tOp (rIx K) (tVar 0) (tC (.int (0)))) (tOp (rIx K) (tVar 1) (tC (.int (0)))))) (tRet (tCall (FS K (sp_less K)) [] E0 (tCons (tOp (rIx K) (tVar 0) (tC (.int (1)))) (tCons (tOp (rIx K) (tVar 1) (tC (.int (1)))) tNil)))) tNext)
    (tRet (tCall (FS K (sp_less K)) [] E0 (tCons (tOp (rIx K) (tVar 0) (tC (.int (0)))) (tCons (tOp (rIx K) (tVar 1) (tC (.int (0)))) tNil)))))
theorem w_may_stand {K : KF} (W : WX) (ds : List DV) (Ω : Om) (R : DV → Om → Prop) (X : Exc → Om → Prop) (h : sp_may_stand K ds Ω R X) : WS K W (t_may_stand K W) (startG 2 ds) Ω (fnO Ω R X) := by
  obtain ⟨x, y, p, s, q, t, rfl, hx, hy, ⟨n, zp, zs, zq, zt, hz⟩, k⟩ := h
  show WS K W (t_may_stand K W) [some (.d x), some (.d y)] Ω _
  unfold t_may_stand
  rcases hx with rfl | ⟨w, rfl⟩ <;> rcases hy with rfl | ⟨v, rfl⟩ <;>
  · walk_at "hl"
    refine ⟨fun h => ?_, fun h => ?_⟩
    · have h := of_decide_eq_true h
      have e : mayS p s q t = decide (s < t) := if_pos h
      rw [e] at k
      walk_at "hl"
      exact ⟨_, _, rfl, ⟨_, _, zs, zt, by omega⟩, dr_same k⟩
    · have h := of_decide_eq_false h
      have e : mayS p s q t = decide (p < q) := if_neg h
      rw [e] at k
      walk_at "hl"
      exact ⟨_, _, rfl, ⟨_, _, zp, zq, by omega⟩, dr_same k⟩
theorem sp_len_may_stand {K : KF} (ds : List DV) (Ω : Om) (R : DV → Om → Prop) (X : Exc → Om → Prop) (h : sp_may_stand K ds Ω R X) : ds.length = 2 := by
  unfold sp_may_stand at h
  first
    | (obtain ⟨rfl, _⟩ := h; rfl)
    | (obtain ⟨_, rfl, _⟩ := h; rfl)
    | (obtain ⟨_, _, rfl, _⟩ := h; rfl)
    | (obtain ⟨_, _, _, rfl, _⟩ := h; rfl)
    | (obtain ⟨_, _, _, _, rfl, _⟩ := h; rfl)
    | (obtain ⟨_, _, _, _, _, rfl, _⟩ := h; rfl)
    | (obtain ⟨_, _, _, _, _, _, rfl, _⟩ := h; rfl)
    | (obtain ⟨_, _, _, _, _, _, _, rfl, _⟩ := h; rfl)
    | (obtain ⟨_, _, _, _, _, _, _, _, rfl, _⟩ := h; rfl)
    | (obtain ⟨_, _, _, _, _, _, _, _, _, rfl, _⟩ := h; rfl)
    | (obtain ⟨_, _, _, _, _, _, _, _, _, _, rfl, _⟩ := h; rfl)
    | (obtain ⟨_, _, _, _, _, _, _, _, _, _, _, rfl, _⟩ := h; rfl)
    | (obtain ⟨_, _, _, _, _, _, _, _, _, _, _, _, rfl, _⟩ := h; rfl)
    | (obtain ⟨_, _, _, _, _, _, _, _, _, _, _, _, _, rfl, _⟩ := h; rfl)
    | (obtain ⟨_, _, _, _, _, _, _, _, _, _, _, _, _, rfl, _⟩ := h; rfl)
    | (obtain ⟨_, _, _, _, _, _, _, _, _, _, _, _, _, _, rfl, _⟩ := h; rfl)
    | (obtain ⟨_, _, _, _, _, _, _, _, _, _, _, _, _, _, _, rfl, _⟩ := h; rfl)
    | (obtain ⟨_, _, _, _, _, _, _, _, _, _, _, _, _, _, _, _, rfl, _⟩ := h; rfl)
    | (obtain ⟨_, _, _, _, _, _, _, _, _, _, _, _, _, _, _, _, _, rfl, _⟩ := h; rfl)
    | (obtain ⟨_, _, _, _, _, _, _, _, _, _, _, _, _, _, _, _, _, _, rfl, _⟩ := h; rfl)
    | (obtain ⟨_, _, _, _, _, _, _, _, _, _, _, _, _, _, _, _, _, _, _, rfl, _⟩ := h; rfl)
    | (obtain ⟨_, _, _, _, _, _, _, _, _, _, _, _, _, _, _, _, _, _, _, _, rfl, _⟩ := h; rfl)
    | (obtain ⟨_, _, _, _, _, _, _, _, _, _, _, _, _, _, _, _, _, _, _, _, _, rfl, _⟩ := h; rfl)
def sp_is_within (K : KF) : Spec := fun ds Ω R X => ∃ x y p s q t, ds = [.d x, .d y] ∧ Stands x p s ∧ Stands y q t ∧ (∃ n, Sz n p ∧ Sz n s ∧ Sz n q ∧ Sz n t ∧ n ≤ 400000) ∧ R (.d (.bool (withinS p s q t))) Ω
def t_is_within (K : KF) (W : WX) : TS :=
  (tRet (tOrV (tOp (rEqD K) (tSl (rSlS K) (tVar 0) tNoPart (tPart (tC (.int (2))))) (tSl (rSlS K) (tVar 1) tNoPart (tPart (tC (.int (2)))))) (tCall (FS K (sp_may_stand K)) [] E0 (tCons (tVar 0) (tCons (tVar 1) tNil)))))
theorem cut2 {α : Type} {a b : α} {r : List α} : cutG (a :: b :: r) none (some 2) = [a, b] := by
  unfold cutG
  rw [show HT.sIx (a :: b :: r).length (a :: b :: r).length (some 2) = 2 from (HT.sIx_nat _ _ 2).trans (by simp)]
  rfl
theorem eqv_two (p s q t : Rat) : PyData.eqv (.tuple [dR p, dR s]) (.tuple [dR q, dR t]) = decide (p = q ∧ s = t) := by
  show (PyData.eqv (dR p) (dR q) && (PyData.eqv (dR s) (dR t) && true)) = _
  rw [eqv_dR, eqv_dR, Bool.and_true]
  by_cases h1 : p = q <;> by_cases h2 : s = t <;> simp [h1, h2]
theorem w_is_within {K : KF} (W : WX) (ds : List DV) (Ω : Om) (R : DV → Om → Prop) (X : Exc → Om → Prop) (h : sp_is_within K ds Ω R X) : WS K W (t_is_within K W) (startG 2 ds) Ω (fnO Ω R X) := by
  obtain ⟨x, y, p, s, q, t, rfl, hx, hy, hz, k⟩ := h
  obtain ⟨r, ex⟩ : ∃ r, x = .tuple (dR p :: dR s :: r) := by rcases hx with rfl | ⟨w, rfl⟩ <;> exact ⟨_, rfl⟩
  obtain ⟨r', ey⟩ : ∃ r, y = .tuple (dR q :: dR t :: r) := by rcases hy with rfl | ⟨w, rfl⟩ <;> exact ⟨_, rfl⟩
  rw [ex] at hx ⊢
  rw [ey] at hy ⊢
  show WS K W (t_is_within K W) [some (.d (.tuple (dR p :: dR s :: r))), some (.d (.tuple (dR q :: dR t :: r')))] Ω _
  unfold t_is_within
  walk_at "hl"
  rw [cut2, cut2]
  refine wr_eq rfl rfl rfl rfl ?_
  rw [eqv_two]
  unfold withinS at k
  walk_at "hl"
  refine ⟨fun h => ?_, fun h => ?_⟩
  · rw [h] at k
    exact dr_same k
  · rw [h, Bool.false_or] at k
    walk_at "hl"
    exact ⟨_, _, p, s, q, t, rfl, hx, hy, hz, dr_same k⟩
theorem sp_len_is_within {K : KF} (ds : List DV) (Ω : Om) (R : DV → Om → Prop) (X : Exc → Om → Prop) (h : sp_is_within K ds Ω R X) : ds.length = 2 := by
  unfold sp_is_within at h
  first
    | (obtain ⟨rfl, _⟩ := h; rfl)
    | (obtain ⟨_, rfl, _⟩ := h; rfl)
    | (obtain ⟨_, _, rfl, _⟩ := h; rfl)
    | (obtain ⟨_, _, _, rfl, _⟩ := h; rfl)
    | (obtain ⟨_, _, _, _, rfl, _⟩ := h; rfl)
    | (obtain ⟨_, _, _, _, _, rfl, _⟩ := h; rfl)
    | (obtain ⟨_, _, _, _, _, _, rfl, _⟩ := h; rfl)
    | (obtain ⟨_, _, _, _, _, _, _, rfl, _⟩ := h; rfl)
    | (obtain ⟨_, _, _, _, _, _, _, _, rfl, _⟩ := h; rfl)
    | (obtain ⟨_, _, _, _, _, _, _, _, _, rfl, _⟩ := h; rfl)
    | (obtain ⟨_, _, _, _, _, _, _, _, _, _, rfl, _⟩ := h; rfl)
    | (obtain ⟨_, _, _, _, _, _, _, _, _, _, _, rfl, _⟩ := h; rfl)
    | (obtain ⟨_, _, _, _, _, _, _, _, _, _, _, _, rfl, _⟩ := h; rfl)
    | (obtain ⟨_, _, _, _, _, _, _, _, _, _, _, _, _, rfl, _⟩ := h; rfl)
    | (obtain ⟨_, _, _, _, _, _, _, _, _, _, _, _, _, rfl, _⟩ := h; rfl)
    | (obtain ⟨_, _, _, _, _, _, _, _, _, _, _, _, _, _, rfl, _⟩ := h; rfl)
    | (obtain ⟨_, _, _, _, _, _, _, _, _, _, _, _, _, _, _, rfl, _⟩ := h; rfl)
    | (obtain ⟨_, _, _, _, _, _, _, _, _, _, _, _, _, _, _, _, rfl, _⟩ := h; rfl)
    | (obtain ⟨_, _, _, _, _, _, _, _, _, _, _, _, _, _, _, _, _, rfl, _⟩ := h; rfl)
    | (obtain ⟨_, _, _, _, _, _, _, _, _, _, _, _, _, _, _, _, _, _, rfl, _⟩ := h; rfl)
    | (obtain ⟨_, _, _, _, _, _, _, _, _, _, _, _, _, _, _, _, _, _, _, rfl, _⟩ := h; rfl)
    | (obtain ⟨_, _, _, _, _, _, _, _, _, _, _, _, _, _, _, _, _, _, _, _, rfl, _⟩ := h; rfl)
    | (obtain ⟨_, _, _, _, _, _, _, _, _, _, _, _, _, _, _, _, _, _, _, _, _, rfl, _⟩ := h; rfl)
def sp_is_row (K : KF) : Spec := fun ds Ω R X => ∃ (a b : Wl) (x : PyData) (n : Nat), ds = [.d (dWs a b), .d x] ∧ WSz 4000 a ∧ WSz 4000 b ∧ Fit (n + 3) x ∧ R (.d (.bool (isRow a b x))) Ω
def t_is_row (K : KF) (W : WX) : TS :=
  (tSeq (tIfS (tOr (tNot (tB (tCB (rIsi K) (tCons (tVar 1) (tCons (tC (.ty "tuple")) tNil))))) (tNot (tTest (tChain oLe oLe (tC (.int 1)) (tCB (rLenQ K) (tCons (tVar 1) tNil)) (tC (.int (8))))))) (tRet (tC (.bl false))) tNext)
    (tSeq (tIfS (tNot (tB (tCB (rAll K) (tCons (tLc (iSeq K (tVar 1)) (gName 2) tYes (tCall (FS K (sp_is_ball K)) [] E0 (tCons (tVar 2) tNil)) [2]) tNil)))) (tRet (tC (.bl false))) tNext)
    (tSeq (tIfS (tNot (tB (tCB (rAll K) (tCons (tLc (iZipA K (tCons (tVar 1) (tCons (tSl (rSlS K) (tVar 1) (tPart (tC (.int 1))) tNoPart) tNil))) (gTup K 2 (gCons (gName 3) (gCons (gName 4) gNil))) tYes (tCall (FS K (sp_may_stand K)) [] E0 (tCons (tVar 3) (tCons (tVar 4) tNil))) [3, 4]) tNil)))) (tRet (tC (.bl false))) tNext)
    (tSeq (tIfS (tAnd (tTest (tOp oNotN (tOp (rIx K) (tVar 0) (tC (.int (0)))) (tC .non))) (tNot (tB (tCall (FS K (sp_is_within K)) [] E0 (tCons (tOp (rIx K) (tVar 0) (tC (.int (0)))) (tCons (tOp (rIx K) (tVar 1) (tC (.int 0))) tNil)))))) (tRet (tC (.bl false))) tNext)
    (tRet (tOrV (tOp oIsN (tOp (rIx K) (tVar 0) (tC (.int (1)))) (tC .non)) (tCall (FS K (sp_is_within K)) [] E0 (tCons (tOp (rIx K) (tVar 1) (tUn uNeg (tC (.int 1)))) (tCons (tOp (rIx K) (tVar 0) (tC (.int (1)))) tNil)))))))))
theorem w_is_row {K : KF} (W : WX) (ds : List DV) (Ω : Om) (R : DV → Om → Prop) (X : Exc → Om → Prop) (h : sp_is_row K ds Ω R X) : WS K W (t_is_row K W) (startG 5 ds) Ω (fnO Ω R X) := by
  obtain ⟨a, b, x, n, rfl, za, zb, hf, q⟩ := h
  show WS K W (t_is_row K W) [some (.d (dWs a b)), some (.d x), none, none, none] Ω _
  unfold t_is_row
  have kx : known x = true := fit_known hf
  have no : isRow a b x = false → ∀ {O : Outs} (_ : O.rt = (fnO Ω R X).rt := by rfl), WS K W (tRet (tC (.bl false))) [some (.d (dWs a b)), some (.d x), none, none, none] Ω O := fun e O eo => by
    rw [e] at q
    walk_at "hl"
    rw [eo]
    exact dr_same q
  walk_at "hl"
  cases hx : isTuple x with
  | false => exact bT rfl (bT rfl (no (by cases x <;> first | rfl | cases hx)))
  | true =>
    obtain ⟨xs, rfl⟩ := isTuple_eq hx
    refine bF rfl ?_
    walk_at "hl"
    rw [List.length_map]
    have er : isRow a b (.tuple xs) = ((decide (1 ≤ xs.length) && decide (xs.length ≤ 8)) && (xs.all isBall && (Nb mayB (xs.map ballOf) && (lowOk a (xs.map ballOf) && highOk b (xs.map ballOf))))) := rfl
    refine ⟨fun h1 => ?ya, fun h1 => ?na⟩
    case na =>
      walk_at "hl"
      refine bT rfl (no ?_)
      have h1 := of_decide_eq_false h1
      rw [er, decide_eq_false (show ¬ 1 ≤ xs.length by omega)]; rfl
    walk_at "hl"
    refine ⟨fun h2 => no ?_, fun h2 => ?_⟩
    · have h3 : decide (xs.length ≤ 8) = false := decide_eq_false fun e => by
        have : decide ((xs.length : Int) ≤ 8) = true := decide_eq_true (by omega)
        rw [this] at h2
        cases h2
      rw [er, h3, Bool.and_false, Bool.false_and]
    have h1 := of_decide_eq_true h1
    have h2 : xs.length ≤ 8 := by
      have : decide ((xs.length : Int) ≤ 8) = true := by revert h2; cases decide ((xs.length : Int) ≤ 8) <;> simp
      have := of_decide_eq_true this
      omega
    rw [decide_eq_true (show 1 ≤ xs.length by omega), decide_eq_true h2, Bool.and_self, Bool.true_and] at er
    walk_at "hl"
    refine we_lcP (α := PyData) only1 (wi_T id xs ?_)
    walk_at "hl"
    refine ⟨by rw [List.map_id], xs, _, fun _ => true, fun y => .bool (isBall y), rfl, by omega, rfl, fun _ => trivial, ?_, ?_⟩
    · rintro y Ω' hy -
      walk_at "hl"
      refine ⟨rfl, rfl, fun _ => ?_⟩
      walk_at "hl"
      exact ⟨_, n, rfl, fit_mem hf hy, rfl, rfl⟩
    rw [filter_yes]
    walk_at "hl"
    refine wc_all (bs := xs.map isBall) (by rw [List.map_map]; rfl) ?_
    have ea : (xs.map isBall).all id = xs.all isBall := by rw [List.all_map]; rfl
    rw [ea]
    walk_at "hl"
    cases hb : xs.all isBall with
    | false => exact bT rfl (no (by rw [er, hb]; rfl))
    | true =>
      refine bF rfl ?_
      obtain ⟨el, hw⟩ := balls_eq hb
      obtain ⟨l, hl⟩ : ∃ l, l = xs.map ballOf := ⟨_, rfl⟩
      rw [← hl] at el hw er
      rw [hb, Bool.true_and] at er
      clear hl
      subst el
      rw [List.length_map] at h1 h2
      have hz : ∀ b ∈ l, Sz 4000 b.p ∧ Sz 4000 b.s := fun b hb => fit_dB' (n := n) (fit_mem hf (List.mem_map.mpr ⟨b, hb, rfl⟩))
      walk_at "hl"
      refine we_lcP (α := Bl × Bl) only2 (wi_zipT ?_)
      walk_at "hl"
      rw [cut_tail, ← List.map_tail]
      refine ⟨_, _, rfl, l.zip l.tail, fun p => .d (.tuple [dB p.1, dB p.2]), fun _ => true, fun p => .bool (mayB p.1 p.2), zipD_map .., ?_, rfl, fun _ => trivial, ?_, ?_⟩
      · rw [List.length_zip]
        omega
      · rintro ⟨c, d⟩ Ω' hy -
        have hc := hz c (List.of_mem_zip hy).1
        have hd := hz d (List.mem_of_mem_tail (List.of_mem_zip hy).2)
        walk_at "hl"
        refine ⟨rfl, rfl, fun _ => ?_⟩
        walk_at "hl"
        exact ⟨_, _, _, _, _, _, rfl, .inr ⟨_, rfl⟩, .inr ⟨_, rfl⟩, ⟨4000, hc.1, hc.2, hd.1, hd.2, by decide⟩, rfl, rfl⟩
      rw [filter_yes]
      walk_at "hl"
      refine wc_all (bs := (l.zip l.tail).map fun p => mayB p.1 p.2) (by rw [List.map_map]; rfl) ?_
      rw [nb_zip]
      walk_at "hl"
      cases hn : Nb mayB l with
      | false => exact bT rfl (no (by rw [er, hn]; rfl))
      | true =>
        refine bF rfl ?_
        rw [hn, Bool.true_and] at er
        obtain ⟨c, r, ec⟩ : ∃ c r, l = c :: r := by
          cases l with
          | nil => simp at h1
          | cons c r => exact ⟨c, r, rfl⟩
        obtain ⟨z, hzl⟩ : ∃ z, l.getLast? = some z := by rw [ec]; exact ⟨_, List.getLast?_eq_getLast (by simp)⟩
        have hc := hz c (by rw [ec]; exact List.mem_cons_self ..)
        have hzz := hz z (List.mem_of_getLast? hzl)
        have fin : lowOk a l = true → ∀ g2 g3 g4, WS K W (tRet (tOrV (tOp oIsN (tOp (rIx K) (tVar 0) (tC (.int (1)))) (tC .non)) (tCall (FS K (sp_is_within K)) [] E0 (tCons (tOp (rIx K) (tVar 1) (tUn uNeg (tC (.int 1)))) (tCons (tOp (rIx K) (tVar 0) (tC (.int (1)))) tNil)))))
            [some (.d (dWs a b)), some (.d (.tuple (l.map dB))), g2, g3, g4] Ω (fnO Ω R X) := fun hlo g2 g3 g4 => by
          rw [hlo, Bool.true_and] at er
          rw [er] at q
          walk_at "hl"
          cases b with
          | none => exact bT rfl (dr_same q)
          | some b =>
            refine bF rfl ?_
            walk_at "hl"
            refine wr_ixRow (at_last hzl) ?_
            walk_at "hl"
            have e : highOk (some b) l = withinS z.p z.s b.1 b.2 := by show (match l.getLast? with | some c => _ | none => _) = _; rw [hzl]
            rw [e] at q
            exact ⟨_, _, _, _, _, _, rfl, .inr ⟨_, rfl⟩, .inl rfl, ⟨4000, hzz.1, hzz.2, zb.1, zb.2, by decide⟩, dr_same q⟩
        generalize hT : (tRet (tOrV (tOp oIsN (tOp (rIx K) (tVar 0) (tC (.int (1)))) (tC .non)) (tCall (FS K (sp_is_within K)) [] E0 (tCons (tOp (rIx K) (tVar 1) (tUn uNeg (tC (.int 1)))) (tCons (tOp (rIx K) (tVar 0) (tC (.int (1)))) tNil))))) = tail at *
        walk_at "hl"
        cases a with
        | none => exact bF rfl (bF rfl (ws_next (fin rfl _ _ _)))
        | some a =>
          refine bT rfl ?_
          walk_at "hl"
          refine wr_ixRow (b := c) (by rw [ec]; exact atI_nat (j := 0) rfl) ?_
          walk_at "hl"
          have e : lowOk (some a) l = withinS a.1 a.2 c.p c.s := by rw [ec]; rfl
          refine ⟨_, _, _, _, _, _, rfl, .inl rfl, .inr ⟨_, rfl⟩, ⟨4000, za.1, za.2, hc.1, hc.2, by decide⟩, ?_⟩
          walk_at "hl"
          cases hlo : withinS a.1 a.2 c.p c.s with
          | false => exact bT rfl (no (by rw [er, e, hlo]; rfl))
          | true => exact bF rfl (ws_next (fin (by rw [e, hlo]) _ _ _))
theorem sp_len_is_row {K : KF} (ds : List DV) (Ω : Om) (R : DV → Om → Prop) (X : Exc → Om → Prop) (h : sp_is_row K ds Ω R X) : ds.length = 2 := by
  unfold sp_is_row at h
  first
    | (obtain ⟨rfl, _⟩ := h; rfl)
    | (obtain ⟨_, rfl, _⟩ := h; rfl)
    | (obtain ⟨_, _, rfl, _⟩ := h; rfl)
    | (obtain ⟨_, _, _, rfl, _⟩ := h; rfl)
    | (obtain ⟨_, _, _, _, rfl, _⟩ := h; rfl)
    | (obtain ⟨_, _, _, _, _, rfl, _⟩ := h; rfl)
    | (obtain ⟨_, _, _, _, _, _, rfl, _⟩ := h; rfl)
    | (obtain ⟨_, _, _, _, _, _, _, rfl, _⟩ := h; rfl)
    | (obtain ⟨_, _, _, _, _, _, _, _, rfl, _⟩ := h; rfl)
    | (obtain ⟨_, _, _, _, _, _, _, _, _, rfl, _⟩ := h; rfl)
    | (obtain ⟨_, _, _, _, _, _, _, _, _, _, rfl, _⟩ := h; rfl)
    | (obtain ⟨_, _, _, _, _, _, _, _, _, _, _, rfl, _⟩ := h; rfl)
    | (obtain ⟨_, _, _, _, _, _, _, _, _, _, _, _, rfl, _⟩ := h; rfl)
    | (obtain ⟨_, _, _, _, _, _, _, _, _, _, _, _, _, rfl, _⟩ := h; rfl)
    | (obtain ⟨_, _, _, _, _, _, _, _, _, _, _, _, _, rfl, _⟩ := h; rfl)
    | (obtain ⟨_, _, _, _, _, _, _, _, _, _, _, _, _, _, rfl, _⟩ := h; rfl)
    | (obtain ⟨_, _, _, _, _, _, _, _, _, _, _, _, _, _, _, rfl, _⟩ := h; rfl)
    | (obtain ⟨_, _, _, _, _, _, _, _, _, _, _, _, _, _, _, _, rfl, _⟩ := h; rfl)
    | (obtain ⟨_, _, _, _, _, _, _, _, _, _, _, _, _, _, _, _, _, rfl, _⟩ := h; rfl)
    | (obtain ⟨_, _, _, _, _, _, _, _, _, _, _, _, _, _, _, _, _, _, rfl, _⟩ := h; rfl)
    | (obtain ⟨_, _, _, _, _, _, _, _, _, _, _, _, _, _, _, _, _, _, _, rfl, _⟩ := h; rfl)
    | (obtain ⟨_, _, _, _, _, _, _, _, _, _, _, _, _, _, _, _, _, _, _, _, rfl, _⟩ := h; rfl)
    | (obtain ⟨_, _, _, _, _, _, _, _, _, _, _, _, _, _, _, _, _, _, _, _, _, rfl, _⟩ := h; rfl)
--USE HMd
--USE HLp
--USE HMf
def sp_read_row (K : KF) : Spec := fun ds Ω R X => ∃ x : PyData, ds = [.d x] ∧ ((∃ l : List Nat, x = tS l ∧ l.length ≤ 5000 ∧ okT l = true ∧ ((∃ bs : List Bl, rowT l = some bs ∧ R (.d (dRow bs)) Ω) ∨ (rowT l = none ∧ X (.own (He.ga K "NoText")) Ω))) ∨ (known x = true ∧ isTxt x = false ∧ X (.own (He.ga K "NoText")) Ω))
def t_read_row (K : KF) (W : WX) : TS :=
  (tSeq (tDrop (tCallS (FS K (sp_look_at_text K)) (L2.WE W) (tCons (tVar 0) tNil)))
    (tSeq (tAsg (tCB (rTupQ K) (tCons (tLcE W (iSeq K (tBM K "str" rSplit (tVar 0) (tCons (tC (.str "; ")) tNil))) (gName 2) tYes (fun W2 => (tCallS (FS K (sp_ball_in K)) (L2.WE W2) (tCons (tVar 2) tNil))) [2]) tNil)) (gName 1))
    (tSeqI (tIfS (tNot (tB (tCall (FS K (sp_is_row K)) [] E0 (tCons (tC (.ref (He.ga K "NO_WALLS"))) (tCons (tVar 1) tNil))))) (tRaise K "NoText" W) tNext)
    (tRet (tVar 1)))))
theorem w_read_row {K : KF} (q0 : He.tupB K "NO_WALLS" [.non, .non] = true) (W : WX) (ds : List DV) (Ω : Om) (R : DV → Om → Prop) (X : Exc → Om → Prop) (h : sp_read_row K ds Ω R X) : WS K W (t_read_row K W) (startG 3 ds) Ω (fnO Ω R X) := by
  obtain ⟨x, rfl, h⟩ := h
  show WS K W (t_read_row K W) [some (.d x), none, none] Ω _
  unfold t_read_row
  rcases h with ⟨l, rfl, hl, ho, q⟩ | ⟨kx, nx, q⟩
  rotate_left
  · walk_at "hl"
    refine ⟨x, rfl, kx, ?_⟩
    rw [if_neg (by rw [nx]; decide)]
    exact .inl q
  walk_at "hl"
  refine ⟨tS l, rfl, rfl, ?_⟩
  rw [if_pos (show isTxt (tS l) = true from rfl)]
  walk_at "hl"
  have hS : ([59, 32] : List Nat) ≠ [] := by decide
  have sub : ∀ x ∈ parts [59, 32] l, x.length ≤ 5000 ∧ okT x = true := fun x hx => ⟨Nat.le_trans (parts_sub hS hx).1 hl, parts_ok hS hx ho⟩
  have ln : (parts [59, 32] l).length ≤ 5001 := by have := parts_len hS (l := l); omega
  refine we_lcPE (α := List Nat) only1 (wi_L tS (parts [59, 32] l) ?_)
  walk_at "hl"
  refine ⟨rfl, parts [59, 32] l, fun a => .d (tS a), fun i acc => ∃ bs, ballsT ((parts [59, 32] l).take i) = some bs ∧ acc = bs.map dB, rfl, by omega, rfl, fun _ => trivial, ⟨[], rfl, rfl⟩, ?_, ?_⟩
  · rintro i a acc hi hl2 ⟨bs, hbs, rfl⟩
    have hm := List.mem_of_getElem? hi
    obtain ⟨la, oa⟩ := sub a hm
    walk_at "hl"
    refine ⟨rfl, fun W2 => ?_⟩
    walk_at "hl"
    refine ⟨a, rfl, la, oa, ?_⟩
    cases hb : ballT a with
    | none =>
      refine .inr ⟨rfl, ?_⟩
      have q : X (.own (He.ga K "NoText")) Ω := by
        rw [rowT_none hb hm] at q
        rcases q with ⟨x, e, -⟩ | ⟨-, q⟩
        · cases e
        · exact q
      exact drx_appP q
    | some b =>
      refine .inl ⟨b, rfl, ?_⟩
      refine ⟨_, rfl, rfl, bs ++ [b], ?_, by simp⟩
      rw [List.take_add_one, hi]
      show ballsT ((parts [59, 32] l).take i ++ [a]) = _
      rw [ballsT_snoc, hbs, hb]
      rfl
  rintro acc hacc ⟨bs, hbs, rfl⟩
  rw [List.take_length] at hbs
  have key : rowT l = if isRow none none (dRow bs) = true then some bs else none := by unfold rowT; rw [hbs]; rfl
  rw [key] at q
  have zb := ballsT_sz hbs
  walk_at "hl"
  refine wc_tup' (xs := bs.map dB) rfl ?_
  walk_at "hl"
  refine ws_go ?_
  refine ws_seq (ws_if (wt_not (wt_B (we_call (wa_cons (we_g (y := dWs none none) (tup_dp q0 fun G => .cons .non (.cons .non .nil)) ?_))))))
  walk_at "hl"
  refine ⟨none, none, dRow bs, 0, rfl, trivial, trivial, fit_tup (n := 2) fun x hx => ?_, ?_⟩
  · obtain ⟨b, hb, rfl⟩ := List.mem_map.mp hx
    obtain ⟨z1, z2, z3⟩ := zb b hb
    exact fit_dB (z1.mono (by decide)) (z2.mono (by decide)) (nat_pow_lt z3 (by decide))
  cases hr : isRow none none (dRow bs) with
  | true =>
    rw [hr, if_pos rfl] at q
    have q : R (.d (dRow bs)) Ω := by
      rcases q with ⟨x, e, q⟩ | ⟨e, -⟩
      · cases e; exact q
      · cases e
    refine ⟨_, rfl, fun h => (by cases h), fun _ => ?_⟩
    walk_at "hl"
    exact dr_same q
  | false =>
    rw [hr, if_neg (by decide)] at q
    have q : X (.own (He.ga K "NoText")) Ω := by
      rcases q with ⟨x, e, -⟩ | ⟨-, q⟩
      · cases e
      · exact q
    refine ⟨_, rfl, fun _ => ?_, fun h => (by cases h)⟩
    walk_at "hl"
    exact .inl q
theorem sp_len_read_row {K : KF} (ds : List DV) (Ω : Om) (R : DV → Om → Prop) (X : Exc → Om → Prop) (h : sp_read_row K ds Ω R X) : ds.length = 1 := by
  unfold sp_read_row at h
  first
    | (obtain ⟨rfl, _⟩ := h; rfl)
    | (obtain ⟨_, rfl, _⟩ := h; rfl)
    | (obtain ⟨_, _, rfl, _⟩ := h; rfl)
    | (obtain ⟨_, _, _, rfl, _⟩ := h; rfl)
    | (obtain ⟨_, _, _, _, rfl, _⟩ := h; rfl)
    | (obtain ⟨_, _, _, _, _, rfl, _⟩ := h; rfl)
    | (obtain ⟨_, _, _, _, _, _, rfl, _⟩ := h; rfl)
    | (obtain ⟨_, _, _, _, _, _, _, rfl, _⟩ := h; rfl)
    | (obtain ⟨_, _, _, _, _, _, _, _, rfl, _⟩ := h; rfl)
    | (obtain ⟨_, _, _, _, _, _, _, _, _, rfl, _⟩ := h; rfl)
    | (obtain ⟨_, _, _, _, _, _, _, _, _, _, rfl, _⟩ := h; rfl)
    | (obtain ⟨_, _, _, _, _, _, _, _, _, _, _, rfl, _⟩ := h; rfl)
    | (obtain ⟨_, _, _, _, _, _, _, _, _, _, _, _, rfl, _⟩ := h; rfl)
    | (obtain ⟨_, _, _, _, _, _, _, _, _, _, _, _, _, rfl, _⟩ := h; rfl)
    | (obtain ⟨_, _, _, _, _, _, _, _, _, _, _, _, _, rfl, _⟩ := h; rfl)
    | (obtain ⟨_, _, _, _, _, _, _, _, _, _, _, _, _, _, rfl, _⟩ := h; rfl)
    | (obtain ⟨_, _, _, _, _, _, _, _, _, _, _, _, _, _, _, rfl, _⟩ := h; rfl)
    | (obtain ⟨_, _, _, _, _, _, _, _, _, _, _, _, _, _, _, _, rfl, _⟩ := h; rfl)
    | (obtain ⟨_, _, _, _, _, _, _, _, _, _, _, _, _, _, _, _, _, rfl, _⟩ := h; rfl)
    | (obtain ⟨_, _, _, _, _, _, _, _, _, _, _, _, _, _, _, _, _, _, rfl, _⟩ := h; rfl)
    | (obtain ⟨_, _, _, _, _, _, _, _, _, _, _, _, _, _, _, _, _, _, _, rfl, _⟩ := h; rfl)
    | (obtain ⟨_, _, _, _, _, _, _, _, _, _, _, _, _, _, _, _, _, _, _, _, rfl, _⟩ := h; rfl)
    | (obtain ⟨_, _, _, _, _, _, _, _, _, _, _, _, _, _, _, _, _, _, _, _, _, rfl, _⟩ := h; rfl)
--USE HLp
def NoT {α : Type} (f : List Nat → Option α) (x : PyData) : Prop := (∃ l, x = tS l ∧ l.length ≤ 5000 ∧ okT l = true ∧ f l = none) ∨ (known x = true ∧ isTxt x = false)
def sp_law_refused (K : KF) : Spec := fun ds Ω R X => ∃ x : PyData, ds = [.d x] ∧ NoT rowT x ∧ R (.d (.bool true)) Ω
def t_law_refused (K : KF) (W : WX) : TS :=
  (tSeq (tAsg (tLst tNil) (gName 1))
    (tSeq (tTryOnly K (fun W' => (tDrop (tCallS (FS K (sp_read_row K)) (L2.WE W') (tCons (tVar 0) tNil)))) (fun a cls dd => (tDrop (tBM K "list" rAppend (tVar 1) (tCons (tC (.bl true)) tNil)))) (.ref (He.ga K "NoText")) W)
    (tRet (tOp (rEqD K) (tVar 1) (tLst (tCons (tC (.bl true)) tNil))))))
theorem noT_row {K : KF} {x : PyData} {Ω : Om} {R : DV → Om → Prop} {X : Exc → Om → Prop} (h : NoT rowT x) (q : X (.own (He.ga K "NoText")) Ω) : sp_read_row K [.d x] Ω R X := by
  rcases h with ⟨l, e, hl, ho, hn⟩ | ⟨kx, nx⟩
  · exact ⟨x, rfl, .inl ⟨l, e, hl, ho, .inr ⟨hn, q⟩⟩⟩
  · exact ⟨x, rfl, .inr ⟨kx, nx, q⟩⟩
theorem w_law_refused {K : KF} (em : EM K "NoText" "NoText" true) (W : WX) (ds : List DV) (Ω : Om) (R : DV → Om → Prop) (X : Exc → Om → Prop) (h : sp_law_refused K ds Ω R X) : WS K W (t_law_refused K W) (startG 2 ds) Ω (fnO Ω R X) := by
  obtain ⟨x, rfl, hx, q⟩ := h
  show WS K W (t_law_refused K W) [some (.d x), none] Ω _
  unfold t_law_refused
  walk_at "hl"
  refine ws_tryO fun W' => ?_
  walk_at "hl"
  refine noT_row hx ⟨true, em, fun _ a cls dd ec2 => ?_, fun e => (by cases e)⟩
  subst ec2
  walk_at "hl"
  refine ⟨⟨_, sq_last _ _, rfl⟩, ?_⟩
  walk_at "hl"
  refine wm_appL (by decide) ?_
  walk_at "hl"
  refine wr_eq (a := .list [.bool true]) (b := .list [.bool true]) (by show vwO ((Ω ++ [OC.lst [DV.d (PyData.bool true)]])[Ω.length]?) = _; rw [get_last]; rfl) rfl rfl rfl ?_
  exact dr_app q (fun i h => by cases h)
theorem sp_len_law_refused {K : KF} (ds : List DV) (Ω : Om) (R : DV → Om → Prop) (X : Exc → Om → Prop) (h : sp_law_refused K ds Ω R X) : ds.length = 1 := by
  unfold sp_law_refused at h
  first
    | (obtain ⟨rfl, _⟩ := h; rfl)
    | (obtain ⟨_, rfl, _⟩ := h; rfl)
    | (obtain ⟨_, _, rfl, _⟩ := h; rfl)
    | (obtain ⟨_, _, _, rfl, _⟩ := h; rfl)
    | (obtain ⟨_, _, _, _, rfl, _⟩ := h; rfl)
    | (obtain ⟨_, _, _, _, _, rfl, _⟩ := h; rfl)
    | (obtain ⟨_, _, _, _, _, _, rfl, _⟩ := h; rfl)
    | (obtain ⟨_, _, _, _, _, _, _, rfl, _⟩ := h; rfl)
    | (obtain ⟨_, _, _, _, _, _, _, _, rfl, _⟩ := h; rfl)
    | (obtain ⟨_, _, _, _, _, _, _, _, _, rfl, _⟩ := h; rfl)
    | (obtain ⟨_, _, _, _, _, _, _, _, _, _, rfl, _⟩ := h; rfl)
    | (obtain ⟨_, _, _, _, _, _, _, _, _, _, _, rfl, _⟩ := h; rfl)
    | (obtain ⟨_, _, _, _, _, _, _, _, _, _, _, _, rfl, _⟩ := h; rfl)
    | (obtain ⟨_, _, _, _, _, _, _, _, _, _, _, _, _, rfl, _⟩ := h; rfl)
    | (obtain ⟨_, _, _, _, _, _, _, _, _, _, _, _, _, rfl, _⟩ := h; rfl)
    | (obtain ⟨_, _, _, _, _, _, _, _, _, _, _, _, _, _, rfl, _⟩ := h; rfl)
    | (obtain ⟨_, _, _, _, _, _, _, _, _, _, _, _, _, _, _, rfl, _⟩ := h; rfl)
    | (obtain ⟨_, _, _, _, _, _, _, _, _, _, _, _, _, _, _, _, rfl, _⟩ := h; rfl)
    | (obtain ⟨_, _, _, _, _, _, _, _, _, _, _, _, _, _, _, _, _, rfl, _⟩ := h; rfl)
    | (obtain ⟨_, _, _, _, _, _, _, _, _, _, _, _, _, _, _, _, _, _, rfl, _⟩ := h; rfl)
    | (obtain ⟨_, _, _, _, _, _, _, _, _, _, _, _, _, _, _, _, _, _, _, rfl, _⟩ := h; rfl)
    | (obtain ⟨_, _, _, _, _, _, _, _, _, _, _, _, _, _, _, _, _, _, _, _, rfl, _⟩ := h; rfl)
    | (obtain ⟨_, _, _, _, _, _, _, _, _, _, _, _, _, _, _, _, _, _, _, _, _, rfl, _⟩ := h; rfl)
/-- a small ratio -/
def sp_law_small (K : KF) : Spec := fun ds Ω R X => ∃ (k : Nat) (p : OC), ds = [.o k] ∧ Ω[k]? = some p ∧ IsPool p ∧ ∀ (x : Rat) (p' : OC), Sz 4 x → IsPool p' → R (.d (dR x)) (Ω.set k p')
def t_law_small (K : KF) (W : WX) : TS :=
  (tRet (tCall (FS K (sp_law_low K)) [] E0 (tCons (tOp oSub (tCall (FS K (sp_law_next K)) [] E0 (tCons (tVar 0) (tCons (tC (.int 25)) tNil))) (tC (.int 12))) (tCons (tOp (rIx K) (tLst (tCons (tC (.int 1)) (tCons (tC (.int 1)) (tCons (tC (.int 1)) (tCons (tC (.int 2)) (tCons (tC (.int 3)) (tCons (tC (.int 4)) (tCons (tC (.int 6)) (tCons (tC (.int 12)) tNil))))))))) (tCall (FS K (sp_law_next K)) [] E0 (tCons (tVar 0) (tCons (tC (.int 8)) tNil)))) tNil))))
theorem w_law_small {K : KF} (W : WX) (ds : List DV) (Ω : Om) (R : DV → Om → Prop) (X : Exc → Om → Prop) (h : sp_law_small K ds Ω R X) : WS K W (t_law_small K W) (startG 1 ds) Ω (fnO Ω R X) := by
  obtain ⟨k, p, rfl, hp, ip, q⟩ := h
  have hk := lt_of_get hp
  show WS K W (t_law_small K W) [some (.o k)] Ω _
  unfold t_law_small
  walk_at "hl"
  refine ⟨k, p, 25, rfl, hp, ip, by decide, by decide, fun a p1 a0 a1 ip => ?_⟩
  walk_at "hl"
  refine dn0 hk ip (by decide) (by decide) fun r p1 r0 r1 ip => ?_
  refine wr_ix_ints (ns := [1, 1, 1, 2, 3, 4, 6, 12]) rfl r0 (by simpa using r1) fun b hb => ?_
  have hb : 1 ≤ b ∧ b ≤ 12 := by simp at hb; omega
  walk_at "hl"
  refine ⟨a - 12, b, rfl, by omega, ⟨4, by omega, by decide⟩, ?_⟩
  exact dr_same (q _ p1 (sz_of_divInt (by omega) (by omega) (by omega)) ip)
theorem dsm {K : KF} {Ω J : Om} {k : Nat} {p : OC} {R : DV → Om → Prop} {X : Exc → Om → Prop} (hk : k < Ω.length) (ip : IsPool p) (q : ∀ (x : Rat) (p' : OC), Sz 4 x → IsPool p' → R (.d (dR x)) (Ω.set k p' ++ J)) :
    sp_law_small K [.o k] (Ω.set k p ++ J) R X := ⟨k, p, rfl, get_app (get_set hk), ip, fun x p' hx ip' => by rw [set_app hk]; exact q x p' hx ip'⟩
theorem sp_len_law_small {K : KF} (ds : List DV) (Ω : Om) (R : DV → Om → Prop) (X : Exc → Om → Prop) (h : sp_law_small K ds Ω R X) : ds.length = 1 := by
  unfold sp_law_small at h
  first
    | (obtain ⟨rfl, _⟩ := h; rfl)
    | (obtain ⟨_, rfl, _⟩ := h; rfl)
    | (obtain ⟨_, _, rfl, _⟩ := h; rfl)
    | (obtain ⟨_, _, _, rfl, _⟩ := h; rfl)
    | (obtain ⟨_, _, _, _, rfl, _⟩ := h; rfl)
    | (obtain ⟨_, _, _, _, _, rfl, _⟩ := h; rfl)
    | (obtain ⟨_, _, _, _, _, _, rfl, _⟩ := h; rfl)
    | (obtain ⟨_, _, _, _, _, _, _, rfl, _⟩ := h; rfl)
    | (obtain ⟨_, _, _, _, _, _, _, _, rfl, _⟩ := h; rfl)
    | (obtain ⟨_, _, _, _, _, _, _, _, _, rfl, _⟩ := h; rfl)
    | (obtain ⟨_, _, _, _, _, _, _, _, _, _, rfl, _⟩ := h; rfl)
    | (obtain ⟨_, _, _, _, _, _, _, _, _, _, _, rfl, _⟩ := h; rfl)
    | (obtain ⟨_, _, _, _, _, _, _, _, _, _, _, _, rfl, _⟩ := h; rfl)
    | (obtain ⟨_, _, _, _, _, _, _, _, _, _, _, _, _, rfl, _⟩ := h; rfl)
    | (obtain ⟨_, _, _, _, _, _, _, _, _, _, _, _, _, rfl, _⟩ := h; rfl)
    | (obtain ⟨_, _, _, _, _, _, _, _, _, _, _, _, _, _, rfl, _⟩ := h; rfl)
    | (obtain ⟨_, _, _, _, _, _, _, _, _, _, _, _, _, _, _, rfl, _⟩ := h; rfl)
    | (obtain ⟨_, _, _, _, _, _, _, _, _, _, _, _, _, _, _, _, rfl, _⟩ := h; rfl)
    | (obtain ⟨_, _, _, _, _, _, _, _, _, _, _, _, _, _, _, _, _, rfl, _⟩ := h; rfl)
    | (obtain ⟨_, _, _, _, _, _, _, _, _, _, _, _, _, _, _, _, _, _, rfl, _⟩ := h; rfl)
    | (obtain ⟨_, _, _, _, _, _, _, _, _, _, _, _, _, _, _, _, _, _, _, rfl, _⟩ := h; rfl)
    | (obtain ⟨_, _, _, _, _, _, _, _, _, _, _, _, _, _, _, _, _, _, _, _, rfl, _⟩ := h; rfl)
    | (obtain ⟨_, _, _, _, _, _, _, _, _, _, _, _, _, _, _, _, _, _, _, _, _, rfl, _⟩ := h; rfl)
def sp_law_sum (K : KF) : Spec := fun ds Ω R X => ∃ p q : Rat, ds = [.d (dR p), .d (dR q)] ∧ Sz2 p q ∧ R (.d (dR (p + q))) Ω
def t_law_sum (K : KF) (W : WX) : TS :=
  (tRet (tCall (FS K (sp_law_low K)) [] E0 (tCons (tOp (rAddX K) (tOp oMul (tOp (rIx K) (tVar 0) (tC (.int 0))) (tOp (rIx K) (tVar 1) (tC (.int 1)))) (tOp oMul (tOp (rIx K) (tVar 1) (tC (.int 0))) (tOp (rIx K) (tVar 0) (tC (.int 1))))) (tCons (tOp oMul (tOp (rIx K) (tVar 0) (tC (.int 1))) (tOp (rIx K) (tVar 1) (tC (.int 1)))) tNil))))
theorem w_law_sum {K : KF} (W : WX) (ds : List DV) (Ω : Om) (R : DV → Om → Prop) (X : Exc → Om → Prop) (h : sp_law_sum K ds Ω R X) : WS K W (t_law_sum K W) (startG 2 ds) Ω (fnO Ω R X) := by
  obtain ⟨p, q, rfl, ⟨n, m, hp, hq, hz⟩, k⟩ := h
  show WS K W (t_law_sum K W) [some (.d (dR p)), some (.d (dR q))] Ω _
  unfold t_law_sum
  obtain ⟨nn, nd, dn, dd⟩ := muls hp hq (by omega)
  obtain ⟨nn', nd', dn', dd'⟩ := muls hq hp (by omega)
  walk_at "hl"
  refine ⟨_, _, rfl, den_mul_ne p q, ⟨n + m, den_mul_lt hp hq, by omega⟩, ?_⟩
  walk_at "hl"
  rw [rat_add]
  exact dr_same k
theorem sp_len_law_sum {K : KF} (ds : List DV) (Ω : Om) (R : DV → Om → Prop) (X : Exc → Om → Prop) (h : sp_law_sum K ds Ω R X) : ds.length = 2 := by
  unfold sp_law_sum at h
  first
    | (obtain ⟨rfl, _⟩ := h; rfl)
    | (obtain ⟨_, rfl, _⟩ := h; rfl)
    | (obtain ⟨_, _, rfl, _⟩ := h; rfl)
    | (obtain ⟨_, _, _, rfl, _⟩ := h; rfl)
    | (obtain ⟨_, _, _, _, rfl, _⟩ := h; rfl)
    | (obtain ⟨_, _, _, _, _, rfl, _⟩ := h; rfl)
    | (obtain ⟨_, _, _, _, _, _, rfl, _⟩ := h; rfl)
    | (obtain ⟨_, _, _, _, _, _, _, rfl, _⟩ := h; rfl)
    | (obtain ⟨_, _, _, _, _, _, _, _, rfl, _⟩ := h; rfl)
    | (obtain ⟨_, _, _, _, _, _, _, _, _, rfl, _⟩ := h; rfl)
    | (obtain ⟨_, _, _, _, _, _, _, _, _, _, rfl, _⟩ := h; rfl)
    | (obtain ⟨_, _, _, _, _, _, _, _, _, _, _, rfl, _⟩ := h; rfl)
    | (obtain ⟨_, _, _, _, _, _, _, _, _, _, _, _, rfl, _⟩ := h; rfl)
    | (obtain ⟨_, _, _, _, _, _, _, _, _, _, _, _, _, rfl, _⟩ := h; rfl)
    | (obtain ⟨_, _, _, _, _, _, _, _, _, _, _, _, _, rfl, _⟩ := h; rfl)
    | (obtain ⟨_, _, _, _, _, _, _, _, _, _, _, _, _, _, rfl, _⟩ := h; rfl)
    | (obtain ⟨_, _, _, _, _, _, _, _, _, _, _, _, _, _, _, rfl, _⟩ := h; rfl)
    | (obtain ⟨_, _, _, _, _, _, _, _, _, _, _, _, _, _, _, _, rfl, _⟩ := h; rfl)
    | (obtain ⟨_, _, _, _, _, _, _, _, _, _, _, _, _, _, _, _, _, rfl, _⟩ := h; rfl)
    | (obtain ⟨_, _, _, _, _, _, _, _, _, _, _, _, _, _, _, _, _, _, rfl, _⟩ := h; rfl)
    | (obtain ⟨_, _, _, _, _, _, _, _, _, _, _, _, _, _, _, _, _, _, _, rfl, _⟩ := h; rfl)
    | (obtain ⟨_, _, _, _, _, _, _, _, _, _, _, _, _, _, _, _, _, _, _, _, rfl, _⟩ := h; rfl)
    | (obtain ⟨_, _, _, _, _, _, _, _, _, _, _, _, _, _, _, _, _, _, _, _, _, rfl, _⟩ := h; rfl)
def sp_law_weight (K : KF) : Spec := fun ds Ω R X => ∃ (k : Nat) (p : OC), ds = [.o k] ∧ Ω[k]? = some p ∧ IsPool p ∧ ∀ (w : Int) (p' : OC), 1 ≤ w → w ≤ 1000 → IsPool p' → R (.d (.int w)) (Ω.set k p')
def t_law_weight (K : KF) (W : WX) : TS :=
  (tRet (tOp (rAddX K) (tC (.int 1)) (tCall (FS K (sp_law_next K)) [] E0 (tCons (tVar 0) (tCons (tOp (rIx K) (tLst (tCons (tC (.int 1)) (tCons (tC (.int 2)) (tCons (tC (.int 4)) (tCons (tC (.int 9)) (tCons (tC (.int 1000)) tNil)))))) (tCall (FS K (sp_law_next K)) [] E0 (tCons (tVar 0) (tCons (tC (.int 5)) tNil)))) tNil)))))
theorem w_law_weight {K : KF} (W : WX) (ds : List DV) (Ω : Om) (R : DV → Om → Prop) (X : Exc → Om → Prop) (h : sp_law_weight K ds Ω R X) : WS K W (t_law_weight K W) (startG 1 ds) Ω (fnO Ω R X) := by
  obtain ⟨k, p, rfl, hp, ip, q⟩ := h
  have hk := lt_of_get hp
  show WS K W (t_law_weight K W) [some (.o k)] Ω _
  unfold t_law_weight
  walk_at "hl"
  refine ⟨k, p, 5, rfl, hp, ip, by decide, by decide, fun r p1 r0 r1 ip => ?_⟩
  refine wr_ix_ints (ns := [1, 2, 4, 9, 1000]) rfl r0 (by simpa using r1) fun b hb => ?_
  have hb : 1 ≤ b ∧ b ≤ 1000 := by simp at hb; omega
  walk_at "hl"
  refine dn0 hk ip (by omega) (by omega) fun a p1 a0 a1 ip => ?_
  walk_at "hl"
  exact dr_same (q (1 + a) p1 (by omega) (by omega) ip)
theorem dwt {K : KF} {Ω J : Om} {k : Nat} {p : OC} {R : DV → Om → Prop} {X : Exc → Om → Prop} (hk : k < Ω.length) (ip : IsPool p) (q : ∀ (w : Int) (p' : OC), 1 ≤ w → w ≤ 1000 → IsPool p' → R (.d (.int w)) (Ω.set k p' ++ J)) :
    sp_law_weight K [.o k] (Ω.set k p ++ J) R X := ⟨k, p, rfl, get_app (get_set hk), ip, fun x p' hx h0 ip' => by rw [set_app hk]; exact q x p' hx h0 ip'⟩
theorem dwt0 {K : KF} {Ω : Om} {k : Nat} {p : OC} {R : DV → Om → Prop} {X : Exc → Om → Prop} (hk : k < Ω.length) (ip : IsPool p) (q : ∀ (w : Int) (p' : OC), 1 ≤ w → w ≤ 1000 → IsPool p' → R (.d (.int w)) (Ω.set k p')) :
    sp_law_weight K [.o k] (Ω.set k p) R X := ⟨k, p, rfl, get_set hk, ip, fun x p' hx h0 ip' => by rw [List.set_set]; exact q x p' hx h0 ip'⟩
theorem sp_len_law_weight {K : KF} (ds : List DV) (Ω : Om) (R : DV → Om → Prop) (X : Exc → Om → Prop) (h : sp_law_weight K ds Ω R X) : ds.length = 1 := by
  unfold sp_law_weight at h
  first
    | (obtain ⟨rfl, _⟩ := h; rfl)
    | (obtain ⟨_, rfl, _⟩ := h; rfl)
    | (obtain ⟨_, _, rfl, _⟩ := h; rfl)
    | (obtain ⟨_, _, _, rfl, _⟩ := h; rfl)
    | (obtain ⟨_, _, _, _, rfl, _⟩ := h; rfl)
    | (obtain ⟨_, _, _, _, _, rfl, _⟩ := h; rfl)
    | (obtain ⟨_, _, _, _, _, _, rfl, _⟩ := h; rfl)
    | (obtain ⟨_, _, _, _, _, _, _, rfl, _⟩ := h; rfl)
    | (obtain ⟨_, _, _, _, _, _, _, _, rfl, _⟩ := h; rfl)
    | (obtain ⟨_, _, _, _, _, _, _, _, _, rfl, _⟩ := h; rfl)
    | (obtain ⟨_, _, _, _, _, _, _, _, _, _, rfl, _⟩ := h; rfl)
    | (obtain ⟨_, _, _, _, _, _, _, _, _, _, _, rfl, _⟩ := h; rfl)
    | (obtain ⟨_, _, _, _, _, _, _, _, _, _, _, _, rfl, _⟩ := h; rfl)
    | (obtain ⟨_, _, _, _, _, _, _, _, _, _, _, _, _, rfl, _⟩ := h; rfl)
    | (obtain ⟨_, _, _, _, _, _, _, _, _, _, _, _, _, rfl, _⟩ := h; rfl)
    | (obtain ⟨_, _, _, _, _, _, _, _, _, _, _, _, _, _, rfl, _⟩ := h; rfl)
    | (obtain ⟨_, _, _, _, _, _, _, _, _, _, _, _, _, _, _, rfl, _⟩ := h; rfl)
    | (obtain ⟨_, _, _, _, _, _, _, _, _, _, _, _, _, _, _, _, rfl, _⟩ := h; rfl)
    | (obtain ⟨_, _, _, _, _, _, _, _, _, _, _, _, _, _, _, _, _, rfl, _⟩ := h; rfl)
    | (obtain ⟨_, _, _, _, _, _, _, _, _, _, _, _, _, _, _, _, _, _, rfl, _⟩ := h; rfl)
    | (obtain ⟨_, _, _, _, _, _, _, _, _, _, _, _, _, _, _, _, _, _, _, rfl, _⟩ := h; rfl)
    | (obtain ⟨_, _, _, _, _, _, _, _, _, _, _, _, _, _, _, _, _, _, _, _, rfl, _⟩ := h; rfl)
    | (obtain ⟨_, _, _, _, _, _, _, _, _, _, _, _, _, _, _, _, _, _, _, _, _, rfl, _⟩ := h; rfl)
--USE HLg
def sp_law_row (K : KF) : Spec := fun ds Ω R X => ∃ (k : Nat) (p : OC) (most : Int), ds = [.o k, .d (.int most)] ∧ Ω[k]? = some p ∧ IsPool p ∧ 1 ≤ most ∧ most ≤ 8 ∧
  ∀ (l : List Bl) (p' : OC), RowOk l → (l.length : Int) ≤ most → (∀ b ∈ l, Gr GB (400 * GB) b.p ∧ Gr GB (30 * GB) b.s) → IsPool p' → R (.d (dRow l)) (Ω.set k p')
def t_law_row (K : KF) (W : WX) : TS :=
  (tSeq (tAsg (tCall (FS K (sp_law_small K)) [] E0 (tCons (tVar 0) tNil)) (gName 2))
    (tSeq (tAsg (tOp (rEqD K) (tCall (FS K (sp_law_next K)) [] E0 (tCons (tVar 0) (tCons (tC (.int 3)) tNil))) (tC (.int 0))) (gName 3))
    (tSeq (tAsg (tCall (FS K (sp_law_weight K)) [] E0 (tCons (tVar 0) tNil)) (gName 4))
    (tSeq (tAsg (tLst tNil) (gName 5))
    (tSeq (tFor (iRng1 (tCons (tOp (rAddX K) (tC (.int 1)) (tCall (FS K (sp_law_next K)) [] E0 (tCons (tVar 0) (tCons (tVar 1) tNil)))) tNil)) (gName 6) (tSeq (tAsg (tCall (FS K (sp_law_small K)) [] E0 (tCons (tVar 0) tNil)) (gName 7))
    (tSeq (tAsg (tOp (rIx K) (tLst (tCons (tC (.int 0)) (tCons (tC (.int 1)) (tCons (tC (.int 1)) (tCons (tC (.int 2)) (tCons (tC (.int 5)) (tCons (tOp (rAddX K) (tC (.int 1)) (tCall (FS K (sp_law_next K)) [] E0 (tCons (tVar 0) (tCons (tC (.int 40)) tNil)))) tNil))))))) (tCall (FS K (sp_law_next K)) [] E0 (tCons (tVar 0) (tCons (tC (.int 6)) tNil)))) (gName 8))
    (tSeq (tAsg (tCall (FS K (sp_law_low K)) [] E0 (tCons (tVar 8) (tCons (tOp (rAddX K) (tC (.int 1)) (tCall (FS K (sp_law_next K)) [] E0 (tCons (tVar 0) (tCons (tC (.int 6)) tNil)))) tNil))) (gName 8))
    (tSeq (tAsg (tCall (FS K (sp_law_sum K)) [] E0 (tCons (tVar 2) (tCons (tVar 8) tNil))) (gName 2))
    (tSeq (tIfS (tAnd (tTest (tOp oGt (tVar 6) (tC (.int 0)))) (tAnd (tTest (tOp (rEqD K) (tOp (rIx K) (tVar 8) (tC (.int 0))) (tC (.int 0)))) (tNot (tB (tCall (FS K (sp_law_below K)) [] E0 (tCons (tOp (rIx K) (tOp (rIx K) (tVar 5) (tUn uNeg (tC (.int 1)))) (tC (.int 1))) (tCons (tVar 7) tNil))))))) (tAsg (tCall (FS K (sp_law_sum K)) [] E0 (tCons (tOp (rIx K) (tOp (rIx K) (tVar 5) (tUn uNeg (tC (.int 1)))) (tC (.int 1))) (tCons (tTup (tCons (tC (.int 1)) (tCons (tC (.int 1)) tNil))) tNil))) (gName 7)) tNext)
    (tSeq (tIfS (tNot (tB (tVar 3))) (tAsg (tCall (FS K (sp_law_weight K)) [] E0 (tCons (tVar 0) tNil)) (gName 4)) tNext)
    (tDrop (tBM K "list" rAppend (tVar 5) (tCons (tTup (tCons (tVar 2) (tCons (tVar 7) (tCons (tVar 4) tNil)))) tNil))))))))))
    (tRet (tCB (rTupQ K) (tCons (tVar 5) tNil))))))))
structure RowI (l : List Bl) (pl : Rat) : Prop where
  w0 : ∀ b ∈ l, 1 ≤ b.w ∧ b.w ≤ 1000
  gp : ∀ b ∈ l, Gr GB ((15 + 41 * l.length) * GB) b.p ∧ Gr GB ((15 + l.length) * GB) b.s
  nb : Nb mayB l = true
  gl : Gr GB ((15 + 41 * l.length) * GB) pl
  la : ∀ b, l.getLast? = some b → b.p = pl
theorem RowI.nil {x : Rat} (h : Sz 4 x) : RowI [] x := ⟨fun _ h => (by cases h), fun _ h => (by cases h), rfl, gr_sz4 h, fun _ h => (by cases h)⟩
theorem RowI.snoc {l : List Bl} {pl q s : Rat} {w : Int} (h : RowI l pl) (hq : Gr GB ((15 + 41 * (l.length + 1)) * GB) q) (hs : Gr GB ((15 + (l.length + 1)) * GB) s) (h0 : 1 ≤ w) (h1 : w ≤ 1000) (hn : ∀ b, l.getLast? = some b → mayB b ⟨q, s, w⟩ = true) : RowI (l ++ [⟨q, s, w⟩]) q := by
  have el : (l ++ [(⟨q, s, w⟩ : Bl)]).length = l.length + 1 := by simp
  refine ⟨fun b hb => ?_, fun b hb => ?_, nb_snoc h.nb hn, by rw [el]; exact hq, fun b hb => ?_⟩
  · rcases List.mem_append.mp hb with hb | hb
    · exact h.w0 b hb
    · rw [List.mem_singleton.mp hb]; exact ⟨h0, h1⟩
  · rw [el]
    rcases List.mem_append.mp hb with hb | hb
    · obtain ⟨a, c⟩ := h.gp b hb
      exact ⟨a.mono (Nat.mul_le_mul_right _ (by omega)), c.mono (Nat.mul_le_mul_right _ (by omega))⟩
    · rw [List.mem_singleton.mp hb]; exact ⟨hq, hs⟩
  · rw [List.getLast?_append] at hb
    cases hb
    rfl
theorem w_law_row {K : KF} (W : WX) (ds : List DV) (Ω : Om) (R : DV → Om → Prop) (X : Exc → Om → Prop) (h : sp_law_row K ds Ω R X) : WS K W (t_law_row K W) (startG 9 ds) Ω (fnO Ω R X) := by
  obtain ⟨k, p, most, rfl, hp, ip, m0, m1, q⟩ := h
  have hk := lt_of_get hp
  show WS K W (t_law_row K W) [some (.o k), some (.d (.int most)), none, none, none, none, none, none, none] Ω _
  unfold t_law_row
  walk_at "hl"
  refine ⟨k, p, rfl, hp, ip, fun pl p1 hpl ip => ?_⟩
  walk_at "hl"
  refine dn0 hk ip (by decide) (by decide) fun ev p1 e0 e1 ip => ?_
  walk_at "hl"
  generalize decide (ev = 0) = even
  refine dwt0 hk ip fun wt p1 wt0 wt1 ip => ?_
  walk_at "hl"
  refine ws_for (wi_rng1 ?_)
  walk_at "hl"
  refine dn hk ip (by omega) (by omega) fun r p1 r0 r1 ip => ?_
  walk_at "hl"
  refine ⟨_, rfl, by omega, by omega, ?_⟩
  have le1 : (Ω.set k p1).length = Ω.length := List.length_set
  refine ⟨fun i Γ Ω1 => ∃ (l : List Bl) (pl : Rat) (p2 : OC) (wt : Int) (c6 c7 c8 : Option DV), Γ = [some (.o k), some (.d (.int most)), some (.d (dR pl)), some (.d (.bool even)), some (.d (.int wt)), some (.o Ω.length), c6, c7, c8] ∧ Ω1 = Ω.set k p2 ++ [.lst ((l.map dB).map DV.d)] ∧ IsPool p2 ∧ l.length = i ∧ RowI l pl ∧ 1 ≤ wt ∧ wt ≤ 1000,
    ⟨[], pl, p1, wt, none, none, none, by simp, by simp, ip, rfl, .nil hpl, wt0, wt1⟩, ?_, ?_, ?_⟩
  · rintro i Γ Ω1 - ⟨l, pl, p2, wt, c6, c7, c8, rfl, rfl, -, -, -, -⟩
    exact ⟨trivial, by simp⟩
  · rintro i y Γ Ω1 hy ⟨l, pl, p2, wt, c6, c7, c8, rfl, rfl, ip, rfl, hr, wt0, wt1⟩
    obtain ⟨hi, rfl⟩ := rng_get hy
    have hi2 : l.length ≤ 7 := by omega
    have le2 : ∀ p2, (Ω.set k p2).length = Ω.length := fun p2 => List.length_set
    have hget : ∀ p2 ds, (Ω.set k p2 ++ [OC.lst ds])[Ω.length]? = some (.lst ds) := fun p2 ds => by rw [List.getElem?_append_right (by rw [le2]; exact Nat.le_refl _), le2]; simp
    walk_at "hl"
    refine dsm hk ip fun sp p1 hsp ip => ?_
    walk_at "hl"
    refine dn hk ip (by decide) (by decide) fun f1 p1 f10 f11 ip => ?_
    walk_at "hl"
    refine dn hk ip (by decide) (by decide) fun f2 p1 f20 f21 ip => ?_
    refine wr_ix_ints (ns := [0, 1, 1, 2, 5, 1 + f1]) rfl f20 (by simpa using f21) fun ft hft => ?_
    have hft : 0 ≤ ft ∧ ft ≤ 40 := by simp at hft; omega
    walk_at "hl"
    refine dn hk ip (by decide) (by decide) fun fb p1 fb0 fb1 ip => ?_
    walk_at "hl"
    refine ⟨ft, 1 + fb, rfl, by omega, ⟨10, by omega, by decide⟩, ?_⟩
    obtain ⟨gap, hgap⟩ : ∃ g, g = Rat.divInt ft (1 + fb) := ⟨_, rfl⟩
    rw [← hgap]
    have gg : Gr GB (40 * GB) gap := by rw [hgap]; exact gr_divInt (by omega) (by omega) (by omega)
    have g0 : 0 ≤ gap := by
      rw [hgap, Rat.divInt_eq_div, Rat.div_def]
      exact Rat.mul_nonneg (Rat.intCast_nonneg.mpr hft.1) (Rat.le_of_lt (Rat.inv_pos.mpr (Rat.intCast_pos.mpr (by omega))))
    have gq : Gr GB ((15 + 41 * (l.length + 1)) * GB) (pl + gap) := (hr.gl.add gg).mono (by rw [← Nat.add_mul]; exact Nat.mul_le_mul_right _ (by omega))
    have zpl : Sz 30 pl := gr_sz hr.gl (by omega)
    have zg : Sz 30 gap := gr_sz gg (by decide)
    walk_at "hl"
    refine ⟨pl, gap, rfl, ⟨_, _, zpl, zg, by decide⟩, ?_⟩
    walk_at "hl"
    have last : ∀ b, l.getLast? = some b → b ∈ l := fun b hb => List.mem_of_getLast? hb
    -- the end of the turn
    have fin : ∀ (s : Rat) (p1 : OC), IsPool p1 → Gr GB ((15 + (l.length + 1)) * GB) s → (∀ b, l.getLast? = some b → ∀ w, mayB b ⟨pl + gap, s, w⟩ = true) → ∀ (O : Outs),
        (∀ Γ Ω1, (∃ (l' : List Bl) (pl : Rat) (p2 : OC) (wt : Int) (c6 c7 c8 : Option DV), Γ = [some (.o k), some (.d (.int most)), some (.d (dR pl)), some (.d (.bool even)), some (.d (.int wt)), some (.o Ω.length), c6, c7, c8] ∧ Ω1 = Ω.set k p2 ++ [.lst ((l'.map dB).map DV.d)] ∧ IsPool p2 ∧ l'.length = l.length + 1 ∧ RowI l' pl ∧ 1 ≤ wt ∧ wt ≤ 1000) → O.nx Γ Ω1) → ∀ T, T =
        (tSeq (tIfS (tNot (tB (tVar 3))) (tAsg (tCall (FS K (sp_law_weight K)) [] E0 (tCons (tVar 0) tNil)) (gName 4)) tNext) (tDrop (tBM K "list" rAppend (tVar 5) (tCons (tTup (tCons (tVar 2) (tCons (tVar 7) (tCons (tVar 4) tNil)))) tNil)))) →
        WS K W T [some (.o k), some (.d (.int most)), some (.d (dR (pl + gap))), some (.d (.bool even)), some (.d (.int wt)), some (.o Ω.length), some (.d (.int (0 + (l.length : Int)))), some (.d (dR s)), some (.d (dR gap))] (Ω.set k p1 ++ [.lst ((l.map dB).map DV.d)]) O := by
      rintro s p1 ip gs hn O hO T rfl
      have app : ∀ (w : Int) (p1 : OC), IsPool p1 → 1 ≤ w → w ≤ 1000 → WS K W (tDrop (tBM K "list" rAppend (tVar 5) (tCons (tTup (tCons (tVar 2) (tCons (tVar 7) (tCons (tVar 4) tNil)))) tNil))) [some (.o k), some (.d (.int most)), some (.d (dR (pl + gap))), some (.d (.bool even)), some (.d (.int w)), some (.o Ω.length), some (.d (.int (0 + (l.length : Int)))), some (.d (dR s)), some (.d (dR gap))] (Ω.set k p1 ++ [.lst ((l.map dB).map DV.d)]) O := by
        intro w p1 ip w0 w1
        walk_at "hl"
        refine ⟨⟨_, by show sqO _ = _; rw [hget]; rfl, rfl⟩, ?_⟩
        walk_at "hl"
        refine wm_append (hget _ _) (by simp; omega) (hO _ _ ⟨l ++ [⟨pl + gap, s, w⟩], pl + gap, p1, w, _, _, _, rfl, ?_, ip, by simp, hr.snoc gq gs w0 w1 (fun b hb => hn b hb w), w0, w1⟩)
        rw [List.set_append_right _ _ (by rw [le2]; exact Nat.le_refl _), le2]
        simp [dB]
      generalize hA : (tDrop (tBM K "list" rAppend (tVar 5) (tCons (tTup (tCons (tVar 2) (tCons (tVar 7) (tCons (tVar 4) tNil)))) tNil))) = tl at *
      walk_at "hl"
      cases even with
      | true =>
        refine bF rfl ?_
        walk_at "hl"
        exact app wt p1 ip wt0 wt1
      | false =>
        refine bT rfl ?_
        walk_at "hl"
        refine dwt hk ip fun w p1 w0 w1 ip => ?_
        walk_at "hl"
        exact app w p1 ip w0 w1
    generalize hT : (tSeq (tIfS (tNot (tB (tVar 3))) (tAsg (tCall (FS K (sp_law_weight K)) [] E0 (tCons (tVar 0) tNil)) (gName 4)) tNext) (tDrop (tBM K "list" rAppend (tVar 5) (tCons (tTup (tCons (tVar 2) (tCons (tVar 7) (tCons (tVar 4) tNil)))) tNil)))) = tail at *
    have gs0 : Gr GB ((15 + (l.length + 1)) * GB) sp := (gr_sz4 hsp).mono (Nat.mul_le_mul_right _ (by omega))
    have far : gap ≠ 0 → ∀ b, l.getLast? = some b → ∀ w, mayB b ⟨pl + gap, sp, w⟩ = true := fun h b hb w => by
      unfold mayB mayS
      rw [hr.la b hb, if_neg (by show ¬ pl = pl + gap; grind)]
      exact decide_eq_true (by show pl < pl + gap; grind)
    have e0 : gap.num = 0 ↔ gap = 0 := Rat.num_eq_zero
    walk_at "hl"
    refine ⟨fun hk0 => ?_, fun hk0 => bF rfl (ws_next (fin sp p1 ip gs0 (fun b hb => ?_) _ (fun Γ Ω1 h => h) _ rfl))⟩
    · walk_at "hl"
      refine ⟨fun h6 => ?_, fun h6 => bF rfl (ws_next (fin sp p1 ip gs0 (far fun z => by have := of_decide_eq_false h6; exact this (e0.mpr z)) _ (fun Γ Ω1 h => h) _ rfl))⟩
      have hg : gap = 0 := e0.mp (of_decide_eq_true h6)
      have hne : l ≠ [] := fun e => by
        have := of_decide_eq_true hk0
        rw [e] at this
        simp at this
      obtain ⟨b, hb⟩ : ∃ b, l.getLast? = some b := ⟨_, List.getLast?_eq_getLast hne⟩
      obtain ⟨gb1, gb2⟩ := hr.gp b (last b hb)
      have zb : Sz 30 b.s := gr_sz gb2 (by omega)
      walk_at "hl"
      have ix : atI ((l.map dB).map DV.d) (-1) = some (.d (dB b)) := by
        have e : l = l.dropLast ++ [b] := (List.dropLast_concat_getLast hne).symm.trans (by rw [show l.getLast hne = b from Option.some.inj ((List.getLast?_eq_getLast hne).symm.trans hb)])
        rw [e, List.map_append, List.map_append]
        exact atI_last _ _
      refine wr_ix (by show sqO _ = _; rw [hget]; rfl) ix ?_
      walk_at "hl"
      refine ⟨_, _, rfl, ⟨_, _, zb, hsp, by decide⟩, ?_⟩
      walk_at "hl"
      refine ⟨fun hlt => ?_, fun hlt => ws_next (fin sp p1 ip gs0 (fun b' hb' w => ?_) _ (fun Γ Ω1 h => h) _ rfl)⟩
      · walk_at "hl"
        refine wr_ix (by show sqO _ = _; rw [hget]; rfl) ix ?_
        walk_at "hl"
        refine ⟨b.s, 1, rfl, ⟨30, 1, zb, ⟨by decide, by decide⟩, by decide⟩, ?_⟩
        walk_at "hl"
        have g1 : Gr GB (1 * GB) 1 := Gr.int 1
        refine fin (b.s + 1) p1 ip ((gb2.add g1).mono (by rw [← Nat.add_mul]; exact Nat.mul_le_mul_right _ (by omega))) (fun b' hb' w => ?_) _ (fun Γ Ω1 h => h) _ rfl
        rw [hb] at hb'
        cases hb'
        unfold mayB mayS
        rw [hr.la b hb, if_pos (by show pl = pl + gap; grind)]
        exact decide_eq_true (by show b.s < b.s + 1; grind)
      · rw [hb] at hb'
        cases hb'
        unfold mayB mayS
        rw [hr.la b hb, if_pos (by show pl = pl + gap; grind)]
        have hlt : decide (b.s < sp) = true := by
          cases z : decide (b.s < sp) with
          | true => rfl
          | false => rw [z] at hlt; cases hlt
        exact hlt
    · have hl0 : l = [] := by
        have := of_decide_eq_false hk0
        exact List.eq_nil_of_length_eq_zero (by omega)
      rw [hl0] at hb
      cases hb
  · rintro Γ Ω1 ⟨l, pl, p2, wt, c6, c7, c8, rfl, rfl, ip, hl, hr, wt0, wt1⟩
    have le2 : ∀ p2, (Ω.set k p2).length = Ω.length := fun p2 => List.length_set
    have hget : ∀ p2 ds, (Ω.set k p2 ++ [OC.lst ds])[Ω.length]? = some (.lst ds) := fun p2 ds => by rw [List.getElem?_append_right (by rw [le2]; exact Nat.le_refl _), le2]; simp
    rw [List.length_map, List.length_range] at hl
    walk_at "hl"
    refine wc_tup' (xs := l.map dB) (by show (sqO _).bind asDs = _; rw [hget]; exact asDs_data _) ?_
    have l8 : l.length ≤ 8 := by omega
    have gr : ∀ b ∈ l, Gr GB (400 * GB) b.p ∧ Gr GB (30 * GB) b.s := fun b hb => ⟨(hr.gp b hb).1.mono (Nat.mul_le_mul_right _ (by omega)), (hr.gp b hb).2.mono (Nat.mul_le_mul_right _ (by omega))⟩
    exact dr_pool hk ip (q l p2 ⟨fun e => by rw [e] at hl; simp at hl; omega, l8, hr.w0, fun b hb => ⟨(gr_sz (gr b hb).1 (by decide)).mono (by decide), (gr_sz (gr b hb).2 (by decide)).mono (by decide)⟩, hr.nb, fun b hb => (gr_sz (gr b hb).2 (by decide)).mono (by decide)⟩ (by omega) gr ip) (fun i h => by cases h)
theorem sp_len_law_row {K : KF} (ds : List DV) (Ω : Om) (R : DV → Om → Prop) (X : Exc → Om → Prop) (h : sp_law_row K ds Ω R X) : ds.length = 2 := by
  unfold sp_law_row at h
  first
    | (obtain ⟨rfl, _⟩ := h; rfl)
    | (obtain ⟨_, rfl, _⟩ := h; rfl)
    | (obtain ⟨_, _, rfl, _⟩ := h; rfl)
    | (obtain ⟨_, _, _, rfl, _⟩ := h; rfl)
    | (obtain ⟨_, _, _, _, rfl, _⟩ := h; rfl)
    | (obtain ⟨_, _, _, _, _, rfl, _⟩ := h; rfl)
    | (obtain ⟨_, _, _, _, _, _, rfl, _⟩ := h; rfl)
    | (obtain ⟨_, _, _, _, _, _, _, rfl, _⟩ := h; rfl)
    | (obtain ⟨_, _, _, _, _, _, _, _, rfl, _⟩ := h; rfl)
    | (obtain ⟨_, _, _, _, _, _, _, _, _, rfl, _⟩ := h; rfl)
    | (obtain ⟨_, _, _, _, _, _, _, _, _, _, rfl, _⟩ := h; rfl)
    | (obtain ⟨_, _, _, _, _, _, _, _, _, _, _, rfl, _⟩ := h; rfl)
    | (obtain ⟨_, _, _, _, _, _, _, _, _, _, _, _, rfl, _⟩ := h; rfl)
    | (obtain ⟨_, _, _, _, _, _, _, _, _, _, _, _, _, rfl, _⟩ := h; rfl)
    | (obtain ⟨_, _, _, _, _, _, _, _, _, _, _, _, _, rfl, _⟩ := h; rfl)
    | (obtain ⟨_, _, _, _, _, _, _, _, _, _, _, _, _, _, rfl, _⟩ := h; rfl)
    | (obtain ⟨_, _, _, _, _, _, _, _, _, _, _, _, _, _, _, rfl, _⟩ := h; rfl)
    | (obtain ⟨_, _, _, _, _, _, _, _, _, _, _, _, _, _, _, _, rfl, _⟩ := h; rfl)
    | (obtain ⟨_, _, _, _, _, _, _, _, _, _, _, _, _, _, _, _, _, rfl, _⟩ := h; rfl)
    | (obtain ⟨_, _, _, _, _, _, _, _, _, _, _, _, _, _, _, _, _, _, rfl, _⟩ := h; rfl)
    | (obtain ⟨_, _, _, _, _, _, _, _, _, _, _, _, _, _, _, _, _, _, _, rfl, _⟩ := h; rfl)
    | (obtain ⟨_, _, _, _, _, _, _, _, _, _, _, _, _, _, _, _, _, _, _, _, rfl, _⟩ := h; rfl)
    | (obtain ⟨_, _, _, _, _, _, _, _, _, _, _, _, _, _, _, _, _, _, _, _, _, rfl, _⟩ := h; rfl)
--USE HLp
--USE HMf
def sp_law_told (K : KF) : Spec := fun ds Ω R X => ∃ l : List Nat, ds = [.d (tS l)] ∧ l.length ≤ 5000 ∧ okT l = true ∧ R (.d (dRo (rowT l))) Ω
def t_law_told (K : KF) (W : WX) : TS :=
  (tSeq (tAsg (tC .non) (gName 1))
    (tSeq (tTryOnly K (fun W' => (tAsg (tCallS (FS K (sp_read_row K)) (L2.WE W') (tCons (tVar 0) tNil)) (gName 1))) (fun a cls dd => (tAsg (tC .non) (gName 1))) (.ref (He.ga K "NoText")) W)
    (tRet (tVar 1))))
theorem w_law_told {K : KF} (em : EM K "NoText" "NoText" true) (W : WX) (ds : List DV) (Ω : Om) (R : DV → Om → Prop) (X : Exc → Om → Prop) (h : sp_law_told K ds Ω R X) : WS K W (t_law_told K W) (startG 2 ds) Ω (fnO Ω R X) := by
  obtain ⟨l, rfl, hl, ho, q⟩ := h
  show WS K W (t_law_told K W) [some (.d (tS l)), none] Ω _
  unfold t_law_told
  walk_at "hl"
  refine ws_tryO fun W' => ?_
  walk_at "hl"
  cases hw : rowT l with
  | none =>
    rw [hw] at q
    refine ⟨tS l, rfl, .inl ⟨l, rfl, hl, ho, .inr ⟨hw, true, em, fun _ a cls dd ec2 => ?_, fun e => (by cases e)⟩⟩⟩
    subst ec2
    walk_at "hl"
    exact dr_same q
  | some x =>
    rw [hw] at q
    refine ⟨tS l, rfl, .inl ⟨l, rfl, hl, ho, .inl ⟨x, hw, ?_⟩⟩⟩
    walk_at "hl"
    exact dr_same q
theorem sp_len_law_told {K : KF} (ds : List DV) (Ω : Om) (R : DV → Om → Prop) (X : Exc → Om → Prop) (h : sp_law_told K ds Ω R X) : ds.length = 1 := by
  unfold sp_law_told at h
  first
    | (obtain ⟨rfl, _⟩ := h; rfl)
    | (obtain ⟨_, rfl, _⟩ := h; rfl)
    | (obtain ⟨_, _, rfl, _⟩ := h; rfl)
    | (obtain ⟨_, _, _, rfl, _⟩ := h; rfl)
    | (obtain ⟨_, _, _, _, rfl, _⟩ := h; rfl)
    | (obtain ⟨_, _, _, _, _, rfl, _⟩ := h; rfl)
    | (obtain ⟨_, _, _, _, _, _, rfl, _⟩ := h; rfl)
    | (obtain ⟨_, _, _, _, _, _, _, rfl, _⟩ := h; rfl)
    | (obtain ⟨_, _, _, _, _, _, _, _, rfl, _⟩ := h; rfl)
    | (obtain ⟨_, _, _, _, _, _, _, _, _, rfl, _⟩ := h; rfl)
    | (obtain ⟨_, _, _, _, _, _, _, _, _, _, rfl, _⟩ := h; rfl)
    | (obtain ⟨_, _, _, _, _, _, _, _, _, _, _, rfl, _⟩ := h; rfl)
    | (obtain ⟨_, _, _, _, _, _, _, _, _, _, _, _, rfl, _⟩ := h; rfl)
    | (obtain ⟨_, _, _, _, _, _, _, _, _, _, _, _, _, rfl, _⟩ := h; rfl)
    | (obtain ⟨_, _, _, _, _, _, _, _, _, _, _, _, _, rfl, _⟩ := h; rfl)
    | (obtain ⟨_, _, _, _, _, _, _, _, _, _, _, _, _, _, rfl, _⟩ := h; rfl)
    | (obtain ⟨_, _, _, _, _, _, _, _, _, _, _, _, _, _, _, rfl, _⟩ := h; rfl)
    | (obtain ⟨_, _, _, _, _, _, _, _, _, _, _, _, _, _, _, _, rfl, _⟩ := h; rfl)
    | (obtain ⟨_, _, _, _, _, _, _, _, _, _, _, _, _, _, _, _, _, rfl, _⟩ := h; rfl)
    | (obtain ⟨_, _, _, _, _, _, _, _, _, _, _, _, _, _, _, _, _, _, rfl, _⟩ := h; rfl)
    | (obtain ⟨_, _, _, _, _, _, _, _, _, _, _, _, _, _, _, _, _, _, _, rfl, _⟩ := h; rfl)
    | (obtain ⟨_, _, _, _, _, _, _, _, _, _, _, _, _, _, _, _, _, _, _, _, rfl, _⟩ := h; rfl)
    | (obtain ⟨_, _, _, _, _, _, _, _, _, _, _, _, _, _, _, _, _, _, _, _, _, rfl, _⟩ := h; rfl)
--USE HLp
--USE HMf
def sp_row_text (K : KF) : Spec := fun ds Ω R X => ∃ bs : List Bl, ds = [.d (dRow bs)] ∧ bs.length ≤ 8 ∧ (∀ b ∈ bs, B300 b) ∧ R (.d (tS (rowL bs))) Ω
def t_row_text (K : KF) (W : WX) : TS :=
  (tRet (tBM K "str" (rJoin K) (tC (.str "; ")) (tCons (tLc (iSeq K (tVar 0)) (gTup K 3 (gCons (gName 1) (gCons (gName 2) (gCons (gName 3) gNil)))) tYes (tBM K "str" (rJoin K) (tC (.str " ")) (tCons (tLst (tCons (tCall (FS K (sp_ratio_text K)) [] E0 (tCons (tVar 1) tNil)) (tCons (tCall (FS K (sp_ratio_text K)) [] E0 (tCons (tVar 2) tNil)) (tCons (tCB rStrI (tCons (tVar 3) tNil)) tNil)))) tNil)) [1, 2, 3]) tNil)))
theorem ballL_len {b : Bl} (h : B300 b) : (ballL b).length ≤ 1510 := by
  obtain ⟨⟨a1, a2⟩, ⟨b1, b2⟩, w0, w1⟩ := h
  have l1 := ratT_len (k := 300) (by decide) a1 a2
  have l2 := ratT_len (k := 300) (by decide) b1 b2
  have l3 := intL_len (k := 300) (by decide) w1
  unfold ballL
  rw [List.length_append, List.length_cons, List.length_append, List.length_cons]
  omega
theorem sum_ball : ∀ {bs : List Bl}, (∀ b ∈ bs, B300 b) → ((bs.map ballL).map List.length).sum ≤ bs.length * 1510
  | [], _ => Nat.le_refl _
  | b :: bs, h => by
    have h1 := ballL_len (h b (by simp))
    have h2 := sum_ball (bs := bs) fun c hc => h c (List.mem_cons_of_mem _ hc)
    rw [List.map_cons, List.map_cons, List.sum_cons, List.length_cons]
    omega
theorem w_row_text {K : KF} (W : WX) (ds : List DV) (Ω : Om) (R : DV → Om → Prop) (X : Exc → Om → Prop) (h : sp_row_text K ds Ω R X) : WS K W (t_row_text K W) (startG 4 ds) Ω (fnO Ω R X) := by
  obtain ⟨bs, rfl, hl, hb, q⟩ := h
  have p3 : (10 : Nat) ^ 300 < 2 ^ 1000 := by decide +kernel
  have sm := sum_ball hb
  show WS K W (t_row_text K W) [some (.d (dRow bs)), none, none, none] Ω _
  unfold t_row_text
  walk_at "hl"
  refine we_lcP (α := Bl) only3 (wi_T dB bs ?_)
  walk_at "hl"
  refine ⟨rfl, bs, _, fun _ => true, fun b => tS (ballL b), rfl, by omega, rfl, fun _ => trivial, ?_, ?_⟩
  · rintro b Ω' hm -
    obtain ⟨a1, b1, w0, w1⟩ := hb b hm
    have l1 := ratT_len (k := 300) (by decide) a1.1 a1.2
    have l2 := ratT_len (k := 300) (by decide) b1.1 b1.2
    have l3 := intL_len (k := 300) (by decide) w1
    walk_at "hl"
    refine ⟨rfl, rfl, fun _ => ?_⟩
    walk_at "hl"
    refine ⟨b.p, rfl, a1, ?_⟩
    walk_at "hl"
    refine ⟨b.s, rfl, b1, ?_⟩
    walk_at "hl"
    refine wc_strI (nat_pow_lt (Nat.lt_trans w1 p3) (by decide)) ?_
    walk_at "hl"
    refine wm_join (l := [ratT b.p, ratT b.s, intL b.w]) rfl (by show (_ + (_ + (_ + 0))) + 3 * 1 ≤ 100000; omega) ?_
    exact ⟨rfl, rfl⟩
  rw [filter_yes]
  walk_at "hl"
  refine wm_join (l := bs.map ballL) (by show some _ = _; rw [List.map_map]; rfl) (by show _ + (bs.map ballL).length * 2 ≤ _; rw [List.length_map]; omega) ?_
  exact dr_same q
theorem sp_len_row_text {K : KF} (ds : List DV) (Ω : Om) (R : DV → Om → Prop) (X : Exc → Om → Prop) (h : sp_row_text K ds Ω R X) : ds.length = 1 := by
  unfold sp_row_text at h
  first
    | (obtain ⟨rfl, _⟩ := h; rfl)
    | (obtain ⟨_, rfl, _⟩ := h; rfl)
    | (obtain ⟨_, _, rfl, _⟩ := h; rfl)
    | (obtain ⟨_, _, _, rfl, _⟩ := h; rfl)
    | (obtain ⟨_, _, _, _, rfl, _⟩ := h; rfl)
    | (obtain ⟨_, _, _, _, _, rfl, _⟩ := h; rfl)
    | (obtain ⟨_, _, _, _, _, _, rfl, _⟩ := h; rfl)
    | (obtain ⟨_, _, _, _, _, _, _, rfl, _⟩ := h; rfl)
    | (obtain ⟨_, _, _, _, _, _, _, _, rfl, _⟩ := h; rfl)
    | (obtain ⟨_, _, _, _, _, _, _, _, _, rfl, _⟩ := h; rfl)
    | (obtain ⟨_, _, _, _, _, _, _, _, _, _, rfl, _⟩ := h; rfl)
    | (obtain ⟨_, _, _, _, _, _, _, _, _, _, _, rfl, _⟩ := h; rfl)
    | (obtain ⟨_, _, _, _, _, _, _, _, _, _, _, _, rfl, _⟩ := h; rfl)
    | (obtain ⟨_, _, _, _, _, _, _, _, _, _, _, _, _, rfl, _⟩ := h; rfl)
    | (obtain ⟨_, _, _, _, _, _, _, _, _, _, _, _, _, rfl, _⟩ := h; rfl)
    | (obtain ⟨_, _, _, _, _, _, _, _, _, _, _, _, _, _, rfl, _⟩ := h; rfl)
    | (obtain ⟨_, _, _, _, _, _, _, _, _, _, _, _, _, _, _, rfl, _⟩ := h; rfl)
    | (obtain ⟨_, _, _, _, _, _, _, _, _, _, _, _, _, _, _, _, rfl, _⟩ := h; rfl)
    | (obtain ⟨_, _, _, _, _, _, _, _, _, _, _, _, _, _, _, _, _, rfl, _⟩ := h; rfl)
    | (obtain ⟨_, _, _, _, _, _, _, _, _, _, _, _, _, _, _, _, _, _, rfl, _⟩ := h; rfl)
    | (obtain ⟨_, _, _, _, _, _, _, _, _, _, _, _, _, _, _, _, _, _, _, rfl, _⟩ := h; rfl)
    | (obtain ⟨_, _, _, _, _, _, _, _, _, _, _, _, _, _, _, _, _, _, _, _, rfl, _⟩ := h; rfl)
    | (obtain ⟨_, _, _, _, _, _, _, _, _, _, _, _, _, _, _, _, _, _, _, _, _, rfl, _⟩ := h; rfl)
--USE HLt
--USE HLp
--USE HLg
--USE HMf
def sp_law (K : KF) : Spec := fun ds Ω R X => ∃ ns : List Int, ds = [.d (.list (ns.map PyData.int))] ∧ ns.length ≤ 63 ∧ ∀ Ω', R (.d (.bool true)) Ω'
def t_law (K : KF) (W : WX) : TS :=
  (tSeq (tFor (iSeq K (tOp (rAddX K) (tLst (tCons (tC (.int 0)) tNil)) (tVar 0))) (gName 1) (tSeq (tAsg (tCall (FS K (sp_law_pool K)) [] E0 (tCons (tVar 1) tNil)) (gName 2))
    (tSeq (tAsg (tCall (FS K (sp_law_row K)) [] E0 (tCons (tVar 2) (tCons (tC (.int 8)) tNil))) (gName 3))
    (tSeq (tAsg (tCall (FS K (sp_law_row_text K)) [] E0 (tCons (tVar 3) tNil)) (gName 4))
    (tSeq (tIfS (tOr (tTest (tOp (rNeD K) (tCall (FS K (sp_row_text K)) [] E0 (tCons (tVar 3) tNil)) (tVar 4))) (tTest (tOp (rNeD K) (tCall (FS K (sp_read_row K)) [] E0 (tCons (tVar 4) tNil)) (tVar 3)))) (tRet (tC (.bl false))) tNext)
    (tSeq (tAsg (tBM K "str" (rJoin K) (tC (.str "; ")) (tCons (tLc (iRng1 (tCons (tC (.int 9)) tNil)) (gName 7) tYes (tOp (rAddX K) (tCall (FS K (sp_law_figures K)) [] E0 (tCons (tVar 7) tNil)) (tC (.str " 0 1"))) [7]) tNil)) (gName 5))
    (tSeq (tIfS (tOr (tNot (tB (tCall (FS K (sp_law_refused K)) [] E0 (tCons (tCall (FS K (sp_law_amiss K)) [] E0 (tCons (tVar 3) (tCons (tVar 2) tNil))) tNil)))) (tNot (tB (tCall (FS K (sp_law_refused K)) [] E0 (tCons (tVar 5) tNil))))) (tRet (tC (.bl false))) tNext)
    (tSeq (tAsg (tCall (FS K (sp_law_bent K)) [] E0 (tCons (tVar 4) (tCons (tVar 2) tNil))) (gName 6))
    (tIfS (tTest (tOp (rNeD K) (tCall (FS K (sp_law_told K)) [] E0 (tCons (tVar 6) tNil)) (tCall (FS K (sp_law_read_row K)) [] E0 (tCons (tVar 6) tNil)))) (tRet (tC (.bl false))) tNext)))))))))
    (tRet (tC (.bl true))))
abbrev nineL : List Nat := TL.joinL [59, 32] ((List.range 9).map fun (k : Nat) => intL (0 + (k : Int)) ++ [32, 48, 32, 49])
theorem nine_no : nineL.length = 61 ∧ okT nineL = true ∧ rowT nineL = none := by
  have h : (decide (nineL.length = 61) && (okT nineL && (rowT nineL).isNone)) = true := by decide +kernel
  obtain ⟨h1, h⟩ := Bool.and_eq_true_iff.mp h
  obtain ⟨h2, h3⟩ := Bool.and_eq_true_iff.mp h
  exact ⟨of_decide_eq_true h1, h2, Option.isNone_iff_eq_none.mp h3⟩
theorem w_law {K : KF} (W : WX) (ds : List DV) (Ω : Om) (R : DV → Om → Prop) (X : Exc → Om → Prop) (h : sp_law K ds Ω R X) : WS K W (t_law K W) (startG 8 ds) Ω (fnO Ω R X) := by
  obtain ⟨ns, rfl, hl, q⟩ := h
  show WS K W (t_law K W) [some (.d (.list (ns.map PyData.int))), none, none, none, none, none, none, none] Ω _
  unfold t_law
  refine ws_seq (ws_for ?_)
  refine wi_L PyData.int (0 :: ns) ?_
  walk_at "hl"
  refine wr_addL (xs := [.int 0]) rfl rfl (by simp; omega) ?_
  refine ⟨rfl, fun i Γ Ω1 => ∃ c1 c2 c3 c4 c5 c6 c7, Γ = [some (.d (.list (ns.map PyData.int))), c1, c2, c3, c4, c5, c6, c7] ∧ Ω.length ≤ Ω1.length, ⟨none, none, none, none, none, none, none, rfl, Nat.le_refl _⟩, ?_, ?_, ?_⟩
  · rintro i Γ Ω1 - ⟨c1, c2, c3, c4, c5, c6, c7, rfl, hz⟩
    exact ⟨trivial, hz⟩
  · rintro i y Γ Ω1 hy ⟨c1, c2, c3, c4, c5, c6, c7, rfl, hz⟩
    obtain ⟨v, rfl, -, -, -, -⟩ := lmap_get hy
    walk_at "hl"
    refine ⟨v, rfl, fun p ip => ?_⟩
    walk_at "hl"
    refine ⟨Ω1.length, p, 8, rfl, by simp, ip, by decide, by decide, fun l p ok le8 gr ip => ?_⟩
    rw [set_last]
    have hz2 : ∀ b ∈ l, Sz 30 b.p ∧ Sz 30 b.s := fun b hb => ⟨gr_sz (gr b hb).1 (by decide), gr_sz (gr b hb).2 (by decide)⟩
    have hb3 : ∀ b ∈ l, B300 b := fun b hb => b300_30 (hz2 b hb) (by have := ok.w0 b hb; omega)
    have hlen := row_len30 fun b hb => ball_len30 (hz2 b hb) (by have := ok.w0 b hb; omega)
    have l8 := ok.le
    have hlen : (rowL l).length ≤ 424 := by omega
    have okw := okT_row l
    have hrow : rowT (rowL l) = some l := by
      rw [rowT_L ok.nz hb3, isRow_dRow ok]; rfl
    walk_at "hl"
    refine ⟨l, rfl, l8, ok.nz, hb3, ?_⟩
    walk_at "hl"
    refine ⟨l, rfl, l8, hb3, ?_⟩
    walk_at "hl"
    refine bF (by simp) ?_
    walk_at "hl"
    refine ⟨tS (rowL l), rfl, .inl ⟨rowL l, rfl, by omega, okw, .inl ⟨l, hrow, ?_⟩⟩⟩
    walk_at "hl"
    refine wr_neSelf rfl rfl (shaped_of (shp_dRow (n := 61) _)) ?_
    walk_at "hl"
    refine bF (by first | rfl | simp) ?_
    walk_at "hl"
    refine we_lcP (α := Nat) only1 (wi_rng1 ?_)
    walk_at "hl"
    refine ⟨9, rfl, by decide, by decide, List.range 9, _, fun _ => true, fun k => tS (intL (0 + (k : Int)) ++ [32, 48, 32, 49]), rfl, by simp, rfl, fun _ => trivial, ?_, ?_⟩
    · rintro k Ω' hk -
      have hk := List.mem_range.mp hk
      have k3 : 9 < 10 ^ 300 := by decide +kernel
      have lk := intL_len (i := 0 + (k : Int)) (k := 1) (by decide) (by omega)
      walk_at "hl"
      refine ⟨rfl, rfl, fun _ => ?_⟩
      walk_at "hl"
      refine ⟨0 + (k : Int), rfl, by omega, ?_⟩
      walk_at "hl"
      exact ⟨rfl, rfl⟩
    rw [filter_yes]
    walk_at "hl"
    refine wm_join (l := (List.range 9).map fun (k : Nat) => intL (0 + (k : Int)) ++ [32, 48, 32, 49]) (by show some _ = _; rw [List.map_map]; rfl) (by decide +kernel) ?_
    obtain ⟨n1, n2, n3⟩ := nine_no
    walk_at "hl"
    refine ⟨Ω1.length, p, l, rfl, by simp, ip, ok, hz2, fun x p lx ox nx ip => ?_⟩
    rw [set_last]
    walk_at "hl"
    refine ⟨tS x, rfl, .inl ⟨x, rfl, lx, ox, nx⟩, ?_⟩
    walk_at "hl"
    refine bF rfl ?_
    walk_at "hl"
    refine ⟨tS nineL, rfl, .inl ⟨nineL, rfl, by omega, n2, n3⟩, ?_⟩
    walk_at "hl"
    refine bF rfl ?_
    walk_at "hl"
    refine ⟨Ω1.length, p, rowL l, rfl, by simp, ip, by omega, okw, fun x p lx ox ip => ?_⟩
    rw [set_last]
    walk_at "hl"
    refine ⟨x, rfl, by omega, ox, ?_⟩
    walk_at "hl"
    refine ⟨x, rfl, by omega, ox, ?_⟩
    refine wr_neSelf rfl rfl (shaped_of (shp_dRo _)) ?_
    walk_at "hl"
    refine bF rfl ?_
    walk_at "hl"
    exact ⟨_, _, _, _, _, _, _, rfl, by simp; omega⟩
  · rintro Γ Ω1 ⟨c1, c2, c3, c4, c5, c6, c7, rfl, hz⟩
    walk_at "hl"
    exact dr_same (q _)
theorem sp_len_law {K : KF} (ds : List DV) (Ω : Om) (R : DV → Om → Prop) (X : Exc → Om → Prop) (h : sp_law K ds Ω R X) : ds.length = 1 := by
  unfold sp_law at h
  first
    | (obtain ⟨rfl, _⟩ := h; rfl)
    | (obtain ⟨_, rfl, _⟩ := h; rfl)
    | (obtain ⟨_, _, rfl, _⟩ := h; rfl)
    | (obtain ⟨_, _, _, rfl, _⟩ := h; rfl)
    | (obtain ⟨_, _, _, _, rfl, _⟩ := h; rfl)
    | (obtain ⟨_, _, _, _, _, rfl, _⟩ := h; rfl)
    | (obtain ⟨_, _, _, _, _, _, rfl, _⟩ := h; rfl)
    | (obtain ⟨_, _, _, _, _, _, _, rfl, _⟩ := h; rfl)
    | (obtain ⟨_, _, _, _, _, _, _, _, rfl, _⟩ := h; rfl)
    | (obtain ⟨_, _, _, _, _, _, _, _, _, rfl, _⟩ := h; rfl)
    | (obtain ⟨_, _, _, _, _, _, _, _, _, _, rfl, _⟩ := h; rfl)
    | (obtain ⟨_, _, _, _, _, _, _, _, _, _, _, rfl, _⟩ := h; rfl)
    | (obtain ⟨_, _, _, _, _, _, _, _, _, _, _, _, rfl, _⟩ := h; rfl)
    | (obtain ⟨_, _, _, _, _, _, _, _, _, _, _, _, _, rfl, _⟩ := h; rfl)
    | (obtain ⟨_, _, _, _, _, _, _, _, _, _, _, _, _, rfl, _⟩ := h; rfl)
    | (obtain ⟨_, _, _, _, _, _, _, _, _, _, _, _, _, _, rfl, _⟩ := h; rfl)
    | (obtain ⟨_, _, _, _, _, _, _, _, _, _, _, _, _, _, _, rfl, _⟩ := h; rfl)
    | (obtain ⟨_, _, _, _, _, _, _, _, _, _, _, _, _, _, _, _, rfl, _⟩ := h; rfl)
    | (obtain ⟨_, _, _, _, _, _, _, _, _, _, _, _, _, _, _, _, _, rfl, _⟩ := h; rfl)
    | (obtain ⟨_, _, _, _, _, _, _, _, _, _, _, _, _, _, _, _, _, _, rfl, _⟩ := h; rfl)
    | (obtain ⟨_, _, _, _, _, _, _, _, _, _, _, _, _, _, _, _, _, _, _, rfl, _⟩ := h; rfl)
    | (obtain ⟨_, _, _, _, _, _, _, _, _, _, _, _, _, _, _, _, _, _, _, _, rfl, _⟩ := h; rfl)
    | (obtain ⟨_, _, _, _, _, _, _, _, _, _, _, _, _, _, _, _, _, _, _, _, _, rfl, _⟩ := h; rfl)
end HL
namespace LK
open PySem PySem.Spec PyProof.Rows L2 Evl RZ HL
abbrev N_law_common : List Str := ["one", "other"]
abbrev P_law_common : List Str := ["one", "other"]
theorem sc_law_common : FnScope N_law_common P_law_common (defScope s_law_common) := ⟨rfl, rfl, rfl, by decide +kernel, rfl, by decide +kernel, by decide +kernel⟩
abbrev N_law_low : List Str := ["top", "bottom", "shared"]
abbrev P_law_low : List Str := ["top", "bottom"]
theorem sc_law_low : FnScope N_law_low P_law_low (defScope s_law_low) := ⟨rfl, rfl, rfl, by decide +kernel, rfl, by decide +kernel, by decide +kernel⟩
abbrev N_law_gap : List Str := ["one", "other"]
abbrev P_law_gap : List Str := ["one", "other"]
theorem sc_law_gap : FnScope N_law_gap P_law_gap (defScope s_law_gap) := ⟨rfl, rfl, rfl, by decide +kernel, rfl, by decide +kernel, by decide +kernel⟩
abbrev N_law_next : List Str := ["pool", "base", "digit", "mixed", "stir"]
abbrev P_law_next : List Str := ["pool", "base"]
theorem sc_law_next : FnScope N_law_next P_law_next (defScope s_law_next) := ⟨rfl, rfl, rfl, by decide +kernel, rfl, by decide +kernel, by decide +kernel⟩
abbrev N_law_figures : List Str := ["number", "text", "rest"]
abbrev P_law_figures : List Str := ["number"]
theorem sc_law_figures : FnScope N_law_figures P_law_figures (defScope s_law_figures) := ⟨rfl, rfl, rfl, by decide +kernel, rfl, by decide +kernel, by decide +kernel⟩
abbrev N_law_ratio_text : List Str := ["one"]
abbrev P_law_ratio_text : List Str := ["one"]
theorem sc_law_ratio_text : FnScope N_law_ratio_text P_law_ratio_text (defScope s_law_ratio_text) := ⟨rfl, rfl, rfl, by decide +kernel, rfl, by decide +kernel, by decide +kernel⟩
abbrev N_law_row_text : List Str := ["row", "text", "ball"]
abbrev P_law_row_text : List Str := ["row"]
theorem sc_law_row_text : FnScope N_law_row_text P_law_row_text (defScope s_law_row_text) := ⟨rfl, rfl, rfl, by decide +kernel, rfl, by decide +kernel, by decide +kernel⟩
abbrev N_law_amiss : List Str := ["row", "pool", "text", "place", "speed", "some", "lower", "word"]
abbrev P_law_amiss : List Str := ["row", "pool"]
theorem sc_law_amiss : FnScope N_law_amiss P_law_amiss (defScope s_law_amiss) := ⟨rfl, rfl, rfl, by decide +kernel, rfl, by decide +kernel, by decide +kernel⟩
abbrev N_law_bent : List Str := ["text", "pool", "at", "sign"]
abbrev P_law_bent : List Str := ["text", "pool"]
theorem sc_law_bent : FnScope N_law_bent P_law_bent (defScope s_law_bent) := ⟨rfl, rfl, rfl, by decide +kernel, rfl, by decide +kernel, by decide +kernel⟩
abbrev N_law_pool : List Str := ["cell"]
abbrev P_law_pool : List Str := ["cell"]
theorem sc_law_pool : FnScope N_law_pool P_law_pool (defScope s_law_pool) := ⟨rfl, rfl, rfl, by decide +kernel, rfl, by decide +kernel, by decide +kernel⟩
abbrev N_law_below : List Str := ["one", "other"]
abbrev P_law_below : List Str := ["one", "other"]
theorem sc_law_below : FnScope N_law_below P_law_below (defScope s_law_below) := ⟨rfl, rfl, rfl, by decide +kernel, rfl, by decide +kernel, by decide +kernel⟩
abbrev N_law_value : List Str := ["text", "found", "sign"]
abbrev P_law_value : List Str := ["text"]
theorem sc_law_value : FnScope N_law_value P_law_value (defScope s_law_value) := ⟨rfl, rfl, rfl, by decide +kernel, rfl, by decide +kernel, by decide +kernel⟩
abbrev N_law_read : List Str := ["text", "parts", "dash", "top", "bottom"]
abbrev P_law_read : List Str := ["text"]
theorem sc_law_read : FnScope N_law_read P_law_read (defScope s_law_read) := ⟨rfl, rfl, rfl, by decide +kernel, rfl, by decide +kernel, by decide +kernel⟩
abbrev N_law_read_row : List Str := ["text", "row", "part", "words", "ball"]
abbrev P_law_read_row : List Str := ["text"]
theorem sc_law_read_row : FnScope N_law_read_row P_law_read_row (defScope s_law_read_row) := ⟨rfl, rfl, rfl, by decide +kernel, rfl, by decide +kernel, by decide +kernel⟩
abbrev N_are_figures : List Str := ["text", "most", "sign"]
abbrev P_are_figures : List Str := ["text", "most"]
theorem sc_are_figures : FnScope N_are_figures P_are_figures (defScope s_are_figures) := ⟨rfl, rfl, rfl, by decide +kernel, rfl, by decide +kernel, by decide +kernel⟩
abbrev N_number_in : List Str := ["text", "most"]
abbrev P_number_in : List Str := ["text", "most"]
theorem sc_number_in : FnScope N_number_in P_number_in (defScope s_number_in) := ⟨rfl, rfl, rfl, by decide +kernel, rfl, by decide +kernel, by decide +kernel⟩
abbrev N_divisor_of : List Str := ["one", "other"]
abbrev P_divisor_of : List Str := ["one", "other"]
theorem sc_divisor_of : FnScope N_divisor_of P_divisor_of (defScope s_divisor_of) := ⟨rfl, rfl, rfl, by decide +kernel, rfl, by decide +kernel, by decide +kernel⟩
abbrev N_is_whole : List Str := ["thing"]
abbrev P_is_whole : List Str := ["thing"]
theorem sc_is_whole : FnScope N_is_whole P_is_whole (defScope s_is_whole) := ⟨rfl, rfl, rfl, by decide +kernel, rfl, by decide +kernel, by decide +kernel⟩
abbrev N_is_ratio : List Str := ["thing"]
abbrev P_is_ratio : List Str := ["thing"]
theorem sc_is_ratio : FnScope N_is_ratio P_is_ratio (defScope s_is_ratio) := ⟨rfl, rfl, rfl, by decide +kernel, rfl, by decide +kernel, by decide +kernel⟩
abbrev N_look_at_text : List Str := ["thing"]
abbrev P_look_at_text : List Str := ["thing"]
theorem sc_look_at_text : FnScope N_look_at_text P_look_at_text (defScope s_look_at_text) := ⟨rfl, rfl, rfl, by decide +kernel, rfl, by decide +kernel, by decide +kernel⟩
abbrev N_ratio_text : List Str := ["one"]
abbrev P_ratio_text : List Str := ["one"]
theorem sc_ratio_text : FnScope N_ratio_text P_ratio_text (defScope s_ratio_text) := ⟨rfl, rfl, rfl, by decide +kernel, rfl, by decide +kernel, by decide +kernel⟩
abbrev N_read_ratio : List Str := ["thing", "parts", "sign", "top", "bottom", "one"]
abbrev P_read_ratio : List Str := ["thing"]
theorem sc_read_ratio : FnScope N_read_ratio P_read_ratio (defScope s_read_ratio) := ⟨rfl, rfl, rfl, by decide +kernel, rfl, by decide +kernel, by decide +kernel⟩
abbrev N_ball_in : List Str := ["text", "words"]
abbrev P_ball_in : List Str := ["text"]
theorem sc_ball_in : FnScope N_ball_in P_ball_in (defScope s_ball_in) := ⟨rfl, rfl, rfl, by decide +kernel, rfl, by decide +kernel, by decide +kernel⟩
abbrev N_is_tuple_of : List Str := ["thing", "many"]
abbrev P_is_tuple_of : List Str := ["thing", "many"]
theorem sc_is_tuple_of : FnScope N_is_tuple_of P_is_tuple_of (defScope s_is_tuple_of) := ⟨rfl, rfl, rfl, by decide +kernel, rfl, by decide +kernel, by decide +kernel⟩
abbrev N_is_ball : List Str := ["thing"]
abbrev P_is_ball : List Str := ["thing"]
theorem sc_is_ball : FnScope N_is_ball P_is_ball (defScope s_is_ball) := ⟨rfl, rfl, rfl, by decide +kernel, rfl, by decide +kernel, by decide +kernel⟩
abbrev N_less : List Str := ["one", "other"]
abbrev P_less : List Str := ["one", "other"]
theorem sc_less : FnScope N_less P_less (defScope s_less) := ⟨rfl, rfl, rfl, by decide +kernel, rfl, by decide +kernel, by decide +kernel⟩
abbrev N_may_stand : List Str := ["left", "right"]
abbrev P_may_stand : List Str := ["left", "right"]
theorem sc_may_stand : FnScope N_may_stand P_may_stand (defScope s_may_stand) := ⟨rfl, rfl, rfl, by decide +kernel, rfl, by decide +kernel, by decide +kernel⟩
abbrev N_is_within : List Str := ["left", "right"]
abbrev P_is_within : List Str := ["left", "right"]
theorem sc_is_within : FnScope N_is_within P_is_within (defScope s_is_within) := ⟨rfl, rfl, rfl, by decide +kernel, rfl, by decide +kernel, by decide +kernel⟩
abbrev N_is_row : List Str := ["walls", "thing", "ball", "left", "right"]
abbrev P_is_row : List Str := ["walls", "thing"]
theorem sc_is_row : FnScope N_is_row P_is_row (defScope s_is_row) := ⟨rfl, rfl, rfl, by decide +kernel, rfl, by decide +kernel, by decide +kernel⟩
abbrev N_read_row : List Str := ["thing", "row", "part"]
abbrev P_read_row : List Str := ["thing"]
theorem sc_read_row : FnScope N_read_row P_read_row (defScope s_read_row) := ⟨rfl, rfl, rfl, by decide +kernel, rfl, by decide +kernel, by decide +kernel⟩
abbrev N_law_refused : List Str := ["thing", "signs"]
abbrev P_law_refused : List Str := ["thing"]
theorem sc_law_refused : FnScope N_law_refused P_law_refused (defScope s_law_refused) := ⟨rfl, rfl, rfl, by decide +kernel, rfl, by decide +kernel, by decide +kernel⟩
abbrev N_law_small : List Str := ["pool"]
abbrev P_law_small : List Str := ["pool"]
theorem sc_law_small : FnScope N_law_small P_law_small (defScope s_law_small) := ⟨rfl, rfl, rfl, by decide +kernel, rfl, by decide +kernel, by decide +kernel⟩
abbrev N_law_sum : List Str := ["one", "other"]
abbrev P_law_sum : List Str := ["one", "other"]
theorem sc_law_sum : FnScope N_law_sum P_law_sum (defScope s_law_sum) := ⟨rfl, rfl, rfl, by decide +kernel, rfl, by decide +kernel, by decide +kernel⟩
abbrev N_law_weight : List Str := ["pool"]
abbrev P_law_weight : List Str := ["pool"]
theorem sc_law_weight : FnScope N_law_weight P_law_weight (defScope s_law_weight) := ⟨rfl, rfl, rfl, by decide +kernel, rfl, by decide +kernel, by decide +kernel⟩
abbrev N_law_row : List Str := ["pool", "most", "place", "even", "weight", "some", "k", "speed", "far"]
abbrev P_law_row : List Str := ["pool", "most"]
theorem sc_law_row : FnScope N_law_row P_law_row (defScope s_law_row) := ⟨rfl, rfl, rfl, by decide +kernel, rfl, by decide +kernel, by decide +kernel⟩
abbrev N_law_told : List Str := ["text", "found"]
abbrev P_law_told : List Str := ["text"]
theorem sc_law_told : FnScope N_law_told P_law_told (defScope s_law_told) := ⟨rfl, rfl, rfl, by decide +kernel, rfl, by decide +kernel, by decide +kernel⟩
abbrev N_row_text : List Str := ["row", "place", "speed", "weight"]
abbrev P_row_text : List Str := ["row"]
theorem sc_row_text : FnScope N_row_text P_row_text (defScope s_row_text) := ⟨rfl, rfl, rfl, by decide +kernel, rfl, by decide +kernel, by decide +kernel⟩
abbrev N_law : List Str := ["script", "cell", "pool", "row", "text", "most", "bent", "k"]
abbrev P_law : List Str := ["script"]
theorem sc_law : FnScope N_law P_law (defScope s_law) := ⟨rfl, rfl, rfl, by decide +kernel, rfl, by decide +kernel, by decide +kernel⟩
structure Txt (K : KF) (mg : Str → Option Value) : Prop where
  F_law_common : FD K "_law_common" s_law_common []
  m_law_common : mg "_law_common" = some (.ref (fA K "_law_common"))
  F_law_low : FD K "_law_low" s_law_low []
  m_law_low : mg "_law_low" = some (.ref (fA K "_law_low"))
  F_law_gap : FD K "_law_gap" s_law_gap []
  m_law_gap : mg "_law_gap" = some (.ref (fA K "_law_gap"))
  F_law_next : FD K "_law_next" s_law_next []
  m_law_next : mg "_law_next" = some (.ref (fA K "_law_next"))
  F_law_figures : FD K "_law_figures" s_law_figures []
  m_law_figures : mg "_law_figures" = some (.ref (fA K "_law_figures"))
  F_law_ratio_text : FD K "_law_ratio_text" s_law_ratio_text []
  m_law_ratio_text : mg "_law_ratio_text" = some (.ref (fA K "_law_ratio_text"))
  F_law_row_text : FD K "_law_row_text" s_law_row_text []
  m_law_row_text : mg "_law_row_text" = some (.ref (fA K "_law_row_text"))
  F_law_amiss : FD K "_law_amiss" s_law_amiss []
  m_law_amiss : mg "_law_amiss" = some (.ref (fA K "_law_amiss"))
  F_law_bent : FD K "_law_bent" s_law_bent []
  m_law_bent : mg "_law_bent" = some (.ref (fA K "_law_bent"))
  F_law_pool : FD K "_law_pool" s_law_pool []
  m_law_pool : mg "_law_pool" = some (.ref (fA K "_law_pool"))
  F_law_below : FD K "_law_below" s_law_below []
  m_law_below : mg "_law_below" = some (.ref (fA K "_law_below"))
  F_law_value : FD K "_law_value" s_law_value []
  m_law_value : mg "_law_value" = some (.ref (fA K "_law_value"))
  F_law_read : FD K "_law_read" s_law_read []
  m_law_read : mg "_law_read" = some (.ref (fA K "_law_read"))
  F_law_read_row : FD K "_law_read_row" s_law_read_row []
  m_law_read_row : mg "_law_read_row" = some (.ref (fA K "_law_read_row"))
  F_are_figures : FD K "are_figures" s_are_figures []
  m_are_figures : mg "are_figures" = some (.ref (fA K "are_figures"))
  F_number_in : FD K "number_in" s_number_in []
  m_number_in : mg "number_in" = some (.ref (fA K "number_in"))
  F_divisor_of : FD K "divisor_of" s_divisor_of []
  m_divisor_of : mg "divisor_of" = some (.ref (fA K "divisor_of"))
  F_is_whole : FD K "is_whole" s_is_whole []
  m_is_whole : mg "is_whole" = some (.ref (fA K "is_whole"))
  F_is_ratio : FD K "is_ratio" s_is_ratio []
  m_is_ratio : mg "is_ratio" = some (.ref (fA K "is_ratio"))
  F_look_at_text : FD K "look_at_text" s_look_at_text []
  m_look_at_text : mg "look_at_text" = some (.ref (fA K "look_at_text"))
  F_ratio_text : FD K "ratio_text" s_ratio_text []
  m_ratio_text : mg "ratio_text" = some (.ref (fA K "ratio_text"))
  F_read_ratio : FD K "read_ratio" s_read_ratio []
  m_read_ratio : mg "read_ratio" = some (.ref (fA K "read_ratio"))
  F_ball_in : FD K "ball_in" s_ball_in []
  m_ball_in : mg "ball_in" = some (.ref (fA K "ball_in"))
  F_is_tuple_of : FD K "is_tuple_of" s_is_tuple_of []
  m_is_tuple_of : mg "is_tuple_of" = some (.ref (fA K "is_tuple_of"))
  F_is_ball : FD K "is_ball" s_is_ball []
  m_is_ball : mg "is_ball" = some (.ref (fA K "is_ball"))
  F_less : FD K "less" s_less []
  m_less : mg "less" = some (.ref (fA K "less"))
  F_may_stand : FD K "may_stand" s_may_stand []
  m_may_stand : mg "may_stand" = some (.ref (fA K "may_stand"))
  F_is_within : FD K "is_within" s_is_within []
  m_is_within : mg "is_within" = some (.ref (fA K "is_within"))
  F_is_row : FD K "is_row" s_is_row []
  m_is_row : mg "is_row" = some (.ref (fA K "is_row"))
  F_read_row : FD K "read_row" s_read_row []
  m_read_row : mg "read_row" = some (.ref (fA K "read_row"))
  F_law_refused : FD K "_law_refused" s_law_refused []
  m_law_refused : mg "_law_refused" = some (.ref (fA K "_law_refused"))
  F_law_small : FD K "_law_small" s_law_small []
  m_law_small : mg "_law_small" = some (.ref (fA K "_law_small"))
  F_law_sum : FD K "_law_sum" s_law_sum []
  m_law_sum : mg "_law_sum" = some (.ref (fA K "_law_sum"))
  F_law_weight : FD K "_law_weight" s_law_weight []
  m_law_weight : mg "_law_weight" = some (.ref (fA K "_law_weight"))
  F_law_row : FD K "_law_row" s_law_row []
  m_law_row : mg "_law_row" = some (.ref (fA K "_law_row"))
  F_law_told : FD K "_law_told" s_law_told []
  m_law_told : mg "_law_told" = some (.ref (fA K "_law_told"))
  F_row_text : FD K "row_text" s_row_text []
  m_row_text : mg "row_text" = some (.ref (fA K "row_text"))
  F_law : FD K "law" s_law []
  m_law : mg "law" = some (.ref (fA K "law"))
  z_abs : mg "abs" = none
  z_all : mg "all" = none
  z_bool : mg "bool" = none
  z_int : mg "int" = none
  z_isinstance : mg "isinstance" = none
  z_len : mg "len" = none
  z_max : mg "max" = none
  z_range : mg "range" = none
  z_str : mg "str" = none
  z_tuple : mg "tuple" = none
  z_zip : mg "zip" = none
  g_FIGURES : ∃ t, mg "FIGURES" = some (.str "0123456789" t)
  g_GREATEST : ∃ t, mg "GREATEST" = some (.int (1000) t)
  g_HIGH : ∃ t, mg "HIGH" = some (.int (1) t)
  g_LOW : ∃ t, mg "LOW" = some (.int (0) t)
  g_MOST_BALLS : ∃ t, mg "MOST_BALLS" = some (.int (8) t)
  g_MOST_FIGURES : ∃ t, mg "MOST_FIGURES" = some (.int (300) t)
  g_NO_WALLS : mg "NO_WALLS" = some (.ref (He.ga K "NO_WALLS"))
  q_NO_WALLS : He.tupB K "NO_WALLS" [.non, .non] = true
  g_PLACE : ∃ t, mg "PLACE" = some (.int (0) t)
  g_SPEED : ∃ t, mg "SPEED" = some (.int (1) t)
  g_WEIGHT : ∃ t, mg "WEIGHT" = some (.int (2) t)
  em_NoText_NoText : EM K "NoText" "NoText" true
  xc_NoText : XC K mg "NoText"
section
variable {P : Program} {w : World} {K : KF} {mg : Str → Option Value} {base : Heap}
theorem bd_law_common (T : Txt K mg) : Binds K (fdK K ("_law_common", none)) P_law_common [] := T.F_law_common.bindsN fun _ _ _ _ _ _ us hl => match us, hl with | [_, _], _ => rfl
set_option maxHeartbeats 4000000 in
theorem ok_law_common (T : Txt K mg) : FnOk P w K mg base (L2.CX P w) 1 (fA K "_law_common") (fdK K ("_law_common", none)) P_law_common (FS K (sp_law_common K)) := by
  refine T.F_law_common.ok sc_law_common (fun vs H Q E h => fs_len h sp_len_law_common) (fun cdv A outer s H vs Q E hr h => ⟨t_law_common K (fun c d _ H' => E c d H'), ?_, fs_run h (w_law_common  _)⟩)
  exact (pss_cons (ps_while (passes_of rfl) (pt_cmpR (op_neD hr.units) (pv 1) pe_int (nomark _)) (pss_one (ps_par rfl sc_law_common.nd (i := 0) (j := 1) rfl rfl (by decide) rfl rfl (pa_cons (pv 1) (pa_cons (pe_op op_mod' (pv 0) (pv 1)) pa_nil)) (by rfl))))
      (pss_one (ps_ret (pv 0))))
theorem bd_law_low (T : Txt K mg) : Binds K (fdK K ("_law_low", none)) P_law_low [] := T.F_law_low.bindsN fun _ _ _ _ _ _ us hl => match us, hl with | [_, _], _ => rfl
set_option maxHeartbeats 4000000 in
theorem ok_law_low (T : Txt K mg) : FnOk P w K mg base (L2.CX P w) 2 (fA K "_law_low") (fdK K ("_law_low", none)) P_law_low (FS K (sp_law_low K)) := by
  refine T.F_law_low.ok sc_law_low (fun vs H Q E h => fs_len h sp_len_law_low) (fun cdv A outer s H vs Q E hr h => ⟨t_law_low K (fun c d _ H' => E c d H'), ?_, fs_run h (w_law_low  _)⟩)
  exact (pss_cons (ps_if (pt_cmpR op_lt' (pv 1) pe_int (nomark _)) (pss_cons (ps_set (i := 0) sc_law_low.nd rfl (Or.inl rfl) (pe_op op_sub' pe_int (pv 0)))
      (pss_one (ps_set (i := 1) sc_law_low.nd rfl (Or.inl rfl) (pe_op op_sub' pe_int (pv 1))))) pss_nil)
      (pss_cons (ps_set (i := 2) sc_law_low.nd rfl (Or.inl rfl) (pe_call (ok_law_common T) (hr.mono (by decide)) rfl T.m_law_common T.F_law_common.kp (bd_law_common T) .nil passL (pa_cons (pe_callB call_abs' rfl T.z_abs (by decide +kernel) (pa_cons (pv 0) pa_nil)) (pa_cons (pv 1) pa_nil))))
      (pss_one (ps_ret (pe_tup (pa_cons (pe_op op_fdiv' (pv 0) (pv 2)) (pa_cons (pe_op op_fdiv' (pv 1) (pv 2)) pa_nil)))))))
theorem bd_law_gap (T : Txt K mg) : Binds K (fdK K ("_law_gap", none)) P_law_gap [] := T.F_law_gap.bindsN fun _ _ _ _ _ _ us hl => match us, hl with | [_, _], _ => rfl
set_option maxHeartbeats 4000000 in
theorem ok_law_gap (T : Txt K mg) : FnOk P w K mg base (L2.CX P w) 3 (fA K "_law_gap") (fdK K ("_law_gap", none)) P_law_gap (FS K (sp_law_gap K)) := by
  refine T.F_law_gap.ok sc_law_gap (fun vs H Q E h => fs_len h sp_len_law_gap) (fun cdv A outer s H vs Q E hr h => ⟨t_law_gap K (fun c d _ H' => E c d H'), ?_, fs_run h (w_law_gap  _)⟩)
  exact (pss_one (ps_ret (pe_call (ok_law_low T) (hr.mono (by decide)) rfl T.m_law_low T.F_law_low.kp (bd_law_low T) .nil passL (pa_cons (pe_op op_sub' (pe_op op_mul' (pe_ix ix_seq (pv 0) pe_int (fun _ _ => rfl)) (pe_ix ix_seq (pv 1) pe_int (fun _ _ => rfl))) (pe_op op_mul' (pe_ix ix_seq (pv 1) pe_int (fun _ _ => rfl)) (pe_ix ix_seq (pv 0) pe_int (fun _ _ => rfl)))) (pa_cons (pe_op op_mul' (pe_ix ix_seq (pv 0) pe_int (fun _ _ => rfl)) (pe_ix ix_seq (pv 1) pe_int (fun _ _ => rfl))) pa_nil)))))
theorem bd_law_next (T : Txt K mg) : Binds K (fdK K ("_law_next", none)) P_law_next [] := T.F_law_next.bindsN fun _ _ _ _ _ _ us hl => match us, hl with | [_, _], _ => rfl
set_option maxHeartbeats 4000000 in
theorem ok_law_next (T : Txt K mg) : FnOk P w K mg base (L2.CX P w) 1 (fA K "_law_next") (fdK K ("_law_next", none)) P_law_next (FS K (sp_law_next K)) := by
  refine T.F_law_next.ok sc_law_next (fun vs H Q E h => fs_len h sp_len_law_next) (fun cdv A outer s H vs Q E hr h => ⟨t_law_next K (fun c d _ H' => E c d H'), ?_, fs_run h (w_law_next  _)⟩)
  exact (pss_cons (ps_if (pt_cmpR op_gt' (pe_ix ix_seq (pv 0) pe_int (fun _ _ => rfl)) pe_int (nomark _)) (pss_cons (ps_set (i := 2) sc_law_next.nd rfl (Or.inl rfl) (pe_op op_mod' (pe_ix ix_seq (pv 0) pe_int (fun _ _ => rfl)) (pv 1)))
      (pss_cons (ps_asg (pe_op op_fdiv' (pe_ix ix_seq (pv 0) pe_int (fun _ _ => rfl)) (pv 1)) (pg_sub (pv 0) pe_int set_list))
      (pss_one (ps_ret (pv 2))))) pss_nil)
      (pss_cons (ps_asg (pe_op op_addX (pe_ix ix_seq (pv 0) pe_int (fun _ _ => rfl)) pe_int) (pg_sub (pv 0) pe_int set_list))
      (pss_cons (ps_set (i := 3) sc_law_next.nd rfl (Or.inl rfl) (pe_op op_mod' (pe_op op_addX (pe_ix ix_seq (pv 0) pe_int (fun _ _ => rfl)) (pe_op op_mul' pe_int (pe_ix ix_seq (pv 0) pe_int (fun _ _ => rfl)))) pe_int))
      (pss_cons (ps_set (i := 4) sc_law_next.nd rfl (Or.inl rfl) (pe_op op_mod' (pe_op op_mul' (pe_op op_addX (pv 3) pe_int) (pe_op op_addX (pv 3) pe_int)) pe_int))
      (pss_one (ps_ret (pe_op op_mod' (pe_op op_fdiv' (pe_op op_mod' (pe_op op_mul' (pv 4) (pv 4)) pe_int) pe_int) (pv 1))))))))
theorem bd_law_figures (T : Txt K mg) : Binds K (fdK K ("_law_figures", none)) P_law_figures [] := T.F_law_figures.bindsN fun _ _ _ _ _ _ us hl => match us, hl with | [_], _ => rfl
set_option maxHeartbeats 4000000 in
theorem ok_law_figures (T : Txt K mg) : FnOk P w K mg base (L2.CX P w) 1 (fA K "_law_figures") (fdK K ("_law_figures", none)) P_law_figures (FS K (sp_law_figures K)) := by
  refine T.F_law_figures.ok sc_law_figures (fun vs H Q E h => fs_len h sp_len_law_figures) (fun cdv A outer s H vs Q E hr h => ⟨t_law_figures K (fun c d _ H' => E c d H'), ?_, fs_run h (w_law_figures  _)⟩)
  exact (pss_cons (ps_set (i := 1) sc_law_figures.nd rfl (Or.inl rfl) pe_str)
      (pss_cons (ps_set (i := 2) sc_law_figures.nd rfl (Or.inl rfl) (pe_callB call_abs' rfl T.z_abs (by decide +kernel) (pa_cons (pv 0) pa_nil)))
      (pss_cons (ps_while (passes_of rfl) (pt_cmpR op_gt' (pv 2) pe_int (nomark _)) (pss_cons (ps_set (i := 1) sc_law_figures.nd rfl (Or.inl rfl) (pe_op op_addX (pe_ix ix_seq pe_str (pe_op op_mod' (pv 2) pe_int) (fun _ _ => rfl)) (pv 1)))
      (pss_one (ps_set (i := 2) sc_law_figures.nd rfl (Or.inl rfl) (pe_op op_fdiv' (pv 2) pe_int)))))
      (pss_one (ps_ret (pe_op op_addX (pe_ix ix_seq (pe_lst (pa_cons pe_str (pa_cons pe_str pa_nil))) (pe_callTy call_int' rfl T.z_int (by decide +kernel) (pa_cons (pe_cmpR op_lt' (pv 0) pe_int (nomark _)) pa_nil)) (fun _ _ => rfl)) (pe_ix ix_seq (pe_lst (pa_cons pe_str (pa_cons (pv 1) pa_nil))) (pe_callTy call_int' rfl T.z_int (by decide +kernel) (pa_cons (pe_cmpR (op_neD hr.units) (pv 0) pe_int (nomark _)) pa_nil)) (fun _ _ => rfl))))))))
theorem bd_law_ratio_text (T : Txt K mg) : Binds K (fdK K ("_law_ratio_text", none)) P_law_ratio_text [] := T.F_law_ratio_text.bindsN fun _ _ _ _ _ _ us hl => match us, hl with | [_], _ => rfl
set_option maxHeartbeats 4000000 in
theorem ok_law_ratio_text (T : Txt K mg) : FnOk P w K mg base (L2.CX P w) 2 (fA K "_law_ratio_text") (fdK K ("_law_ratio_text", none)) P_law_ratio_text (FS K (sp_law_ratio_text K)) := by
  refine T.F_law_ratio_text.ok sc_law_ratio_text (fun vs H Q E h => fs_len h sp_len_law_ratio_text) (fun cdv A outer s H vs Q E hr h => ⟨t_law_ratio_text K (fun c d _ H' => E c d H'), ?_, fs_run h (w_law_ratio_text  _)⟩)
  exact (pss_cons (ps_if (pt_cmpR (op_eqD hr.units) (pe_ix ix_seq (pv 0) pe_int (fun _ _ => rfl)) pe_int (nomark _)) (pss_one (ps_ret (pe_call (ok_law_figures T) (hr.mono (by decide)) rfl T.m_law_figures T.F_law_figures.kp (bd_law_figures T) .nil passL (pa_cons (pe_ix ix_seq (pv 0) pe_int (fun _ _ => rfl)) pa_nil)))) pss_nil)
      (pss_one (ps_ret (pe_op op_addX (pe_op op_addX (pe_call (ok_law_figures T) (hr.mono (by decide)) rfl T.m_law_figures T.F_law_figures.kp (bd_law_figures T) .nil passL (pa_cons (pe_ix ix_seq (pv 0) pe_int (fun _ _ => rfl)) pa_nil)) pe_str) (pe_call (ok_law_figures T) (hr.mono (by decide)) rfl T.m_law_figures T.F_law_figures.kp (bd_law_figures T) .nil passL (pa_cons (pe_ix ix_seq (pv 0) pe_int (fun _ _ => rfl)) pa_nil))))))
theorem bd_law_row_text (T : Txt K mg) : Binds K (fdK K ("_law_row_text", none)) P_law_row_text [] := T.F_law_row_text.bindsN fun _ _ _ _ _ _ us hl => match us, hl with | [_], _ => rfl
set_option maxHeartbeats 4000000 in
theorem ok_law_row_text (T : Txt K mg) : FnOk P w K mg base (L2.CX P w) 3 (fA K "_law_row_text") (fdK K ("_law_row_text", none)) P_law_row_text (FS K (sp_law_row_text K)) := by
  refine T.F_law_row_text.ok sc_law_row_text (fun vs H Q E h => fs_len h sp_len_law_row_text) (fun cdv A outer s H vs Q E hr h => ⟨t_law_row_text K (fun c d _ H' => E c d H'), ?_, fs_run h (w_law_row_text  _)⟩)
  exact (pss_cons (ps_set (i := 1) sc_law_row_text.nd rfl (Or.inl rfl) pe_str)
      (pss_cons (ps_for (passes_of rfl) rfl (pi_seq (pv 0)) (pg_name (i := 2) sc_law_row_text.nd rfl (Or.inl rfl)) (pss_cons (ps_set (i := 1) sc_law_row_text.nd rfl (Or.inl rfl) (pe_op op_addX (pe_op op_addX (pe_op op_addX (pv 1) pe_str) (pe_call (ok_law_ratio_text T) (hr.mono (by decide)) rfl T.m_law_ratio_text T.F_law_ratio_text.kp (bd_law_ratio_text T) .nil passL (pa_cons (pe_ix ix_seq (pv 2) pe_int (fun _ _ => rfl)) pa_nil))) pe_str))
      (pss_one (ps_set (i := 1) sc_law_row_text.nd rfl (Or.inl rfl) (pe_op op_addX (pe_op op_addX (pe_op op_addX (pv 1) (pe_call (ok_law_ratio_text T) (hr.mono (by decide)) rfl T.m_law_ratio_text T.F_law_ratio_text.kp (bd_law_ratio_text T) .nil passL (pa_cons (pe_ix ix_seq (pv 2) pe_int (fun _ _ => rfl)) pa_nil))) pe_str) (pe_call (ok_law_figures T) (hr.mono (by decide)) rfl T.m_law_figures T.F_law_figures.kp (bd_law_figures T) .nil passL (pa_cons (pe_ix ix_seq (pv 2) pe_int (fun _ _ => rfl)) pa_nil)))))))
      (pss_one (ps_ret (pe_slice C8.sl_txt (pv 1) (po_some pe_int) po_none)))))
theorem bd_law_amiss (T : Txt K mg) : Binds K (fdK K ("_law_amiss", none)) P_law_amiss [] := T.F_law_amiss.bindsN fun _ _ _ _ _ _ us hl => match us, hl with | [_, _], _ => rfl
set_option maxHeartbeats 4000000 in
theorem ok_law_amiss (T : Txt K mg) : FnOk P w K mg base (L2.CX P w) 4 (fA K "_law_amiss") (fdK K ("_law_amiss", none)) P_law_amiss (FS K (sp_law_amiss K)) := by
  refine T.F_law_amiss.ok sc_law_amiss (fun vs H Q E h => fs_len h sp_len_law_amiss) (fun cdv A outer s H vs Q E hr h => ⟨t_law_amiss K (fun c d _ H' => E c d H'), ?_, fs_run h (w_law_amiss  _)⟩)
  exact (pss_cons (ps_set (i := 2) sc_law_amiss.nd rfl (Or.inr rfl) (pe_call (ok_law_row_text T) (hr.mono (by decide)) rfl T.m_law_row_text T.F_law_row_text.kp (bd_law_row_text T) .nil passL (pa_cons (pv 0) pa_nil)))
      (pss_cons (ps_set (i := 3) sc_law_amiss.nd rfl (Or.inl rfl) (pe_call (ok_law_ratio_text T) (hr.mono (by decide)) rfl T.m_law_ratio_text T.F_law_ratio_text.kp (bd_law_ratio_text T) .nil passL (pa_cons (pe_ix ix_seq (pe_ix ix_seq (pv 0) (pe_un un_neg' pe_int) (fun _ _ => rfl)) pe_int (fun _ _ => rfl)) pa_nil)))
      (pss_cons (ps_set (i := 4) sc_law_amiss.nd rfl (Or.inl rfl) (pe_call (ok_law_ratio_text T) (hr.mono (by decide)) rfl T.m_law_ratio_text T.F_law_ratio_text.kp (bd_law_ratio_text T) .nil passL (pa_cons (pe_ix ix_seq (pe_ix ix_seq (pv 0) (pe_un un_neg' pe_int) (fun _ _ => rfl)) pe_int (fun _ _ => rfl)) pa_nil)))
      (pss_cons (ps_set (i := 5) sc_law_amiss.nd rfl (Or.inl rfl) (pe_lst (pa_u (peu_op op_addX (pv 2) peu_str) (pat_cons (CwR.PET.of (pe_op op_addX pe_str (pv 2))) (pat_cons (CwR.PET.of (pe_op op_addX (pv 2) pe_str)) (pat_cons (CwR.PET.of (pe_op op_addX (pv 2) pe_str)) (pat_cons (CwR.PET.of pe_str) (pat_cons (CwR.PET.of (pe_op op_addX pe_str (pv 2))) (pat_cons (pet_replO (pv 2)) (pat_cons (CwR.PET.of (pe_op op_addX (pv 2) pe_str)) pat_nil))))))))))
      (pss_cons (ps_set (i := 5) sc_law_amiss.nd rfl (Or.inl rfl) (pe_op op_addX (pv 5) (pe_lst (pa_cons (pe_op op_addX (pe_op op_addX (pv 2) pe_str) (pe_call (ok_law_row_text T) (hr.mono (by decide)) rfl T.m_law_row_text T.F_law_row_text.kp (bd_law_row_text T) .nil passL (pa_cons (pe_slice sl_seq (pv 0) (po_some (pe_un un_neg' pe_int)) po_none) pa_nil))) (pa_cons (pe_op op_addX (pe_op op_addX (pe_op op_addX (pe_op op_addX (pv 2) pe_str) (pv 3)) pe_str) (pv 4)) (pa_cons (pe_op op_addX (pv 2) pe_str) (pa_cons pe_str pa_nil)))))))
      (pss_cons (ps_set (i := 6) sc_law_amiss.nd rfl (Or.inl rfl) (pe_call (ok_law_ratio_text T) (hr.mono (by decide)) rfl T.m_law_ratio_text T.F_law_ratio_text.kp (bd_law_ratio_text T) .nil passL (pa_cons (pe_call (ok_law_gap T) (hr.mono (by decide)) rfl T.m_law_gap T.F_law_gap.kp (bd_law_gap T) .nil passL (pa_cons (pe_ix ix_seq (pe_ix ix_seq (pv 0) (pe_un un_neg' pe_int) (fun _ _ => rfl)) pe_int (fun _ _ => rfl)) (pa_cons (pe_tup (pa_cons pe_int (pa_cons pe_int pa_nil))) pa_nil))) pa_nil)))
      (pss_cons (ps_set (i := 5) sc_law_amiss.nd rfl (Or.inl rfl) (pe_op op_addX (pv 5) (pe_lst (pa_u (peu_op op_addX (pe_op op_addX (pe_op op_addX (pv 2) pe_str) (pv 6)) peu_str) (pat_cons (pet_replO (pv 2)) (pat_cons (CwR.PET.of (pe_op op_addX (pv 2) pe_str)) (pat_cons (CwR.PET.of (pe_op op_addX pe_str (pv 2))) pat_nil)))))))
      (pss_cons (ps_set (i := 5) sc_law_amiss.nd rfl (Or.inl rfl) (pe_op op_addX (pv 5) (pe_lc (own := [("word", 7)]) (g := (gName 7)) (tt := tYes) rfl sc_law_amiss.nd (pi_seq (pe_lst (pa_cons pe_str (pa_cons pe_str (pa_cons pe_str (pa_cons pe_str (pa_cons pe_str (pa_cons pe_str pa_nil)))))))) (blkOk_by (N := N_law_amiss) (sc := defScope s_law_amiss) (by decide +kernel)) (fun _ _ _ _ _ => (pg_name (i := 7) sc_law_amiss.nd rfl (Or.inl rfl))) (fun _ _ _ _ _ => pts_nil) (fun _ _ _ _ _ => (pe_op op_addX (pe_op op_addX (pv 2) pe_str) (pv 7))))))
      (pss_one (ps_ret (pe_ix ix_seq (pv 5) (pe_call (ok_law_next T) (hr.mono (by decide)) rfl T.m_law_next T.F_law_next.kp (bd_law_next T) .nil passL (pa_cons (pv 1) (pa_cons (pe_callB call_len' rfl T.z_len (by decide +kernel) (pa_cons (pv 5) pa_nil)) pa_nil))) (fun _ _ => rfl))))))))))))
theorem bd_law_bent (T : Txt K mg) : Binds K (fdK K ("_law_bent", none)) P_law_bent [] := T.F_law_bent.bindsN fun _ _ _ _ _ _ us hl => match us, hl with | [_, _], _ => rfl
set_option maxHeartbeats 4000000 in
theorem ok_law_bent (T : Txt K mg) : FnOk P w K mg base (L2.CX P w) 2 (fA K "_law_bent") (fdK K ("_law_bent", none)) P_law_bent (FS K (sp_law_bent K)) := by
  refine T.F_law_bent.ok sc_law_bent (fun vs H Q E h => fs_len h sp_len_law_bent) (fun cdv A outer s H vs Q E hr h => ⟨t_law_bent K (fun c d _ H' => E c d H'), ?_, fs_run h (w_law_bent  _)⟩)
  exact (pss_cons (ps_set (i := 2) sc_law_bent.nd rfl (Or.inl rfl) (pe_call (ok_law_next T) (hr.mono (by decide)) rfl T.m_law_next T.F_law_next.kp (bd_law_next T) .nil passL (pa_cons (pv 1) (pa_cons (pe_op op_addX (pe_callB call_lenT rfl T.z_len (by decide +kernel) (pa_cons (pv 0) pa_nil)) pe_int) pa_nil))))
      (pss_cons (ps_set (i := 3) sc_law_bent.nd rfl (Or.inl rfl) (pe_ix ix_seq pe_str (pe_call (ok_law_next T) (hr.mono (by decide)) rfl T.m_law_next T.F_law_next.kp (bd_law_next T) .nil passL (pa_cons (pv 1) (pa_cons pe_int pa_nil))) (fun _ _ => rfl)))
      (pss_one (ps_ret (pe_op op_addX (pe_op op_addX (pe_slice C8.sl_txt (pv 0) po_none (po_some (pv 2))) (pe_ix ix_seq (pe_lst (pa_cons pe_str (pa_cons (pv 3) (pa_cons (pv 3) pa_nil)))) (pe_call (ok_law_next T) (hr.mono (by decide)) rfl T.m_law_next T.F_law_next.kp (bd_law_next T) .nil passL (pa_cons (pv 1) (pa_cons pe_int pa_nil))) (fun _ _ => rfl))) (pe_slice C8.sl_txt (pv 0) (po_some (pe_op op_addX (pv 2) (pe_call (ok_law_next T) (hr.mono (by decide)) rfl T.m_law_next T.F_law_next.kp (bd_law_next T) .nil passL (pa_cons (pv 1) (pa_cons pe_int pa_nil))))) po_none))))))
theorem bd_law_pool (T : Txt K mg) : Binds K (fdK K ("_law_pool", none)) P_law_pool [] := T.F_law_pool.bindsN fun _ _ _ _ _ _ us hl => match us, hl with | [_], _ => rfl
set_option maxHeartbeats 4000000 in
theorem ok_law_pool (T : Txt K mg) : FnOk P w K mg base (L2.CX P w) 1 (fA K "_law_pool") (fdK K ("_law_pool", none)) P_law_pool (FS K (sp_law_pool K)) := by
  refine T.F_law_pool.ok sc_law_pool (fun vs H Q E h => fs_len h sp_len_law_pool) (fun cdv A outer s H vs Q E hr h => ⟨t_law_pool K (fun c d _ H' => E c d H'), ?_, fs_run h (w_law_pool  _)⟩)
  exact (pss_one (ps_ret (pe_lst (pa_cons (pe_callB (call_max' rfl) rfl T.z_max (by decide +kernel) (pa_cons pe_int (pa_cons (pe_op op_sub' (pv 0) (pe_op op_pow' pe_int pe_int)) pa_nil))) (pa_cons (pe_op op_mod' (pv 0) (pe_op op_pow' pe_int pe_int)) (pa_cons pe_int pa_nil))))))
theorem bd_law_below (T : Txt K mg) : Binds K (fdK K ("_law_below", none)) P_law_below [] := T.F_law_below.bindsN fun _ _ _ _ _ _ us hl => match us, hl with | [_, _], _ => rfl
set_option maxHeartbeats 4000000 in
theorem ok_law_below (T : Txt K mg) : FnOk P w K mg base (L2.CX P w) 1 (fA K "_law_below") (fdK K ("_law_below", none)) P_law_below (FS K (sp_law_below K)) := by
  refine T.F_law_below.ok sc_law_below (fun vs H Q E h => fs_len h sp_len_law_below) (fun cdv A outer s H vs Q E hr h => ⟨t_law_below K (fun c d _ H' => E c d H'), ?_, fs_run h (w_law_below  _)⟩)
  exact (pss_one (ps_ret (pe_cmpR op_lt' (pe_op op_mul' (pe_ix ix_seq (pv 0) pe_int (fun _ _ => rfl)) (pe_ix ix_seq (pv 1) pe_int (fun _ _ => rfl))) (pe_op op_mul' (pe_ix ix_seq (pv 1) pe_int (fun _ _ => rfl)) (pe_ix ix_seq (pv 0) pe_int (fun _ _ => rfl))) (nomark _))))
theorem bd_law_value (T : Txt K mg) : Binds K (fdK K ("_law_value", none)) P_law_value [] := T.F_law_value.bindsN fun _ _ _ _ _ _ us hl => match us, hl with | [_], _ => rfl
set_option maxHeartbeats 4000000 in
theorem ok_law_value (T : Txt K mg) : FnOk P w K mg base (L2.CX P w) 1 (fA K "_law_value") (fdK K ("_law_value", none)) P_law_value (FS K (sp_law_value K)) := by
  refine T.F_law_value.ok sc_law_value (fun vs H Q E h => fs_len h sp_len_law_value) (fun cdv A outer s H vs Q E hr h => ⟨t_law_value K (fun c d _ H' => E c d H'), ?_, fs_run h (w_law_value  _)⟩)
  unfold t_law_value tSeqI
  exact (pss_cons (ps_if (PW.pt (pw_or (pt_cmpR (op_eqD hr.units) (pv 0) pe_str (nomark _)) (pw_or (pt_cmpR op_gt' (pe_callB call_lenT rfl T.z_len (by decide +kernel) (pa_cons (pv 0) pa_nil)) pe_int (nomark _)) (pw_or1 (PW.pt (pw_and (pt_cmpR (op_eqD hr.units) (pe_ix ix_seq (pv 0) pe_int (fun _ _ => rfl)) pe_str (nomark _)) (pw_and1 (pt_cmpR (op_neD hr.units) (pv 0) pe_str (nomark _))))))))) (pss_one (ps_ret pe_non)) pss_nil)
      (pss_cons (ps_set (i := 1) sc_law_value.nd rfl (Or.inl rfl) pe_int)
      (pss_cons (ps_for (passes_of rfl) rfl (pi_str (pv 0)) (pg_name (i := 2) sc_law_value.nd rfl (Or.inl rfl)) (pss_cons (ps_if (pt_cmpR op_niT (pv 2) pe_str rfl) (pss_one (ps_ret pe_non)) pss_nil)
      (pss_one (ps_set (i := 1) sc_law_value.nd rfl (Or.inl rfl) (pe_op op_addX (pe_op op_mul' (pv 1) pe_int) (pe_bm PySem.F.plainAttrs_str PySem.F.slot_str_index PySem.F.type_str_index mt_idxT pe_str (pa_cons (pv 2) pa_nil)))))))
      (pss_one (ps_ret (pv 1))))))
theorem bd_law_read (T : Txt K mg) : Binds K (fdK K ("_law_read", none)) P_law_read [] := T.F_law_read.bindsN fun _ _ _ _ _ _ us hl => match us, hl with | [_], _ => rfl
set_option maxHeartbeats 4000000 in
theorem ok_law_read (T : Txt K mg) : FnOk P w K mg base (L2.CX P w) 2 (fA K "_law_read") (fdK K ("_law_read", none)) P_law_read (FS K (sp_law_read K)) := by
  refine T.F_law_read.ok sc_law_read (fun vs H Q E h => fs_len h sp_len_law_read) (fun cdv A outer s H vs Q E hr h => ⟨t_law_read K (fun c d _ H' => E c d H'), ?_, fs_run h (w_law_read  _)⟩)
  exact (pss_cons (ps_set (i := 1) sc_law_read.nd rfl (Or.inl rfl) (pe_bm PySem.F.plainAttrs_str PySem.F.slot_str_split PySem.F.type_str_split mt_splitT (pv 0) (pa_cons pe_str pa_nil)))
      (pss_cons (ps_set (i := 2) sc_law_read.nd rfl (Or.inl rfl) (pe_callTy call_int' rfl T.z_int (by decide +kernel) (pa_cons (pe_cmpR (op_eqD hr.units) (pe_slice C8.sl_txt (pe_ix ix_seq (pv 1) pe_int (fun _ _ => rfl)) po_none (po_some pe_int)) pe_str (nomark _)) pa_nil)))
      (pss_cons (ps_set (i := 3) sc_law_read.nd rfl (Or.inl rfl) (pe_call (ok_law_value T) (hr.mono (by decide)) rfl T.m_law_value T.F_law_value.kp (bd_law_value T) .nil passL (pa_cons (pe_slice C8.sl_txt (pe_ix ix_seq (pv 1) pe_int (fun _ _ => rfl)) (po_some (pv 2)) po_none) pa_nil)))
      (pss_cons (ps_set (i := 4) sc_law_read.nd rfl (Or.inl rfl) pe_int)
      (pss_cons (ps_if (pt_cmpR (op_eqD hr.units) (pe_callB call_len' rfl T.z_len (by decide +kernel) (pa_cons (pv 1) pa_nil)) pe_int (nomark _)) (pss_one (ps_set (i := 4) sc_law_read.nd rfl (Or.inl rfl) (pe_call (ok_law_value T) (hr.mono (by decide)) rfl T.m_law_value T.F_law_value.kp (bd_law_value T) .nil passL (pa_cons (pe_ix ix_seq (pv 1) pe_int (fun _ _ => rfl)) pa_nil)))) pss_nil)
      (pss_cons (ps_if (PW.pt (pw_or (pt_cmpR op_isN' (pv 3) pe_non (nomark _)) (pw_or (pt_cmpR op_isN' (pv 4) pe_non (nomark _)) (pw_or (pt_cmpR op_gt' (pe_callB call_len' rfl T.z_len (by decide +kernel) (pa_cons (pv 1) pa_nil)) pe_int (nomark _)) (pw_or1 (PW.pt (pw_and (pt_cmpR (op_eqD hr.units) (pv 2) pe_int (nomark _)) (pw_and1 (pt_cmpR (op_eqD hr.units) (pv 3) pe_int (nomark _)))))))))) (pss_one (ps_ret pe_non)) pss_nil)
      (pss_cons (ps_if (PW.pt (pw_and (pt_cmpR (op_eqD hr.units) (pe_callB call_len' rfl T.z_len (by decide +kernel) (pa_cons (pv 1) pa_nil)) pe_int (nomark _)) (pw_and1 (PW.pt (pw_or (pt_cmpR op_lt' (pv 4) pe_int (nomark _)) (pw_or1 (pt_cmpR (op_neD hr.units) (pe_call (ok_law_common T) (hr.mono (by decide)) rfl T.m_law_common T.F_law_common.kp (bd_law_common T) .nil passL (pa_cons (pv 3) (pa_cons (pv 4) pa_nil))) pe_int (nomark _)))))))) (pss_one (ps_ret pe_non)) pss_nil)
      (pss_one (ps_ret (pe_tup (pa_cons (pe_op op_mul' (pv 3) (pe_ix ix_seq (pe_lst (pa_cons pe_int (pa_cons (pe_un un_neg' pe_int) pa_nil))) (pv 2) (fun _ _ => rfl))) (pa_cons (pv 4) pa_nil))))))))))))
theorem bd_law_read_row (T : Txt K mg) : Binds K (fdK K ("_law_read_row", none)) P_law_read_row [] := T.F_law_read_row.bindsN fun _ _ _ _ _ _ us hl => match us, hl with | [_], _ => rfl
set_option maxHeartbeats 4000000 in
theorem ok_law_read_row (T : Txt K mg) : FnOk P w K mg base (L2.CX P w) 3 (fA K "_law_read_row") (fdK K ("_law_read_row", none)) P_law_read_row (FS K (sp_law_read_row K)) := by
  refine T.F_law_read_row.ok sc_law_read_row (fun vs H Q E h => fs_len h sp_len_law_read_row) (fun cdv A outer s H vs Q E hr h => ⟨t_law_read_row K (fun c d _ H' => E c d H'), ?_, fs_run h (w_law_read_row  _)⟩)
  exact (pss_cons (ps_set (i := 1) sc_law_read_row.nd rfl (Or.inl rfl) (pe_lst pa_nil))
      (pss_cons (ps_for (passes_of rfl) rfl (pi_seq (pe_bm PySem.F.plainAttrs_str PySem.F.slot_str_split PySem.F.type_str_split mt_splitT (pv 0) (pa_cons pe_str pa_nil))) (pg_name (i := 2) sc_law_read_row.nd rfl (Or.inl rfl)) (pss_cons (ps_set (i := 3) sc_law_read_row.nd rfl (Or.inl rfl) (pe_bm PySem.F.plainAttrs_str PySem.F.slot_str_split PySem.F.type_str_split mt_splitT (pv 2) (pa_cons pe_str pa_nil)))
      (pss_cons (ps_if (pt_cmpR (op_neD hr.units) (pe_callB call_len' rfl T.z_len (by decide +kernel) (pa_cons (pv 3) pa_nil)) pe_int (nomark _)) (pss_one (ps_ret pe_non)) pss_nil)
      (pss_cons (ps_set (i := 4) sc_law_read_row.nd rfl (Or.inl rfl) (pe_tup (pa_cons (pe_call (ok_law_read T) (hr.mono (by decide)) rfl T.m_law_read T.F_law_read.kp (bd_law_read T) .nil passL (pa_cons (pe_ix ix_seq (pv 3) pe_int (fun _ _ => rfl)) pa_nil)) (pa_cons (pe_call (ok_law_read T) (hr.mono (by decide)) rfl T.m_law_read T.F_law_read.kp (bd_law_read T) .nil passL (pa_cons (pe_ix ix_seq (pv 3) pe_int (fun _ _ => rfl)) pa_nil)) (pa_cons (pe_call (ok_law_value T) (hr.mono (by decide)) rfl T.m_law_value T.F_law_value.kp (bd_law_value T) .nil passL (pa_cons (pe_ix ix_seq (pv 3) pe_int (fun _ _ => rfl)) pa_nil)) pa_nil)))))
      (pss_cons (ps_if (PW.pt (pw_or (pt_cmpR (op_inA hr.units) pe_non (pv 4) rfl) (pw_or (pt_not (pt_chain op_lt' op_lt' pe_int (pe_ix ix_seq (pv 4) pe_int (fun _ _ => rfl)) pe_int)) (pw_or1 (pt_cmpR (op_eqD hr.units) (pe_callB call_len' rfl T.z_len (by decide +kernel) (pa_cons (pv 1) pa_nil)) pe_int (nomark _)))))) (pss_one (ps_ret pe_non)) pss_nil)
      (pss_cons (ps_if (PW.pt (pw_and (pt_cmpR (op_neD hr.units) (pv 1) (pe_lst pa_nil) (nomark _)) (pw_and1 (pt_not (pt_val (pe_call (ok_law_below T) (hr.mono (by decide)) rfl T.m_law_below T.F_law_below.kp (bd_law_below T) .nil passL (pa_cons (pe_ix ix_seq (pe_ix ix_seq (pv 1) (pe_un un_neg' pe_int) (fun _ _ => rfl)) pe_int (fun _ _ => rfl)) (pa_cons (pe_ix ix_seq (pv 4) pe_int (fun _ _ => rfl)) pa_nil)))))))) (pss_one (ps_if (PW.pt (pw_or (pt_cmpR (op_neD hr.units) (pe_ix ix_seq (pe_ix ix_seq (pv 1) (pe_un un_neg' pe_int) (fun _ _ => rfl)) pe_int (fun _ _ => rfl)) (pe_ix ix_seq (pv 4) pe_int (fun _ _ => rfl)) (nomark _)) (pw_or1 (pt_not (pt_val (pe_call (ok_law_below T) (hr.mono (by decide)) rfl T.m_law_below T.F_law_below.kp (bd_law_below T) .nil passL (pa_cons (pe_ix ix_seq (pe_ix ix_seq (pv 1) (pe_un un_neg' pe_int) (fun _ _ => rfl)) pe_int (fun _ _ => rfl)) (pa_cons (pe_ix ix_seq (pv 4) pe_int (fun _ _ => rfl)) pa_nil)))))))) (pss_one (ps_ret pe_non)) pss_nil)) pss_nil)
      (pss_one (ps_expr (pe_bm PySem.F.plainAttrs_list PySem.F.slot_list_append PySem.F.type_list_append mt_append (pv 1) (pa_cons (pv 4) pa_nil))))))))))
      (pss_one (ps_ret (pe_callTy call_tup' rfl T.z_tuple (by decide +kernel) (pa_cons (pv 1) pa_nil))))))
theorem bd_are_figures (T : Txt K mg) : Binds K (fdK K ("are_figures", none)) P_are_figures [] := T.F_are_figures.bindsN fun _ _ _ _ _ _ us hl => match us, hl with | [_, _], _ => rfl
set_option maxHeartbeats 4000000 in
theorem ok_are_figures (T : Txt K mg) : FnOk P w K mg base (L2.CX P w) 1 (fA K "are_figures") (fdK K ("are_figures", none)) P_are_figures (FS K (sp_are_figures K)) := by
  refine T.F_are_figures.ok sc_are_figures (fun vs H Q E h => fs_len h sp_len_are_figures) (fun cdv A outer s H vs Q E hr h => ⟨t_are_figures K (fun c d _ H' => E c d H'), ?_, fs_run h (w_are_figures  _)⟩)
  unfold t_are_figures tSeqI
  exact (pss_cons (ps_if (PW.pt (pw_or (pt_not (pt_chain op_le' op_le' pe_int (pe_callB call_lenT rfl T.z_len (by decide +kernel) (pa_cons (pv 0) pa_nil)) (pv 1))) (pw_or1 (pt_not (pt_val (pe_callB (cr_all rfl) rfl T.z_all (by decide +kernel) (pa_cons (pe_lc (own := [("sign", 2)]) (g := (gName 2)) (tt := tYes) rfl sc_are_figures.nd (pi_str (pv 0)) (blkOk_by (N := N_are_figures) (sc := defScope s_are_figures) (by decide +kernel)) (fun _ _ _ _ _ => (pg_name (i := 2) sc_are_figures.nd rfl (Or.inl rfl))) (fun _ _ _ _ _ => pts_nil) (fun _ _ _ _ _ => (pe_cmpR op_inT (pv 2) (pe_glob rfl T.g_FIGURES.choose_spec ⟨_, rfl⟩) rfl))) pa_nil))))))) (pss_one (ps_ret pe_bl)) pss_nil)
      (pss_one (ps_ret (pe_or (pe_cmpR (op_eqD hr.units) (pv 0) pe_str (nomark _)) (pe_one (pe_cmpR (op_neD hr.units) (pe_ix ix_seq (pv 0) pe_int (fun _ _ => rfl)) pe_str (nomark _)))))))
theorem bd_number_in (T : Txt K mg) : Binds K (fdK K ("number_in", none)) P_number_in [] := T.F_number_in.bindsN fun _ _ _ _ _ _ us hl => match us, hl with | [_, _], _ => rfl
set_option maxHeartbeats 4000000 in
theorem ok_number_in (T : Txt K mg) : FnOk P w K mg base (L2.CX P w) 2 (fA K "number_in") (fdK K ("number_in", none)) P_number_in (FS K (sp_number_in K)) := by
  refine T.F_number_in.ok sc_number_in (fun vs H Q E h => fs_len h sp_len_number_in) (fun cdv A outer s H vs Q E hr h => ⟨t_number_in K (fun c d _ H' => E c d H'), ?_, fs_run h (w_number_in  _)⟩)
  exact (pss_cons (ps_if (pt_not (pt_val (pe_call (ok_are_figures T) (hr.mono (by decide)) rfl T.m_are_figures T.F_are_figures.kp (bd_are_figures T) .nil passL (pa_cons (pv 0) (pa_cons (pv 1) pa_nil))))) (pss_one (ps_rs rfl (takes_of rfl rfl rfl rfl) T.xc_NoText rfl)) pss_nil)
      (pss_one (ps_ret (pe_callTy call_intT rfl T.z_int (by decide +kernel) (pa_cons (pv 0) pa_nil)))))
theorem bd_divisor_of (T : Txt K mg) : Binds K (fdK K ("divisor_of", none)) P_divisor_of [] := T.F_divisor_of.bindsN fun _ _ _ _ _ _ us hl => match us, hl with | [_, _], _ => rfl
set_option maxHeartbeats 4000000 in
theorem ok_divisor_of (T : Txt K mg) : FnOk P w K mg base (L2.CX P w) 1 (fA K "divisor_of") (fdK K ("divisor_of", none)) P_divisor_of (FS K (sp_divisor_of K)) := by
  refine T.F_divisor_of.ok sc_divisor_of (fun vs H Q E h => fs_len h sp_len_divisor_of) (fun cdv A outer s H vs Q E hr h => ⟨t_divisor_of K (fun c d _ H' => E c d H'), ?_, fs_run h (w_divisor_of  _)⟩)
  exact (pss_cons (ps_while (passes_of rfl) (pt_cmpR (op_neD hr.units) (pv 1) pe_int (nomark _)) (pss_one (ps_par rfl sc_divisor_of.nd (i := 0) (j := 1) rfl rfl (by decide) rfl rfl (pa_cons (pv 1) (pa_cons (pe_op op_mod' (pv 0) (pv 1)) pa_nil)) (by rfl))))
      (pss_one (ps_ret (pe_callB call_abs' rfl T.z_abs (by decide +kernel) (pa_cons (pv 0) pa_nil)))))
theorem bd_is_whole (T : Txt K mg) : Binds K (fdK K ("is_whole", none)) P_is_whole [] := T.F_is_whole.bindsN fun _ _ _ _ _ _ us hl => match us, hl with | [_], _ => rfl
set_option maxHeartbeats 4000000 in
theorem ok_is_whole (T : Txt K mg) : FnOk P w K mg base (L2.CX P w) 1 (fA K "is_whole") (fdK K ("is_whole", none)) P_is_whole (FS K (sp_is_whole K)) := by
  refine T.F_is_whole.ok sc_is_whole (fun vs H Q E h => fs_len h sp_len_is_whole) (fun cdv A outer s H vs Q E hr h => ⟨t_is_whole K (fun c d _ H' => E c d H'), ?_, fs_run h (w_is_whole  _)⟩)
  exact (pss_one (ps_ret (pe_and (pe_callB call_isi rfl T.z_isinstance (by decide +kernel) (pa_cons (pv 0) (pa_cons (pe_bltn (v := .ty "int") rfl T.z_int (by decide +kernel) rfl) pa_nil))) (pe_one (pe_not (pe_callB call_isi rfl T.z_isinstance (by decide +kernel) (pa_cons (pv 0) (pa_cons (pe_bltn (v := .ty "bool") rfl T.z_bool (by decide +kernel) rfl) pa_nil))))))))
theorem bd_is_ratio (T : Txt K mg) : Binds K (fdK K ("is_ratio", none)) P_is_ratio [] := T.F_is_ratio.bindsN fun _ _ _ _ _ _ us hl => match us, hl with | [_], _ => rfl
set_option maxHeartbeats 4000000 in
theorem ok_is_ratio (T : Txt K mg) : FnOk P w K mg base (L2.CX P w) 2 (fA K "is_ratio") (fdK K ("is_ratio", none)) P_is_ratio (FS K (sp_is_ratio K)) := by
  refine T.F_is_ratio.ok sc_is_ratio (fun vs H Q E h => fs_len h sp_len_is_ratio) (fun cdv A outer s H vs Q E hr h => ⟨t_is_ratio K (fun c d _ H' => E c d H'), ?_, fs_run h (w_is_ratio  _)⟩)
  exact (pss_cons (ps_if (PW.pt (pw_or (pt_not (pt_val (pe_callB call_isi rfl T.z_isinstance (by decide +kernel) (pa_cons (pv 0) (pa_cons (pe_bltn (v := .ty "tuple") rfl T.z_tuple (by decide +kernel) rfl) pa_nil))))) (pw_or (pt_cmpR (op_neD hr.units) (pe_callB call_len' rfl T.z_len (by decide +kernel) (pa_cons (pv 0) pa_nil)) pe_int (nomark _)) (pw_or (pt_not (pt_val (pe_call (ok_is_whole T) (hr.mono (by decide)) rfl T.m_is_whole T.F_is_whole.kp (bd_is_whole T) .nil passL (pa_cons (pe_ix ix_seq (pv 0) pe_int (fun _ _ => rfl)) pa_nil)))) (pw_or1 (pt_not (pt_val (pe_call (ok_is_whole T) (hr.mono (by decide)) rfl T.m_is_whole T.F_is_whole.kp (bd_is_whole T) .nil passL (pa_cons (pe_ix ix_seq (pv 0) pe_int (fun _ _ => rfl)) pa_nil))))))))) (pss_one (ps_ret pe_bl)) pss_nil)
      (pss_one (ps_ret (pe_and (pe_cmpR op_gt' (pe_ix ix_seq (pv 0) pe_int (fun _ _ => rfl)) pe_int (nomark _)) (pe_one (pe_cmpR (op_eqD hr.units) (pe_call (ok_divisor_of T) (hr.mono (by decide)) rfl T.m_divisor_of T.F_divisor_of.kp (bd_divisor_of T) .nil passL (pa_cons (pe_ix ix_seq (pv 0) pe_int (fun _ _ => rfl)) (pa_cons (pe_ix ix_seq (pv 0) pe_int (fun _ _ => rfl)) pa_nil))) pe_int (nomark _)))))))
theorem bd_look_at_text (T : Txt K mg) : Binds K (fdK K ("look_at_text", none)) P_look_at_text [] := T.F_look_at_text.bindsN fun _ _ _ _ _ _ us hl => match us, hl with | [_], _ => rfl
set_option maxHeartbeats 4000000 in
theorem ok_look_at_text (T : Txt K mg) : FnOk P w K mg base (L2.CX P w) 1 (fA K "look_at_text") (fdK K ("look_at_text", none)) P_look_at_text (FS K (sp_look_at_text K)) := by
  refine T.F_look_at_text.ok sc_look_at_text (fun vs H Q E h => fs_len h sp_len_look_at_text) (fun cdv A outer s H vs Q E hr h => ⟨t_look_at_text K (fun c d _ H' => E c d H'), ?_, fs_run h (w_look_at_text  _)⟩)
  exact (pss_one (ps_if (pt_not (pt_val (pe_callB call_isi rfl T.z_isinstance (by decide +kernel) (pa_cons (pv 0) (pa_cons (pe_bltn (v := .ty "str") rfl T.z_str (by decide +kernel) rfl) pa_nil))))) (pss_one (ps_rs rfl (takes_of rfl rfl rfl rfl) T.xc_NoText rfl)) pss_nil))
theorem bd_ratio_text (T : Txt K mg) : Binds K (fdK K ("ratio_text", none)) P_ratio_text [] := T.F_ratio_text.bindsN fun _ _ _ _ _ _ us hl => match us, hl with | [_], _ => rfl
set_option maxHeartbeats 4000000 in
theorem ok_ratio_text (T : Txt K mg) : FnOk P w K mg base (L2.CX P w) 1 (fA K "ratio_text") (fdK K ("ratio_text", none)) P_ratio_text (FS K (sp_ratio_text K)) := by
  refine T.F_ratio_text.ok sc_ratio_text (fun vs H Q E h => fs_len h sp_len_ratio_text) (fun cdv A outer s H vs Q E hr h => ⟨t_ratio_text K (fun c d _ H' => E c d H'), ?_, fs_run h (w_ratio_text  _)⟩)
  exact (pss_cons (ps_if (pt_cmpR (op_eqD hr.units) (pe_ix ix_seq (pv 0) pe_int (fun _ _ => rfl)) pe_int (nomark _)) (pss_one (ps_ret (pe_callTy call_strI rfl T.z_str (by decide +kernel) (pa_cons (pe_ix ix_seq (pv 0) pe_int (fun _ _ => rfl)) pa_nil)))) pss_nil)
      (pss_one (ps_ret (pe_op op_addX (pe_op op_addX (pe_callTy call_strI rfl T.z_str (by decide +kernel) (pa_cons (pe_ix ix_seq (pv 0) pe_int (fun _ _ => rfl)) pa_nil)) pe_str) (pe_callTy call_strI rfl T.z_str (by decide +kernel) (pa_cons (pe_ix ix_seq (pv 0) pe_int (fun _ _ => rfl)) pa_nil))))))
theorem bd_read_ratio (T : Txt K mg) : Binds K (fdK K ("read_ratio", none)) P_read_ratio [] := T.F_read_ratio.bindsN fun _ _ _ _ _ _ us hl => match us, hl with | [_], _ => rfl
set_option maxHeartbeats 4000000 in
theorem ok_read_ratio (T : Txt K mg) : FnOk P w K mg base (L2.CX P w) 3 (fA K "read_ratio") (fdK K ("read_ratio", none)) P_read_ratio (FS K (sp_read_ratio K)) := by
  refine T.F_read_ratio.ok sc_read_ratio (fun vs H Q E h => fs_len h sp_len_read_ratio) (fun cdv A outer s H vs Q E hr h => ⟨t_read_ratio K (fun c d _ H' => E c d H'), ?_, fs_run h (w_read_ratio  _)⟩)
  exact (pss_cons (ps_expr (pe_callS (ok_look_at_text T) (hr.mono (by decide)) rfl T.m_look_at_text T.F_look_at_text.kp (bd_look_at_text T) (fun σ => passAt (takes_of rfl rfl rfl rfl) σ) (pa_cons (pv 0) pa_nil)))
      (pss_cons (ps_set (i := 1) sc_read_ratio.nd rfl (Or.inl rfl) (pe_bm PySem.F.plainAttrs_str PySem.F.slot_str_split PySem.F.type_str_split mt_splitT (pv 0) (pa_cons pe_str pa_nil)))
      (pss_cons (ps_set (i := 2) sc_read_ratio.nd rfl (Or.inl rfl) pe_int)
      (pss_cons (ps_if (pt_cmpR (op_eqD hr.units) (pe_slice C8.sl_txt (pe_ix ix_seq (pv 1) pe_int (fun _ _ => rfl)) po_none (po_some pe_int)) pe_str (nomark _)) (pss_cons (ps_set (i := 2) sc_read_ratio.nd rfl (Or.inl rfl) (pe_un un_neg' pe_int))
      (pss_one (ps_asg (pe_slice C8.sl_txt (pe_ix ix_seq (pv 1) pe_int (fun _ _ => rfl)) (po_some pe_int) po_none) (pg_sub (pv 1) pe_int set_list)))) pss_nil)
      (pss_cons (ps_set (i := 3) sc_read_ratio.nd rfl (Or.inl rfl) (pe_op op_mul' (pv 2) (pe_callS (ok_number_in T) (hr.mono (by decide)) rfl T.m_number_in T.F_number_in.kp (bd_number_in T) (fun σ => passAt (takes_of rfl rfl rfl rfl) σ) (pa_cons (pe_ix ix_seq (pv 1) pe_int (fun _ _ => rfl)) (pa_cons (pe_glob rfl T.g_MOST_FIGURES.choose_spec ⟨_, rfl⟩) pa_nil)))))
      (pss_cons (ps_set (i := 4) sc_read_ratio.nd rfl (Or.inl rfl) pe_int)
      (pss_cons (ps_if (pt_cmpR (op_eqD hr.units) (pe_callB call_len' rfl T.z_len (by decide +kernel) (pa_cons (pv 1) pa_nil)) pe_int (nomark _)) (pss_one (ps_set (i := 4) sc_read_ratio.nd rfl (Or.inl rfl) (pe_callS (ok_number_in T) (hr.mono (by decide)) rfl T.m_number_in T.F_number_in.kp (bd_number_in T) (fun σ => passAt (takes_of rfl rfl rfl rfl) σ) (pa_cons (pe_ix ix_seq (pv 1) pe_int (fun _ _ => rfl)) (pa_cons (pe_glob rfl T.g_MOST_FIGURES.choose_spec ⟨_, rfl⟩) pa_nil))))) pss_nil)
      (pss_cons (ps_set (i := 5) sc_read_ratio.nd rfl (Or.inl rfl) (pe_tup (pa_cons (pv 3) (pa_cons (pv 4) pa_nil))))
      (pss_cons (ps_if (PW.pt (pw_or (pt_not (pt_val (pe_call (ok_is_ratio T) (hr.mono (by decide)) rfl T.m_is_ratio T.F_is_ratio.kp (bd_is_ratio T) .nil passL (pa_cons (pv 5) pa_nil)))) (pw_or1 (pt_cmpR (op_neD hr.units) (pe_call (ok_ratio_text T) (hr.mono (by decide)) rfl T.m_ratio_text T.F_ratio_text.kp (bd_ratio_text T) .nil passL (pa_cons (pv 5) pa_nil)) (pv 0) (nomark _))))) (pss_one (ps_rs rfl (takes_of rfl rfl rfl rfl) T.xc_NoText rfl)) pss_nil)
      (pss_one (ps_ret (pv 5))))))))))))
theorem bd_ball_in (T : Txt K mg) : Binds K (fdK K ("ball_in", none)) P_ball_in [] := T.F_ball_in.bindsN fun _ _ _ _ _ _ us hl => match us, hl with | [_], _ => rfl
set_option maxHeartbeats 4000000 in
theorem ok_ball_in (T : Txt K mg) : FnOk P w K mg base (L2.CX P w) 4 (fA K "ball_in") (fdK K ("ball_in", none)) P_ball_in (FS K (sp_ball_in K)) := by
  refine T.F_ball_in.ok sc_ball_in (fun vs H Q E h => fs_len h sp_len_ball_in) (fun cdv A outer s H vs Q E hr h => ⟨t_ball_in K (fun c d _ H' => E c d H'), ?_, fs_run h (w_ball_in  _)⟩)
  exact (pss_cons (ps_set (i := 1) sc_ball_in.nd rfl (Or.inl rfl) (pe_bm PySem.F.plainAttrs_str PySem.F.slot_str_split PySem.F.type_str_split mt_splitT (pv 0) (pa_cons pe_str pa_nil)))
      (pss_cons (ps_if (pt_cmpR (op_neD hr.units) (pe_callB call_len' rfl T.z_len (by decide +kernel) (pa_cons (pv 1) pa_nil)) pe_int (nomark _)) (pss_one (ps_rs rfl (takes_of rfl rfl rfl rfl) T.xc_NoText rfl)) pss_nil)
      (pss_one (ps_ret (pe_tup (pa_cons (pe_callS (ok_read_ratio T) (hr.mono (by decide)) rfl T.m_read_ratio T.F_read_ratio.kp (bd_read_ratio T) (fun σ => passAt (takes_of rfl rfl rfl rfl) σ) (pa_cons (pe_ix ix_seq (pv 1) pe_int (fun _ _ => rfl)) pa_nil)) (pa_cons (pe_callS (ok_read_ratio T) (hr.mono (by decide)) rfl T.m_read_ratio T.F_read_ratio.kp (bd_read_ratio T) (fun σ => passAt (takes_of rfl rfl rfl rfl) σ) (pa_cons (pe_ix ix_seq (pv 1) pe_int (fun _ _ => rfl)) pa_nil)) (pa_cons (pe_callS (ok_number_in T) (hr.mono (by decide)) rfl T.m_number_in T.F_number_in.kp (bd_number_in T) (fun σ => passAt (takes_of rfl rfl rfl rfl) σ) (pa_cons (pe_ix ix_seq (pv 1) pe_int (fun _ _ => rfl)) (pa_cons (pe_glob rfl T.g_MOST_FIGURES.choose_spec ⟨_, rfl⟩) pa_nil))) pa_nil))))))))
theorem bd_is_tuple_of (T : Txt K mg) : Binds K (fdK K ("is_tuple_of", none)) P_is_tuple_of [] := T.F_is_tuple_of.bindsN fun _ _ _ _ _ _ us hl => match us, hl with | [_, _], _ => rfl
set_option maxHeartbeats 4000000 in
theorem ok_is_tuple_of (T : Txt K mg) : FnOk P w K mg base (L2.CX P w) 1 (fA K "is_tuple_of") (fdK K ("is_tuple_of", none)) P_is_tuple_of (FS K (sp_is_tuple_of K)) := by
  refine T.F_is_tuple_of.ok sc_is_tuple_of (fun vs H Q E h => fs_len h sp_len_is_tuple_of) (fun cdv A outer s H vs Q E hr h => ⟨t_is_tuple_of K (fun c d _ H' => E c d H'), ?_, fs_run h (w_is_tuple_of  _)⟩)
  exact (pss_one (ps_ret (pe_and (pe_callB call_isi rfl T.z_isinstance (by decide +kernel) (pa_cons (pv 0) (pa_cons (pe_bltn (v := .ty "tuple") rfl T.z_tuple (by decide +kernel) rfl) pa_nil))) (pe_one (pe_cmpR (op_eqD hr.units) (pe_callB call_len' rfl T.z_len (by decide +kernel) (pa_cons (pv 0) pa_nil)) (pv 1) (nomark _))))))
theorem bd_is_ball (T : Txt K mg) : Binds K (fdK K ("is_ball", none)) P_is_ball [] := T.F_is_ball.bindsN fun _ _ _ _ _ _ us hl => match us, hl with | [_], _ => rfl
set_option maxHeartbeats 4000000 in
theorem ok_is_ball (T : Txt K mg) : FnOk P w K mg base (L2.CX P w) 3 (fA K "is_ball") (fdK K ("is_ball", none)) P_is_ball (FS K (sp_is_ball K)) := by
  refine T.F_is_ball.ok sc_is_ball (fun vs H Q E h => fs_len h sp_len_is_ball) (fun cdv A outer s H vs Q E hr h => ⟨t_is_ball K (fun c d _ H' => E c d H'), ?_, fs_run h (w_is_ball  _)⟩)
  exact (pss_cons (ps_if (PW.pt (pw_or (pt_not (pt_val (pe_call (ok_is_tuple_of T) (hr.mono (by decide)) rfl T.m_is_tuple_of T.F_is_tuple_of.kp (bd_is_tuple_of T) .nil passL (pa_cons (pv 0) (pa_cons pe_int pa_nil))))) (pw_or (pt_not (pt_val (pe_call (ok_is_ratio T) (hr.mono (by decide)) rfl T.m_is_ratio T.F_is_ratio.kp (bd_is_ratio T) .nil passL (pa_cons (pe_ix ix_seq (pv 0) (pe_glob rfl T.g_PLACE.choose_spec ⟨_, rfl⟩) (fun _ _ => rfl)) pa_nil)))) (pw_or1 (pt_not (pt_val (pe_call (ok_is_ratio T) (hr.mono (by decide)) rfl T.m_is_ratio T.F_is_ratio.kp (bd_is_ratio T) .nil passL (pa_cons (pe_ix ix_seq (pv 0) (pe_glob rfl T.g_SPEED.choose_spec ⟨_, rfl⟩) (fun _ _ => rfl)) pa_nil)))))))) (pss_one (ps_ret pe_bl)) pss_nil)
      (pss_one (ps_ret (pe_and (pe_call (ok_is_whole T) (hr.mono (by decide)) rfl T.m_is_whole T.F_is_whole.kp (bd_is_whole T) .nil passL (pa_cons (pe_ix ix_seq (pv 0) (pe_glob rfl T.g_WEIGHT.choose_spec ⟨_, rfl⟩) (fun _ _ => rfl)) pa_nil)) (pe_one (pe_chain op_le' op_le' pe_int (pe_ix ix_seq (pv 0) (pe_glob rfl T.g_WEIGHT.choose_spec ⟨_, rfl⟩) (fun _ _ => rfl)) (pe_glob rfl T.g_GREATEST.choose_spec ⟨_, rfl⟩)))))))
theorem bd_less (T : Txt K mg) : Binds K (fdK K ("less", none)) P_less [] := T.F_less.bindsN fun _ _ _ _ _ _ us hl => match us, hl with | [_, _], _ => rfl
set_option maxHeartbeats 4000000 in
theorem ok_less (T : Txt K mg) : FnOk P w K mg base (L2.CX P w) 1 (fA K "less") (fdK K ("less", none)) P_less (FS K (sp_less K)) := by
  refine T.F_less.ok sc_less (fun vs H Q E h => fs_len h sp_len_less) (fun cdv A outer s H vs Q E hr h => ⟨t_less K (fun c d _ H' => E c d H'), ?_, fs_run h (w_less  _)⟩)
  exact (pss_one (ps_ret (pe_cmpR op_lt' (pe_op op_mul' (pe_ix ix_seq (pv 0) pe_int (fun _ _ => rfl)) (pe_ix ix_seq (pv 1) pe_int (fun _ _ => rfl))) (pe_op op_mul' (pe_ix ix_seq (pv 1) pe_int (fun _ _ => rfl)) (pe_ix ix_seq (pv 0) pe_int (fun _ _ => rfl))) (nomark _))))
theorem bd_may_stand (T : Txt K mg) : Binds K (fdK K ("may_stand", none)) P_may_stand [] := T.F_may_stand.bindsN fun _ _ _ _ _ _ us hl => match us, hl with | [_, _], _ => rfl
set_option maxHeartbeats 4000000 in
theorem ok_may_stand (T : Txt K mg) : FnOk P w K mg base (L2.CX P w) 2 (fA K "may_stand") (fdK K ("may_stand", none)) P_may_stand (FS K (sp_may_stand K)) := by
  refine T.F_may_stand.ok sc_may_stand (fun vs H Q E h => fs_len h sp_len_may_stand) (fun cdv A outer s H vs Q E hr h => ⟨t_may_stand K (fun c d _ H' => E c d H'), ?_, fs_run h (w_may_stand  _)⟩)
  exact (pss_cons (ps_if (pt_cmpR (op_eqD hr.units) (pe_ix ix_seq (pv 0) (pe_glob rfl T.g_PLACE.choose_spec ⟨_, rfl⟩) (fun _ _ => rfl)) (pe_ix ix_seq (pv 1) (pe_glob rfl T.g_PLACE.choose_spec ⟨_, rfl⟩) (fun _ _ => rfl)) (nomark _)) (pss_one (ps_ret (pe_call (ok_less T) (hr.mono (by decide)) rfl T.m_less T.F_less.kp (bd_less T) .nil passL (pa_cons (pe_ix ix_seq (pv 0) (pe_glob rfl T.g_SPEED.choose_spec ⟨_, rfl⟩) (fun _ _ => rfl)) (pa_cons (pe_ix ix_seq (pv 1) (pe_glob rfl T.g_SPEED.choose_spec ⟨_, rfl⟩) (fun _ _ => rfl)) pa_nil))))) pss_nil)
      (pss_one (ps_ret (pe_call (ok_less T) (hr.mono (by decide)) rfl T.m_less T.F_less.kp (bd_less T) .nil passL (pa_cons (pe_ix ix_seq (pv 0) (pe_glob rfl T.g_PLACE.choose_spec ⟨_, rfl⟩) (fun _ _ => rfl)) (pa_cons (pe_ix ix_seq (pv 1) (pe_glob rfl T.g_PLACE.choose_spec ⟨_, rfl⟩) (fun _ _ => rfl)) pa_nil))))))
theorem bd_is_within (T : Txt K mg) : Binds K (fdK K ("is_within", none)) P_is_within [] := T.F_is_within.bindsN fun _ _ _ _ _ _ us hl => match us, hl with | [_, _], _ => rfl
set_option maxHeartbeats 4000000 in
theorem ok_is_within (T : Txt K mg) : FnOk P w K mg base (L2.CX P w) 3 (fA K "is_within") (fdK K ("is_within", none)) P_is_within (FS K (sp_is_within K)) := by
  refine T.F_is_within.ok sc_is_within (fun vs H Q E h => fs_len h sp_len_is_within) (fun cdv A outer s H vs Q E hr h => ⟨t_is_within K (fun c d _ H' => E c d H'), ?_, fs_run h (w_is_within  _)⟩)
  exact (pss_one (ps_ret (pe_or (pe_cmpR (op_eqD hr.units) (pe_slice sl_seq (pv 0) po_none (po_some (pe_glob rfl T.g_WEIGHT.choose_spec ⟨_, rfl⟩))) (pe_slice sl_seq (pv 1) po_none (po_some (pe_glob rfl T.g_WEIGHT.choose_spec ⟨_, rfl⟩))) (nomark _)) (pe_one (pe_call (ok_may_stand T) (hr.mono (by decide)) rfl T.m_may_stand T.F_may_stand.kp (bd_may_stand T) .nil passL (pa_cons (pv 0) (pa_cons (pv 1) pa_nil)))))))
theorem bd_is_row (T : Txt K mg) : Binds K (fdK K ("is_row", none)) P_is_row [] := T.F_is_row.bindsN fun _ _ _ _ _ _ us hl => match us, hl with | [_, _], _ => rfl
set_option maxHeartbeats 4000000 in
theorem ok_is_row (T : Txt K mg) : FnOk P w K mg base (L2.CX P w) 4 (fA K "is_row") (fdK K ("is_row", none)) P_is_row (FS K (sp_is_row K)) := by
  refine T.F_is_row.ok sc_is_row (fun vs H Q E h => fs_len h sp_len_is_row) (fun cdv A outer s H vs Q E hr h => ⟨t_is_row K (fun c d _ H' => E c d H'), ?_, fs_run h (w_is_row  _)⟩)
  exact (pss_cons (ps_if (PW.pt (pw_or (pt_not (pt_val (pe_callB call_isi rfl T.z_isinstance (by decide +kernel) (pa_cons (pv 1) (pa_cons (pe_bltn (v := .ty "tuple") rfl T.z_tuple (by decide +kernel) rfl) pa_nil))))) (pw_or1 (pt_not (pt_chain op_le' op_le' pe_int (pe_callB call_len' rfl T.z_len (by decide +kernel) (pa_cons (pv 1) pa_nil)) (pe_glob rfl T.g_MOST_BALLS.choose_spec ⟨_, rfl⟩)))))) (pss_one (ps_ret pe_bl)) pss_nil)
      (pss_cons (ps_if (pt_not (pt_val (pe_callB (cr_all rfl) rfl T.z_all (by decide +kernel) (pa_cons (pe_lc (own := [("ball", 2)]) (g := (gName 2)) (tt := tYes) rfl sc_is_row.nd (pi_seq (pv 1)) (blkOk_by (N := N_is_row) (sc := defScope s_is_row) (by decide +kernel)) (fun _ _ _ _ _ => (pg_name (i := 2) sc_is_row.nd rfl (Or.inl rfl))) (fun _ _ _ _ _ => pts_nil) (fun _ _ _ _ _ => (pe_call (ok_is_ball T) (hr.mono (by decide)) rfl T.m_is_ball T.F_is_ball.kp (bd_is_ball T) .nil passL (pa_cons (pv 2) pa_nil)))) pa_nil)))) (pss_one (ps_ret pe_bl)) pss_nil)
      (pss_cons (ps_if (pt_not (pt_val (pe_callB (cr_all rfl) rfl T.z_all (by decide +kernel) (pa_cons (pe_lc (own := [("left", 3), ("right", 4)]) (g := (gTup K 2 (gCons (gName 3) (gCons (gName 4) gNil)))) (tt := tYes) rfl sc_is_row.nd (pi_zipA rfl T.z_zip (pa_cons (pv 1) (pa_cons (pe_slice sl_seq (pv 1) (po_some pe_int) po_none) pa_nil))) (blkOk_by (N := N_is_row) (sc := defScope s_is_row) (by decide +kernel)) (fun _ _ _ _ _ => (pg_tup rfl (pgs_cons (pg_name (i := 3) sc_is_row.nd rfl (Or.inl rfl)) (pgs_cons (pg_name (i := 4) sc_is_row.nd rfl (Or.inl rfl)) pgs_nil)))) (fun _ _ _ _ _ => pts_nil) (fun _ _ _ _ _ => (pe_call (ok_may_stand T) (hr.mono (by decide)) rfl T.m_may_stand T.F_may_stand.kp (bd_may_stand T) .nil passL (pa_cons (pv 3) (pa_cons (pv 4) pa_nil))))) pa_nil)))) (pss_one (ps_ret pe_bl)) pss_nil)
      (pss_cons (ps_if (PW.pt (pw_and (pt_cmpR op_notN' (pe_ix ix_seq (pv 0) (pe_glob rfl T.g_LOW.choose_spec ⟨_, rfl⟩) (fun _ _ => rfl)) pe_non (nomark _)) (pw_and1 (pt_not (pt_val (pe_call (ok_is_within T) (hr.mono (by decide)) rfl T.m_is_within T.F_is_within.kp (bd_is_within T) .nil passL (pa_cons (pe_ix ix_seq (pv 0) (pe_glob rfl T.g_LOW.choose_spec ⟨_, rfl⟩) (fun _ _ => rfl)) (pa_cons (pe_ix ix_seq (pv 1) pe_int (fun _ _ => rfl)) pa_nil)))))))) (pss_one (ps_ret pe_bl)) pss_nil)
      (pss_one (ps_ret (pe_or (pe_cmpR op_isN' (pe_ix ix_seq (pv 0) (pe_glob rfl T.g_HIGH.choose_spec ⟨_, rfl⟩) (fun _ _ => rfl)) pe_non (nomark _)) (pe_one (pe_call (ok_is_within T) (hr.mono (by decide)) rfl T.m_is_within T.F_is_within.kp (bd_is_within T) .nil passL (pa_cons (pe_ix ix_seq (pv 1) (pe_un un_neg' pe_int) (fun _ _ => rfl)) (pa_cons (pe_ix ix_seq (pv 0) (pe_glob rfl T.g_HIGH.choose_spec ⟨_, rfl⟩) (fun _ _ => rfl)) pa_nil)))))))))))
theorem bd_read_row (T : Txt K mg) : Binds K (fdK K ("read_row", none)) P_read_row [] := T.F_read_row.bindsN fun _ _ _ _ _ _ us hl => match us, hl with | [_], _ => rfl
set_option maxHeartbeats 4000000 in
theorem ok_read_row (T : Txt K mg) : FnOk P w K mg base (L2.CX P w) 5 (fA K "read_row") (fdK K ("read_row", none)) P_read_row (FS K (sp_read_row K)) := by
  refine T.F_read_row.ok sc_read_row (fun vs H Q E h => fs_len h sp_len_read_row) (fun cdv A outer s H vs Q E hr h => ⟨t_read_row K (fun c d _ H' => E c d H'), ?_, fs_run h (w_read_row T.q_NO_WALLS _)⟩)
  exact (pss_cons (ps_expr (pe_callS (ok_look_at_text T) (hr.mono (by decide)) rfl T.m_look_at_text T.F_look_at_text.kp (bd_look_at_text T) (fun σ => passAt (takes_of rfl rfl rfl rfl) σ) (pa_cons (pv 0) pa_nil)))
      (pss_cons (ps_set (i := 1) sc_read_row.nd rfl (Or.inl rfl) (pe_callTy call_tup' rfl T.z_tuple (by decide +kernel) (pa_cons (pe_lcE (own := [("part", 2)]) (g := (gName 2)) (tt := tYes) rfl rfl (takes_of rfl rfl rfl rfl) rfl sc_read_row.nd (pi_seq (pe_bm PySem.F.plainAttrs_str PySem.F.slot_str_split PySem.F.type_str_split mt_splitT (pv 0) (pa_cons pe_str pa_nil))) (blkOk_by (N := N_read_row) (sc := defScope s_read_row) (by decide +kernel)) (fun _ _ _ _ _ => (pg_name (i := 2) sc_read_row.nd rfl (Or.inl rfl))) (fun _ _ _ _ _ => pts_nil) (fun _ _ _ _ _ Eσ => (pe_callS (ok_ball_in T) (hr.mono (by decide)) rfl T.m_ball_in T.F_ball_in.kp (bd_ball_in T) (fun σ => passC σ) (pa_cons (pv 2) pa_nil)))) pa_nil)))
      (pss_cons (ps_if (pt_not (pt_val (pe_call (ok_is_row T) (hr.mono (by decide)) rfl T.m_is_row T.F_is_row.kp (bd_is_row T) .nil passL (pa_cons (pe_glob rfl T.g_NO_WALLS rfl) (pa_cons (pv 1) pa_nil))))) (pss_one (ps_rs rfl (takes_of rfl rfl rfl rfl) T.xc_NoText rfl)) pss_nil)
      (pss_one (ps_ret (pv 1))))))
theorem bd_law_refused (T : Txt K mg) : Binds K (fdK K ("_law_refused", none)) P_law_refused [] := T.F_law_refused.bindsN fun _ _ _ _ _ _ us hl => match us, hl with | [_], _ => rfl
set_option maxHeartbeats 4000000 in
theorem ok_law_refused (T : Txt K mg) : FnOk P w K mg base (L2.CX P w) 6 (fA K "_law_refused") (fdK K ("_law_refused", none)) P_law_refused (FS K (sp_law_refused K)) := by
  refine T.F_law_refused.ok sc_law_refused (fun vs H Q E h => fs_len h sp_len_law_refused) (fun cdv A outer s H vs Q E hr h => ⟨t_law_refused K (fun c d _ H' => E c d H'), ?_, fs_run h (w_law_refused T.em_NoText_NoText _)⟩)
  exact (pss_cons (ps_set (i := 1) sc_law_refused.nd rfl (Or.inl rfl) (pe_lst pa_nil))
      (pss_cons (ps_tryO rfl rfl rfl T.xc_NoText (takes_of rfl rfl rfl rfl) (fun W' pn xe tk po => (pss_one (ps_expr (pe_callS (ok_read_row T) (hr.mono (by decide)) rfl T.m_read_row T.F_read_row.kp (bd_read_row T) (fun σ => passAt tk σ) (pa_cons (pv 0) pa_nil))))) (fun a oe cls dd pn hz hf => (pss_one (ps_expr (pe_bm PySem.F.plainAttrs_list PySem.F.slot_list_append PySem.F.type_list_append mt_append (pv 1) (pa_cons pe_bl pa_nil))))))
      (pss_one (ps_ret (pe_cmpR (op_eqD hr.units) (pv 1) (pe_lst (pa_cons pe_bl pa_nil)) (nomark _))))))
theorem bd_law_small (T : Txt K mg) : Binds K (fdK K ("_law_small", none)) P_law_small [] := T.F_law_small.bindsN fun _ _ _ _ _ _ us hl => match us, hl with | [_], _ => rfl
set_option maxHeartbeats 4000000 in
theorem ok_law_small (T : Txt K mg) : FnOk P w K mg base (L2.CX P w) 3 (fA K "_law_small") (fdK K ("_law_small", none)) P_law_small (FS K (sp_law_small K)) := by
  refine T.F_law_small.ok sc_law_small (fun vs H Q E h => fs_len h sp_len_law_small) (fun cdv A outer s H vs Q E hr h => ⟨t_law_small K (fun c d _ H' => E c d H'), ?_, fs_run h (w_law_small  _)⟩)
  exact (pss_one (ps_ret (pe_call (ok_law_low T) (hr.mono (by decide)) rfl T.m_law_low T.F_law_low.kp (bd_law_low T) .nil passL (pa_cons (pe_op op_sub' (pe_call (ok_law_next T) (hr.mono (by decide)) rfl T.m_law_next T.F_law_next.kp (bd_law_next T) .nil passL (pa_cons (pv 0) (pa_cons pe_int pa_nil))) pe_int) (pa_cons (pe_ix ix_seq (pe_lst (pa_cons pe_int (pa_cons pe_int (pa_cons pe_int (pa_cons pe_int (pa_cons pe_int (pa_cons pe_int (pa_cons pe_int (pa_cons pe_int pa_nil))))))))) (pe_call (ok_law_next T) (hr.mono (by decide)) rfl T.m_law_next T.F_law_next.kp (bd_law_next T) .nil passL (pa_cons (pv 0) (pa_cons pe_int pa_nil))) (fun _ _ => rfl)) pa_nil)))))
theorem bd_law_sum (T : Txt K mg) : Binds K (fdK K ("_law_sum", none)) P_law_sum [] := T.F_law_sum.bindsN fun _ _ _ _ _ _ us hl => match us, hl with | [_, _], _ => rfl
set_option maxHeartbeats 4000000 in
theorem ok_law_sum (T : Txt K mg) : FnOk P w K mg base (L2.CX P w) 3 (fA K "_law_sum") (fdK K ("_law_sum", none)) P_law_sum (FS K (sp_law_sum K)) := by
  refine T.F_law_sum.ok sc_law_sum (fun vs H Q E h => fs_len h sp_len_law_sum) (fun cdv A outer s H vs Q E hr h => ⟨t_law_sum K (fun c d _ H' => E c d H'), ?_, fs_run h (w_law_sum  _)⟩)
  exact (pss_one (ps_ret (pe_call (ok_law_low T) (hr.mono (by decide)) rfl T.m_law_low T.F_law_low.kp (bd_law_low T) .nil passL (pa_cons (pe_op op_addX (pe_op op_mul' (pe_ix ix_seq (pv 0) pe_int (fun _ _ => rfl)) (pe_ix ix_seq (pv 1) pe_int (fun _ _ => rfl))) (pe_op op_mul' (pe_ix ix_seq (pv 1) pe_int (fun _ _ => rfl)) (pe_ix ix_seq (pv 0) pe_int (fun _ _ => rfl)))) (pa_cons (pe_op op_mul' (pe_ix ix_seq (pv 0) pe_int (fun _ _ => rfl)) (pe_ix ix_seq (pv 1) pe_int (fun _ _ => rfl))) pa_nil)))))
theorem bd_law_weight (T : Txt K mg) : Binds K (fdK K ("_law_weight", none)) P_law_weight [] := T.F_law_weight.bindsN fun _ _ _ _ _ _ us hl => match us, hl with | [_], _ => rfl
set_option maxHeartbeats 4000000 in
theorem ok_law_weight (T : Txt K mg) : FnOk P w K mg base (L2.CX P w) 2 (fA K "_law_weight") (fdK K ("_law_weight", none)) P_law_weight (FS K (sp_law_weight K)) := by
  refine T.F_law_weight.ok sc_law_weight (fun vs H Q E h => fs_len h sp_len_law_weight) (fun cdv A outer s H vs Q E hr h => ⟨t_law_weight K (fun c d _ H' => E c d H'), ?_, fs_run h (w_law_weight  _)⟩)
  exact (pss_one (ps_ret (pe_op op_addX pe_int (pe_call (ok_law_next T) (hr.mono (by decide)) rfl T.m_law_next T.F_law_next.kp (bd_law_next T) .nil passL (pa_cons (pv 0) (pa_cons (pe_ix ix_seq (pe_lst (pa_cons pe_int (pa_cons pe_int (pa_cons pe_int (pa_cons pe_int (pa_cons pe_int pa_nil)))))) (pe_call (ok_law_next T) (hr.mono (by decide)) rfl T.m_law_next T.F_law_next.kp (bd_law_next T) .nil passL (pa_cons (pv 0) (pa_cons pe_int pa_nil))) (fun _ _ => rfl)) pa_nil))))))
theorem bd_law_row (T : Txt K mg) : Binds K (fdK K ("_law_row", none)) P_law_row [] := T.F_law_row.bindsN fun _ _ _ _ _ _ us hl => match us, hl with | [_, _], _ => rfl
set_option maxHeartbeats 4000000 in
theorem ok_law_row (T : Txt K mg) : FnOk P w K mg base (L2.CX P w) 4 (fA K "_law_row") (fdK K ("_law_row", none)) P_law_row (FS K (sp_law_row K)) := by
  refine T.F_law_row.ok sc_law_row (fun vs H Q E h => fs_len h sp_len_law_row) (fun cdv A outer s H vs Q E hr h => ⟨t_law_row K (fun c d _ H' => E c d H'), ?_, fs_run h (w_law_row  _)⟩)
  exact (pss_cons (ps_set (i := 2) sc_law_row.nd rfl (Or.inl rfl) (pe_call (ok_law_small T) (hr.mono (by decide)) rfl T.m_law_small T.F_law_small.kp (bd_law_small T) .nil passL (pa_cons (pv 0) pa_nil)))
      (pss_cons (ps_set (i := 3) sc_law_row.nd rfl (Or.inl rfl) (pe_cmpR (op_eqD hr.units) (pe_call (ok_law_next T) (hr.mono (by decide)) rfl T.m_law_next T.F_law_next.kp (bd_law_next T) .nil passL (pa_cons (pv 0) (pa_cons pe_int pa_nil))) pe_int (nomark _)))
      (pss_cons (ps_set (i := 4) sc_law_row.nd rfl (Or.inl rfl) (pe_call (ok_law_weight T) (hr.mono (by decide)) rfl T.m_law_weight T.F_law_weight.kp (bd_law_weight T) .nil passL (pa_cons (pv 0) pa_nil)))
      (pss_cons (ps_set (i := 5) sc_law_row.nd rfl (Or.inl rfl) (pe_lst pa_nil))
      (pss_cons (ps_for (passes_of rfl) rfl (pi_range1 rfl T.z_range (pa_cons (pe_op op_addX pe_int (pe_call (ok_law_next T) (hr.mono (by decide)) rfl T.m_law_next T.F_law_next.kp (bd_law_next T) .nil passL (pa_cons (pv 0) (pa_cons (pv 1) pa_nil)))) pa_nil)) (pg_name (i := 6) sc_law_row.nd rfl (Or.inl rfl)) (pss_cons (ps_set (i := 7) sc_law_row.nd rfl (Or.inl rfl) (pe_call (ok_law_small T) (hr.mono (by decide)) rfl T.m_law_small T.F_law_small.kp (bd_law_small T) .nil passL (pa_cons (pv 0) pa_nil)))
      (pss_cons (ps_set (i := 8) sc_law_row.nd rfl (Or.inl rfl) (pe_ix ix_seq (pe_lst (pa_cons pe_int (pa_cons pe_int (pa_cons pe_int (pa_cons pe_int (pa_cons pe_int (pa_cons (pe_op op_addX pe_int (pe_call (ok_law_next T) (hr.mono (by decide)) rfl T.m_law_next T.F_law_next.kp (bd_law_next T) .nil passL (pa_cons (pv 0) (pa_cons pe_int pa_nil)))) pa_nil))))))) (pe_call (ok_law_next T) (hr.mono (by decide)) rfl T.m_law_next T.F_law_next.kp (bd_law_next T) .nil passL (pa_cons (pv 0) (pa_cons pe_int pa_nil))) (fun _ _ => rfl)))
      (pss_cons (ps_set (i := 8) sc_law_row.nd rfl (Or.inl rfl) (pe_call (ok_law_low T) (hr.mono (by decide)) rfl T.m_law_low T.F_law_low.kp (bd_law_low T) .nil passL (pa_cons (pv 8) (pa_cons (pe_op op_addX pe_int (pe_call (ok_law_next T) (hr.mono (by decide)) rfl T.m_law_next T.F_law_next.kp (bd_law_next T) .nil passL (pa_cons (pv 0) (pa_cons pe_int pa_nil)))) pa_nil))))
      (pss_cons (ps_set (i := 2) sc_law_row.nd rfl (Or.inl rfl) (pe_call (ok_law_sum T) (hr.mono (by decide)) rfl T.m_law_sum T.F_law_sum.kp (bd_law_sum T) .nil passL (pa_cons (pv 2) (pa_cons (pv 8) pa_nil))))
      (pss_cons (ps_if (PW.pt (pw_and (pt_cmpR op_gt' (pv 6) pe_int (nomark _)) (pw_and (pt_cmpR (op_eqD hr.units) (pe_ix ix_seq (pv 8) pe_int (fun _ _ => rfl)) pe_int (nomark _)) (pw_and1 (pt_not (pt_val (pe_call (ok_law_below T) (hr.mono (by decide)) rfl T.m_law_below T.F_law_below.kp (bd_law_below T) .nil passL (pa_cons (pe_ix ix_seq (pe_ix ix_seq (pv 5) (pe_un un_neg' pe_int) (fun _ _ => rfl)) pe_int (fun _ _ => rfl)) (pa_cons (pv 7) pa_nil))))))))) (pss_one (ps_set (i := 7) sc_law_row.nd rfl (Or.inl rfl) (pe_call (ok_law_sum T) (hr.mono (by decide)) rfl T.m_law_sum T.F_law_sum.kp (bd_law_sum T) .nil passL (pa_cons (pe_ix ix_seq (pe_ix ix_seq (pv 5) (pe_un un_neg' pe_int) (fun _ _ => rfl)) pe_int (fun _ _ => rfl)) (pa_cons (pe_tup (pa_cons pe_int (pa_cons pe_int pa_nil))) pa_nil))))) pss_nil)
      (pss_cons (ps_if (pt_not (pt_val (pv 3))) (pss_one (ps_set (i := 4) sc_law_row.nd rfl (Or.inl rfl) (pe_call (ok_law_weight T) (hr.mono (by decide)) rfl T.m_law_weight T.F_law_weight.kp (bd_law_weight T) .nil passL (pa_cons (pv 0) pa_nil)))) pss_nil)
      (pss_one (ps_expr (pe_bm PySem.F.plainAttrs_list PySem.F.slot_list_append PySem.F.type_list_append mt_append (pv 5) (pa_cons (pe_tup (pa_cons (pv 2) (pa_cons (pv 7) (pa_cons (pv 4) pa_nil)))) pa_nil)))))))))))
      (pss_one (ps_ret (pe_callTy call_tup' rfl T.z_tuple (by decide +kernel) (pa_cons (pv 5) pa_nil)))))))))
theorem bd_law_told (T : Txt K mg) : Binds K (fdK K ("_law_told", none)) P_law_told [] := T.F_law_told.bindsN fun _ _ _ _ _ _ us hl => match us, hl with | [_], _ => rfl
set_option maxHeartbeats 4000000 in
theorem ok_law_told (T : Txt K mg) : FnOk P w K mg base (L2.CX P w) 6 (fA K "_law_told") (fdK K ("_law_told", none)) P_law_told (FS K (sp_law_told K)) := by
  refine T.F_law_told.ok sc_law_told (fun vs H Q E h => fs_len h sp_len_law_told) (fun cdv A outer s H vs Q E hr h => ⟨t_law_told K (fun c d _ H' => E c d H'), ?_, fs_run h (w_law_told T.em_NoText_NoText _)⟩)
  exact (pss_cons (ps_set (i := 1) sc_law_told.nd rfl (Or.inl rfl) pe_non)
      (pss_cons (ps_tryO rfl rfl rfl T.xc_NoText (takes_of rfl rfl rfl rfl) (fun W' pn xe tk po => (pss_one (ps_set (i := 1) sc_law_told.nd rfl (Or.inl rfl) (pe_callS (ok_read_row T) (hr.mono (by decide)) rfl T.m_read_row T.F_read_row.kp (bd_read_row T) (fun σ => passAt tk σ) (pa_cons (pv 0) pa_nil))))) (fun a oe cls dd pn hz hf => (pss_one (ps_set (i := 1) sc_law_told.nd rfl (Or.inl rfl) pe_non))))
      (pss_one (ps_ret (pv 1)))))
theorem bd_row_text (T : Txt K mg) : Binds K (fdK K ("row_text", none)) P_row_text [] := T.F_row_text.bindsN fun _ _ _ _ _ _ us hl => match us, hl with | [_], _ => rfl
set_option maxHeartbeats 4000000 in
theorem ok_row_text (T : Txt K mg) : FnOk P w K mg base (L2.CX P w) 2 (fA K "row_text") (fdK K ("row_text", none)) P_row_text (FS K (sp_row_text K)) := by
  refine T.F_row_text.ok sc_row_text (fun vs H Q E h => fs_len h sp_len_row_text) (fun cdv A outer s H vs Q E hr h => ⟨t_row_text K (fun c d _ H' => E c d H'), ?_, fs_run h (w_row_text  _)⟩)
  exact (pss_one (ps_ret (pe_bm PySem.F.plainAttrs_str PySem.F.slot_str_join PySem.F.type_str_join mt_joinT pe_str (pa_cons (pe_lc (own := [("place", 1), ("speed", 2), ("weight", 3)]) (g := (gTup K 3 (gCons (gName 1) (gCons (gName 2) (gCons (gName 3) gNil))))) (tt := tYes) rfl sc_row_text.nd (pi_seq (pv 0)) (blkOk_by (N := N_row_text) (sc := defScope s_row_text) (by decide +kernel)) (fun _ _ _ _ _ => (pg_tup rfl (pgs_cons (pg_name (i := 1) sc_row_text.nd rfl (Or.inl rfl)) (pgs_cons (pg_name (i := 2) sc_row_text.nd rfl (Or.inl rfl)) (pgs_cons (pg_name (i := 3) sc_row_text.nd rfl (Or.inl rfl)) pgs_nil))))) (fun _ _ _ _ _ => pts_nil) (fun _ _ _ _ _ => (pe_bm PySem.F.plainAttrs_str PySem.F.slot_str_join PySem.F.type_str_join mt_joinT pe_str (pa_cons (pe_lst (pa_cons (pe_call (ok_ratio_text T) (hr.mono (by decide)) rfl T.m_ratio_text T.F_ratio_text.kp (bd_ratio_text T) .nil passL (pa_cons (pv 1) pa_nil)) (pa_cons (pe_call (ok_ratio_text T) (hr.mono (by decide)) rfl T.m_ratio_text T.F_ratio_text.kp (bd_ratio_text T) .nil passL (pa_cons (pv 2) pa_nil)) (pa_cons (pe_callTy call_strI rfl T.z_str (by decide +kernel) (pa_cons (pv 3) pa_nil)) pa_nil)))) pa_nil)))) pa_nil))))
set_option maxHeartbeats 4000000 in
theorem ok_law (T : Txt K mg) : FnOk P w K mg base (L2.CX P w) 7 (fA K "law") (fdK K ("law", none)) P_law (FS K (sp_law K)) := by
  refine T.F_law.ok sc_law (fun vs H Q E h => fs_len h sp_len_law) (fun cdv A outer s H vs Q E hr h => ⟨t_law K (fun c d _ H' => E c d H'), ?_, fs_run h (w_law  _)⟩)
  exact (pss_cons (ps_for (passes_of rfl) rfl (pi_seq (pe_op op_addX (pe_lst (pa_cons pe_int pa_nil)) (pv 0))) (pg_name (i := 1) sc_law.nd rfl (Or.inl rfl)) (pss_cons (ps_set (i := 2) sc_law.nd rfl (Or.inl rfl) (pe_call (ok_law_pool T) (hr.mono (by decide)) rfl T.m_law_pool T.F_law_pool.kp (bd_law_pool T) .nil passL (pa_cons (pv 1) pa_nil)))
      (pss_cons (ps_set (i := 3) sc_law.nd rfl (Or.inl rfl) (pe_call (ok_law_row T) (hr.mono (by decide)) rfl T.m_law_row T.F_law_row.kp (bd_law_row T) .nil passL (pa_cons (pv 2) (pa_cons pe_int pa_nil))))
      (pss_cons (ps_set (i := 4) sc_law.nd rfl (Or.inl rfl) (pe_call (ok_law_row_text T) (hr.mono (by decide)) rfl T.m_law_row_text T.F_law_row_text.kp (bd_law_row_text T) .nil passL (pa_cons (pv 3) pa_nil)))
      (pss_cons (ps_if (PW.pt (pw_or (pt_cmpR (op_neD hr.units) (pe_call (ok_row_text T) (hr.mono (by decide)) rfl T.m_row_text T.F_row_text.kp (bd_row_text T) .nil passL (pa_cons (pv 3) pa_nil)) (pv 4) (nomark _)) (pw_or1 (pt_cmpR (op_neD hr.units) (pe_call (ok_read_row T) (hr.mono (by decide)) rfl T.m_read_row T.F_read_row.kp (bd_read_row T) .nil passL (pa_cons (pv 4) pa_nil)) (pv 3) (nomark _))))) (pss_one (ps_ret pe_bl)) pss_nil)
      (pss_cons (ps_set (i := 5) sc_law.nd rfl (Or.inl rfl) (pe_bm PySem.F.plainAttrs_str PySem.F.slot_str_join PySem.F.type_str_join mt_joinT pe_str (pa_cons (pe_lc (own := [("k", 7)]) (g := (gName 7)) (tt := tYes) rfl sc_law.nd (pi_range1 rfl T.z_range (pa_cons pe_int pa_nil)) (blkOk_by (N := N_law) (sc := defScope s_law) (by decide +kernel)) (fun _ _ _ _ _ => (pg_name (i := 7) sc_law.nd rfl (Or.inl rfl))) (fun _ _ _ _ _ => pts_nil) (fun _ _ _ _ _ => (pe_op op_addX (pe_call (ok_law_figures T) (hr.mono (by decide)) rfl T.m_law_figures T.F_law_figures.kp (bd_law_figures T) .nil passL (pa_cons (pv 7) pa_nil)) pe_str))) pa_nil)))
      (pss_cons (ps_if (PW.pt (pw_or (pt_not (pt_val (pe_call (ok_law_refused T) (hr.mono (by decide)) rfl T.m_law_refused T.F_law_refused.kp (bd_law_refused T) .nil passL (pa_cons (pe_call (ok_law_amiss T) (hr.mono (by decide)) rfl T.m_law_amiss T.F_law_amiss.kp (bd_law_amiss T) .nil passL (pa_cons (pv 3) (pa_cons (pv 2) pa_nil))) pa_nil)))) (pw_or1 (pt_not (pt_val (pe_call (ok_law_refused T) (hr.mono (by decide)) rfl T.m_law_refused T.F_law_refused.kp (bd_law_refused T) .nil passL (pa_cons (pv 5) pa_nil))))))) (pss_one (ps_ret pe_bl)) pss_nil)
      (pss_cons (ps_set (i := 6) sc_law.nd rfl (Or.inl rfl) (pe_call (ok_law_bent T) (hr.mono (by decide)) rfl T.m_law_bent T.F_law_bent.kp (bd_law_bent T) .nil passL (pa_cons (pv 4) (pa_cons (pv 2) pa_nil))))
      (pss_one (ps_if (pt_cmpR (op_neD hr.units) (pe_call (ok_law_told T) (hr.mono (by decide)) rfl T.m_law_told T.F_law_told.kp (bd_law_told T) .nil passL (pa_cons (pv 6) pa_nil)) (pe_call (ok_law_read_row T) (hr.mono (by decide)) rfl T.m_law_read_row T.F_law_read_row.kp (bd_law_read_row T) .nil passL (pa_cons (pv 6) pa_nil)) (nomark _)) (pss_one (ps_ret pe_bl)) pss_nil))))))))))
      (pss_one (ps_ret pe_bl)))
end
theorem txt {K : KF} {h : Heap} {mg : Str → Option Value} (X : K.In h) (G : h.Ns mainGlobals mg) (c : He.SaysD fa fn K) (ce : ex K = true) : Txt K mg := by
  have exat : ∀ (i : Nat) {b : Bool}, (exs K)[i]? = some b → b = true := fun i b e => List.all_eq_true.mp ce b (List.mem_of_getElem? e)
  exact {
    F_law_common := fd_of c 0 rfl
    m_law_common := He.glo_ok X G (c.fact 0 rfl)
    F_law_low := fd_of c 1 rfl
    m_law_low := He.glo_ok X G (c.fact 1 rfl)
    F_law_gap := fd_of c 2 rfl
    m_law_gap := He.glo_ok X G (c.fact 2 rfl)
    F_law_next := fd_of c 3 rfl
    m_law_next := He.glo_ok X G (c.fact 3 rfl)
    F_law_figures := fd_of c 4 rfl
    m_law_figures := He.glo_ok X G (c.fact 4 rfl)
    F_law_ratio_text := fd_of c 5 rfl
    m_law_ratio_text := He.glo_ok X G (c.fact 5 rfl)
    F_law_row_text := fd_of c 6 rfl
    m_law_row_text := He.glo_ok X G (c.fact 6 rfl)
    F_law_amiss := fd_of c 7 rfl
    m_law_amiss := He.glo_ok X G (c.fact 7 rfl)
    F_law_bent := fd_of c 8 rfl
    m_law_bent := He.glo_ok X G (c.fact 8 rfl)
    F_law_pool := fd_of c 9 rfl
    m_law_pool := He.glo_ok X G (c.fact 9 rfl)
    F_law_below := fd_of c 10 rfl
    m_law_below := He.glo_ok X G (c.fact 10 rfl)
    F_law_value := fd_of c 11 rfl
    m_law_value := He.glo_ok X G (c.fact 11 rfl)
    F_law_read := fd_of c 12 rfl
    m_law_read := He.glo_ok X G (c.fact 12 rfl)
    F_law_read_row := fd_of c 13 rfl
    m_law_read_row := He.glo_ok X G (c.fact 13 rfl)
    F_are_figures := fd_of c 14 rfl
    m_are_figures := He.glo_ok X G (c.fact 14 rfl)
    F_number_in := fd_of c 15 rfl
    m_number_in := He.glo_ok X G (c.fact 15 rfl)
    F_divisor_of := fd_of c 16 rfl
    m_divisor_of := He.glo_ok X G (c.fact 16 rfl)
    F_is_whole := fd_of c 17 rfl
    m_is_whole := He.glo_ok X G (c.fact 17 rfl)
    F_is_ratio := fd_of c 18 rfl
    m_is_ratio := He.glo_ok X G (c.fact 18 rfl)
    F_look_at_text := fd_of c 19 rfl
    m_look_at_text := He.glo_ok X G (c.fact 19 rfl)
    F_ratio_text := fd_of c 20 rfl
    m_ratio_text := He.glo_ok X G (c.fact 20 rfl)
    F_read_ratio := fd_of c 21 rfl
    m_read_ratio := He.glo_ok X G (c.fact 21 rfl)
    F_ball_in := fd_of c 22 rfl
    m_ball_in := He.glo_ok X G (c.fact 22 rfl)
    F_is_tuple_of := fd_of c 23 rfl
    m_is_tuple_of := He.glo_ok X G (c.fact 23 rfl)
    F_is_ball := fd_of c 24 rfl
    m_is_ball := He.glo_ok X G (c.fact 24 rfl)
    F_less := fd_of c 25 rfl
    m_less := He.glo_ok X G (c.fact 25 rfl)
    F_may_stand := fd_of c 26 rfl
    m_may_stand := He.glo_ok X G (c.fact 26 rfl)
    F_is_within := fd_of c 27 rfl
    m_is_within := He.glo_ok X G (c.fact 27 rfl)
    F_is_row := fd_of c 28 rfl
    m_is_row := He.glo_ok X G (c.fact 28 rfl)
    F_read_row := fd_of c 29 rfl
    m_read_row := He.glo_ok X G (c.fact 29 rfl)
    F_law_refused := fd_of c 30 rfl
    m_law_refused := He.glo_ok X G (c.fact 30 rfl)
    F_law_small := fd_of c 31 rfl
    m_law_small := He.glo_ok X G (c.fact 31 rfl)
    F_law_sum := fd_of c 32 rfl
    m_law_sum := He.glo_ok X G (c.fact 32 rfl)
    F_law_weight := fd_of c 33 rfl
    m_law_weight := He.glo_ok X G (c.fact 33 rfl)
    F_law_row := fd_of c 34 rfl
    m_law_row := He.glo_ok X G (c.fact 34 rfl)
    F_law_told := fd_of c 35 rfl
    m_law_told := He.glo_ok X G (c.fact 35 rfl)
    F_row_text := fd_of c 36 rfl
    m_row_text := He.glo_ok X G (c.fact 36 rfl)
    F_law := fd_of c 37 rfl
    m_law := He.glo_ok X G (c.fact 37 rfl)
    z_abs := He.free_ok X G (c.fact 38 rfl)
    z_all := He.free_ok X G (c.fact 39 rfl)
    z_bool := He.free_ok X G (c.fact 40 rfl)
    z_int := He.free_ok X G (c.fact 41 rfl)
    z_isinstance := He.free_ok X G (c.fact 42 rfl)
    z_len := He.free_ok X G (c.fact 43 rfl)
    z_max := He.free_ok X G (c.fact 44 rfl)
    z_range := He.free_ok X G (c.fact 45 rfl)
    z_str := He.free_ok X G (c.fact 46 rfl)
    z_tuple := He.free_ok X G (c.fact 47 rfl)
    z_zip := He.free_ok X G (c.fact 48 rfl)
    g_FIGURES := He.str_ok X G (c.fact 49 rfl)
    g_GREATEST := He.int_ok X G (c.fact 50 rfl)
    g_HIGH := He.int_ok X G (c.fact 51 rfl)
    g_LOW := He.int_ok X G (c.fact 52 rfl)
    g_MOST_BALLS := He.int_ok X G (c.fact 53 rfl)
    g_MOST_FIGURES := He.int_ok X G (c.fact 54 rfl)
    g_NO_WALLS := He.glo_ok X G (c.fact 55 rfl)
    q_NO_WALLS := exat 0 rfl
    g_PLACE := He.int_ok X G (c.fact 56 rfl)
    g_SPEED := He.int_ok X G (c.fact 57 rfl)
    g_WEIGHT := He.int_ok X G (c.fact 58 rfl)
    em_NoText_NoText := of_decide_eq_true (exat 1 rfl)
    xc_NoText := xc_of X G (c.fact 59 rfl) (c.fact 60 rfl) }
end LK
open PySem PySem.W PySem.Calls PyProof.Rows
set_option maxRecDepth 100000 in
set_option maxHeartbeats 0 in
theorem PySem.Challenge.cw_clackrow_k70_whole_rows_written_and_read_holds : PySem.Challenge.rw_clackrow_k70_whole_rows_written_and_read.Holds := by
  w_on; o_law
  refine HandSHeadRun.head_any (r := OpenLaw.row PySem.Challenge.rw_clackrow_k70_whole_rows_written_and_read) (q := view (OpenLaw.row PySem.Challenge.rw_clackrow_k70_whole_rows_written_and_read).prog [54]) (H := LK.hk) (ob := LK.ob) (M := 20000) (loose := LK.names) (d := HandSHeadRun.topDef (OpenLaw.row PySem.Challenge.rw_clackrow_k70_whole_rows_written_and_read).prog 54) (kwd := []) LK.ob_eq
    (by kernel_rfl) (fun s => by kernel_rfl) LK.run (by kernel_rfl) (by kernel_rfl) (by kernel_rfl) (by rfl) (by first | assumption | decide +kernel) (by decide +kernel) ⟨rfl, rfl, rfl, rfl, rfl, by decide +kernel⟩ ?hw ?hc
  case hw => w_witness2
  case hc =>
    refine HL.walk_ofW (l := PySem.Challenge.rw_clackrow_k70_whole_rows_written_and_read) (n := 63) (k := 7) (x := "script") (CX := fun w => L2.CX (PySem.Challenge.rw_clackrow_k70_whole_rows_written_and_read).prog w) rfl (by decide) (by kernel_rfl) ⟨rfl, by decide, by decide⟩ ?F (fun w H s e s' h => HL.cx_no h)
    intro w mg fa h Y G hmg0
    obtain ⟨K, KX, c, ce⟩ := Y
    have hmg : mg ("law" : PySem.Str) = some (.ref fa) := by
      have e : (HandSHeadRun.topDef (OpenLaw.row PySem.Challenge.rw_clackrow_k70_whole_rows_written_and_read).prog 54).name = ("law" : PySem.Str) := by kernel_rfl
      rw [← e]
      exact hmg0
    have T : LK.Txt K mg := LK.txt KX G c ce
    have ea := hmg.symm.trans T.m_law
    cases ea
    exact ⟨K, _, _, KX, fun s v => L2.FunD.bindsA (ps := ["script"]) T.F_law (fun _ _ _ _ _ _ us hl => match us, hl with | [_], _ => rfl) s [v] rfl, fun H a ns hl _ hS => HL.law_start hS ⟨ns, rfl, hl, fun _ => rfl⟩, fun base _ _ => LK.ok_law T⟩
