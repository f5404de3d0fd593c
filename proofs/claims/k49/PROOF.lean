import PyProof.Rows.All
import Wide.All
import OpenK.AllK
import Wide.FinOn
import HandS.ForExc
import HandS.ForMost
import HandS.Evl
import HandS.Wide
import HandS.IsInst
import HandS.Zip
import HandS.ExcInit
import HandS.Defaults
import HandS.ExcValue
import HandS.TupAny
import HandS.Walk
import HandS.TupMul
import HandS.More
import HandS.Words
import HandS.WordsExc
import HandS.Head0
import HandS.Head1
import HandS.Head2
import HandS.HeadEnd
import HandS.HeadHook1
import HandS.HeadHook2
import HandS.ExcOwn
import HandS.ExcIs
import HandS.Deep
import HandS.TupLe
import HandS.Style
import HandS.Iter
import PySem.Challenge.RW_clackrow_k49_numbers_judged
set_option Elab.async false
set_option linter.all false
set_option maxRecDepth 100000
set_option maxHeartbeats 4000000
namespace HL
open PySem PySem.Spec PyProof.Rows L2 Evl
abbrev KF := PySem.W.Frag
def obsM (n : Nat) (fa : List He.Fa) (fn : List He.DefD) (ex : KF → Bool) (g : Addr → Option Obj) : He.AlD × Bool := (He.obsD fa fn (He.frG g (He.asD g n)), ex (He.frG g (He.asD g n)))
def hookM (n : Nat) (fa : List He.Fa) (fn : List He.DefD) (ex : KF → Bool) : PySem.W.Hook where
  α := He.AlD × Bool
  obs := fun s => obsM n fa fn ex s.heap.get?
  val := fun _ => (He.valD fn, true)
  says := fun _ h => ∃ K : PySem.W.Frag, K.In h ∧ He.SaysD fa fn K ∧ ex K = true
  of := fun _ _ e => ⟨_, He.frG_in, congrArg (fun z : He.AlD × Bool => z.1) e, congrArg (fun z : He.AlD × Bool => z.2) e⟩
  keeps := fun _ _ _ ⟨K, hK, c⟩ k => ⟨K, PySem.W.Frag.In.keeps hK k, c⟩
theorem obsM_eq {n : Nat} {fa : List He.Fa} {fn : List He.DefD} {ex : KF → Bool} {g : Addr → Option Obj} {s : Shared} (h : ∀ a, g a = s.heap.get? a) : obsM n fa fn ex g = (hookM n fa fn ex).obs s := by
  have e : g = s.heap.get? := funext h
  rw [e] <;> rfl
def excB (K : KF) (D : Addr) : Bool := decide (PySem.W.findIn K (.ref D) "__getattribute__" = some (some (.builtin "BaseException.__getattribute__"))) && (decide (PySem.W.findIn K (.ref D) "__getattr__" = some none) && (decide (PySem.W.subIn K (.ref D) (.type "BaseException") = some true) && (PySem.W.hasDictIn K D &&
  (decide (PySem.W.findIn K (.ref D) "__class__" = some (some (.builtin "object.__class__"))) && (decide (PySem.W.specialIn K (.builtin "object.__class__") "__get__" = some (some (.builtin "getset_descriptor.__get__"))) && (decide (PySem.W.takesIn K (.builtin "object.__class__") = some true) && decide (PySem.W.mroIn K D (.type "object") = some true)))))))
abbrev KA (K : KF) (x y : Str) (b : Bool) : Prop := PySem.W.kitOne K (.ref (He.ga K x)) (.ref (He.ga K y)) = some b
abbrev KV (K : KF) (x : Str) (y : String) (b : Bool) : Prop := PySem.W.kitOne K (.ref (He.ga K x)) (.type y) = some b
abbrev EM (K : KF) (x y : Str) (b : Bool) : Prop := PySem.W.exmOne K (.ref (He.ga K x)) (.ref (He.ga K y)) = some b
end HL
namespace LK
open PySem PySem.Spec PyProof.Rows L2 Evl HL
def top (i : Nat) : Stmt := PySem.Challenge.pw_clackrow_k49_numbers_judged.main.body.getD i (.Pass ⟨0, 0, 0, 0⟩)
abbrev s_law_next : Stmt := top 20
abbrev s_law_common : Stmt := top 21
abbrev s_law_low : Stmt := top 22
abbrev s_law_by : Stmt := top 24
abbrev s_law_gap : Stmt := top 23
abbrev s_law_numbers : Stmt := top 26
abbrev s_law_small : Stmt := top 27
abbrev s_law_three : Stmt := top 25
abbrev s_law_other : Stmt := top 28
abbrev s_law_pool : Stmt := top 19
abbrev s_is_whole : Stmt := top 5
abbrev s_is_weight : Stmt := top 13
abbrev s_look_at_weights : Stmt := top 14
abbrev s_divisor_of : Stmt := top 6
abbrev s_ratio : Stmt := top 7
abbrev s_factor_of : Stmt := top 15
abbrev s_minus : Stmt := top 8
abbrev s_times : Stmt := top 9
abbrev s_numbers_of : Stmt := top 16
abbrev s_lets_most : Stmt := top 17
abbrev s_law : Stmt := top 29
def fn : List He.DefD := [
  ⟨("_law_next", none), "_law_next", "_law_next", defArgs s_law_next, defBody s_law_next, defScope s_law_next, [], []⟩,
  ⟨("_law_common", none), "_law_common", "_law_common", defArgs s_law_common, defBody s_law_common, defScope s_law_common, [], []⟩,
  ⟨("_law_low", none), "_law_low", "_law_low", defArgs s_law_low, defBody s_law_low, defScope s_law_low, [], []⟩,
  ⟨("_law_by", none), "_law_by", "_law_by", defArgs s_law_by, defBody s_law_by, defScope s_law_by, [], []⟩,
  ⟨("_law_gap", none), "_law_gap", "_law_gap", defArgs s_law_gap, defBody s_law_gap, defScope s_law_gap, [], []⟩,
  ⟨("_law_numbers", none), "_law_numbers", "_law_numbers", defArgs s_law_numbers, defBody s_law_numbers, defScope s_law_numbers, [], []⟩,
  ⟨("_law_small", none), "_law_small", "_law_small", defArgs s_law_small, defBody s_law_small, defScope s_law_small, [], []⟩,
  ⟨("_law_three", none), "_law_three", "_law_three", defArgs s_law_three, defBody s_law_three, defScope s_law_three, [], []⟩,
  ⟨("_law_other", none), "_law_other", "_law_other", defArgs s_law_other, defBody s_law_other, defScope s_law_other, [], []⟩,
  ⟨("_law_pool", none), "_law_pool", "_law_pool", defArgs s_law_pool, defBody s_law_pool, defScope s_law_pool, [], []⟩,
  ⟨("is_whole", none), "is_whole", "is_whole", defArgs s_is_whole, defBody s_is_whole, defScope s_is_whole, [], []⟩,
  ⟨("is_weight", none), "is_weight", "is_weight", defArgs s_is_weight, defBody s_is_weight, defScope s_is_weight, [], []⟩,
  ⟨("look_at_weights", none), "look_at_weights", "look_at_weights", defArgs s_look_at_weights, defBody s_look_at_weights, defScope s_look_at_weights, [], []⟩,
  ⟨("divisor_of", none), "divisor_of", "divisor_of", defArgs s_divisor_of, defBody s_divisor_of, defScope s_divisor_of, [], []⟩,
  ⟨("ratio", none), "ratio", "ratio", defArgs s_ratio, defBody s_ratio, defScope s_ratio, [.int 1], []⟩,
  ⟨("factor_of", none), "factor_of", "factor_of", defArgs s_factor_of, defBody s_factor_of, defScope s_factor_of, [], []⟩,
  ⟨("minus", none), "minus", "minus", defArgs s_minus, defBody s_minus, defScope s_minus, [], []⟩,
  ⟨("times", none), "times", "times", defArgs s_times, defBody s_times, defScope s_times, [], []⟩,
  ⟨("numbers_of", none), "numbers_of", "numbers_of", defArgs s_numbers_of, defBody s_numbers_of, defScope s_numbers_of, [], []⟩,
  ⟨("lets_most", none), "lets_most", "lets_most", defArgs s_lets_most, defBody s_lets_most, defScope s_lets_most, [], []⟩,
  ⟨("law", none), "law", "law", defArgs s_law, defBody s_law, defScope s_law, [], []⟩]
def fa : List He.Fa := [.glo "_law_next", .glo "_law_common", .glo "_law_low", .glo "_law_by", .glo "_law_gap", .glo "_law_numbers", .glo "_law_small", .glo "_law_three", .glo "_law_other", .glo "_law_pool", .glo "is_whole", .glo "is_weight", .glo "look_at_weights", .glo "divisor_of", .glo "ratio", .glo "factor_of", .glo "minus", .glo "times", .glo "numbers_of", .glo "lets_most", .glo "law", .free "abs", .free "all", .free "bool", .free "int", .free "isinstance", .free "len", .free "list", .free "max", .free "range", .free "tuple", .int "GREATEST" (1000), .glo "ONE", .glo "NoRatio", .exc "NoRatio", .glo "NoRow", .exc "NoRow"]
def exs (K : KF) : List Bool := [He.tupB K "ONE" [.int (1), .int (1)]]
def ex (K : KF) : Bool := (exs K).all id
abbrev R : PySem.W.OpenRow := PySem.W.OpenLaw.row PySem.Challenge.rw_clackrow_k49_numbers_judged
abbrev hk : PySem.W.Hook := hookM 5 fa fn ex
def ob (s : PySem.W.SharedT) : He.AlD × Bool := obsM 5 fa fn ex (HandSHeadRun.getT s)
theorem ob_eq (s : PySem.W.SharedT) : ob s = hk.obs s.abs := obsM_eq (HandSHeadRun.getT_eq s)
def names0 : List Str := ["ClackError", "NoRatio", "NoRow", "is_whole", "divisor_of", "ratio", "minus", "times", "GREATEST", "ONE", "is_weight", "look_at_weights", "factor_of", "numbers_of", "lets_most", "_law_pool", "_law_next", "_law_common", "_law_low", "_law_gap", "_law_by", "_law_three", "_law_numbers", "_law_small", "_law_other"]
def names : List Str := names0
theorem run (w : World) : HandSHeadRun.RunEq R (PySem.W.view R.prog [29]) hk ob 20000 names w := by
  intro os
  kernel_rfl
end LK
namespace HL
open PySem PySem.Spec PyProof.Rows L2 Evl
/-- an exception: of a class without data, or one that bears a value -/
inductive Exc where
  | own (C : Addr)
  | low (C : Addr) (f : Str) (x : PyData)
  /-- made, not raised: held as a value at a -/
  | vo (C a : Addr)
  | vl (C : Addr) (f : Str) (x : PyData) (a : Addr)
/-- a part of a tuple -/
inductive Pt where
  | d (x : PyData)
  | o (i : Nat)
inductive DV where
  | d (x : PyData)
  | o (i : Nat)
  | v (x : V)
  | e (x : Exc) (a : Addr) (cls : Value) (dd : Option Addr)
  | t (ps : List Pt)
inductive OC where
  | lst (xs : List DV)
  | ins (C : Addr) (fs : List (Str × DV))
  | dic (kvs : List (Key × DV))
  | gone
abbrev Gm := List (Option DV)
abbrev Om := List OC
abbrev Mp := Nat → Addr
mutual
theorem dp_ex {K : KF} {G H : Hp} (e : Ex G H) : ∀ (x : PyData) (v : V), Dp K G v x → Dp K H v x
  | .none, _, h => by cases h; exact .non
  | .bool b, _, h => by cases h; exact .bl b
  | .int i, _, h => by cases h; exact .int i
  | .str x, _, h => by cases h; exact .str x
  | .list ds, _, h => by
    cases h with
    | lst hs ha => exact .lst (ex_l e hs) (dps_ex e ds _ ha)
  | .tuple ds, _, h => by
    cases h with
    | tup hs ha => exact .tup (ex_t e hs) (dps_ex e ds _ ha)
  | .dict _, _, h => by cases h
theorem dps_ex {K : KF} {G H : Hp} (e : Ex G H) : ∀ (xs : List PyData) (vs : List V), DpAll K G vs xs → DpAll K H vs xs
  | [], _, h => by cases h; exact .nil
  | d :: ds, _, h => by
    cases h with
    | cons h1 h2 => exact .cons (dp_ex e d _ h1) (dps_ex e ds _ h2)
end
def RX (K : KF) (G : Hp) : Exc → Value → Option Addr → Prop
  | .own C, c, d => c = .ref C ∧ d = none
  | .low C f x, c, d => c = .ref C ∧ ∃ (a : Addr) (v : V), d = some a ∧ G a = some (.xd [(f, v)]) ∧ Dp K G v x
  | .vo C a, c, d => c = .ref C ∧ d = none ∧ G a = some (ExO (.ref C) a)
  | .vl C f x a, c, d => c = .ref C ∧ ∃ (b : Addr) (v : V), d = some b ∧ G a = some (exo a C (some b)) ∧ G b = some (exd b [(f, v)]) ∧ Dp K G v x
theorem RX.mono {K : KF} {G G' : Hp} (g : Ex G G') : ∀ {e : Exc} {c : Value} {d : Option Addr}, RX K G e c d → RX K G' e c d
  | .own _, _, _, r => r
  | .low _ _ _, _, _, ⟨e, a, v, e1, e2, r⟩ => ⟨e, a, v, e1, g _ _ e2, dp_ex g _ _ r⟩
  | .vo _ _, _, _, ⟨e, e1, e2⟩ => ⟨e, e1, g _ _ e2⟩
  | .vl _ _ _ _, _, _, ⟨e, b, v, e1, e2, e3, r⟩ => ⟨e, b, v, e1, g _ _ e2, g _ _ e3, dp_ex g _ _ r⟩
def RPt (K : KF) (m : Mp) (G : Hp) (n : Nat) : Pt → V → Prop
  | .d x, v => Dp K G v x
  | .o i, v => i < n ∧ v = .ref (m i)
def RV (K : KF) (m : Mp) (G : Hp) (n : Nat) : DV → V → Prop
  | .d x, v => Dp K G v x
  | .o i, v => i < n ∧ v = .ref (m i)
  | .v x, v => v = x
  | .e x a c d, v => v = .ref a ∧ RX K G x c d
  | .t ps, v => ∃ a vs, v = .ref a ∧ G a = some (.tup vs) ∧ Paired (RPt K m G n) ps vs
structure Nxt (m : Mp) (n : Nat) (G : Hp) (m' : Mp) (G' : Hp) : Prop where
  mm : ∀ i, i < n → m' i = m i
  gg : Ex G G'
theorem Nxt.refl (m : Mp) (n : Nat) (G : Hp) : Nxt m n G m G := ⟨fun _ _ => rfl, Ex.refl G⟩
theorem Nxt.trans {m m1 m2 : Mp} {n n1 : Nat} {G G1 G2 : Hp} (a : Nxt m n G m1 G1) (h : n ≤ n1) (b : Nxt m1 n1 G1 m2 G2) : Nxt m n G m2 G2 :=
  ⟨fun i hi => (b.mm i (Nat.lt_of_lt_of_le hi h)).trans (a.mm i hi), a.gg.trans b.gg⟩
theorem RPt.mono {K : KF} {m m' : Mp} {G G' : Hp} {n n' : Nat} (x : Nxt m n G m' G') (h : n ≤ n') : ∀ {d : Pt} {v : V}, RPt K m G n d v → RPt K m' G' n' d v
  | .d y, v, r => dp_ex x.gg y v r
  | .o i, v, r => ⟨Nat.lt_of_lt_of_le r.1 h, r.2.trans (by rw [x.mm i r.1])⟩
theorem RV.mono {K : KF} {m m' : Mp} {G G' : Hp} {n n' : Nat} (x : Nxt m n G m' G') (h : n ≤ n') : ∀ {d : DV} {v : V}, RV K m G n d v → RV K m' G' n' d v
  | .d y, v, r => dp_ex x.gg y v r
  | .o i, v, r => ⟨Nat.lt_of_lt_of_le r.1 h, r.2.trans (by rw [x.mm i r.1])⟩
  | .v y, v, r => r
  | .e y a c d, v, r => ⟨r.1, RX.mono x.gg r.2⟩
  | .t ps, v, ⟨a, vs, e, g, r⟩ => ⟨a, vs, e, x.gg _ _ g, Paired.mono (fun _ _ q => RPt.mono x h q) r⟩
theorem RVs.mono {K : KF} {m m' : Mp} {G G' : Hp} {n n' : Nat} (x : Nxt m n G m' G') (h : n ≤ n') {ds : List DV} {vs : List V} (r : Paired (RV K m G n) ds vs) : Paired (RV K m' G' n') ds vs :=
  Paired.mono (fun _ _ q => RV.mono x h q) r
def FRel (K : KF) (m : Mp) (G : Hp) (n : Nat) (p : Str × DV) (q : Str × V) : Prop := p.1 = q.1 ∧ RV K m G n p.2 q.2
def KRel (K : KF) (m : Mp) (G : Hp) (n : Nat) (p : Key × DV) (q : Key × V) : Prop := q.1 = p.1 ∧ RV K m G n p.2 q.2
def Holds (K : KF) (m : Mp) (G : Hp) (n : Nat) (H : Hp) (a : Addr) : OC → Prop
  | .lst xs => ∃ vs, H a = some (.lst vs) ∧ Paired (RV K m G n) xs vs
  | .ins C fs => ∃ dx vs, H a = some (.ins C dx vs) ∧ Paired (FRel K m G n) fs vs
  | .dic kvs => ∃ vs, H a = some (.dK vs) ∧ Paired (KRel K m G n) kvs vs
  | .gone => True
theorem Holds.mono {K : KF} {m m' : Mp} {G G' : Hp} {n n' : Nat} {H H' : Hp} {a : Addr} (x : Nxt m n G m' G') (h : n ≤ n') (hh : ∀ o, H a = some o → H' a = some o) : ∀ {c : OC}, Holds K m G n H a c → Holds K m' G' n' H' a c
  | .lst xs, ⟨vs, e, r⟩ => ⟨vs, hh _ e, RVs.mono x h r⟩
  | .ins C fs, ⟨dx, vs, e, r⟩ => ⟨dx, vs, hh _ e, Paired.mono (fun _ _ q => ⟨q.1, RV.mono x h q.2⟩) r⟩
  | .dic kvs, ⟨vs, e, r⟩ => ⟨vs, hh _ e, Paired.mono (fun _ _ q => ⟨q.1, RV.mono x h q.2⟩) r⟩
  | .gone, _ => trivial
theorem Holds.some {K : KF} {m : Mp} {G : Hp} {n : Nat} {H : Hp} {a : Addr} : ∀ {c : OC}, c ≠ .gone → Holds K m G n H a c → ∃ o, H a = some o
  | .lst xs, _, ⟨_, e, _⟩ => ⟨_, e⟩
  | .ins C fs, _, ⟨_, _, e, _⟩ => ⟨_, e⟩
  | .dic _, _, ⟨_, e, _⟩ => ⟨_, e⟩
  | .gone, h, _ => absurd rfl h
structure Core (K : KF) (m : Mp) (G : Hp) (Ω : Om) (H : Hp) : Prop where
  ex : Ex G H
  fr : ∀ i c, Ω[i]? = some c → c ≠ .gone → G (m i) = none ∧ Holds K m G Ω.length H (m i) c
  inj : ∀ i j ci cj, Ω[i]? = some ci → Ω[j]? = some cj → ci ≠ .gone → cj ≠ .gone → m i = m j → i = j
section
variable {K : KF} {m m' : Mp} {G G' : Hp} {Ω Ω' : Om} {H H' : Hp} {p : Addr}
theorem lt_of_get {α : Type} {l : List α} {i : Nat} {x : α} (h : l[i]? = some x) : i < l.length := (List.getElem?_eq_some_iff.mp h).1
theorem fresh_g (c : Core K m G Ω H) (hp : H p = none) : G p = none := fresh_back c.ex hp
theorem Core.ne (c : Core K m G Ω H) (hp : H p = none) {i : Nat} {x : OC} (h : Ω[i]? = some x) (g : x ≠ .gone) : m i ≠ p := fun e => by
  obtain ⟨_, q⟩ := c.fr i x h g
  obtain ⟨o, z⟩ := Holds.some g q
  rw [e, hp] at z
  cases z
/-- a new thing that never changes -/
theorem Core.frz (c : Core K m G Ω H) (hp : H p = none) (o : HO) : Core K m (upd G p o) Ω (upd H p o) ∧ Nxt m Ω.length G m (upd G p o) := by
  have gp := fresh_g c hp
  have nx : Nxt m Ω.length G m (upd G p o) := ⟨fun _ _ => rfl, Ex.new gp⟩
  refine ⟨⟨fun a u e => ?_, fun i x h g => ?_, c.inj⟩, nx⟩
  · by_cases ha : a = p
    · subst ha
      rw [upd_same] at e ⊢
      exact e
    · rw [upd_ne ha] at e ⊢
      exact c.ex a u e
  · obtain ⟨q1, q2⟩ := c.fr i x h g
    have ne := c.ne hp h g
    exact ⟨by rw [upd_ne ne]; exact q1, Holds.mono nx (Nat.le_refl _) (fun o e => by rw [upd_ne ne]; exact e) q2⟩
/-- a new list of one's own -/
theorem Core.own (c : Core K m G Ω H) (hp : H p = none) {x : OC} {o : HO} (hx : Holds K m G Ω.length (upd H p o) p x) :
    ∃ m', Core K m' G (Ω ++ [x]) (upd H p o) ∧ Nxt m Ω.length G m' G ∧ m' Ω.length = p := by
  have gp := fresh_g c hp
  refine ⟨fun j => if j = Ω.length then p else m j, ?_, ⟨fun i hi => if_neg (Nat.ne_of_lt hi), Ex.refl G⟩, if_pos rfl⟩
  have nx : Nxt m Ω.length G (fun j => if j = Ω.length then p else m j) G := ⟨fun i hi => if_neg (Nat.ne_of_lt hi), Ex.refl G⟩
  have le : Ω.length ≤ (Ω ++ [x]).length := by simp
  refine ⟨fun a u e => ?_, fun i y h g => ?_, fun i j ci cj h1 h2 g1 g2 e => ?_⟩
  · rw [upd_ne (ne_of_none e gp)]
    exact c.ex a u e
  · by_cases hi : i < Ω.length
    · rw [List.getElem?_append_left hi] at h
      have ne := c.ne hp h g
      obtain ⟨q1, q2⟩ := c.fr i y h g
      simp only [if_neg (Nat.ne_of_lt hi)]
      exact ⟨q1, Holds.mono nx le (fun o e => by rw [upd_ne ne]; exact e) q2⟩
    · have hl := lt_of_get h
      rw [List.length_append, List.length_singleton] at hl
      have ei : i = Ω.length := by omega
      subst ei
      rw [List.getElem?_append_right (Nat.le_refl _), Nat.sub_self] at h
      have ey : x = y := Option.some.inj h
      subst ey
      simp only [if_true]
      exact ⟨gp, Holds.mono nx le (fun o e => e) hx⟩
  · have l1 := lt_of_get h1
    have l2 := lt_of_get h2
    rw [List.length_append, List.length_singleton] at l1 l2
    by_cases hi : i < Ω.length <;> by_cases hj : j < Ω.length
    · rw [List.getElem?_append_left hi] at h1
      rw [List.getElem?_append_left hj] at h2
      simp only [if_neg (Nat.ne_of_lt hi), if_neg (Nat.ne_of_lt hj)] at e
      exact c.inj i j ci cj h1 h2 g1 g2 e
    · rw [List.getElem?_append_left hi] at h1
      have ej : j = Ω.length := by omega
      simp only [if_neg (Nat.ne_of_lt hi), if_pos ej] at e
      exact absurd e (c.ne hp h1 g1)
    · rw [List.getElem?_append_left hj] at h2
      have ei : i = Ω.length := by omega
      simp only [if_neg (Nat.ne_of_lt hj), if_pos ei] at e
      exact absurd e.symm (c.ne hp h2 g2)
    · omega
/-- one's own thing is changed -/
theorem Core.write (c : Core K m G Ω H) {i : Nat} {x y : OC} {o : HO} (h : Ω[i]? = some x) (g : x ≠ .gone) (hy : Holds K m G Ω.length (upd H (m i) o) (m i) y) : Core K m G (Ω.set i y) (upd H (m i) o) := by
  obtain ⟨q1, q2⟩ := c.fr i x h g
  refine ⟨fun a u e => ?_, fun j z h2 g2 => ?_, fun j k cj ck h1 h2 g1 g2 e => ?_⟩
  · rw [upd_ne (ne_of_none e q1)]
    exact c.ex a u e
  · rw [List.length_set]
    rw [List.getElem?_set] at h2
    by_cases ej : i = j
    · subst ej
      have hi := lt_of_get h
      rw [if_pos rfl, if_pos hi] at h2
      cases h2
      exact ⟨q1, hy⟩
    · rw [if_neg ej] at h2
      obtain ⟨r1, r2⟩ := c.fr j z h2 g2
      have ne : m j ≠ m i := fun e => ej (c.inj i j x z h h2 g g2 e.symm)
      exact ⟨r1, Holds.mono (Nxt.refl _ _ _) (Nat.le_refl _) (fun o e => by rw [upd_ne ne]; exact e) r2⟩
  · have fix : ∀ {t : Nat} {ct : OC}, (Ω.set i y)[t]? = some ct → ct ≠ .gone → ∃ ct', Ω[t]? = some ct' ∧ ct' ≠ .gone := fun {t ct} h1 g1 => by
      rw [List.getElem?_set] at h1
      by_cases ej : i = t
      · subst ej; exact ⟨x, h, g⟩
      · rw [if_neg ej] at h1
        exact ⟨ct, h1, g1⟩
    obtain ⟨a1, b1, d1⟩ := fix h1 g1
    obtain ⟨a2, b2, d2⟩ := fix h2 g2
    exact c.inj j k a1 a2 b1 b2 d1 d2 e
/-- one's own thing is given away -/
theorem Core.freeze (c : Core K m G Ω H) {i : Nat} {x : OC} {o : HO} (h : Ω[i]? = some x) (g : x ≠ .gone) (ho : H (m i) = some o) : Core K m (upd G (m i) o) (Ω.set i .gone) H ∧ Nxt m Ω.length G m (upd G (m i) o) := by
  obtain ⟨q1, q2⟩ := c.fr i x h g
  have nx : Nxt m Ω.length G m (upd G (m i) o) := ⟨fun _ _ => rfl, Ex.new q1⟩
  refine ⟨⟨fun a u e => ?_, fun j z h2 g2 => ?_, fun j k cj ck h1 h2 g1 g2 e => ?_⟩, nx⟩
  · by_cases ha : a = m i
    · subst ha
      rw [upd_same] at e
      rw [← e]; exact ho
    · rw [upd_ne ha] at e
      exact c.ex a u e
  · rw [List.length_set]
    rw [List.getElem?_set] at h2
    by_cases ej : i = j
    · subst ej
      rw [if_pos rfl, if_pos (lt_of_get h)] at h2
      cases h2
      exact absurd rfl g2
    · rw [if_neg ej] at h2
      obtain ⟨r1, r2⟩ := c.fr j z h2 g2
      have ne : m j ≠ m i := fun e => ej (c.inj i j x z h h2 g g2 e.symm)
      exact ⟨by rw [upd_ne ne]; exact r1, Holds.mono nx (Nat.le_refl _) (fun o e => e) r2⟩
  · have fix : ∀ {t : Nat} {ct : OC}, (Ω.set i .gone)[t]? = some ct → ct ≠ .gone → Ω[t]? = some ct := fun {t ct} h1 g1 => by
      rw [List.getElem?_set] at h1
      by_cases ej : i = t
      · subst ej
        rw [if_pos rfl, if_pos (lt_of_get h)] at h1
        cases h1
        exact absurd rfl g1
      · rw [if_neg ej] at h1
        exact h1
    exact c.inj j k cj ck (fix h1 g1) (fix h2 g2) g1 g2 e
end
def RVn (K : KF) (m : Mp) (G : Hp) (n : Nat) : DV → V → Prop := RV K m G n
structure Slots (K : KF) (m : Mp) (G : Hp) (n : Nat) (Γ : Gm) (σ : L2.St) : Prop where
  len : Γ.length = σ.length
  at_ : ∀ (i : Nat) (d : DV), Γ[i]? = some (some d) → ∃ v, σ[i]? = some (some v) ∧ RV K m G n d v
theorem Slots.mono {K : KF} {m m' : Mp} {G G' : Hp} {n n' : Nat} {Γ : Gm} {σ : L2.St} (x : Nxt m n G m' G') (h : n ≤ n') (s : Slots K m G n Γ σ) : Slots K m' G' n' Γ σ :=
  ⟨s.len, fun i d e => let ⟨v, e1, r⟩ := s.at_ i d e; ⟨v, e1, RV.mono x h r⟩⟩
theorem Slots.set {K : KF} {m : Mp} {G : Hp} {n : Nat} {Γ : Gm} {σ : L2.St} {d : DV} {v : V} (s : Slots K m G n Γ σ) (i : Nat) (r : RV K m G n d v) : Slots K m G n (Γ.set i (some d)) (σ.set i (some v)) := by
  refine ⟨by rw [List.length_set, List.length_set]; exact s.len, fun j e h => ?_⟩
  have hl := lt_of_get h
  rw [List.length_set] at hl
  rw [List.getElem?_set] at h
  by_cases hj : i = j
  · subst hj
    rw [if_pos rfl, if_pos hl] at h
    cases h
    refine ⟨v, ?_, r⟩
    rw [List.getElem?_set, if_pos rfl, if_pos (by rw [← s.len]; exact hl)]
  · rw [if_neg hj] at h
    obtain ⟨w, e1, r1⟩ := s.at_ j e h
    exact ⟨w, by rw [List.getElem?_set, if_neg hj]; exact e1, r1⟩
/-- what is forgotten -/
theorem Slots.sub {K : KF} {m : Mp} {G : Hp} {n : Nat} {Γ Γ' : Gm} {σ : L2.St} (s : Slots K m G n Γ σ) (hl : Γ'.length = Γ.length) (h : ∀ (i : Nat) (d : DV), Γ'[i]? = some (some d) → Γ[i]? = some (some d)) : Slots K m G n Γ' σ :=
  ⟨hl.trans s.len, fun i d e => s.at_ i d (h i d e)⟩
section
variable (K : KF) (m : Mp) (G : Hp) (n : Nat)
def QOk (R : DV → Om → Prop) (Q : VK) : Prop := ∀ m' G' Ω' H' d v, Core K m' G' Ω' H' → Nxt m n G m' G' → n ≤ Ω'.length → RV K m' G' Ω'.length d v → R d Ω' → Q v H'
def BOk (R : Bool → Om → Prop) (Q : Bool → Hp → Prop) : Prop := ∀ m' G' Ω' H' b, Core K m' G' Ω' H' → Nxt m n G m' G' → n ≤ Ω'.length → R b Ω' → Q b H'
def AOk (R : List DV → Om → Prop) (Q : List V → Hp → Prop) : Prop := ∀ m' G' Ω' H' ds vs, Core K m' G' Ω' H' → Nxt m n G m' G' → n ≤ Ω'.length → Paired (RV K m' G' Ω'.length) ds vs → R ds Ω' → Q vs H'
def SOk (R : Gm → Om → Prop) (Q : L2.St → Hp → Prop) : Prop := ∀ m' G' Ω' H' Γ' σ', Core K m' G' Ω' H' → Nxt m n G m' G' → n ≤ Ω'.length → Slots K m' G' Ω'.length Γ' σ' → R Γ' Ω' → Q σ' H'
def XOk (R : Exc → Om → Prop) (Q : XK) : Prop := ∀ m' G' Ω' H' e c d, Core K m' G' Ω' H' → Nxt m n G m' G' → n ≤ Ω'.length → RX K G' e c d → R e Ω' → Q c d H'
def ZOk (R : Gm → Exc → Om → Prop) (W : WX) : Prop := ∀ m' G' Ω' H' Γ' σ' e c d, Core K m' G' Ω' H' → Nxt m n G m' G' → n ≤ Ω'.length → Slots K m' G' Ω'.length Γ' σ' → RX K G' e c d → R Γ' e Ω' → W c d σ' H'
end
section
variable {K : KF} {m m1 : Mp} {G G1 : Hp} {n n1 : Nat}
theorem QOk.on {R : DV → Om → Prop} {Q : VK} (q : QOk K m G n R Q) (x : Nxt m n G m1 G1) (h : n ≤ n1) : QOk K m1 G1 n1 R Q := fun _ _ _ _ _ _ c y l r z => q _ _ _ _ _ _ c (x.trans h y) (Nat.le_trans h l) r z
theorem BOk.on {R : Bool → Om → Prop} {Q : Bool → Hp → Prop} (q : BOk K m G n R Q) (x : Nxt m n G m1 G1) (h : n ≤ n1) : BOk K m1 G1 n1 R Q := fun _ _ _ _ _ c y l z => q _ _ _ _ _ c (x.trans h y) (Nat.le_trans h l) z
theorem AOk.on {R : List DV → Om → Prop} {Q : List V → Hp → Prop} (q : AOk K m G n R Q) (x : Nxt m n G m1 G1) (h : n ≤ n1) : AOk K m1 G1 n1 R Q := fun _ _ _ _ _ _ c y l r z => q _ _ _ _ _ _ c (x.trans h y) (Nat.le_trans h l) r z
theorem SOk.on {R : Gm → Om → Prop} {Q : L2.St → Hp → Prop} (q : SOk K m G n R Q) (x : Nxt m n G m1 G1) (h : n ≤ n1) : SOk K m1 G1 n1 R Q := fun _ _ _ _ _ _ c y l r z => q _ _ _ _ _ _ c (x.trans h y) (Nat.le_trans h l) r z
theorem XOk.on {R : Exc → Om → Prop} {Q : XK} (q : XOk K m G n R Q) (x : Nxt m n G m1 G1) (h : n ≤ n1) : XOk K m1 G1 n1 R Q := fun _ _ _ _ _ _ _ c y l r z => q _ _ _ _ _ _ _ c (x.trans h y) (Nat.le_trans h l) r z
theorem ZOk.on {R : Gm → Exc → Om → Prop} {W : WX} (q : ZOk K m G n R W) (x : Nxt m n G m1 G1) (h : n ≤ n1) : ZOk K m1 G1 n1 R W := fun _ _ _ _ _ _ _ _ _ c y l s r z => q _ _ _ _ _ _ _ _ _ c (x.trans h y) (Nat.le_trans h l) s r z
theorem QOk.imp {R R' : DV → Om → Prop} {Q : VK} (q : QOk K m G n R Q) (h : ∀ d Ω, R' d Ω → R d Ω) : QOk K m G n R' Q := fun _ _ _ _ _ _ c y l r z => q _ _ _ _ _ _ c y l r (h _ _ z)
end
end HL
namespace HL
open PySem PySem.Spec PyProof.Rows L2 Evl
structure Outs where
  nx : Gm → Om → Prop
  rt : DV → Om → Prop
  bk : Gm → Om → Prop
  ct : Gm → Om → Prop
  er : Gm → Exc → Om → Prop
section
variable (K : KF) (W : WX)
def WE (te : TE) (Γ : Gm) (Ω : Om) (R : DV → Om → Prop) (X : Exc → Om → Prop) : Prop :=
  ∀ m G H σ Q, Core K m G Ω H → Slots K m G Ω.length Γ σ → QOk K m G Ω.length R Q → XOk K m G Ω.length X (fun c d H' => W c d σ H') → te σ H Q
def WT (tt : TT) (Γ : Gm) (Ω : Om) (R : Bool → Om → Prop) (X : Exc → Om → Prop) : Prop :=
  ∀ m G H σ Q, Core K m G Ω H → Slots K m G Ω.length Γ σ → BOk K m G Ω.length R Q → XOk K m G Ω.length X (fun c d H' => W c d σ H') → tt σ H Q
def WA (ta : TA) (Γ : Gm) (Ω : Om) (R : List DV → Om → Prop) (X : Exc → Om → Prop) : Prop :=
  ∀ m G H σ Q, Core K m G Ω H → Slots K m G Ω.length Γ σ → AOk K m G Ω.length R Q → XOk K m G Ω.length X (fun c d H' => W c d σ H') → ta σ H Q
def WS (ts : TS) (Γ : Gm) (Ω : Om) (O : Outs) : Prop :=
  ∀ m G H σ (D : Ends), Core K m G Ω H → Slots K m G Ω.length Γ σ → SOk K m G Ω.length O.nx D.nx → QOk K m G Ω.length O.rt D.rt → SOk K m G Ω.length O.bk D.bk → SOk K m G Ω.length O.ct D.ct → ZOk K m G Ω.length O.er W → ts D σ H
def WG (g : TG) (y : DV) (Γ : Gm) (Ω : Om) (R : Gm → Om → Prop) : Prop :=
  ∀ m G H σ v Q, Core K m G Ω H → Slots K m G Ω.length Γ σ → RV K m G Ω.length y v → SOk K m G Ω.length R Q → g v σ H Q
def WGs (g : TGs) (ys : List DV) (Γ : Gm) (Ω : Om) (R : Gm → Om → Prop) : Prop :=
  ∀ m G H σ vs Q, Core K m G Ω H → Slots K m G Ω.length Γ σ → Paired (RV K m G Ω.length) ys vs → SOk K m G Ω.length R Q → g vs σ H Q
/-- operators on values -/
def WR (r : R2) (x y : DV) (Ω : Om) (R : DV → Om → Prop) : Prop :=
  ∀ m G H v w Q, Core K m G Ω H → RV K m G Ω.length x v → RV K m G Ω.length y w → QOk K m G Ω.length R Q → r v w H Q
def WU (r : V → Hp → VK → Prop) (x : DV) (Ω : Om) (R : DV → Om → Prop) : Prop :=
  ∀ m G H v Q, Core K m G Ω H → RV K m G Ω.length x v → QOk K m G Ω.length R Q → r v H Q
def WC (r : List V → Hp → VK → Prop) (xs : List DV) (Ω : Om) (R : DV → Om → Prop) : Prop :=
  ∀ m G H vs Q, Core K m G Ω H → Paired (RV K m G Ω.length) xs vs → QOk K m G Ω.length R Q → r vs H Q
def WM (r : V → List V → Hp → VK → Prop) (x : DV) (xs : List DV) (Ω : Om) (R : DV → Om → Prop) : Prop :=
  ∀ m G H v vs Q, Core K m G Ω H → RV K m G Ω.length x v → Paired (RV K m G Ω.length) xs vs → QOk K m G Ω.length R Q → r v vs H Q
end
/-! views -/
def asDs : List DV → Option (List PyData)
  | [] => some []
  | .d x :: r => (asDs r).map (x :: ·)
  | _ :: _ => none
theorem asDs_map {α : Type} (f : α → PyData) : ∀ l : List α, asDs (l.map fun a => .d (f a)) = some (l.map f)
  | [] => rfl
  | a :: l => by
    show (asDs (l.map fun a => .d (f a))).map (f a :: ·) = _
    rw [asDs_map f l]
    rfl
theorem asDs_eq : ∀ {ds : List DV} {xs : List PyData}, asDs ds = some xs → ds = xs.map DV.d
  | [], xs, h => by cases h; rfl
  | .d x :: r, xs, h => by
    cases e : asDs r with
    | none => rw [show asDs (.d x :: r) = (asDs r).map (x :: ·) from rfl, e] at h; cases h
    | some ys =>
      rw [show asDs (.d x :: r) = (asDs r).map (x :: ·) from rfl, e] at h
      cases h
      rw [asDs_eq e]
      rfl
  | .o _ :: _, _, h => by cases h
  | .v _ :: _, _, h => by cases h
  | .e _ _ _ _ :: _, _, h => by cases h
  | .t _ :: _, _, h => by cases h
theorem dps_of {K : KF} {m : Mp} {G : Hp} {n : Nat} : ∀ {xs : List PyData} {vs : List V}, Paired (RV K m G n) (xs.map DV.d) vs → DpAll K G vs xs
  | [], _, h => by cases h; exact .nil
  | x :: xs, _, h => by cases h with | cons a b => exact .cons a (dps_of b)
theorem of_dps {K : KF} {m : Mp} {G : Hp} {n : Nat} : ∀ {xs : List PyData} {vs : List V}, DpAll K G vs xs → Paired (RV K m G n) (xs.map DV.d) vs
  | [], _, h => by cases h; exact .nil
  | x :: xs, _, h => by cases h with | cons a b => exact .cons a (of_dps b)
def vwO : Option OC → Option PyData
  | some (.lst ds) => (asDs ds).map PyData.list
  | _ => none
def ptsV (Ω : Om) : List Pt → Option (List PyData)
  | [] => some []
  | .d x :: r => (ptsV Ω r).map (x :: ·)
  | .o i :: r => (vwO Ω[i]?).bind fun x => (ptsV Ω r).map (x :: ·)
def vw (Ω : Om) : DV → Option PyData
  | .d x => some x
  | .o i => vwO Ω[i]?
  | .t ps => (ptsV Ω ps).map PyData.tuple
  | _ => none
theorem vwO_dp {K : KF} {m : Mp} {G H : Hp} {Ω : Om} {i : Nat} {x : PyData} (c : Core K m G Ω H) (h : vwO Ω[i]? = some x) : Dp K H (.ref (m i)) x := by
  cases e : Ω[i]? with
  | none => rw [e] at h; cases h
  | some oc =>
    rw [e] at h
    cases oc with
    | ins C fs => cases h
    | dic kvs => cases h
    | gone => cases h
    | lst ds =>
      have h' : (asDs ds).map PyData.list = some x := h
      cases e2 : asDs ds with
      | none => rw [e2] at h'; cases h'
      | some xs =>
        rw [e2] at h'
        cases h'
        obtain ⟨_, vs, hv, rp⟩ := c.fr i _ e (by intro z; cases z)
        rw [asDs_eq e2] at rp
        exact .lst (sq_of hv) (dps_ex c.ex _ _ (dps_of rp))
theorem ptsV_dp {K : KF} {m : Mp} {G H : Hp} {Ω : Om} (c : Core K m G Ω H) : ∀ {ps : List Pt} {vs : List V} {xs : List PyData}, Paired (RPt K m G Ω.length) ps vs → ptsV Ω ps = some xs → DpAll K H vs xs
  | [], _, _, .nil, h => by cases h; exact .nil
  | .d x :: r, _, xs, .cons a b, h => by
    have h : (ptsV Ω r).map (x :: ·) = some xs := h
    cases e : ptsV Ω r with
    | none => rw [e] at h; cases h
    | some ys =>
      rw [e] at h
      cases h
      exact .cons (dp_ex c.ex _ _ a) (ptsV_dp c b e)
  | .o i :: r, _, xs, .cons a b, h => by
    have h : (vwO Ω[i]?).bind (fun x => (ptsV Ω r).map (x :: ·)) = some xs := h
    cases e0 : vwO Ω[i]? with
    | none => rw [e0] at h; cases h
    | some x =>
      rw [e0] at h
      have h : (ptsV Ω r).map (x :: ·) = some xs := h
      cases e : ptsV Ω r with
      | none => rw [e] at h; cases h
      | some ys =>
        rw [e] at h
        cases h
        obtain ⟨hi, rfl⟩ := a
        exact .cons (vwO_dp c e0) (ptsV_dp c b e)
theorem vw_dp {K : KF} {m : Mp} {G H : Hp} {Ω : Om} {d : DV} {x : PyData} {v : V} (c : Core K m G Ω H) (r : RV K m G Ω.length d v) (h : vw Ω d = some x) : Dp K H v x := by
  cases d with
  | d y => cases h; exact dp_ex c.ex _ _ r
  | v y => cases h
  | e _ _ _ _ => cases h
  | o i =>
    obtain ⟨hi, rfl⟩ := r
    exact vwO_dp c h
  | t ps =>
    have h : (ptsV Ω ps).map PyData.tuple = some x := h
    cases e : ptsV Ω ps with
    | none => rw [e] at h; cases h
    | some xs =>
      rw [e] at h
      cases h
      obtain ⟨a, vs, rfl, g, rp⟩ := r
      exact .tup (st_of (c.ex _ _ g)) (ptsV_dp c rp e)
def sqO : Option OC → Option (List DV)
  | some (.lst ds) => some ds
  | _ => none
def sq (Ω : Om) : DV → Option (List DV)
  | .d (.tuple xs) => some (xs.map DV.d)
  | .d (.list xs) => some (xs.map DV.d)
  | .o i => sqO Ω[i]?
  | _ => none
theorem sq_o {Ω : Om} {i : Nat} {ds : List DV} (h : sq Ω (.o i) = some ds) : Ω[i]? = some (.lst ds) := by
  have h : sqO Ω[i]? = some ds := h
  cases e : Ω[i]? with
  | none => rw [e] at h; cases h
  | some oc =>
    rw [e] at h
    cases oc with
    | ins C fs => cases h
    | dic kvs => cases h
    | gone => cases h
    | lst ds => cases h; rfl
theorem sq_get {K : KF} {m : Mp} {G H : Hp} {Ω : Om} {d : DV} {ds : List DV} {v : V} (c : Core K m G Ω H) (r : RV K m G Ω.length d v) (h : sq Ω d = some ds) :
    ∃ a vs, v = .ref a ∧ (SqL K H a vs ∨ SqT K H a vs) ∧ Paired (RV K m G Ω.length) ds vs := by
  cases d with
  | v y => cases h
  | e _ _ _ _ => cases h
  | t _ => cases h
  | o i =>
    have e := sq_o h
    obtain ⟨_, vs, hv, rp⟩ := c.fr i _ e (by intro z; cases z)
    obtain ⟨hi, rfl⟩ := r
    exact ⟨m i, vs, rfl, .inl (sq_of hv), rp⟩
  | d y =>
    cases y with
    | tuple xs =>
      cases h
      cases r with
      | tup hs ha => exact ⟨_, _, rfl, .inr (ex_t c.ex hs), of_dps ha⟩
    | list xs =>
      cases h
      cases r with
      | lst hs ha => exact ⟨_, _, rfl, .inl (ex_l c.ex hs), of_dps ha⟩
    | none => cases h
    | bool b => cases h
    | int b => cases h
    | str b => cases h
    | dict b => cases h
theorem Paired.getL {α β : Type} {F : α → β → Prop} : ∀ {xs : List α} {ys : List β} {i : Nat} {x : α}, Paired F xs ys → xs[i]? = some x → ∃ y, ys[i]? = some y ∧ F x y
  | _, _, _, _, .nil, e => by simp at e
  | _, _, 0, _, .cons r _, e => by simp at e; subst e; exact ⟨_, rfl, r⟩
  | _, _, i + 1, x, .cons _ t, e => by
    obtain ⟨u, h1, h2⟩ := Paired.getL (i := i) (x := x) t (by simpa using e)
    exact ⟨u, by simpa using h1, h2⟩
theorem Paired.getR {α β : Type} {F : α → β → Prop} : ∀ {xs : List α} {ys : List β} {i : Nat} {y : β}, Paired F xs ys → ys[i]? = some y → ∃ x, xs[i]? = some x ∧ F x y
  | _, _, _, _, .nil, e => by simp at e
  | _, _, 0, _, .cons r _, e => by simp at e; subst e; exact ⟨_, rfl, r⟩
  | _, _, i + 1, x, .cons _ t, e => by
    obtain ⟨u, h1, h2⟩ := Paired.getR (i := i) t (by simpa using e)
    exact ⟨u, by simpa using h1, h2⟩
theorem Paired.app {α β : Type} {F : α → β → Prop} : ∀ {a c : List α} {b d : List β}, Paired F a b → Paired F c d → Paired F (a ++ c) (b ++ d)
  | _, _, _, _, .nil, s => s
  | _, _, _, _, .cons r t, s => .cons r (Paired.app t s)
theorem Paired.setP {α β : Type} {F : α → β → Prop} {x : α} {y : β} (r : F x y) : ∀ {xs : List α} {ys : List β} (i : Nat), Paired F xs ys → Paired F (xs.set i x) (ys.set i y)
  | _, _, _, .nil => .nil
  | _, _, 0, .cons _ t => .cons r t
  | _, _, i + 1, .cons q t => .cons q (Paired.setP r i t)
theorem Paired.takeP {α β : Type} {F : α → β → Prop} : ∀ {xs : List α} {ys : List β} (n : Nat), Paired F xs ys → Paired F (xs.take n) (ys.take n)
  | _, _, 0, _ => .nil
  | _, _, _ + 1, .nil => .nil
  | _, _, n + 1, .cons r t => .cons r (Paired.takeP n t)
theorem Paired.dropP {α β : Type} {F : α → β → Prop} : ∀ {xs : List α} {ys : List β} (n : Nat), Paired F xs ys → Paired F (xs.drop n) (ys.drop n)
  | _, _, 0, r => r
  | _, _, _ + 1, .nil => .nil
  | _, _, n + 1, .cons _ t => Paired.dropP n t
section
variable {K : KF} {W : WX} {Γ : Gm} {Ω : Om} {R : DV → Om → Prop} {X : Exc → Om → Prop} {ta tb te : TE} {tt tu : TT} {tl tr : TA} {r : R2} {d : DV} {S : List DV → Om → Prop} {B : Bool → Om → Prop}
theorem we_var {i : Nat} (h : Γ[i]? = some (some d)) (q : R d Ω) : WE K W (tVar i) Γ Ω R X := fun m G H σ Q c s k x =>
  let ⟨v, e, rv⟩ := s.at_ i d h
  ⟨v, e, k _ _ _ _ _ _ c (Nxt.refl ..) (Nat.le_refl _) rv q⟩
theorem we_int {i : Int} (q : R (.d (.int i)) Ω) : WE K W (tC (.int i)) Γ Ω R X := fun m G H σ Q c s k x => k _ _ _ _ (.d (.int i)) _ c (Nxt.refl ..) (Nat.le_refl _) (Dp.int i) q
theorem we_bl {b : Bool} (q : R (.d (.bool b)) Ω) : WE K W (tC (.bl b)) Γ Ω R X := fun m G H σ Q c s k x => k _ _ _ _ (.d (.bool b)) _ c (Nxt.refl ..) (Nat.le_refl _) (Dp.bl b) q
theorem we_str {b : Str} (q : R (.d (.str b)) Ω) : WE K W (tC (.str b)) Γ Ω R X := fun m G H σ Q c s k x => k _ _ _ _ (.d (.str b)) _ c (Nxt.refl ..) (Nat.le_refl _) (Dp.str b) q
theorem we_non (q : R (.d .none) Ω) : WE K W (tC .non) Γ Ω R X := fun m G H σ Q c s k x => k _ _ _ _ (.d .none) _ c (Nxt.refl ..) (Nat.le_refl _) Dp.non q
theorem we_ty {b : String} (q : R (.v (.ty b)) Ω) : WE K W (tC (.ty b)) Γ Ω R X := fun m G H σ Q c s k x => k _ _ _ _ (.v (.ty b)) _ c (Nxt.refl ..) (Nat.le_refl _) rfl q
theorem we_ref {a : Addr} (q : R (.v (.ref a)) Ω) : WE K W (tC (.ref a)) Γ Ω R X := fun m G H σ Q c s k x => k _ _ _ _ (.v (.ref a)) _ c (Nxt.refl ..) (Nat.le_refl _) rfl q
/-- a constant of the module -/
theorem we_g {v : V} {y : PyData} (h : ∀ G, Dp K G v y) (q : R (.d y) Ω) : WE K W (tC v) Γ Ω R X := fun m G H σ Q c s k x => k _ _ _ _ (.d y) _ c (Nxt.refl ..) (Nat.le_refl _) (h _) q
theorem we_op (h : WE K W ta Γ Ω (fun x Ω1 => WE K W tb Γ Ω1 (fun y Ω2 => WR K r x y Ω2 R) X) X) : WE K W (tOp r ta tb) Γ Ω R X := fun m G H σ Q c s k x =>
  h m G H σ _ c s (fun m1 G1 Ω1 H1 d1 v1 c1 n1 l1 r1 h1 => h1 m1 G1 H1 σ _ c1 (s.mono n1 l1) (fun m2 G2 Ω2 H2 d2 v2 c2 n2 l2 r2 h2 =>
    h2 m2 G2 H2 v1 v2 Q c2 (RV.mono n2 l2 r1) r2 (k.on (n1.trans l1 n2) (Nat.le_trans l1 l2))) (x.on n1 l1)) x
theorem we_un {r : V → Hp → VK → Prop} (h : WE K W ta Γ Ω (fun x Ω1 => WU K r x Ω1 R) X) : WE K W (tUn r ta) Γ Ω R X := fun m G H σ Q c s k x =>
  h m G H σ _ c s (fun m1 G1 Ω1 H1 d1 v1 c1 n1 l1 r1 h1 => h1 m1 G1 H1 v1 Q c1 r1 (k.on n1 l1)) x
theorem we_if (h : WT K W tt Γ Ω (fun b Ω1 => (b = true → WE K W ta Γ Ω1 R X) ∧ (b = false → WE K W tb Γ Ω1 R X)) X) : WE K W (tIf tt ta tb) Γ Ω R X := fun m G H σ Q c s k x =>
  h m G H σ _ c s (fun m1 G1 Ω1 H1 b c1 n1 l1 h1 => by
    cases b with
    | true => exact (h1.1 rfl) m1 G1 H1 σ Q c1 (s.mono n1 l1) (k.on n1 l1) (x.on n1 l1)
    | false => exact (h1.2 rfl) m1 G1 H1 σ Q c1 (s.mono n1 l1) (k.on n1 l1) (x.on n1 l1)) x
theorem wa_nil (q : S [] Ω) : WA K W tNil Γ Ω S X := fun m G H σ Q c s k x => k _ _ _ _ [] _ c (Nxt.refl ..) (Nat.le_refl _) .nil q
theorem wa_cons (h : WE K W ta Γ Ω (fun y Ω1 => WA K W tr Γ Ω1 (fun ys Ω2 => S (y :: ys) Ω2) X) X) : WA K W (tCons ta tr) Γ Ω S X := fun m G H σ Q c s k x =>
  h m G H σ _ c s (fun m1 G1 Ω1 H1 d1 v1 c1 n1 l1 r1 h1 => h1 m1 G1 H1 σ _ c1 (s.mono n1 l1) (fun m2 G2 Ω2 H2 ds vs c2 n2 l2 r2 h2 =>
    k m2 G2 Ω2 H2 _ _ c2 (n1.trans l1 n2) (Nat.le_trans l1 l2) (.cons (RV.mono n2 l2 r1) r2) h2) (x.on n1 l1)) x
theorem we_tup (h : WA K W tl Γ Ω (fun ds Ω1 => ∃ xs, asDs ds = some xs ∧ xs.length ≤ 100000 ∧ R (.d (.tuple xs)) Ω1) X) : WE K W (tTup tl) Γ Ω R X := fun m G H σ Q c s k x =>
  h m G H σ _ c s (fun m1 G1 Ω1 H1 ds vs c1 n1 l1 r1 ⟨xs, e, hl, q⟩ => by
    have hlen := Paired.length r1
    rw [asDs_eq e] at r1 hlen
    rw [List.length_map] at hlen
    refine ⟨sz_of (by rw [← hlen]; exact hl), fun p hp => ?_⟩
    obtain ⟨c2, n2⟩ := c1.frz hp (.tup vs)
    exact k _ _ _ _ (.d (.tuple xs)) _ c2 (n1.trans l1 n2) l1 (.tup (st_of upd_same) (dps_ex n2.gg _ _ (dps_of r1))) q) x
/-- a list that nobody changes -/
theorem we_lstD (h : WA K W tl Γ Ω (fun ds Ω1 => ∃ xs, asDs ds = some xs ∧ xs.length ≤ 100000 ∧ R (.d (.list xs)) Ω1) X) : WE K W (tLst tl) Γ Ω R X := fun m G H σ Q c s k x =>
  h m G H σ _ c s (fun m1 G1 Ω1 H1 ds vs c1 n1 l1 r1 ⟨xs, e, hl, q⟩ => by
    have hlen := Paired.length r1
    rw [asDs_eq e] at r1 hlen
    rw [List.length_map] at hlen
    refine ⟨sz_of (by rw [← hlen]; exact hl), fun p hp => ?_⟩
    obtain ⟨c2, n2⟩ := c1.frz hp (.lst vs)
    exact k _ _ _ _ (.d (.list xs)) _ c2 (n1.trans l1 n2) l1 (.lst (sq_of upd_same) (dps_ex n2.gg _ _ (dps_of r1))) q) x
/-- a list of one's own -/
theorem we_lstO (h : WA K W tl Γ Ω (fun ds Ω1 => ds.length ≤ 100000 ∧ R (.o Ω1.length) (Ω1 ++ [.lst ds])) X) : WE K W (tLst tl) Γ Ω R X := fun m G H σ Q c s k x =>
  h m G H σ _ c s (fun m1 G1 Ω1 H1 ds vs c1 n1 l1 r1 ⟨hl, q⟩ => by
    have hlen := Paired.length r1
    refine ⟨sz_of (by rw [← hlen]; exact hl), fun p hp => ?_⟩
    obtain ⟨m2, c2, n2, e2⟩ := c1.own (x := .lst ds) (o := .lst vs) hp ⟨vs, upd_same, r1⟩
    have le : Ω1.length ≤ (Ω1 ++ [OC.lst ds]).length := by simp
    exact k _ _ _ _ (.o Ω1.length) _ c2 (n1.trans l1 n2) (Nat.le_trans l1 le) ⟨by simp, by rw [e2]⟩ q) x
theorem we_cb {r : List V → Hp → VK → Prop} (h : WA K W tl Γ Ω (fun ds Ω1 => WC K r ds Ω1 R) X) : WE K W (tCB r tl) Γ Ω R X := fun m G H σ Q c s k x =>
  h m G H σ _ c s (fun m1 G1 Ω1 H1 ds vs c1 n1 l1 r1 h1 => h1 m1 G1 H1 vs Q c1 r1 (k.on n1 l1)) x
theorem wt_test (h : WE K W te Γ Ω (fun y Ω1 => ∃ b, y = .d (.bool b) ∧ B b Ω1) X) : WT K W (tTest te) Γ Ω B X := fun m G H σ Q c s k x =>
  h m G H σ _ c s (fun m1 G1 Ω1 H1 d1 v1 c1 n1 l1 r1 ⟨b, e, q⟩ => by
    subst e
    cases r1
    exact ⟨b, rfl, k _ _ _ _ _ c1 n1 l1 q⟩) x
theorem wt_B (h : WE K W te Γ Ω (fun y Ω1 => ∃ b, y = .d (.bool b) ∧ B b Ω1) X) : WT K W (tB te) Γ Ω B X := fun m G H σ Q c s k x =>
  h m G H σ _ c s (fun m1 G1 Ω1 H1 d1 v1 c1 n1 l1 r1 ⟨b, e, q⟩ => by
    subst e
    cases r1
    exact ⟨b, rfl, k _ _ _ _ _ c1 n1 l1 q⟩) x
theorem wt_and (h : WT K W tt Γ Ω (fun b Ω1 => (b = true → WT K W tu Γ Ω1 B X) ∧ (b = false → B false Ω1)) X) : WT K W (tAnd tt tu) Γ Ω B X := fun m G H σ Q c s k x =>
  h m G H σ _ c s (fun m1 G1 Ω1 H1 b c1 n1 l1 h1 => by
    cases b with
    | true => exact (h1.1 rfl) m1 G1 H1 σ Q c1 (s.mono n1 l1) (k.on n1 l1) (x.on n1 l1)
    | false => exact k _ _ _ _ _ c1 n1 l1 (h1.2 rfl)) x
theorem wt_or (h : WT K W tt Γ Ω (fun b Ω1 => (b = true → B true Ω1) ∧ (b = false → WT K W tu Γ Ω1 B X)) X) : WT K W (tOr tt tu) Γ Ω B X := fun m G H σ Q c s k x =>
  h m G H σ _ c s (fun m1 G1 Ω1 H1 b c1 n1 l1 h1 => by
    cases b with
    | true => exact k _ _ _ _ _ c1 n1 l1 (h1.1 rfl)
    | false => exact (h1.2 rfl) m1 G1 H1 σ Q c1 (s.mono n1 l1) (k.on n1 l1) (x.on n1 l1)) x
theorem wt_not (h : WT K W tt Γ Ω (fun b Ω1 => B (!b) Ω1) X) : WT K W (tNot tt) Γ Ω B X := fun m G H σ Q c s k x =>
  h m G H σ _ c s (fun m1 G1 Ω1 H1 b c1 n1 l1 h1 => k _ _ _ _ _ c1 n1 l1 h1) x
theorem we_andV (h : WE K W ta Γ Ω (fun y Ω1 => ∃ b, y = .d (.bool b) ∧ (b = true → WE K W tb Γ Ω1 R X) ∧ (b = false → R (.d (.bool false)) Ω1)) X) : WE K W (tAndV ta tb) Γ Ω R X := fun m G H σ Q c s k x =>
  h m G H σ _ c s (fun m1 G1 Ω1 H1 d1 v1 c1 n1 l1 r1 ⟨b, e, h1⟩ => by
    subst e
    cases r1
    refine ⟨b, rfl, ?_⟩
    cases b with
    | true => exact (h1.1 rfl) m1 G1 H1 σ Q c1 (s.mono n1 l1) (k.on n1 l1) (x.on n1 l1)
    | false => exact k _ _ _ _ (.d (.bool false)) _ c1 n1 l1 (Dp.bl false) (h1.2 rfl)) x
theorem we_orV (h : WE K W ta Γ Ω (fun y Ω1 => ∃ b, y = .d (.bool b) ∧ (b = true → R (.d (.bool true)) Ω1) ∧ (b = false → WE K W tb Γ Ω1 R X)) X) : WE K W (tOrV ta tb) Γ Ω R X := fun m G H σ Q c s k x =>
  h m G H σ _ c s (fun m1 G1 Ω1 H1 d1 v1 c1 n1 l1 r1 ⟨b, e, h1⟩ => by
    subst e
    cases r1
    refine ⟨b, rfl, ?_⟩
    cases b with
    | true => exact k _ _ _ _ (.d (.bool true)) _ c1 n1 l1 (Dp.bl true) (h1.1 rfl)
    | false => exact (h1.2 rfl) m1 G1 H1 σ Q c1 (s.mono n1 l1) (k.on n1 l1) (x.on n1 l1)) x
theorem we_notV (h : WE K W ta Γ Ω (fun y Ω1 => ∃ b, y = .d (.bool b) ∧ R (.d (.bool (!b))) Ω1) X) : WE K W (tNotV ta) Γ Ω R X := fun m G H σ Q c s k x =>
  h m G H σ _ c s (fun m1 G1 Ω1 H1 d1 v1 c1 n1 l1 r1 ⟨b, e, h1⟩ => by
    subst e
    cases r1
    exact ⟨b, rfl, k _ _ _ _ (.d (.bool (!b))) _ c1 n1 l1 (Dp.bl (!b)) h1⟩) x
/-! calls -/
abbrev Spec := List DV → Om → (DV → Om → Prop) → (Exc → Om → Prop) → Prop
def FS (K : KF) (spec : Spec) : Sp := fun vs H Q E => ∃ m G Ω ds R X, Core K m G Ω H ∧ Paired (RV K m G Ω.length) ds vs ∧ spec ds Ω R X ∧ QOk K m G Ω.length R Q ∧ XOk K m G Ω.length X E
theorem we_call {spec : Spec} (h : WA K W tl Γ Ω (fun ds Ω1 => spec ds Ω1 R (fun _ _ => False)) X) : WE K W (tCall (FS K spec) [] E0 tl) Γ Ω R X := fun m G H σ Q c s k x =>
  h m G H σ _ c s (fun m1 G1 Ω1 H1 ds vs c1 n1 l1 r1 h1 => by
    show FS K spec (vs ++ []) H1 Q E0
    rw [List.append_nil]
    exact ⟨m1, G1, Ω1, ds, R, _, c1, r1, h1, k.on n1 l1, fun _ _ _ _ _ _ _ _ _ _ _ z => z⟩) x
/-- with defaults -/
theorem we_callD {spec : Spec} {dvs : List V} {xs : List PyData} (hx : ∀ G, DpAll K G dvs xs) (h : WA K W tl Γ Ω (fun ds Ω1 => spec (ds ++ xs.map DV.d) Ω1 R (fun _ _ => False)) X) : WE K W (tCall (FS K spec) dvs E0 tl) Γ Ω R X := fun m G H σ Q c s k x =>
  h m G H σ _ c s (fun m1 G1 Ω1 H1 ds vs c1 n1 l1 r1 h1 =>
    ⟨m1, G1, Ω1, ds ++ xs.map DV.d, R, _, c1, Paired.app r1 (of_dps (hx G1)), h1, k.on n1 l1, fun _ _ _ _ _ _ _ _ _ _ _ z => z⟩) x
theorem we_callS {spec : Spec} (h : WA K W tl Γ Ω (fun ds Ω1 => spec ds Ω1 R X) X) : WE K W (tCallS (FS K spec) (L2.WE W) tl) Γ Ω R X := fun m G H σ Q c s k x =>
  h m G H σ _ c s (fun m1 G1 Ω1 H1 ds vs c1 n1 l1 r1 h1 => ⟨m1, G1, Ω1, ds, R, X, c1, r1, h1, k.on n1 l1, x.on n1 l1⟩) x
/-! targets -/
theorem wg_name {i : Nat} {S : Gm → Om → Prop} {y : DV} (q : S (Γ.set i (some y)) Ω) : WG K (gName i) y Γ Ω S := fun m G H σ v Q c s r k => k _ _ _ _ _ _ c (Nxt.refl ..) (Nat.le_refl _) (s.set i r) q
theorem wgs_nil {S : Gm → Om → Prop} (q : S Γ Ω) : WGs K gNil [] Γ Ω S := fun m G H σ vs Q c s r k => by
  cases r
  exact ⟨rfl, k _ _ _ _ _ _ c (Nxt.refl ..) (Nat.le_refl _) s q⟩
theorem wgs_cons {S : Gm → Om → Prop} {g : TG} {gs : TGs} {y : DV} {ys : List DV} (h : WG K g y Γ Ω (fun Γ1 Ω1 => WGs K gs ys Γ1 Ω1 S)) : WGs K (gCons g gs) (y :: ys) Γ Ω S := fun m G H σ vs Q c s r k => by
  cases r with
  | cons r1 rs => exact ⟨_, _, rfl, h m G H σ _ _ c s r1 fun m1 G1 Ω1 H1 Γ1 σ1 c1 n1 l1 s1 h1 => h1 m1 G1 H1 σ1 _ _ c1 s1 (RVs.mono n1 l1 rs) (k.on n1 l1)⟩
theorem wg_tup {n : Nat} {S : Gm → Om → Prop} {gs : TGs} {xs : List PyData} (hl : xs.length = n) (h : WGs K gs (xs.map DV.d) Γ Ω S) : WG K (gTup K n gs) (.d (.tuple xs)) Γ Ω S := fun m G H σ v Q c s r k => by
  cases r with
  | tup hs ha =>
    have ra := of_dps (m := m) (n := Ω.length) ha
    have e := Paired.length ra
    rw [List.length_map] at e
    exact ⟨_, _, rfl, ex_t c.ex hs, e.symm.trans hl, h m G H σ _ _ c s ra k⟩
/-! statements -/
variable {O : Outs} {ts tv tw : TS} {g : TG}
theorem ws_next (q : O.nx Γ Ω) : WS K W tNext Γ Ω O := fun m G H σ D c s k1 k2 k3 k4 z => k1 _ _ _ _ _ _ c (Nxt.refl ..) (Nat.le_refl _) s q
theorem ws_break (q : O.bk Γ Ω) : WS K W tBreak Γ Ω O := fun m G H σ D c s k1 k2 k3 k4 z => k3 _ _ _ _ _ _ c (Nxt.refl ..) (Nat.le_refl _) s q
theorem ws_cont (q : O.ct Γ Ω) : WS K W tCont Γ Ω O := fun m G H σ D c s k1 k2 k3 k4 z => k4 _ _ _ _ _ _ c (Nxt.refl ..) (Nat.le_refl _) s q
theorem ws_seq (h : WS K W tv Γ Ω { O with nx := fun Γ1 Ω1 => WS K W tw Γ1 Ω1 O }) : WS K W (tSeq tv tw) Γ Ω O := fun m G H σ D c s k1 k2 k3 k4 z =>
  h m G H σ { D with nx := tw D } c s (fun m1 G1 Ω1 H1 Γ1 σ1 c1 n1 l1 s1 h1 => h1 m1 G1 H1 σ1 D c1 s1 (k1.on n1 l1) (k2.on n1 l1) (k3.on n1 l1) (k4.on n1 l1) (z.on n1 l1)) k2 k3 k4 z
/-- an exception at the slots as they stand -/
theorem xok_of {m : Mp} {G : Hp} {n : Nat} {Z : Gm → Exc → Om → Prop} {σ : L2.St} (z : ZOk K m G n Z W) (s : Slots K m G n Γ σ) : XOk K m G n (fun e Ω1 => Z Γ e Ω1) (fun c d H' => W c d σ H') := fun m1 G1 Ω1 H1 e c d c1 n1 l1 r1 h1 =>
  z m1 G1 Ω1 H1 Γ σ e c d c1 n1 l1 (s.mono n1 l1) r1 h1
theorem ws_asg (h : WE K W te Γ Ω (fun y Ω1 => WG K g y Γ Ω1 O.nx) (fun e Ω1 => O.er Γ e Ω1)) : WS K W (tAsg te g) Γ Ω O := fun m G H σ D c s k1 k2 k3 k4 z =>
  h m G H σ _ c s (fun m1 G1 Ω1 H1 d1 v1 c1 n1 l1 r1 h1 => h1 m1 G1 H1 σ v1 _ c1 (s.mono n1 l1) r1 (k1.on n1 l1)) (xok_of z s)
theorem ws_par {i j : Nat} (h : WA K W tl Γ Ω (fun ys Ω1 => ∃ y y', ys = [y, y'] ∧ O.nx ((Γ.set i (some y)).set j (some y')) Ω1) (fun e Ω1 => O.er Γ e Ω1)) : WS K W (tPar i j tl) Γ Ω O := fun m G H σ D c s k1 k2 k3 k4 z =>
  h m G H σ _ c s (fun m1 G1 Ω1 H1 ds vs c1 n1 l1 r1 ⟨y, y', e, q⟩ => by
    subst e
    cases r1 with
    | cons ra rb => cases rb with
      | cons rb rc =>
        cases rc
        exact ⟨_, _, rfl, k1 _ _ _ _ _ _ c1 n1 l1 (((s.mono n1 l1).set i ra).set j rb) q⟩) (xok_of z s)
theorem ws_if (h : WT K W tt Γ Ω (fun b Ω1 => (b = true → WS K W tv Γ Ω1 O) ∧ (b = false → WS K W tw Γ Ω1 O)) (fun e Ω1 => O.er Γ e Ω1)) : WS K W (tIfS tt tv tw) Γ Ω O := fun m G H σ D c s k1 k2 k3 k4 z =>
  h m G H σ _ c s (fun m1 G1 Ω1 H1 b c1 n1 l1 h1 => by
    cases b with
    | true => exact (h1.1 rfl) m1 G1 H1 σ D c1 (s.mono n1 l1) (k1.on n1 l1) (k2.on n1 l1) (k3.on n1 l1) (k4.on n1 l1) (z.on n1 l1)
    | false => exact (h1.2 rfl) m1 G1 H1 σ D c1 (s.mono n1 l1) (k1.on n1 l1) (k2.on n1 l1) (k3.on n1 l1) (k4.on n1 l1) (z.on n1 l1)) (xok_of z s)
theorem ws_ret (h : WE K W te Γ Ω O.rt (fun e Ω1 => O.er Γ e Ω1)) : WS K W (tRet te) Γ Ω O := fun m G H σ D c s k1 k2 k3 k4 z => h m G H σ _ c s k2 (xok_of z s)
theorem ws_retN (q : O.rt (.d .none) Ω) : WS K W tRetN Γ Ω O := fun m G H σ D c s k1 k2 k3 k4 z => k2 _ _ _ _ (.d .none) _ c (Nxt.refl ..) (Nat.le_refl _) Dp.non q
theorem ws_drop (h : WE K W te Γ Ω (fun _ Ω1 => O.nx Γ Ω1) (fun e Ω1 => O.er Γ e Ω1)) : WS K W (tDrop te) Γ Ω O := fun m G H σ D c s k1 k2 k3 k4 z =>
  h m G H σ _ c s (fun m1 G1 Ω1 H1 d1 v1 c1 n1 l1 r1 h1 => k1 _ _ _ _ _ _ c1 n1 l1 (s.mono n1 l1) h1) (xok_of z s)
theorem ws_while (P : Nat → Gm → Om → Prop) (n0 : Nat) (h0 : P n0 Γ Ω)
    (hs : ∀ n Γ1 Ω1, Ω.length ≤ Ω1.length → P n Γ1 Ω1 → WT K W tt Γ1 Ω1 (fun b Ω2 => (b = true → WS K W tv Γ1 Ω2 { nx := fun Γ3 Ω3 => ∃ k, k < n ∧ P k Γ3 Ω3, ct := fun Γ3 Ω3 => ∃ k, k < n ∧ P k Γ3 Ω3, bk := O.nx, rt := O.rt, er := O.er }) ∧ (b = false → O.nx Γ1 Ω2)) (fun e Ω2 => O.er Γ1 e Ω2)) :
    WS K W (tWhile tt tv) Γ Ω O := fun m G H σ D c s k1 k2 k3 k4 z => by
  refine ⟨fun n σ' H' => ∃ m' G' Ω' Γ', Core K m' G' Ω' H' ∧ Nxt m Ω.length G m' G' ∧ Ω.length ≤ Ω'.length ∧ Slots K m' G' Ω'.length Γ' σ' ∧ P n Γ' Ω', ⟨n0, m, G, Ω, Γ, c, Nxt.refl .., Nat.le_refl _, s, h0⟩, ?_⟩
  rintro n σ1 H1 ⟨m1, G1, Ω1, Γ1, c1, n1, l1, s1, p1⟩
  refine hs n Γ1 Ω1 l1 p1 m1 G1 H1 σ1 _ c1 s1 (fun m2 G2 Ω2 H2 b c2 n2 l2 h2 => ?_) (xok_of (z.on n1 l1) s1)
  have n12 := n1.trans l1 n2
  have l12 := Nat.le_trans l1 l2
  cases b with
  | false =>
    rw [if_neg Bool.false_ne_true]
    exact k1 _ _ _ _ _ _ c2 n12 l12 (s1.mono n2 l2) (h2.2 rfl)
  | true =>
    rw [if_pos rfl]
    refine ⟨fun σ' H' => ∃ k, k < n ∧ ∃ m' G' Ω' Γ', Core K m' G' Ω' H' ∧ Nxt m Ω.length G m' G' ∧ Ω.length ≤ Ω'.length ∧ Slots K m' G' Ω'.length Γ' σ' ∧ P k Γ' Ω', fun σ' H' ⟨k, hk, q⟩ => ⟨k, hk, q⟩, ?_⟩
    have again : SOk K m2 G2 Ω2.length (fun Γ3 Ω3 => ∃ k, k < n ∧ P k Γ3 Ω3) (fun σ' H' => ∃ k, k < n ∧ ∃ m' G' Ω' Γ', Core K m' G' Ω' H' ∧ Nxt m Ω.length G m' G' ∧ Ω.length ≤ Ω'.length ∧ Slots K m' G' Ω'.length Γ' σ' ∧ P k Γ' Ω') := fun m3 G3 Ω3 H3 Γ3 σ3 c3 n3 l3 s3 ⟨k, hk, p3⟩ =>
      ⟨k, hk, m3, G3, Ω3, Γ3, c3, n12.trans l12 n3, Nat.le_trans l12 l3, s3, p3⟩
    exact (h2.1 rfl) m2 G2 H2 σ1 { D with nx := _, ct := _, bk := D.nx } c2 (s1.mono n2 l2) again (k2.on n12 l12) (k1.on n12 l12) again (z.on n12 l12)
end
end HL
namespace HL
open PySem PySem.Spec PyProof.Rows L2 Evl
/-! more operators -/
def CDivX (_ j : Int) : Prop := j ≠ 0 ∧ j.natAbs.log2 < 9000
section
variable {X : Cx}
theorem op_fdivX : OpR X (binaryOp .FloorDiv) (rI CDivX fun i j => .int (i.fdiv j)) := opI fun _ _ _ _ _ _ _ hc q => floordiv_int hc.1 q (.inl (PyProof.noPylong_of_log2 hc.2))
def rCatS (K : KF) : R2 := fun x y H Q => ∃ l b xs zs, x = .ref l ∧ y = .ref b ∧ SqL K H l xs ∧ SqL K H b zs ∧ xs.length + zs.length ≤ sizeLine ∧ ∀ p, H p = none → Q (.ref p) (upd H p (.lst (xs ++ zs)))
theorem op_catS : OpR X (binaryOp .Add) (rCatS X.K) := by
  intro pins s σ H x y v u Q I rx ry h
  obtain ⟨l, b, xs, zs, rfl, rfl, hl, hb, hz, q⟩ := h
  cases rx
  cases ry
  obtain ⟨its, r1, p1, _⟩ := I.list hl
  obtain ⟨its2, r2, p2, _⟩ := I.list hb
  obtain ⟨⟨cls, dd, data, sl⟩, ho, hc, n, hd⟩ := p1.isList
  obtain ⟨⟨cls2, dd2, data2, sl2⟩, ho2, hc2, n2, hd2⟩ := p2.isList
  simp only at hc hd hc2 hd2
  subst hc hd hc2 hd2
  have e : its.toArray ++ its2.toArray = (its ++ its2).toArray := by simp
  have l1 := r1.length
  have l2 := r2.length
  refine concat_meets ⟨_, ho, rfl⟩ ⟨_, ho2, rfl⟩ PySem.noFill_list_add PySem.seq_list_add PySem.F.slot_list_add PySem.F.entry_list_add (PySem.F.args_list_add_2 _ _) (list_addW l b its.toArray its2.toArray n n2 dd dd2 sl sl2 (by simp only [List.size_toArray]; omega)) ⟨ho, ho2, ?_⟩
  rw [e]
  exact ⟨.ref _, _, I.lnew (t' := s.toks) (r1.append r2) (by rw [List.length_append]; omega), rfl, q _ I.fresh⟩
/-- x + y of numbers, texts, lists, tuples -/
def rAddX (K : KF) : R2 := fun x y H Q => rI0 (fun i j => .int (i + j)) x y H Q ∨ (∃ i j, x = .str i ∧ y = .str j ∧ i.length + j.length ≤ sizeLine ∧ Q (.str (i ++ j)) H) ∨ rCatS K x y H Q ∨ rCatA K x y H Q
theorem op_addX : OpR X (binaryOp .Add) (rAddX X.K) := fun pins s σ H x y v u Q I rx ry h =>
  h.elim (fun h => op_add pins s σ H x y v u Q I rx ry h) fun h => h.elim (fun h => op_add_str pins s σ H x y v u Q I rx ry h) fun h => h.elim (fun h => op_catS pins s σ H x y v u Q I rx ry h) fun h => op_catA pins s σ H x y v u Q I rx ry h
def rSlS (K : KF) : V → Option Int → Option Int → Hp → VK → Prop := fun x lo hi H Q => rSlL K x lo hi H Q ∨ rSlA K x lo hi H Q
theorem sl_seq : SlR X (rSlS X.K) := fun pins s σ H x v vl vu lo hi sl Q I rx hs pl pu h =>
  h.elim (fun h => sl_list pins s σ H x v vl vu lo hi sl Q I rx hs pl pu h) fun h => sl_tupA pins s σ H x v vl vu lo hi sl Q I rx hs pl pu h
/-- a walked list or tuple -/
def iSeq (K : KF) (tl : TE) : TI := fun σ H R => tl σ H fun x H1 => ∃ a, x = .ref a ∧ (((∃ xs, SqL K H1 a xs) ∧ R (Itl K a) H1) ∨ ((∃ xs, SqT K H1 a xs) ∧ R (Itt K a) H1))
theorem pi_seq {tg : Expr} {l : Expr} {tl : TE} (hl : PE X l tl) : PI X tg l (iSeq X.K tl) := by
  refine ⟨fun pins s σ H R I h => ?_⟩
  refine thn (hl.run pins s σ H _ I h) fun v s1 ⟨x, H1, I1, r1, q1⟩ => ?_
  obtain ⟨a, e, q1⟩ := q1
  subst e
  cases r1
  rcases q1 with ⟨⟨xs, hq⟩, q⟩ | ⟨⟨xs, hq⟩, q⟩
  · obtain ⟨its, rv, p, hz⟩ := I1.list hq
    refine wpAny_pyIter_list p.isList ?_
    refine ⟨s1.heap.objs.size, [s1.heap.objs.size], _, _, H1, rfl, I1.kept (t' := s1.toks) fun b o e => Heap.get?_push_of_some _ e, turn_list a _, ⟨_, Heap.get?_push_size _ rfl, rfl, rfl⟩, fun b hb => ?_, q⟩
    have e : b = s1.heap.objs.size := by simpa using hb
    subst e
    exact I1.fpOk (Nat.le_refl _) (I1.hok.fresh (Nat.le_refl _))
  · obtain ⟨its, rv, p, hz⟩ := I1.tuple hq
    refine wpAny_pyIter_tuple (show s1.heap.IsTuple a its.toArray from p) ?_
    refine ⟨s1.heap.objs.size, [s1.heap.objs.size], _, _, H1, rfl, I1.kept (t' := s1.toks) fun b o e => Heap.get?_push_of_some _ e, turn_tuple a _, ⟨_, Heap.get?_push_size _ rfl, rfl, rfl⟩, fun b hb => ?_, q⟩
    have e : b = s1.heap.objs.size := by simpa using hb
    subst e
    exact I1.fpOk (Nat.le_refl _) (I1.hok.fresh (Nat.le_refl _))
end
section
variable {K : KF} {W : WX} {Γ : Gm} {Ω : Om} {R : DV → Om → Prop} {X : Exc → Om → Prop}
/-! operators -/
theorem wr_I {C : Int → Int → Prop} {f : Int → Int → Int} {i j : Int} (hc : C i j) (q : R (.d (.int (f i j))) Ω) : WR K (rI C fun i j => .int (f i j)) (.d (.int i)) (.d (.int j)) Ω R := fun m G H v w Q c r1 r2 k => by
  cases r1; cases r2
  exact ⟨i, j, rfl, rfl, hc, k _ _ _ _ (.d (.int (f i j))) _ c (Nxt.refl ..) (Nat.le_refl _) (Dp.int _) q⟩
theorem wr_I0b {f : Int → Int → Bool} {i j : Int} (q : R (.d (.bool (f i j))) Ω) : WR K (rI0 fun i j => .bl (f i j)) (.d (.int i)) (.d (.int j)) Ω R := fun m G H v w Q c r1 r2 k => by
  cases r1; cases r2
  exact ⟨i, j, rfl, rfl, k _ _ _ _ (.d (.bool (f i j))) _ c (Nxt.refl ..) (Nat.le_refl _) (Dp.bl _) q⟩
theorem wr_I0 {f : Int → Int → Int} {i j : Int} (q : R (.d (.int (f i j))) Ω) : WR K (rI0 fun i j => .int (f i j)) (.d (.int i)) (.d (.int j)) Ω R := fun m G H v w Q c r1 r2 k => by
  cases r1; cases r2
  exact ⟨i, j, rfl, rfl, k _ _ _ _ (.d (.int (f i j))) _ c (Nxt.refl ..) (Nat.le_refl _) (Dp.int _) q⟩
theorem wr_addI {i j : Int} (q : R (.d (.int (i + j))) Ω) : WR K (rAddX K) (.d (.int i)) (.d (.int j)) Ω R := fun m G H v w Q c r1 r2 k => .inl (wr_I0 (f := fun i j => i + j) q m G H v w Q c r1 r2 k)
theorem wr_addS {i j : Str} (h : i.length + j.length ≤ 100000) (q : R (.d (.str (i ++ j))) Ω) : WR K (rAddX K) (.d (.str i)) (.d (.str j)) Ω R := fun m G H v w Q c r1 r2 k => by
  cases r1; cases r2
  exact .inr (.inl ⟨i, j, rfl, rfl, sz_of h, k _ _ _ _ (.d (.str (i ++ j))) _ c (Nxt.refl ..) (Nat.le_refl _) (Dp.str _) q⟩)
theorem dps_app {K : KF} {G : Hp} : ∀ {vs ws : List V} {xs ys : List PyData}, DpAll K G vs xs → DpAll K G ws ys → DpAll K G (vs ++ ws) (xs ++ ys)
  | [], _, [], _, .nil, h => h
  | _ :: _, _, _ :: _, _, .cons a b, h => .cons a (dps_app b h)
theorem dps_len {K : KF} {G : Hp} : ∀ {vs : List V} {xs : List PyData}, DpAll K G vs xs → vs.length = xs.length
  | [], [], .nil => rfl
  | _ :: _, _ :: _, .cons a b => congrArg Nat.succ (dps_len b)
/-! views with their parts of the frozen heap -/
def lsL (Ω : Om) : DV → Option (List PyData)
  | .d (.list xs) => some xs
  | .o i => (sqO Ω[i]?).bind asDs
  | _ => none
def lsT : DV → Option (List PyData)
  | .d (.tuple xs) => some xs
  | _ => none
def ls (Ω : Om) : DV → Option (List PyData)
  | .d (.list xs) => some xs
  | .d (.tuple xs) => some xs
  | .o i => (sqO Ω[i]?).bind asDs
  | _ => none
theorem lsL_get {m : Mp} {G H : Hp} {d : DV} {xs : List PyData} {v : V} (c : Core K m G Ω H) (r : RV K m G Ω.length d v) (h : lsL Ω d = some xs) : ∃ a vs, v = .ref a ∧ SqL K H a vs ∧ DpAll K G vs xs := by
  cases d with
  | v y => cases h
  | e _ _ _ _ => cases h
  | t _ => cases h
  | o i =>
    have h : (sqO Ω[i]?).bind asDs = some xs := h
    cases e : sqO Ω[i]? with
    | none => rw [e] at h; cases h
    | some ds =>
      rw [e] at h
      have e2 : Ω[i]? = some (.lst ds) := sq_o (Ω := Ω) e
      obtain ⟨_, vs, hv, rp⟩ := c.fr i _ e2 (by intro z; cases z)
      obtain ⟨hi, rfl⟩ := r
      rw [asDs_eq (ds := ds) (xs := xs) h] at rp
      exact ⟨m i, vs, rfl, sq_of hv, dps_of rp⟩
  | d y =>
    cases y with
    | list xs =>
      cases h
      cases r with
      | lst hs ha => exact ⟨_, _, rfl, ex_l c.ex hs, ha⟩
    | tuple xs => cases h
    | none => cases h
    | bool b => cases h
    | int b => cases h
    | str b => cases h
    | dict b => cases h
theorem lsT_get {m : Mp} {G H : Hp} {d : DV} {xs : List PyData} {v : V} (c : Core K m G Ω H) (r : RV K m G Ω.length d v) (h : lsT d = some xs) : ∃ a vs, v = .ref a ∧ SqT K G a vs ∧ DpAll K G vs xs := by
  cases d with
  | v y => cases h
  | e _ _ _ _ => cases h
  | t _ => cases h
  | o i => cases h
  | d y =>
    cases y with
    | tuple xs =>
      cases h
      cases r with
      | tup hs ha => exact ⟨_, _, rfl, hs, ha⟩
    | list xs => cases h
    | none => cases h
    | bool b => cases h
    | int b => cases h
    | str b => cases h
    | dict b => cases h
theorem ls_get {m : Mp} {G H : Hp} {d : DV} {xs : List PyData} {v : V} (c : Core K m G Ω H) (r : RV K m G Ω.length d v) (h : ls Ω d = some xs) : ∃ a vs, v = .ref a ∧ (SqL K H a vs ∨ SqT K G a vs) ∧ DpAll K G vs xs := by
  have go1 : lsL Ω d = some xs → ∃ a vs, v = .ref a ∧ (SqL K H a vs ∨ SqT K G a vs) ∧ DpAll K G vs xs := fun h => by
    obtain ⟨a, vs, e, q, p⟩ := lsL_get c r h
    exact ⟨a, vs, e, .inl q, p⟩
  have go2 : lsT d = some xs → ∃ a vs, v = .ref a ∧ (SqL K H a vs ∨ SqT K G a vs) ∧ DpAll K G vs xs := fun h => by
    obtain ⟨a, vs, e, q, p⟩ := lsT_get c r h
    exact ⟨a, vs, e, .inr q, p⟩
  cases d with
  | v y => cases h
  | e _ _ _ _ => cases h
  | t _ => cases h
  | o i => exact go1 h
  | d y =>
    cases y with
    | tuple xs => exact go2 h
    | list xs => exact go1 h
    | none => cases h
    | bool b => cases h
    | int b => cases h
    | str b => cases h
    | dict b => cases h
/-- list + list: a list that nobody changes -/
theorem wr_addL {x y : DV} {xs ys : List PyData} (hx : lsL Ω x = some xs) (hy : lsL Ω y = some ys) (h : xs.length + ys.length ≤ 100000) (q : R (.d (.list (xs ++ ys))) Ω) : WR K (rAddX K) x y Ω R := fun m G H v w Q c r1 r2 k => by
  obtain ⟨a, vs, rfl, s1, a1⟩ := lsL_get c r1 hx
  obtain ⟨b, ws, rfl, s2, a2⟩ := lsL_get c r2 hy
  refine .inr (.inr (.inl ⟨_, _, _, _, rfl, rfl, s1, s2, sz_of (by rw [dps_len a1, dps_len a2]; exact h), fun p hp => ?_⟩))
  obtain ⟨c2, n2⟩ := c.frz hp (.lst (vs ++ ws))
  exact k _ _ _ _ (.d (.list (xs ++ ys))) _ c2 n2 (Nat.le_refl _) (.lst (sq_of upd_same) (dps_ex n2.gg _ _ (dps_app a1 a2))) q
/-- .. of one's own -/
theorem wr_addLO {x y : DV} {xs ys : List PyData} (hx : lsL Ω x = some xs) (hy : lsL Ω y = some ys) (h : xs.length + ys.length ≤ 100000) (q : R (.o Ω.length) (Ω ++ [.lst ((xs ++ ys).map DV.d)])) : WR K (rAddX K) x y Ω R := fun m G H v w Q c r1 r2 k => by
  obtain ⟨a, vs, rfl, s1, a1⟩ := lsL_get c r1 hx
  obtain ⟨b, ws, rfl, s2, a2⟩ := lsL_get c r2 hy
  refine .inr (.inr (.inl ⟨_, _, _, _, rfl, rfl, s1, s2, sz_of (by rw [dps_len a1, dps_len a2]; exact h), fun p hp => ?_⟩))
  obtain ⟨m2, c2, n2, e2⟩ := c.own (x := .lst ((xs ++ ys).map DV.d)) (o := .lst (vs ++ ws)) hp ⟨_, upd_same, of_dps (dps_app a1 a2)⟩
  exact k _ _ _ _ (.o Ω.length) _ c2 n2 (by simp) ⟨by simp, by rw [e2]⟩ q
theorem dps_nil {K : KF} {G : Hp} {vs : List V} {xs : List PyData} (h : DpAll K G vs xs) : vs = [] ↔ xs = [] := by
  cases h with
  | nil => simp
  | cons a b => simp
theorem wr_addT {xs ys : List PyData} (h : xs.length + ys.length ≤ 100000) (q : R (.d (.tuple (xs ++ ys))) Ω) : WR K (rAddX K) (.d (.tuple xs)) (.d (.tuple ys)) Ω R := fun m G H v w Q c r1 r2 k => by
  obtain ⟨a, vs, rfl, s1, a1⟩ := lsT_get c r1 rfl
  obtain ⟨b, ws, rfl, s2, a2⟩ := lsT_get c r2 rfl
  refine .inr (.inr (.inr ⟨_, _, _, _, rfl, rfl, ex_t c.ex s1, ex_t c.ex s2, sz_of (by rw [dps_len a1, dps_len a2]; exact h), fun e => ?_, fun _ e => ?_, fun _ _ p hp => ?_⟩))
  · rw [(dps_nil a1).mp e] at q
    exact k _ _ _ _ (.d (.tuple ys)) _ c (Nxt.refl ..) (Nat.le_refl _) r2 q
  · rw [(dps_nil a2).mp e, List.append_nil] at q
    exact k _ _ _ _ (.d (.tuple xs)) _ c (Nxt.refl ..) (Nat.le_refl _) r1 q
  · obtain ⟨c2, n2⟩ := c.frz hp (.tup (vs ++ ws))
    exact k _ _ _ _ (.d (.tuple (xs ++ ys))) _ c2 n2 (Nat.le_refl _) (.tup (st_of upd_same) (dps_ex n2.gg _ _ (dps_app a1 a2))) q
theorem wr_eq {x y : DV} {a b : PyData} (hx : vw Ω x = some a) (hy : vw Ω y = some b) (sa : SeqAt.shaped a = true) (sb : SeqAt.shaped b = true) (q : R (.d (.bool (PyData.eqv a b))) Ω) : WR K (rEqD K) x y Ω R := fun m G H v w Q c r1 r2 k =>
  ⟨a, b, vw_dp c r1 hx, vw_dp c r2 hy, sa, sb, k _ _ _ _ (.d (.bool (PyData.eqv a b))) _ c (Nxt.refl ..) (Nat.le_refl _) (Dp.bl _) q⟩
theorem wr_ne {x y : DV} {a b : PyData} (hx : vw Ω x = some a) (hy : vw Ω y = some b) (sa : SeqAt.shaped a = true) (sb : SeqAt.shaped b = true) (q : R (.d (.bool (!PyData.eqv a b))) Ω) : WR K (rNeD K) x y Ω R := fun m G H v w Q c r1 r2 k =>
  ⟨a, b, vw_dp c r1 hx, vw_dp c r2 hy, sa, sb, k _ _ _ _ (.d (.bool (!PyData.eqv a b))) _ c (Nxt.refl ..) (Nat.le_refl _) (Dp.bl _) q⟩
def isNo : DV → Bool
  | .d .none => true
  | _ => false
def plainV : DV → Bool
  | .v _ => false
  | _ => true
theorem isNo_v {m : Mp} {G : Hp} {n : Nat} {x : DV} {v : V} (r : RV K m G n x v) (p : plainV x = true) : decide (v = .non) = isNo x := by
  cases x with
  | v y => cases p
  | e _ _ _ _ =>
    obtain ⟨rfl, _⟩ := r
    rfl
  | t _ =>
    obtain ⟨_, _, rfl, _⟩ := r
    rfl
  | o i =>
    obtain ⟨_, rfl⟩ := r
    rfl
  | d y => cases y <;> cases r <;> rfl
theorem wr_isN {x : DV} (p : plainV x = true) (q : R (.d (.bool (isNo x))) Ω) : WR K (fun x y H Q => y = .non ∧ Q (.bl (decide (x = .non))) H) x (.d .none) Ω R := fun m G H v w Q c r1 r2 k => by
  cases r2
  refine ⟨rfl, ?_⟩
  rw [isNo_v r1 p]
  exact k _ _ _ _ (.d (.bool (isNo x))) _ c (Nxt.refl ..) (Nat.le_refl _) (Dp.bl _) q
theorem wr_notN {x : DV} (p : plainV x = true) (q : R (.d (.bool (!isNo x))) Ω) : WR K (fun x y H Q => y = .non ∧ Q (.bl (!decide (x = .non))) H) x (.d .none) Ω R := fun m G H v w Q c r1 r2 k => by
  cases r2
  refine ⟨rfl, ?_⟩
  rw [isNo_v r1 p]
  exact k _ _ _ _ (.d (.bool (!isNo x))) _ c (Nxt.refl ..) (Nat.le_refl _) (Dp.bl _) q
/-! items -/
theorem atI_pair {F : DV → V → Prop} {xs : List DV} {vs : List V} {i : Int} {x : DV} (r : Paired F xs vs) (h : atI xs i = some x) : ∃ v, atI vs i = some v ∧ F x v := by
  unfold atI at h ⊢
  rw [← Paired.length r]
  cases e : ixN xs.length i with
  | none => rw [e] at h; cases h
  | some j =>
    rw [e] at h
    exact Paired.getL r h
theorem wr_ix {x : DV} {ds : List DV} {i : Int} {y : DV} (hx : sq Ω x = some ds) (hi : atI ds i = some y) (q : R y Ω) : WR K (rIx K) x (.d (.int i)) Ω R := fun m G H v w Q c r1 r2 k => by
  cases r2
  obtain ⟨a, vs, rfl, hs, rp⟩ := sq_get c r1 hx
  obtain ⟨u, e, ru⟩ := atI_pair rp hi
  rcases hs with hs | hs
  · exact .inl ⟨a, vs, i, u, rfl, rfl, hs, e, k _ _ _ _ _ _ c (Nxt.refl ..) (Nat.le_refl _) ru q⟩
  · exact .inr (.inl ⟨a, vs, i, u, rfl, rfl, hs, e, k _ _ _ _ _ _ c (Nxt.refl ..) (Nat.le_refl _) ru q⟩)
theorem atI_map {α β : Type} (f : α → β) (xs : List α) (i : Int) : atI (xs.map f) i = (atI xs i).map f := by
  unfold atI
  rw [List.length_map]
  cases ixN xs.length i with
  | none => rfl
  | some j => show (xs.map f)[j]? = (xs[j]?).map f; rw [List.getElem?_map]
theorem wr_ixT {xs : List PyData} {i : Int} {y : PyData} (hi : atI xs i = some y) (q : R (.d y) Ω) : WR K (rIx K) (.d (.tuple xs)) (.d (.int i)) Ω R := wr_ix (ds := xs.map DV.d) rfl (by rw [atI_map, hi]; rfl) q
theorem wr_ixL {xs : List PyData} {i : Int} {y : PyData} (hi : atI xs i = some y) (q : R (.d y) Ω) : WR K (rIx K) (.d (.list xs)) (.d (.int i)) Ω R := wr_ix (ds := xs.map DV.d) rfl (by rw [atI_map, hi]; rfl) q
theorem wr_ixS {z : Str} {i : Int} {c0 : Nat} (hz : z.length ≤ 100000) (hi : atI z.cps.toList i = some c0) (q : R (.d (.str ⟨#[c0]⟩)) Ω) : WR K (rIx K) (.d (.str z)) (.d (.int i)) Ω R := fun m G H v w Q c r1 r2 k => by
  cases r1; cases r2
  exact .inr (.inr ⟨z, i, c0, rfl, rfl, sz_of hz, hi, k _ _ _ _ (.d (.str ⟨#[c0]⟩)) _ c (Nxt.refl ..) (Nat.le_refl _) (Dp.str _) q⟩)
/-! built-in functions -/
theorem wc_abs {i : Int} (q : R (.d (.int (if i < 0 then -i else i))) Ω) : WC K (fun xs H Q => ∃ i, xs = [.int i] ∧ Q (.int (if i < 0 then -i else i)) H) [.d (.int i)] Ω R := fun m G H vs Q c r k => by
  cases r with | cons a b => cases b; cases a; exact ⟨i, rfl, k _ _ _ _ (.d (.int (if i < 0 then -i else i))) _ c (Nxt.refl ..) (Nat.le_refl _) (Dp.int _) q⟩
theorem wc_max {i j : Int} (q : R (.d (.int (if j > i then j else i))) Ω) : WC K (fun xs H Q => ∃ i j, xs = [.int i, .int j] ∧ Q (.int (if j > i then j else i)) H) [.d (.int i), .d (.int j)] Ω R := fun m G H vs Q c r k => by
  cases r with | cons a b => cases b with | cons b d => cases d; cases a; cases b; exact ⟨i, j, rfl, k _ _ _ _ (.d (.int (if j > i then j else i))) _ c (Nxt.refl ..) (Nat.le_refl _) (Dp.int _) q⟩
theorem wc_min {i j : Int} (q : R (.d (.int (if j < i then j else i))) Ω) : WC K (fun xs H Q => ∃ i j, xs = [.int i, .int j] ∧ Q (.int (if j < i then j else i)) H) [.d (.int i), .d (.int j)] Ω R := fun m G H vs Q c r k => by
  cases r with | cons a b => cases b with | cons b d => cases d; cases a; cases b; exact ⟨i, j, rfl, k _ _ _ _ (.d (.int (if j < i then j else i))) _ c (Nxt.refl ..) (Nat.le_refl _) (Dp.int _) q⟩
theorem wc_intI {i : Int} (q : R (.d (.int i)) Ω) : WC K (fun xs H Q => (∃ i, xs = [.int i] ∧ Q (.int i) H) ∨ ∃ k, xs = [.bl k] ∧ Q (.int (if k then 1 else 0)) H) [.d (.int i)] Ω R := fun m G H vs Q c r k => by
  cases r with | cons a b => cases b; cases a; exact .inl ⟨i, rfl, k _ _ _ _ (.d (.int i)) _ c (Nxt.refl ..) (Nat.le_refl _) (Dp.int _) q⟩
theorem wc_intB {b : Bool} (q : R (.d (.int (if b then 1 else 0))) Ω) : WC K (fun xs H Q => (∃ i, xs = [.int i] ∧ Q (.int i) H) ∨ ∃ k, xs = [.bl k] ∧ Q (.int (if k then 1 else 0)) H) [.d (.bool b)] Ω R := fun m G H vs Q c r k => by
  cases r with | cons a b => cases b; cases a; exact .inr ⟨_, rfl, k _ _ _ _ (.d (.int _)) _ c (Nxt.refl ..) (Nat.le_refl _) (Dp.int _) q⟩
theorem wc_len {x : DV} {ds : List DV} (hx : sq Ω x = some ds) (q : R (.d (.int ds.length)) Ω) : WC K (fun xs H Q => ∃ p ys, xs = [.ref p] ∧ (SqL K H p ys ∨ SqT K H p ys) ∧ Q (.int ys.length) H) [x] Ω R := fun m G H vs Q c r k => by
  cases r with
  | cons a b =>
    cases b
    obtain ⟨p, ws, rfl, hs, rp⟩ := sq_get c a hx
    refine ⟨p, ws, rfl, hs, ?_⟩
    rw [← Paired.length rp]
    exact k _ _ _ _ (.d (.int ds.length)) _ c (Nxt.refl ..) (Nat.le_refl _) (Dp.int _) q
theorem wc_tuple {x : DV} {xs : List PyData} (hx : ls Ω x = some xs) (q : R (.d (.tuple xs)) Ω) : WC K (fun xs H Q => ∃ p ys, xs = [.ref p] ∧ ((SqL K H p ys ∧ ∀ l, H l = none → Q (.ref l) (upd H l (.tup ys))) ∨ (SqT K H p ys ∧ Q (.ref p) H))) [x] Ω R := fun m G H vs Q c r k => by
  cases r with
  | cons a b =>
    cases b
    obtain ⟨p, ws, rfl, hs, rp⟩ := ls_get c a hx
    refine ⟨p, ws, rfl, ?_⟩
    rcases hs with hs | hs
    · refine .inl ⟨hs, fun l hl => ?_⟩
      obtain ⟨c2, n2⟩ := c.frz hl (.tup ws)
      exact k _ _ _ _ (.d (.tuple xs)) _ c2 n2 (Nat.le_refl _) (.tup (st_of upd_same) (dps_ex n2.gg _ _ rp)) q
    · exact .inr ⟨ex_t c.ex hs, k _ _ _ _ (.d (.tuple xs)) _ c (Nxt.refl ..) (Nat.le_refl _) (.tup hs rp) q⟩
theorem hs_h {m : Mp} {G H : Hp} (c : Core K m G Ω H) {a : Addr} {vs : List V} (h : SqL K H a vs ∨ SqT K G a vs) : SqL K H a vs ∨ SqT K H a vs := h.imp id fun z => ex_t c.ex z
theorem wc_listD {x : DV} {xs : List PyData} (hx : ls Ω x = some xs) (q : R (.d (.list xs)) Ω) : WC K (fun xs H Q => ∃ p ys, xs = [.ref p] ∧ (SqL K H p ys ∨ SqT K H p ys) ∧ ∀ l, H l = none → Q (.ref l) (upd H l (.lst ys))) [x] Ω R := fun m G H vs Q c r k => by
  cases r with
  | cons a b =>
    cases b
    obtain ⟨p, ws, rfl, hs, rp⟩ := ls_get c a hx
    refine ⟨p, ws, rfl, hs_h c hs, fun l hl => ?_⟩
    obtain ⟨c2, n2⟩ := c.frz hl (.lst ws)
    exact k _ _ _ _ (.d (.list xs)) _ c2 n2 (Nat.le_refl _) (.lst (sq_of upd_same) (dps_ex n2.gg _ _ rp)) q
theorem wc_listO {x : DV} {xs : List PyData} (hx : ls Ω x = some xs) (q : R (.o Ω.length) (Ω ++ [.lst (xs.map DV.d)])) : WC K (fun xs H Q => ∃ p ys, xs = [.ref p] ∧ (SqL K H p ys ∨ SqT K H p ys) ∧ ∀ l, H l = none → Q (.ref l) (upd H l (.lst ys))) [x] Ω R := fun m G H vs Q c r k => by
  cases r with
  | cons a b =>
    cases b
    obtain ⟨p, ws, rfl, hs, rp⟩ := ls_get c a hx
    refine ⟨p, ws, rfl, hs_h c hs, fun l hl => ?_⟩
    obtain ⟨m2, c2, n2, e2⟩ := c.own (x := .lst (xs.map DV.d)) (o := .lst ws) hl ⟨_, upd_same, of_dps rp⟩
    exact k _ _ _ _ (.o Ω.length) _ c2 n2 (by simp) ⟨by simp, by rw [e2]⟩ q
theorem dps_ints {K : KF} {G : Hp} : ∀ {ns : List Int} {vs : List V}, DpAll K G vs (ns.map PyData.int) → vs = ns.map V.int
  | [], _, .nil => rfl
  | n :: ns, _, .cons a b => by cases a; rw [dps_ints b]; rfl
theorem dps_bools {K : KF} {G : Hp} : ∀ {ns : List Bool} {vs : List V}, DpAll K G vs (ns.map PyData.bool) → vs = ns.map V.bl
  | [], _, .nil => rfl
  | n :: ns, _, .cons a b => by cases a; rw [dps_bools b]; rfl
theorem wc_sum {x : DV} {ns : List Int} (hx : lsL Ω x = some (ns.map PyData.int)) (q : R (.d (.int ns.sum)) Ω) : WC K (rSum K) [x] Ω R := fun m G H vs Q c r k => by
  cases r with
  | cons a b =>
    cases b
    obtain ⟨p, ws, rfl, hs, rp⟩ := lsL_get c a hx
    rw [dps_ints rp] at hs
    exact ⟨p, ns, rfl, hs, k _ _ _ _ (.d (.int ns.sum)) _ c (Nxt.refl ..) (Nat.le_refl _) (Dp.int _) q⟩
theorem wc_all {x : DV} {bs : List Bool} (hx : lsL Ω x = some (bs.map PyData.bool)) (q : R (.d (.bool (bs.all id))) Ω) : WC K (rAll K) [x] Ω R := fun m G H vs Q c r k => by
  cases r with
  | cons a b =>
    cases b
    obtain ⟨p, ws, rfl, hs, rp⟩ := lsL_get c a hx
    rw [dps_bools rp] at hs
    exact ⟨p, bs, rfl, hs, k _ _ _ _ (.d (.bool (bs.all id))) _ c (Nxt.refl ..) (Nat.le_refl _) (Dp.bl _) q⟩
theorem wc_any {x : DV} {bs : List Bool} (hx : lsL Ω x = some (bs.map PyData.bool)) (q : R (.d (.bool (bs.any id))) Ω) : WC K (rAny K) [x] Ω R := fun m G H vs Q c r k => by
  cases r with
  | cons a b =>
    cases b
    obtain ⟨p, ws, rfl, hs, rp⟩ := lsL_get c a hx
    rw [dps_bools rp] at hs
    exact ⟨p, bs, rfl, hs, k _ _ _ _ (.d (.bool (bs.any id))) _ c (Nxt.refl ..) (Nat.le_refl _) (Dp.bl _) q⟩
/-! isinstance -/
def tyN : PyData → Option String
  | .none => some "NoneType"
  | .bool _ => some "bool"
  | .int _ => some "int"
  | .str _ => some "str"
  | .list _ => some "list"
  | .tuple _ => some "tuple"
  | .dict _ => none
theorem ty_of {H : Hp} {x : PyData} {v : V} {n : String} (h : Dp K H v x) (e : tyN x = some n) : TyX K H v (.type n) := by
  cases h with
  | non => cases e; exact .base .non
  | bl b => cases e; exact .base (.bl b)
  | int b => cases e; exact .base (.int b)
  | str b => cases e; exact .base (.str b)
  | lst hs ha =>
    cases e
    rcases hs with (hs | ⟨o, hs⟩) | ⟨o, its, n, hk, hc, _⟩
    · exact .base (.lst hs)
    · exact .base (.frz hs)
    · exact .kList hk hc
  | tup hs ha =>
    cases e
    rcases hs with (hs | ⟨o, hs⟩) | ⟨o, its, n, hk, hc, _⟩
    · exact .base (.tup hs)
    · exact .fTuple hs
    · exact .kTuple hk hc
theorem wc_isi {x : DV} {y : PyData} {a b : String} {z : Bool} (hx : vw Ω x = some y) (ha : tyN y = some a) (hk : kitB a b = some z) (q : R (.d (.bool z)) Ω) : WC K (rIsi K) [x, .v (.ty b)] Ω R := fun m G H vs Q c r k => by
  cases r with
  | cons r1 rs => cases rs with
    | cons r2 rs =>
      cases rs
      cases r2
      exact ⟨_, _, _, _, z, rfl, .ty b, ty_of (vw_dp c r1 hx) ha, kit_ty hk, k _ _ _ _ (.d (.bool z)) _ c (Nxt.refl ..) (Nat.le_refl _) (Dp.bl _) q⟩
end
end HL
namespace HL
open PySem PySem.Spec PyProof.Rows L2 Evl
/-! ### slices -/
def cutG {α : Type} (xs : List α) (lo hi : Option Int) : List α := (xs.drop (HT.sIx xs.length 0 lo)).take (HT.sIx xs.length xs.length hi - HT.sIx xs.length 0 lo)
theorem dps_drop {K : KF} {G : Hp} : ∀ (n : Nat) {vs : List V} {xs : List PyData}, DpAll K G vs xs → DpAll K G (vs.drop n) (xs.drop n)
  | 0, _, _, h => h
  | _ + 1, [], [], .nil => .nil
  | n + 1, _ :: _, _ :: _, .cons _ b => dps_drop n b
theorem dps_take {K : KF} {G : Hp} : ∀ (n : Nat) {vs : List V} {xs : List PyData}, DpAll K G vs xs → DpAll K G (vs.take n) (xs.take n)
  | 0, _, _, _ => .nil
  | _ + 1, [], [], .nil => .nil
  | n + 1, _ :: _, _ :: _, .cons a b => .cons a (dps_take n b)
theorem dps_cut {K : KF} {G : Hp} {vs : List V} {xs : List PyData} (lo hi : Option Int) (h : DpAll K G vs xs) : DpAll K G (cutV vs lo hi) (cutG xs lo hi) := by
  unfold cutV cutG
  rw [dps_len h]
  exact dps_take _ (dps_drop _ h)
theorem cut_whole {α : Type} {xs : List α} {lo hi : Option Int} (h : HT.sIx xs.length 0 lo = 0 ∧ HT.sIx xs.length xs.length hi = xs.length) : cutG xs lo hi = xs := by
  unfold cutG
  rw [h.1, h.2]
  simp
section
variable (K : KF) (W : WX)
def WO (to : TO) (Γ : Gm) (Ω : Om) (R : Option Int → Om → Prop) (X : Exc → Om → Prop) : Prop :=
  ∀ m G H σ Q, Core K m G Ω H → Slots K m G Ω.length Γ σ → (∀ m' G' Ω' H' b, Core K m' G' Ω' H' → Nxt m Ω.length G m' G' → Ω.length ≤ Ω'.length → R b Ω' → Q b H') → XOk K m G Ω.length X (fun c d H' => W c d σ H') → to σ H Q
def WSl (r : V → Option Int → Option Int → Hp → VK → Prop) (x : DV) (lo hi : Option Int) (Ω : Om) (R : DV → Om → Prop) : Prop :=
  ∀ m G H v Q, Core K m G Ω H → RV K m G Ω.length x v → QOk K m G Ω.length R Q → r v lo hi H Q
end
section
variable {K : KF} {W : WX} {Γ : Gm} {Ω : Om} {R : DV → Om → Prop} {X : Exc → Om → Prop} {te : TE}
theorem wo_none {S : Option Int → Om → Prop} (q : S none Ω) : WO K W tNoPart Γ Ω S X := fun m G H σ Q c s k x => k _ _ _ _ _ c (Nxt.refl ..) (Nat.le_refl _) q
theorem wo_some {S : Option Int → Om → Prop} (h : WE K W te Γ Ω (fun d Ω1 => ∃ i, d = .d (.int i) ∧ S (some i) Ω1) X) : WO K W (tPart te) Γ Ω S X := fun m G H σ Q c s k x =>
  h m G H σ _ c s (fun m1 G1 Ω1 H1 d1 v1 c1 n1 l1 r1 ⟨i, e, q⟩ => by
    subst e
    cases r1
    exact ⟨i, rfl, k _ _ _ _ _ c1 n1 l1 q⟩) x
theorem we_sl {r : V → Option Int → Option Int → Hp → VK → Prop} {tl th : TO} (h : WE K W te Γ Ω (fun d Ω1 => WO K W tl Γ Ω1 (fun lo Ω2 => WO K W th Γ Ω2 (fun hi Ω3 => WSl K r d lo hi Ω3 R) X) X) X) : WE K W (tSl r te tl th) Γ Ω R X := fun m G H σ Q c s k x =>
  h m G H σ _ c s (fun m1 G1 Ω1 H1 d1 v1 c1 n1 l1 r1 h1 => h1 m1 G1 H1 σ _ c1 (s.mono n1 l1) (fun m2 G2 Ω2 H2 lo c2 n2 l2 h2 =>
    h2 m2 G2 H2 σ _ c2 ((s.mono n1 l1).mono n2 l2) (fun m3 G3 Ω3 H3 hi c3 n3 l3 h3 =>
      h3 m3 G3 H3 v1 Q c3 (RV.mono (n2.trans l2 n3) (Nat.le_trans l2 l3) r1) (k.on (n1.trans l1 (n2.trans l2 n3)) (Nat.le_trans l1 (Nat.le_trans l2 l3)))) (x.on (n1.trans l1 n2) (Nat.le_trans l1 l2))) (x.on n1 l1)) x
theorem wsl_L {d : DV} {xs : List PyData} {lo hi : Option Int} (hx : lsL Ω d = some xs) (q : R (.d (.list (cutG xs lo hi))) Ω) : WSl K (rSlS K) d lo hi Ω R := fun m G H v Q c r k => by
  obtain ⟨a, vs, rfl, hs, rp⟩ := lsL_get c r hx
  refine .inl ⟨a, vs, rfl, hs, fun p hp => ?_⟩
  obtain ⟨c2, n2⟩ := c.frz hp (.lst (cutV vs lo hi))
  exact k _ _ _ _ (.d (.list (cutG xs lo hi))) _ c2 n2 (Nat.le_refl _) (.lst (sq_of upd_same) (dps_ex n2.gg _ _ (dps_cut lo hi rp))) q
theorem wsl_T {xs : List PyData} {lo hi : Option Int} (q : R (.d (.tuple (cutG xs lo hi))) Ω) : WSl K (rSlS K) (.d (.tuple xs)) lo hi Ω R := fun m G H v Q c r k => by
  obtain ⟨a, vs, rfl, hs, rp⟩ := lsT_get c r rfl
  refine .inr ⟨a, vs, rfl, ex_t c.ex hs, fun e => ?_, fun _ p hp => ?_⟩
  · rw [dps_len rp] at e
    rw [cut_whole e] at q
    exact k _ _ _ _ (.d (.tuple xs)) _ c (Nxt.refl ..) (Nat.le_refl _) r q
  · obtain ⟨c2, n2⟩ := c.frz hp (.tup (cutV vs lo hi))
    exact k _ _ _ _ (.d (.tuple (cutG xs lo hi))) _ c2 n2 (Nat.le_refl _) (.tup (st_of upd_same) (dps_ex n2.gg _ _ (dps_cut lo hi rp))) q
end
/-! ### methods of lists -/
section
variable {K : KF} {W : WX} {Γ : Gm} {Ω : Om} {R : DV → Om → Prop} {X : Exc → Om → Prop} {to : TE} {ta : TA}
/-- a method of one's own list -/
theorem we_bm {r : V → List V → Hp → VK → Prop} (h : WE K W to Γ Ω (fun d Ω1 => (∃ ds, sq Ω1 d = some ds ∧ lsT d = none) ∧ WA K W ta Γ Ω1 (fun ds Ω2 => WM K r d ds Ω2 R) X) X) : WE K W (tBM K "list" r to ta) Γ Ω R X := fun m G H σ Q c s k x =>
  h m G H σ _ c s (fun m1 G1 Ω1 H1 d1 v1 c1 n1 l1 r1 ⟨⟨ds, e1, e2⟩, h1⟩ => by
    refine ⟨?_, h1 m1 G1 H1 σ _ c1 (s.mono n1 l1) (fun m2 G2 Ω2 H2 es vs c2 n2 l2 r2 h2 => h2 m2 G2 H2 v1 vs Q c2 (RV.mono n2 l2 r1) r2 (k.on (n1.trans l1 n2) (Nat.le_trans l1 l2))) (x.on n1 l1)⟩
    obtain ⟨a, vs, rfl, hs, rp⟩ := sq_get c1 r1 e1
    rcases hs with hs | hs
    · exact Or.inl ⟨rfl, vs, hs⟩
    · cases d1 with
      | v y => cases e1
      | e _ _ _ _ => cases e1
      | t _ => cases e1
      | o i =>
        obtain ⟨_, q⟩ := c1.fr i _ (sq_o e1) (by intro z; cases z)
        obtain ⟨vs', hv, _⟩ := q
        obtain ⟨_, er⟩ := r1
        cases er
        exact Or.inl ⟨rfl, vs', sq_of hv⟩
      | d y =>
        cases y with
        | list xs =>
          cases r1 with
          | lst hl ha => exact Or.inl ⟨rfl, _, ex_l c1.ex hl⟩
        | tuple xs => cases e2
        | none => cases e1
        | bool b => cases e1
        | int b => cases e1
        | str b => cases e1
        | dict b => cases e1) x
theorem we_bm0 {r : V → List V → Hp → VK → Prop} (h : WE K W to Γ Ω (fun d Ω1 => (∃ ds, sq Ω1 d = some ds ∧ lsT d = none) ∧ WM K r d [] Ω1 R) X) : WE K W (tBM0 K "list" r to) Γ Ω R X := fun m G H σ Q c s k x =>
  we_bm (ta := tNil) (K := K) (W := W) (Γ := Γ) (Ω := Ω) (R := R) (X := X) (to := to) (r := r) (fun m G H σ Q c s k x => h m G H σ _ c s (fun m1 G1 Ω1 H1 d1 v1 c1 n1 l1 r1 ⟨e1, h1⟩ => k m1 G1 Ω1 H1 d1 v1 c1 n1 l1 r1 ⟨e1, wa_nil h1⟩) x) m G H σ Q c s k x
theorem wm_append {i : Nat} {y : DV} {ds : List DV} (hx : Ω[i]? = some (.lst ds)) (hl : ds.length < 100000) (q : R (.d .none) (Ω.set i (.lst (ds ++ [y])))) : WM K rAppend (.o i) [y] Ω R := fun m G H v vs Q c r1 r2 k => by
  obtain ⟨hi, rfl⟩ := r1
  cases r2 with
  | cons ry rn =>
    cases rn
    obtain ⟨q1, ws, hw, rp⟩ := c.fr i _ hx (by intro z; cases z)
    refine ⟨m i, ws, _, rfl, rfl, hw, sz_lt (by rw [← Paired.length rp]; exact hl), ?_⟩
    have c2 := c.write (y := .lst (ds ++ [y])) (o := .lst (ws ++ [_])) hx (by intro z; cases z) ⟨_, upd_same, Paired.snoc rp ry⟩
    exact k _ _ _ _ (.d .none) _ c2 (Nxt.refl ..) (by rw [List.length_set]; exact Nat.le_refl _) Dp.non q
theorem wm_pop {i : Nat} {y : DV} {ds : List DV} (hx : Ω[i]? = some (.lst ds)) (hy : ds[ds.length - 1]? = some y) (q : R y (Ω.set i (.lst ds.dropLast))) : WM K rPop (.o i) [] Ω R := fun m G H v vs Q c r1 r2 k => by
  obtain ⟨hi, rfl⟩ := r1
  cases r2
  obtain ⟨q1, ws, hw, rp⟩ := c.fr i _ hx (by intro z; cases z)
  obtain ⟨u, hu, ru⟩ := Paired.getL rp hy
  have e := Paired.length rp
  have dl : Paired (RV K m G Ω.length) ds.dropLast ws.dropLast := by
    rw [List.dropLast_eq_take, List.dropLast_eq_take, e]
    exact Paired.takeP _ rp
  rw [e] at hu
  have c2 := c.write (y := .lst ds.dropLast) (o := .lst ws.dropLast) hx (by intro z; cases z) ⟨_, upd_same, dl⟩
  have nx : Nxt m Ω.length G m G := Nxt.refl ..
  exact ⟨m i, ws, u, rfl, rfl, hw, hu, k _ _ _ _ y _ c2 nx (by rw [List.length_set]; exact Nat.le_refl _) (RV.mono nx (by rw [List.length_set]; exact Nat.le_refl _) ru) q⟩
theorem wm_reverse {i : Nat} {ds : List DV} (hx : Ω[i]? = some (.lst ds)) (q : R (.d .none) (Ω.set i (.lst ds.reverse))) : WM K rReverse (.o i) [] Ω R := fun m G H v vs Q c r1 r2 k => by
  obtain ⟨hi, rfl⟩ := r1
  cases r2
  obtain ⟨q1, ws, hw, rp⟩ := c.fr i _ hx (by intro z; cases z)
  have rev : ∀ {xs : List DV} {ys : List V}, Paired (RV K m G Ω.length) xs ys → Paired (RV K m G Ω.length) xs.reverse ys.reverse := fun {xs ys} h => by
    induction h with
    | nil => exact .nil
    | cons a _ ih => rw [List.reverse_cons, List.reverse_cons]; exact Paired.snoc ih a
  have c2 := c.write (y := .lst ds.reverse) (o := .lst ws.reverse) hx (by intro z; cases z) ⟨_, upd_same, rev rp⟩
  exact ⟨m i, ws, rfl, rfl, hw, k _ _ _ _ (.d .none) _ c2 (Nxt.refl ..) (by rw [List.length_set]; exact Nat.le_refl _) Dp.non q⟩
/-- o[i] = v, a list of one's own -/
theorem wg_subL {to ti : TE} {y : DV} {S : Gm → Om → Prop} (h : WE K W to Γ Ω (fun d Ω1 => WE K W ti Γ Ω1 (fun e Ω2 => ∃ k ds i j, d = .o k ∧ e = .d (.int i) ∧ Ω2[k]? = some (.lst ds) ∧ ixN ds.length i = some j ∧ S Γ (Ω2.set k (.lst (ds.set j y)))) (fun _ _ => False)) (fun _ _ => False))
    (hW : True) : WG K (gSub to ti rSetL) y Γ Ω S := fun m G H σ v Q c s ry k => by
  have x0 : ∀ {m' : Mp} {G' : Hp} {n' : Nat}, XOk K m' G' n' (fun _ _ => False) (fun c d H' => W c d σ H') := fun {m' G' n'} _ _ _ _ _ _ _ _ _ _ _ z => z.elim
  refine h m G H σ _ c s (fun m1 G1 Ω1 H1 d1 v1 c1 n1 l1 r1 h1 => h1 m1 G1 H1 σ _ c1 (s.mono n1 l1) (fun m2 G2 Ω2 H2 d2 v2 c2 n2 l2 r2 ⟨kk, ds, i, j, e1, e2, hx, hj, q⟩ => ?_) x0) x0
  subst e1 e2
  cases r2
  have n12 := n1.trans l1 n2
  have l12 := Nat.le_trans l1 l2
  obtain ⟨_, er⟩ := RV.mono n2 l2 r1
  obtain ⟨q1, ws, hw, rp⟩ := c2.fr kk _ hx (by intro z; cases z)
  have c3 := c2.write (y := .lst (ds.set j y)) (o := .lst (ws.set j v)) hx (by intro z; cases z) ⟨_, upd_same, Paired.setP (RV.mono n12 l12 ry) j rp⟩
  have le : Ω2.length ≤ (Ω2.set kk (OC.lst (ds.set j y))).length := by rw [List.length_set]; exact Nat.le_refl _
  exact ⟨m2 kk, ws, i, j, er, rfl, hw, by rw [← Paired.length rp]; exact hj, k _ _ _ _ _ _ c3 n12 (Nat.le_trans l12 le) ((s.mono n12 l12).mono (Nxt.refl ..) le) q⟩
/-- a list of one's own is handed on for good -/
theorem we_varF {i k : Nat} {xs : List PyData} (h : Γ[i]? = some (some (.o k))) (hx : (sqO Ω[k]?).bind asDs = some xs) (q : R (.d (.list xs)) (Ω.set k .gone)) : WE K W (tVar i) Γ Ω R X := fun m G H σ Q c s kk x => by
  obtain ⟨v, e, rv⟩ := s.at_ i _ h
  obtain ⟨hi, rfl⟩ := rv
  cases e1 : sqO Ω[k]? with
  | none => rw [e1] at hx; cases hx
  | some ds =>
    rw [e1] at hx
    have e2 : Ω[k]? = some (.lst ds) := sq_o (Ω := Ω) e1
    obtain ⟨q1, ws, hw, rp⟩ := c.fr k _ e2 (by intro z; cases z)
    rw [asDs_eq (ds := ds) (xs := xs) hx] at rp
    obtain ⟨c2, n2⟩ := c.freeze e2 (by intro z; cases z) hw
    have le : Ω.length ≤ (Ω.set k .gone).length := by rw [List.length_set]; exact Nat.le_refl _
    exact ⟨_, e, kk _ _ _ _ (.d (.list xs)) _ c2 n2 le (.lst (sq_of upd_same) (dps_ex n2.gg _ _ (dps_of rp))) q⟩
end
/-! ### what is walked -/
def ItOk (K : KF) (J : It) (ys : List DV) (stay : Om → Prop) (m1 : Mp) (G1 : Hp) (n1 : Nat) : Prop :=
  ∀ m' G' Ω' H', Core K m' G' Ω' H' → Nxt m1 n1 G1 m' G' → n1 ≤ Ω'.length → stay Ω' → ∀ i, (ys.length ≤ i → J.stop i H') ∧
    ∀ y, ys[i]? = some y → J.go i H' ∧ ∀ x H'', J.yld i H' x H'' → ∃ G'', Core K m' G'' Ω' H'' ∧ Ex G' G'' ∧ RV K m' G'' Ω'.length y x
def WI (K : KF) (W : WX) (wi : TI) (Γ : Gm) (Ω : Om) (Rc : List DV → (Om → Prop) → Om → Prop) (X : Exc → Om → Prop) : Prop :=
  ∀ m G H σ (R : It → Hp → Prop), Core K m G Ω H → Slots K m G Ω.length Γ σ → XOk K m G Ω.length X (fun c d H' => W c d σ H') →
    (∀ m1 G1 Ω1 H1 J ys stay, Core K m1 G1 Ω1 H1 → Nxt m Ω.length G m1 G1 → Ω.length ≤ Ω1.length → ItOk K J ys stay m1 G1 Ω1.length → Rc ys stay Ω1 → R J H1) → wi σ H R
section
variable {K : KF} {W : WX} {Γ : Gm} {Ω : Om} {X : Exc → Om → Prop} {Rc : List DV → (Om → Prop) → Om → Prop} {te : TE} {ta : TA}
def sqLs (Ω : Om) : DV → Option (List DV)
  | .d (.list xs) => some (xs.map DV.d)
  | .o i => sqO Ω[i]?
  | _ => none
theorem sqLs_get {m : Mp} {G H : Hp} {d : DV} {ds : List DV} {v : V} (c : Core K m G Ω H) (r : RV K m G Ω.length d v) (h : sqLs Ω d = some ds) : ∃ a vs, v = .ref a ∧ SqL K H a vs ∧ Paired (RV K m G Ω.length) ds vs := by
  cases d with
  | v y => cases h
  | e _ _ _ _ => cases h
  | t _ => cases h
  | o i =>
    have e2 : Ω[i]? = some (.lst ds) := sq_o (Ω := Ω) h
    obtain ⟨_, vs, hv, rp⟩ := c.fr i _ e2 (by intro z; cases z)
    obtain ⟨hi, rfl⟩ := r
    exact ⟨m i, vs, rfl, sq_of hv, rp⟩
  | d y =>
    cases y with
    | list xs =>
      cases h
      cases r with
      | lst hs ha => exact ⟨_, _, rfl, ex_l c.ex hs, of_dps ha⟩
    | tuple xs => cases h
    | none => cases h
    | bool b => cases h
    | int b => cases h
    | str b => cases h
    | dict b => cases h
theorem itok_list {m1 : Mp} {G1 : Hp} {n1 : Nat} {d : DV} {ds : List DV} {a : Addr} (r : RV K m1 G1 n1 d (.ref a)) : ItOk K (Itl K a) ds (fun Ω' => sqLs Ω' d = some ds) m1 G1 n1 := fun m' G' Ω' H' c' n' l' st i => by
  obtain ⟨a', vs, ea, hs, rp⟩ := sqLs_get c' (RV.mono n' l' r) st
  cases ea
  have el := Paired.length rp
  refine ⟨fun h => ⟨vs, hs, by rw [← el]; exact h⟩, fun y hy => ?_⟩
  obtain ⟨u, hu, ru⟩ := Paired.getL rp hy
  refine ⟨⟨vs, u, hs, hu⟩, fun x H'' ⟨e, hx⟩ => ?_⟩
  subst e
  have ex : u = x := Option.some.inj (hu.symm.trans (hx vs hs))
  subst ex
  exact ⟨G', c', Ex.refl _, ru⟩
theorem itok_tup {m1 : Mp} {G1 : Hp} {n1 : Nat} {xs : List PyData} {a : Addr} (r : RV K m1 G1 n1 (.d (.tuple xs)) (.ref a)) : ItOk K (Itt K a) (xs.map DV.d) (fun _ => True) m1 G1 n1 := fun m' G' Ω' H' c' n' l' st i => by
  have r' := RV.mono n' l' r
  obtain ⟨a', vs, ea, hs, rp0⟩ := lsT_get c' r' rfl
  cases ea
  have rp : Paired (RV K m' G' Ω'.length) (xs.map DV.d) vs := of_dps rp0
  have hs' := ex_t c'.ex hs
  have el := Paired.length rp
  refine ⟨fun h => ⟨vs, hs', by rw [← el]; exact h⟩, fun y hy => ?_⟩
  obtain ⟨u, hu, ru⟩ := Paired.getL rp hy
  refine ⟨⟨vs, u, hs', hu⟩, fun x H'' ⟨e, hx⟩ => ?_⟩
  subst e
  have ex : u = x := Option.some.inj (hu.symm.trans (hx vs hs'))
  subst ex
  exact ⟨G', c', Ex.refl _, ru⟩
theorem itok_rng {m1 : Mp} {G1 : Hp} {n1 : Nat} {lo : Int} {n : Nat} : ItOk K (Itr lo n) ((List.range n).map fun (i : Nat) => .d (.int (lo + (i : Int)))) (fun _ => True) m1 G1 n1 := fun m' G' Ω' H' c' n' l' st i => by
  refine ⟨fun h => ?_, fun y hy => ?_⟩
  · rw [List.length_map, List.length_range] at h
    exact h
  · rw [List.getElem?_map] at hy
    have hi : i < n := by
      by_cases h : i < n
      · exact h
      · rw [List.getElem?_eq_none (by rw [List.length_range]; omega)] at hy
        cases hy
    rw [List.getElem?_range hi] at hy
    cases hy
    refine ⟨hi, fun x H'' ⟨e, hx⟩ => ?_⟩
    subst e hx
    exact ⟨G', c', Ex.refl _, Dp.int _⟩
/-- what is walked, by its kind -/
theorem wi_seqL (h : WE K W te Γ Ω (fun d Ω1 => ∃ ds, sqLs Ω1 d = some ds ∧ Rc ds (fun Ω' => sqLs Ω' d = some ds) Ω1) X) : WI K W (iSeq K te) Γ Ω Rc X := fun m G H σ R c s x k =>
  h m G H σ _ c s (fun m1 G1 Ω1 H1 d v c1 n1 l1 r1 ⟨ds, e, q⟩ => by
    obtain ⟨a, vs, rfl, hs, rp⟩ := sqLs_get c1 r1 e
    exact ⟨a, rfl, .inl ⟨⟨vs, hs⟩, k m1 G1 Ω1 H1 _ ds _ c1 n1 l1 (itok_list r1) q⟩⟩) x
theorem wi_seqT (h : WE K W te Γ Ω (fun d Ω1 => ∃ xs, d = .d (.tuple xs) ∧ Rc (xs.map DV.d) (fun _ => True) Ω1) X) : WI K W (iSeq K te) Γ Ω Rc X := fun m G H σ R c s x k =>
  h m G H σ _ c s (fun m1 G1 Ω1 H1 d v c1 n1 l1 r1 ⟨xs, e, q⟩ => by
    subst e
    obtain ⟨a, vs, rfl, hs, rp⟩ := lsT_get c1 r1 rfl
    exact ⟨a, rfl, .inr ⟨⟨vs, ex_t c1.ex hs⟩, k m1 G1 Ω1 H1 _ _ _ c1 n1 l1 (itok_tup r1) q⟩⟩) x
theorem wi_rng1 (h : WA K W ta Γ Ω (fun ds Ω1 => ∃ j : Int, ds = [.d (.int j)] ∧ -(2 ^ 62) ≤ j ∧ j < 2 ^ 62 ∧ Rc ((List.range j.toNat).map fun (i : Nat) => .d (.int (0 + (i : Int)))) (fun _ => True) Ω1) X) : WI K W (iRng1 ta) Γ Ω Rc X := fun m G H σ R c s x k =>
  h m G H σ _ c s (fun m1 G1 Ω1 H1 ds vs c1 n1 l1 r1 ⟨j, e, h1, h2, q⟩ => by
    subst e
    cases r1 with
    | cons a b => cases b; cases a; exact ⟨j, rfl, h1, h2, k m1 G1 Ω1 H1 _ _ _ c1 n1 l1 itok_rng q⟩) x
theorem wi_rng2 (h : WA K W ta Γ Ω (fun ds Ω1 => ∃ i j : Int, ds = [.d (.int i), .d (.int j)] ∧ (-(2 ^ 62) ≤ i ∧ i < 2 ^ 62 ∧ -(2 ^ 62) ≤ j ∧ j < 2 ^ 62) ∧ Rc ((List.range (j - i).toNat).map fun (t : Nat) => .d (.int (i + (t : Int)))) (fun _ => True) Ω1) X) : WI K W (iRng2 ta) Γ Ω Rc X := fun m G H σ R c s x k =>
  h m G H σ _ c s (fun m1 G1 Ω1 H1 ds vs c1 n1 l1 r1 ⟨i, j, e, h1, q⟩ => by
    subst e
    cases r1 with
    | cons a b => cases b with | cons b d => cases d; cases a; cases b; exact ⟨i, j, rfl, h1, k m1 G1 Ω1 H1 _ _ _ c1 n1 l1 itok_rng q⟩) x
/-! ### for -/
variable {O : Outs} {g : TG} {tb : TS} {wi : TI}
theorem ws_for (h : WI K W wi Γ Ω (fun ys stay Ω1 => ∃ P : Nat → Gm → Om → Prop, P 0 Γ Ω1 ∧ (∀ i Γ' Ω', i ≤ ys.length → P i Γ' Ω' → stay Ω' ∧ Ω1.length ≤ Ω'.length) ∧
      (∀ i y Γ' Ω', ys[i]? = some y → P i Γ' Ω' → WG K g y Γ' Ω' (fun Γ2 Ω2 => WS K W tb Γ2 Ω2 { nx := P (i + 1), ct := P (i + 1), bk := O.nx, rt := O.rt, er := O.er })) ∧ ∀ Γ' Ω', P ys.length Γ' Ω' → O.nx Γ' Ω') (fun e Ω1 => O.er Γ e Ω1)) :
    WS K W (tFor wi g tb) Γ Ω O := fun m G H σ D c s k1 k2 k3 k4 z => by
  refine h m G H σ _ c s (xok_of z s) (fun m1 G1 Ω1 H1 J ys stay c1 n1 l1 it ⟨P, p0, pst, step, fin⟩ => ?_)
  have s1 := s.mono n1 l1
  refine ⟨fun i n σ' H' => n = ys.length - i ∧ i ≤ ys.length ∧ ∃ m' G' Ω' Γ', Core K m' G' Ω' H' ∧ Nxt m1 Ω1.length G1 m' G' ∧ Ω1.length ≤ Ω'.length ∧ Slots K m' G' Ω'.length Γ' σ' ∧ P i Γ' Ω',
    ⟨ys.length, by simp, Nat.zero_le _, m1, G1, Ω1, Γ, c1, Nxt.refl .., Nat.le_refl _, s1, p0⟩, ?_⟩
  rintro i n σ2 H2 ⟨rfl, hi, m2, G2, Ω2, Γ2, c2, n2, l2, s2, p2⟩
  have n12 := n1.trans l1 n2
  have l12 := Nat.le_trans l1 l2
  have ik := it m2 G2 Ω2 H2 c2 n2 l2 (pst i Γ2 Ω2 hi p2).1 i
  by_cases hlt : i < ys.length
  · obtain ⟨go, yl⟩ := ik.2 ys[i] (List.getElem?_eq_getElem hlt)
    refine .inr ⟨go, fun σ' H' => ∃ m' G' Ω' Γ', Core K m' G' Ω' H' ∧ Nxt m1 Ω1.length G1 m' G' ∧ Ω1.length ≤ Ω'.length ∧ Slots K m' G' Ω'.length Γ' σ' ∧ P (i + 1) Γ' Ω', fun σ' H' q => ⟨ys.length - (i + 1), by omega, rfl, hlt, q⟩, fun x H'' hy => ?_⟩
    obtain ⟨G3, c3, e3, r3⟩ := yl x H'' hy
    have n3 : Nxt m2 Ω2.length G2 m2 G3 := ⟨fun _ _ => rfl, e3⟩
    have n13 := n12.trans l12 n3
    refine step i ys[i] Γ2 Ω2 (List.getElem?_eq_getElem hlt) p2 m2 G3 H'' σ2 x _ c3 (s2.mono n3 (Nat.le_refl _)) r3 (fun m4 G4 Ω4 H4 Γ4 σ4 c4 n4 l4 s4 h4 => ?_)
    have n14 := n13.trans l12 n4
    have l14 := Nat.le_trans l12 l4
    have again : SOk K m4 G4 Ω4.length (P (i + 1)) (fun σ' H' => ∃ m' G' Ω' Γ', Core K m' G' Ω' H' ∧ Nxt m1 Ω1.length G1 m' G' ∧ Ω1.length ≤ Ω'.length ∧ Slots K m' G' Ω'.length Γ' σ' ∧ P (i + 1) Γ' Ω') := fun m5 G5 Ω5 H5 Γ5 σ5 c5 n5 l5 s5 p5 =>
      ⟨m5, G5, Ω5, Γ5, c5, (n2.trans l2 (n3.trans (Nat.le_refl _) n4)).trans (Nat.le_trans l2 l4) n5, Nat.le_trans (Nat.le_trans l2 l4) l5, s5, p5⟩
    exact h4 m4 G4 H4 σ4 { D with nx := _, ct := _, bk := D.nx } c4 s4 again (k2.on n14 l14) (k1.on n14 l14) again (z.on n14 l14)
  · have ei : i = ys.length := by omega
    subst ei
    exact .inl ⟨ik.1 (Nat.le_refl _), k1 _ _ _ _ _ _ c2 n12 l12 s2 (fin Γ2 Ω2 p2)⟩
end
/-! ### comprehensions -/
def wipeG (Γ : Gm) : List Nat → Gm
  | [] => Γ
  | v :: vs => (wipeG Γ vs).set v none
theorem wipeG_slots {K : KF} {m : Mp} {G : Hp} {n : Nat} {Γ : Gm} {σ : L2.St} (s : Slots K m G n Γ σ) : ∀ vs, Slots K m G n (wipeG Γ vs) (wipe σ vs)
  | [] => s
  | v :: vs => by
    have ih := wipeG_slots s vs
    refine ⟨?_, fun i d h => ?_⟩
    · show ((wipeG Γ vs).set v none).length = ((wipe σ vs).set v none).length
      rw [List.length_set, List.length_set]
      exact ih.len
    · have h : ((wipeG Γ vs).set v none)[i]? = some (some d) := h
      show ∃ w, ((wipe σ vs).set v none)[i]? = some (some w) ∧ _
      rw [List.getElem?_set] at h ⊢
      by_cases hv : v = i
      · rw [if_pos hv] at h
        split at h <;> cases h
      · rw [if_neg hv] at h ⊢
        exact ih.at_ i d h
theorem wipe_ext {σ τ : L2.St} : ∀ {vs : List Nat}, σ.length = τ.length → (∀ i, i ∉ vs → σ[i]? = τ[i]?) → wipe σ vs = wipe τ vs
  | [], _, h => List.ext_getElem? fun i => h i (by simp)
  | v :: vs, hl, h => by
    show (wipe σ vs).set v none = (wipe τ vs).set v none
    refine List.ext_getElem? fun i => ?_
    rw [List.getElem?_set, List.getElem?_set, wipe_length, wipe_length, hl]
    by_cases hv : v = i
    · rw [if_pos hv, if_pos hv]
    · rw [if_neg hv, if_neg hv]
      have e : wipe (σ.set v none) vs = wipe (τ.set v none) vs := wipe_ext (by rw [List.length_set, List.length_set]; exact hl) fun j hj => by
        rw [List.getElem?_set, List.getElem?_set, hl]
        by_cases hvj : v = j
        · rw [if_pos hvj, if_pos hvj]
        · rw [if_neg hvj, if_neg hvj]
          exact h j (by simp; exact ⟨fun z => hvj z.symm, hj⟩)
      have at_ : ∀ (ρ : L2.St), (wipe ρ vs)[i]? = (wipe (ρ.set v none) vs)[i]? := fun ρ => by
        clear e h hl
        induction vs with
        | nil => show ρ[i]? = (ρ.set v none)[i]?; rw [List.getElem?_set, if_neg hv]
        | cons w ws ih =>
          show ((wipe ρ ws).set w none)[i]? = ((wipe (ρ.set v none) ws).set w none)[i]?
          rw [List.getElem?_set, List.getElem?_set, wipe_length, wipe_length, List.length_set, ih]
      rw [at_ σ, at_ τ, e]
theorem wipe_out {σ : L2.St} {i : Nat} : ∀ {vs : List Nat}, i ∉ vs → (wipe σ vs)[i]? = σ[i]?
  | [], _ => rfl
  | v :: vs, h => by
    show ((wipe σ vs).set v none)[i]? = σ[i]?
    rw [List.getElem?_set, if_neg (fun z : v = i => h (by simp [z]))]
    exact wipe_out fun z => h (List.mem_cons_of_mem _ z)
theorem wipe_idem (σ : L2.St) (vs : List Nat) : wipe (wipe σ vs) vs = wipe σ vs := wipe_ext (wipe_length σ vs) fun _ h => wipe_out h
def Only (g : TG) (vs : List Nat) : Prop := ∀ v σ H Q, g v σ H Q → g v σ H fun σ2 H2 => (wipe σ2 vs = wipe σ vs) ∧ Q σ2 H2
def Onlys (g : TGs) (vs : List Nat) : Prop := ∀ xs σ H Q, g xs σ H Q → g xs σ H fun σ2 H2 => (wipe σ2 vs = wipe σ vs) ∧ Q σ2 H2
theorem only_name {i : Nat} {vs : List Nat} (h : i ∈ vs) : Only (gName i) vs := fun v σ H Q q =>
  ⟨wipe_ext (by rw [List.length_set]) fun j hj => by rw [List.getElem?_set, if_neg (fun z : i = j => hj (z ▸ h))], q⟩
theorem onlys_nil {vs : List Nat} : Onlys gNil vs := fun xs σ H Q q => ⟨q.1, rfl, q.2⟩
theorem onlys_cons {g : TG} {gs : TGs} {vs : List Nat} (mono : ∀ v σ H Q Q', (∀ a b, Q a b → Q' a b) → g v σ H Q → g v σ H Q') (h : Only g vs) (t : Onlys gs vs) : Onlys (gCons g gs) vs := fun xs σ H Q q => by
  obtain ⟨v, r, e, q⟩ := q
  refine ⟨v, r, e, mono _ _ _ _ _ (fun a b z => ?_) (h v σ H _ q)⟩
  have z2 := t r a b Q z.2
  rw [z.1] at z2
  exact z2
theorem mono_name {i : Nat} : ∀ v σ H Q Q', (∀ a b, Q a b → Q' a b) → gName i v σ H Q → gName i v σ H Q' := fun _ _ _ _ _ k q => k _ _ q
theorem only_tup {K : KF} {n : Nat} {gs : TGs} {vs : List Nat} (h : Onlys gs vs) : Only (gTup K n gs) vs := fun v σ H Q q => by
  obtain ⟨a, xs, e1, e2, e3, q⟩ := q
  exact ⟨a, xs, e1, e2, e3, h _ _ _ _ q⟩
/-- targets hand on what is wanted -/
def MonoG (g : TG) : Prop := ∀ v σ H Q Q', (∀ a b, Q a b → Q' a b) → g v σ H Q → g v σ H Q'
def MonoGs (g : TGs) : Prop := ∀ v σ H Q Q', (∀ a b, Q a b → Q' a b) → g v σ H Q → g v σ H Q'
theorem monos_nil : MonoGs gNil := fun _ _ _ _ _ k q => ⟨q.1, k _ _ q.2⟩
theorem monos_cons {g : TG} {gs : TGs} (a : MonoG g) (b : MonoGs gs) : MonoGs (gCons g gs) := fun xs σ H Q Q' k ⟨v, r, e, q⟩ => ⟨v, r, e, a _ _ _ _ _ (fun x y z => b _ _ _ _ _ k z) q⟩
theorem mono_tup {K : KF} {n : Nat} {gs : TGs} (b : MonoGs gs) : MonoG (gTup K n gs) := fun v σ H Q Q' k ⟨a, xs, e1, e2, e3, q⟩ => ⟨a, xs, e1, e2, e3, b _ _ _ _ _ k q⟩
section
variable {K : KF} {W : WX} {Γ : Gm} {Ω : Om} {R : DV → Om → Prop} {X : Exc → Om → Prop} {wi : TI} {g : TG} {tt : TT} {te : TE} {vs : List Nat}
abbrev NoX : Exc → Om → Prop := fun _ _ => False
theorem noX {K : KF} {m : Mp} {G : Hp} {n : Nat} {Q : XK} : XOk K m G n NoX Q := fun _ _ _ _ _ _ _ _ _ _ _ z => z.elim
theorem set_self {α : Type} {l : List α} {i : Nat} {x : α} (h : l[i]? = some x) : l.set i x = l := by
  refine List.ext_getElem? fun j => ?_
  rw [List.getElem?_set]
  by_cases e : i = j
  · subst e
    rw [if_pos rfl, if_pos (lt_of_get h), h]
  · rw [if_neg e]
theorem we_lc (og : Only g vs) (h : WI K W wi Γ Ω (fun ys stay Ω1 => ∃ P : Nat → List DV → Om → Prop, P 0 [] (Ω1 ++ [.lst []]) ∧
      (∀ i acc Ω', i ≤ ys.length → P i acc Ω' → stay Ω' ∧ Ω1.length < Ω'.length) ∧
      (∀ i y acc Ω', ys[i]? = some y → P i acc Ω' → WG K g y (wipeG Γ vs) Ω' (fun Γ2 Ω2 => WT K (fun _ _ _ _ => False) tt Γ2 Ω2 (fun b Ω3 =>
        (b = true → WE K (fun _ _ _ _ => False) te Γ2 Ω3 (fun x Ω4 => Ω4[Ω1.length]? = some (.lst acc) ∧ acc.length < 100000 ∧ P (i + 1) (acc ++ [x]) (Ω4.set Ω1.length (.lst (acc ++ [x])))) NoX) ∧ (b = false → P (i + 1) acc Ω3)) NoX)) ∧
      ∀ acc Ω', P ys.length acc Ω' → R (.o Ω1.length) Ω') X) : WE K W (tLc wi g tt te vs) Γ Ω R X := fun m G H σ Q c s k x => by
  refine h m G H σ _ c s x (fun m1 G1 Ω1 H1 J ys stay c1 n1 l1 it ⟨P, p0, pst, step, fin⟩ D hD => ?_)
  have s1 := s.mono n1 l1
  obtain ⟨m2, c2, n2, e2⟩ := c1.own (x := .lst []) (o := .lst []) hD ⟨[], upd_same, .nil⟩
  have le1 : Ω1.length ≤ (Ω1 ++ [OC.lst []]).length := by simp
  refine ⟨fun i n H' => n = ys.length - i ∧ i ≤ ys.length ∧ ∃ m' G' Ω' acc, Core K m' G' Ω' H' ∧ Nxt m2 (Ω1 ++ [OC.lst []]).length G1 m' G' ∧ (Ω1 ++ [OC.lst []]).length ≤ Ω'.length ∧ P i acc Ω',
    ⟨ys.length, by simp, Nat.zero_le _, m2, G1, _, [], c2, Nxt.refl .., Nat.le_refl _, p0⟩, ?_⟩
  rintro i n H3 ⟨rfl, hi, m3, G3, Ω3, acc, c3, n3, l3, p3⟩
  have l3' : Ω1.length < Ω3.length := by simp at l3; omega
  have n13 : Nxt m1 Ω1.length G1 m3 G3 := n2.trans le1 n3
  have n03 := n1.trans l1 n13
  have l03 : Ω.length ≤ Ω3.length := Nat.le_trans l1 (Nat.le_of_lt l3')
  have em : m3 Ω1.length = D := by
    rw [n3.mm _ (by simp), e2]
  have ik := it m3 G3 Ω3 H3 c3 n13 (Nat.le_of_lt l3') (pst i acc Ω3 hi p3).1 i
  by_cases hlt : i < ys.length
  · obtain ⟨go, yl⟩ := ik.2 ys[i] (List.getElem?_eq_getElem hlt)
    refine .inr ⟨go, fun H' => ∃ m' G' Ω' acc', Core K m' G' Ω' H' ∧ Nxt m2 (Ω1 ++ [OC.lst []]).length G1 m' G' ∧ (Ω1 ++ [OC.lst []]).length ≤ Ω'.length ∧ P (i + 1) acc' Ω', fun H' q => ⟨ys.length - (i + 1), by omega, rfl, hlt, q⟩, fun y H'' hy => ?_⟩
    obtain ⟨G4, c4, e4, r4⟩ := yl y H'' hy
    have n4 : Nxt m3 Ω3.length G3 m3 G4 := ⟨fun _ _ => rfl, e4⟩
    refine (fun q => by
      have q := og _ _ _ _ q
      rw [wipe_idem] at q
      exact q) (?_ : g y (wipe σ vs) H'' fun σ2 H2 => tt σ2 H2 fun b H3 => if b = true then te σ2 H3 fun y H4 => ∃ acc, H4 D = some (.lst acc) ∧ acc.length < sizeLine ∧ (∃ m' G' Ω' acc', Core K m' G' Ω' (upd H4 D (.lst (acc ++ [y]))) ∧ Nxt m2 (Ω1 ++ [OC.lst []]).length G1 m' G' ∧ (Ω1 ++ [OC.lst []]).length ≤ Ω'.length ∧ P (i + 1) acc' Ω')
        else (∃ m' G' Ω' acc', Core K m' G' Ω' H3 ∧ Nxt m2 (Ω1 ++ [OC.lst []]).length G1 m' G' ∧ (Ω1 ++ [OC.lst []]).length ≤ Ω'.length ∧ P (i + 1) acc' Ω'))
    refine step i ys[i] acc Ω3 (List.getElem?_eq_getElem hlt) p3 m3 G4 H'' (wipe σ vs) y _ c4 (wipeG_slots (s.mono (n03.trans l03 n4) l03) vs) r4 (fun m5 G5 Ω5 H5 Γ5 σ5 c5 n5 l5 s5 h5 => ?_)
    refine h5 m5 G5 H5 σ5 _ c5 s5 (fun m6 G6 Ω6 H6 b c6 n6 l6 h6 => ?_) noX
    have n36 : Nxt m3 Ω3.length G3 m6 G6 := n4.trans (Nat.le_refl _) (n5.trans l5 n6)
    have l36 : Ω3.length ≤ Ω6.length := Nat.le_trans l5 l6
    cases b with
    | false =>
      rw [if_neg Bool.false_ne_true]
      exact ⟨m6, G6, Ω6, acc, c6, n3.trans l3 n36, Nat.le_trans l3 l36, h6.2 rfl⟩
    | true =>
      rw [if_pos rfl]
      refine (h6.1 rfl) m6 G6 H6 σ5 _ c6 (s5.mono n6 l6) (fun m7 G7 Ω7 H7 x7 v7 c7 n7 l7 r7 ⟨e7, z7, p7⟩ => ?_) noX
      have n37 := n36.trans l36 n7
      have l37 := Nat.le_trans l36 l7
      obtain ⟨_, ws, hw, rp⟩ := c7.fr Ω1.length _ e7 (by intro z; cases z)
      have em7 : m7 Ω1.length = D := by rw [n37.mm _ l3', em]
      rw [em7] at hw
      have c8 := c7.write (y := .lst (acc ++ [x7])) (o := .lst (ws ++ [v7])) e7 (by intro z; cases z) ⟨_, upd_same, Paired.snoc rp r7⟩
      rw [em7] at c8
      exact ⟨ws, hw, sz_lt (by rw [← Paired.length rp]; exact z7), m7, G7, _, _, c8, n3.trans l3 n37, by rw [List.length_set]; exact Nat.le_trans l3 l37, p7⟩
  · have ei : i = ys.length := by omega
    subst ei
    exact .inl ⟨ik.1 (Nat.le_refl _), k _ _ _ _ (.o Ω1.length) _ c3 n03 l03 ⟨l3', by rw [em]⟩ (fin acc Ω3 p3)⟩
/-! ### what is left behind -/
def ptOk (k : Nat) : Pt → Prop
  | .o i => i < k
  | _ => True
def idOk (k : Nat) : DV → Prop
  | .o i => i < k
  | .t ps => ∀ p ∈ ps, ptOk k p
  | _ => True
def flatV : DV → Prop
  | .o _ => False
  | .t _ => False
  | _ => True
def flatO : OC → Prop
  | .lst xs => ∀ x ∈ xs, flatV x
  | .ins _ fs => ∀ p ∈ fs, flatV p.2
  | .dic kvs => ∀ p ∈ kvs, flatV p.2
  | .gone => True
def Cut (Ω : Om) (k : Nat) (Ω' : Om) : Prop := Ω.length ≤ k ∧ k ≤ Ω'.length ∧ ∀ j c, j < k → Ω'[j]? = some c → Ω[j]? = some c ∨ flatO c
theorem pt_cut {m : Mp} {G : Hp} {n k : Nat} : ∀ {ps : List Pt} {vs : List V}, (∀ p ∈ ps, ptOk k p) → Paired (RPt K m G n) ps vs → Paired (RPt K m G k) ps vs
  | _, _, _, .nil => .nil
  | .d _ :: _, _, h, .cons a b => .cons a (pt_cut (fun x hx => h x (List.mem_cons_of_mem _ hx)) b)
  | .o _ :: _, _, h, .cons a b => .cons ⟨h _ List.mem_cons_self, a.2⟩ (pt_cut (fun x hx => h x (List.mem_cons_of_mem _ hx)) b)
theorem pt_ids {m : Mp} {G : Hp} {n k : Nat} (h : n ≤ k) : ∀ {ps : List Pt} {vs : List V}, Paired (RPt K m G n) ps vs → ∀ p ∈ ps, ptOk k p
  | _, _, .nil, x, hx => by cases hx
  | .d y :: _, _, .cons a b, x, hx => by
    rcases List.mem_cons.mp hx with e | hx
    · subst e; trivial
    · exact pt_ids h b x hx
  | .o i :: _, _, .cons a b, x, hx => by
    rcases List.mem_cons.mp hx with e | hx
    · subst e; exact Nat.lt_of_lt_of_le a.1 h
    · exact pt_ids h b x hx
theorem RV.cut {m m0 : Mp} {G G0 : Hp} {n k : Nat} : ∀ {d : DV} {v : V}, idOk k d → RV K m G n d v → RV K m G k d v
  | .d _, _, _, r => r
  | .o _, _, h, r => ⟨h, r.2⟩
  | .v _, _, _, r => r
  | .e _ _ _ _, _, _, r => r
  | .t _, _, h, ⟨a, vs, e, g, r⟩ => ⟨a, vs, e, g, pt_cut h r⟩
theorem idOk_of {m : Mp} {G : Hp} {n k : Nat} (h : n ≤ k) : ∀ {d : DV} {v : V}, RV K m G n d v → idOk k d
  | .d _, _, _ => trivial
  | .o _, _, r => Nat.lt_of_lt_of_le r.1 h
  | .v _, _, _ => trivial
  | .e _ _ _ _, _, _ => trivial
  | .t _, _, ⟨_, _, _, _, r⟩ => pt_ids h r
theorem paired_cut {m : Mp} {G : Hp} {n k : Nat} : ∀ {xs : List DV} {vs : List V}, (∀ x ∈ xs, idOk k x) → Paired (RV K m G n) xs vs → Paired (RV K m G k) xs vs
  | _, _, _, .nil => .nil
  | _, _, h, .cons a b => .cons (RV.cut (m0 := m) (G0 := G) (h _ List.mem_cons_self) a) (paired_cut (fun x hx => h x (List.mem_cons_of_mem _ hx)) b)
theorem paired_ids {m : Mp} {G : Hp} {n k : Nat} (h : n ≤ k) : ∀ {xs : List DV} {vs : List V}, Paired (RV K m G n) xs vs → ∀ x ∈ xs, idOk k x
  | _, _, .nil, x, hx => by cases hx
  | _, _, .cons a b, x, hx => by
    rcases List.mem_cons.mp hx with e | hx
    · subst e; exact idOk_of h a
    · exact paired_ids h b x hx
theorem fpaired_cut {m : Mp} {G : Hp} {n k : Nat} : ∀ {xs : List (Str × DV)} {vs : List (Str × V)}, (∀ x ∈ xs, idOk k x.2) → Paired (FRel K m G n) xs vs → Paired (FRel K m G k) xs vs
  | _, _, _, .nil => .nil
  | _, _, h, .cons a b => .cons ⟨a.1, RV.cut (m0 := m) (G0 := G) (h _ List.mem_cons_self) a.2⟩ (fpaired_cut (fun x hx => h x (List.mem_cons_of_mem _ hx)) b)
theorem fpaired_ids {m : Mp} {G : Hp} {n k : Nat} (h : n ≤ k) : ∀ {xs : List (Str × DV)} {vs : List (Str × V)}, Paired (FRel K m G n) xs vs → ∀ x ∈ xs, idOk k x.2
  | _, _, .nil, x, hx => by cases hx
  | _, _, .cons a b, x, hx => by
    rcases List.mem_cons.mp hx with e | hx
    · subst e; exact idOk_of h a.2
    · exact fpaired_ids h b x hx
theorem kpaired_cut {m : Mp} {G : Hp} {n k : Nat} : ∀ {xs : List (Key × DV)} {vs : List (Key × V)}, (∀ x ∈ xs, idOk k x.2) → Paired (KRel K m G n) xs vs → Paired (KRel K m G k) xs vs
  | _, _, _, .nil => .nil
  | _, _, h, .cons a b => .cons ⟨a.1, RV.cut (m0 := m) (G0 := G) (h _ List.mem_cons_self) a.2⟩ (kpaired_cut (fun x hx => h x (List.mem_cons_of_mem _ hx)) b)
theorem kpaired_ids {m : Mp} {G : Hp} {n k : Nat} (h : n ≤ k) : ∀ {xs : List (Key × DV)} {vs : List (Key × V)}, Paired (KRel K m G n) xs vs → ∀ x ∈ xs, idOk k x.2
  | _, _, .nil, x, hx => by cases hx
  | _, _, .cons a b, x, hx => by
    rcases List.mem_cons.mp hx with e | hx
    · subst e; exact idOk_of h a.2
    · exact kpaired_ids h b x hx
def idsOc (k : Nat) : OC → Prop
  | .lst xs => ∀ x ∈ xs, idOk k x
  | .ins _ fs => ∀ p ∈ fs, idOk k p.2
  | .dic kvs => ∀ p ∈ kvs, idOk k p.2
  | .gone => True
theorem idOk_flat {k : Nat} : ∀ {d : DV}, flatV d → idOk k d
  | .d _, _ => trivial
  | .o i, h => h.elim
  | .v _, _ => trivial
  | .e _ _ _ _, _ => trivial
  | .t _, h => h.elim
theorem flatV_of : ∀ {d : DV}, (∀ i, d ≠ .o i) → (∀ ps, d ≠ .t ps) → flatV d
  | .d _, _, _ => trivial
  | .o i, h, _ => absurd rfl (h i)
  | .v _, _, _ => trivial
  | .e _ _ _ _, _, _ => trivial
  | .t ps, _, h => absurd rfl (h ps)
theorem Holds.cut {m : Mp} {G H : Hp} {n k : Nat} {a : Addr} : ∀ {c : OC}, idsOc k c → Holds K m G n H a c → Holds K m G k H a c
  | .lst _, h, ⟨vs, e, r⟩ => ⟨vs, e, paired_cut h r⟩
  | .ins _ _, h, ⟨dx, vs, e, r⟩ => ⟨dx, vs, e, fpaired_cut h r⟩
  | .dic _, h, ⟨vs, e, r⟩ => ⟨vs, e, kpaired_cut h r⟩
  | .gone, _, _ => trivial
theorem Core.cut {m0 m : Mp} {G0 G H0 H : Hp} {Ω' : Om} {k : Nat} (c0 : Core K m0 G0 Ω H0) (c : Core K m G Ω' H) (h : Cut Ω k Ω') : Core K m G (Ω'.take k) H := by
  obtain ⟨h1, h2, h3⟩ := h
  have el : (Ω'.take k).length = k := by rw [List.length_take]; omega
  have get : ∀ {j : Nat} {x : OC}, (Ω'.take k)[j]? = some x → j < k ∧ Ω'[j]? = some x := fun {j x} e => by
    have hj := lt_of_get e
    rw [el] at hj
    rw [List.getElem?_take, if_pos hj] at e
    exact ⟨hj, e⟩
  refine ⟨c.ex, fun i x e g => ?_, fun i j ci cj e1 e2 g1 g2 z => c.inj i j ci cj (get e1).2 (get e2).2 g1 g2 z⟩
  obtain ⟨hi, e'⟩ := get e
  obtain ⟨q1, q2⟩ := c.fr i x e' g
  refine ⟨q1, ?_⟩
  rw [el]
  refine Holds.cut ?_ q2
  rcases h3 i x hi e' with z | z
  · obtain ⟨_, q3⟩ := c0.fr i x z g
    cases x with
    | gone => exact absurd rfl g
    | lst xs => obtain ⟨vs, _, r⟩ := q3; exact paired_ids h1 r
    | ins C fs => obtain ⟨dx, vs, _, r⟩ := q3; exact fpaired_ids h1 r
    | dic kvs => obtain ⟨vs, _, r⟩ := q3; exact kpaired_ids h1 r
  · cases x with
    | gone => exact absurd rfl g
    | lst xs => exact fun y hy => idOk_flat (z y hy)
    | ins C fs => exact fun y hy => idOk_flat (z y hy)
    | dic kvs => exact fun y hy => idOk_flat (z y hy)
/-- a new list is given away at once, what lies behind it is left -/
theorem we_frz (h : WE K W te Γ Ω (fun d Ω1 => ∃ n ds xs, d = .o n ∧ Ω1[n]? = some (.lst ds) ∧ asDs ds = some xs ∧ Cut Ω n Ω1 ∧ R (.d (.list xs)) (Ω1.take n)) X) : WE K W te Γ Ω R X := fun m G H σ Q c s k x =>
  h m G H σ Q c s (fun m1 G1 Ω1 H1 d v c1 n1 l1 r1 ⟨n, ds, xs, e1, e0, e3, cu, q⟩ => by
    subst e1
    obtain ⟨hi, rfl⟩ := r1
    obtain ⟨q1, ws, hw, rp⟩ := c1.fr _ _ e0 (by intro z; cases z)
    obtain ⟨c2, n2⟩ := c1.freeze e0 (by intro z; cases z) hw
    rw [asDs_eq e3] at rp
    have el : (Ω1.take n).length = n := by rw [List.length_take]; have := cu.2.1; omega
    have et : (Ω1.set n .gone).take n = Ω1.take n := by
      refine List.ext_getElem? fun j => ?_
      rw [List.getElem?_take, List.getElem?_take]
      by_cases hj : j < n
      · rw [if_pos hj, if_pos hj, List.getElem?_set, if_neg (fun z : n = j => absurd hj (by omega))]
      · rw [if_neg hj, if_neg hj]
    have c3 : Core K m1 (upd G1 (m1 n) (HO.lst ws)) (Ω1.take n) H1 := by
      rw [← et]
      refine c.cut c2 ⟨cu.1, by rw [List.length_set]; exact cu.2.1, fun j x hj e => ?_⟩
      rw [List.getElem?_set, if_neg (fun z : n = j => absurd hj (by omega))] at e
      exact cu.2.2 j x hj e
    exact k _ _ _ _ (.d (.list xs)) _ c3 (n1.trans l1 n2) (by rw [el]; exact cu.1) (.lst (sq_of upd_same) (dps_ex n2.gg _ _ (dps_of rp))) q) x
def tYesT : TT := tYes
theorem wt_yes {B : Bool → Om → Prop} (q : B true Ω) : WT K W tYes Γ Ω B X := fun m G H σ Q c s k x => k _ _ _ _ _ c (Nxt.refl ..) (Nat.le_refl _) q
theorem asDs_data (xs : List PyData) : asDs (xs.map DV.d) = some xs := by
  have h := asDs_map (fun x : PyData => x) xs
  rw [List.map_id'] at h
  exact h
theorem take_app {α : Type} (l r : List α) : (l ++ r).take l.length = l := by simp
/-- [F(a) for a in ..if p(a)], a list that nobody changes; nothing else changes -/
theorem we_lcP {α : Type} (og : Only g vs) (h : WI K W wi Γ Ω (fun ys stay Ω1 => ∃ (l : List α) (f : α → DV) (p : α → Bool) (F : α → PyData), ys = l.map f ∧ l.length ≤ 100000 ∧ Ω1 = Ω ∧ (∀ ds, stay (Ω ++ [.lst ds])) ∧
      (∀ a Ω', a ∈ l → (∃ ds, Ω' = Ω ++ [.lst ds]) → WG K g (f a) (wipeG Γ vs) Ω' (fun Γ2 Ω2 => WT K (fun _ _ _ _ => False) tt Γ2 Ω2 (fun b Ω3 => b = p a ∧ Ω3 = Ω' ∧ (b = true → WE K (fun _ _ _ _ => False) te Γ2 Ω' (fun x Ω4 => x = .d (F a) ∧ Ω4 = Ω') NoX)) NoX)) ∧
      R (.d (.list ((l.filter p).map F))) Ω) X) : WE K W (tLc wi g tt te vs) Γ Ω R X := by
  refine we_frz (we_lc og fun m G H σ R' c s x k => h m G H σ R' c s x fun m1 G1 Ω1 H1 J ys stay c1 n1 l1 it ⟨l, f, p, F, e1, hl, e2, st, el, q⟩ => ?_)
  subst e1 e2
  have ln : ∀ i, ((((l.take i).filter p).map F).length ≤ i) := fun i => by
    rw [List.length_map]
    refine Nat.le_trans (List.length_filter_le _ _) ?_
    rw [List.length_take]; omega
  refine k m1 G1 Ω1 H1 J _ stay c1 n1 l1 it ⟨fun i acc Ω' => acc = (((l.take i).filter p).map F).map DV.d ∧ Ω' = Ω1 ++ [.lst acc], ⟨rfl, rfl⟩, fun i acc Ω' hi hp => ?_, fun i y acc Ω' hy hp => ?_, fun acc Ω' hp => ?_⟩
  · obtain ⟨rfl, rfl⟩ := hp
    exact ⟨st _, by simp⟩
  · obtain ⟨ha, rfl⟩ := hp
    rw [List.getElem?_map] at hy
    cases ea : l[i]? with
    | none => rw [ea] at hy; cases hy
    | some a =>
      rw [ea] at hy
      cases hy
      have hi := lt_of_get ea
      have em : a ∈ l := List.mem_iff_getElem?.mpr ⟨i, ea⟩
      have et : l.take (i + 1) = l.take i ++ [a] := by rw [List.take_add_one, ea]; rfl
      intro m2 G2 H2 σ2 v Q2 c2 s2 r2 k2
      refine el a _ em ⟨acc, rfl⟩ m2 G2 H2 σ2 v Q2 c2 s2 r2 fun m3 G3 Ω3 H3 Γ3 σ3 c3 n3 l3 s3 h3 => k2 m3 G3 Ω3 H3 Γ3 σ3 c3 n3 l3 s3 fun m4 G4 H4 σ4 Q4 c4 s4 k4 x4 => ?_
      refine h3 m4 G4 H4 σ4 Q4 c4 s4 (fun m5 G5 Ω5 H5 b c5 n5 l5 ⟨eb, eo, hb⟩ => k4 m5 G5 Ω5 H5 b c5 n5 l5 ⟨fun hbt => ?_, fun hbf => ?_⟩) x4
      · subst eo
        intro m6 G6 H6 σ6 Q6 c6 s6 k6 x6
        refine hb hbt m6 G6 H6 σ6 Q6 c6 s6 (fun m7 G7 Ω7 H7 d v c7 n7 l7 r7 ⟨ex, eo7⟩ => k6 m7 G7 Ω7 H7 d v c7 n7 l7 r7 ?_) x6
        subst eo7 ex
        refine ⟨by simp, ?_, ?_, ?_⟩
        · rw [ha, List.length_map]
          have := ln i
          omega
        · rw [ha, et, List.filter_append, List.filter_cons, if_pos (by rw [← eb]; exact hbt)]
          simp
        · simp
      · subst eo
        refine ⟨?_, rfl⟩
        rw [ha, et, List.filter_append, List.filter_cons, if_neg (by rw [← eb, hbf]; exact Bool.false_ne_true)]
        simp
  · obtain ⟨ha, rfl⟩ := hp
    refine ⟨Ω1.length, acc, ((l.take (l.map f).length).filter p).map F, rfl, by simp, ?_, ⟨Nat.le_refl _, by simp, fun j c hj e => .inl ?_⟩, ?_⟩
    · rw [ha]; exact asDs_data _
    · rw [List.getElem?_append_left hj] at e; exact e
    · rw [List.length_map, List.take_length, take_app]
      exact q
end
end HL
namespace HL
open PySem PySem.Spec PyProof.Rows L2 Evl
/-! ### a def's body against its promise -/
def Dr (Ω : Om) (R : DV → Om → Prop) (d : DV) (Ω' : Om) : Prop := R d Ω' ∨ ∃ k, Cut Ω k Ω' ∧ idOk k d ∧ R d (Ω'.take k)
def DrX (Ω : Om) (R : Exc → Om → Prop) (e : Exc) (Ω' : Om) : Prop := R e Ω' ∨ ∃ k, Cut Ω k Ω' ∧ R e (Ω'.take k)
def fnO (Ω : Om) (R : DV → Om → Prop) (X : Exc → Om → Prop) : Outs := ⟨fun _ Ω' => Dr Ω R (.d .none) Ω', fun d Ω' => Dr Ω R d Ω', fun _ _ => False, fun _ _ => False, fun _ e Ω' => DrX Ω X e Ω'⟩
def startG (N : Nat) (ds : List DV) : Gm := ds.map some ++ List.replicate (N - ds.length) none
section
variable {K : KF} {spec : Spec} {vs : List V} {H : Hp} {Q : VK} {E : XK}
theorem fs_len {n : Nat} (h : FS K spec vs H Q E) (hl : ∀ ds Ω R X, spec ds Ω R X → ds.length = n) : vs.length = n := by
  obtain ⟨m, G, Ω, ds, R, X, c, r, q, _⟩ := h
  rw [← Paired.length r]
  exact hl ds Ω R X q
theorem startG_slots {m : Mp} {G : Hp} {n : Nat} {ds : List DV} {vs : List V} (N : List Str) (r : Paired (RV K m G n) ds vs) : Slots K m G n (startG N.length ds) (L2.start N vs) := by
  have e := Paired.length r
  refine ⟨by unfold startG L2.start; simp [e], fun i d h => ?_⟩
  unfold startG at h
  unfold L2.start
  by_cases hi : i < ds.length
  · rw [List.getElem?_append_left (by rw [List.length_map]; exact hi), List.getElem?_map] at h
    cases q : ds[i]? with
    | none => rw [q] at h; cases h
    | some x =>
      rw [q] at h
      cases h
      obtain ⟨v, hv, rv⟩ := Paired.getL r q
      exact ⟨v, by rw [List.getElem?_append_left (by rw [List.length_map, ← e]; exact hi), List.getElem?_map, hv]; rfl, rv⟩
  · rw [List.getElem?_append_right (by rw [List.length_map]; omega), List.getElem?_replicate] at h
    split at h <;> cases h
theorem fs_run {N : List Str} {t : TS} (h : FS K spec vs H Q E) (hb : ∀ ds Ω R X, spec ds Ω R X → WS K (fun c d _ H' => E c d H') t (startG N.length ds) Ω (fnO Ω R X)) :
    t { nx := fun _ H' => Q .non H', rt := Q } (L2.start N vs) H := by
  obtain ⟨m, G, Ω, ds, R, X, c, r, q, k, x⟩ := h
  have nc : ∀ {k : Nat} {Ω' : Om}, Cut Ω k Ω' → (Ω'.take k).length = k := fun {k Ω'} cu => by rw [List.length_take]; have := cu.2.1; omega
  have rt : ∀ m' G' Ω' H' d v, Core K m' G' Ω' H' → Nxt m Ω.length G m' G' → Ω.length ≤ Ω'.length → RV K m' G' Ω'.length d v → Dr Ω R d Ω' → Q v H' := fun m' G' Ω' H' d v c' n' l' r' q' => by
    rcases q' with q' | ⟨kk, cu, io, q'⟩
    · exact k m' G' Ω' H' d v c' n' l' r' q'
    · refine k m' G' (Ω'.take kk) H' d v (c.cut c' cu) n' (by rw [nc cu]; exact cu.1) ?_ q'
      rw [nc cu]
      exact RV.cut (m0 := m) (G0 := G) io r'
  refine hb ds Ω R X q m G H _ _ c (startG_slots N r) (fun m' G' Ω' H' Γ' σ' c' n' l' s' q' => rt m' G' Ω' H' (.d .none) .non c' n' l' Dp.non q') rt (fun _ _ _ _ _ _ _ _ _ _ z => z.elim) (fun _ _ _ _ _ _ _ _ _ _ z => z.elim) fun m' G' Ω' H' Γ' σ' e cc d c' n' l' s' r' q' => ?_
  rcases q' with q' | ⟨kk, cu, q'⟩
  · exact x m' G' Ω' H' e cc d c' n' l' r' q'
  · exact x m' G' (Ω'.take kk) H' e cc d (c.cut c' cu) n' (by rw [nc cu]; exact cu.1) r' q'
end
theorem dr_same {Ω Ω' : Om} {R : DV → Om → Prop} {d : DV} (q : R d Ω') : Dr Ω R d Ω' := .inl q
/-- what was added behind is left -/
theorem dr_app {Ω J : Om} {R : DV → Om → Prop} {d : DV} (q : R d Ω) (io : ∀ i, d ≠ .o i) (it : ∀ ps, d ≠ .t ps := by intro ps z; cases z) : Dr Ω R d (Ω ++ J) :=
  .inr ⟨Ω.length, ⟨Nat.le_refl _, by simp, fun j c hj e => .inl (by rw [List.getElem?_append_left hj] at e; exact e)⟩, idOk_flat (flatV_of io it), by rw [take_app]; exact q⟩
/-! ### raise, try -/
section
variable {K : KF} {W : WX} {Γ : Gm} {Ω : Om} {O : Outs}
theorem ws_raise {C : Addr} (q : O.er Γ (.own C) Ω) : WS K W (fun _ σ H => W (.ref C) none σ H) Γ Ω O := fun m G H σ D c s k1 k2 k3 k4 z => z _ _ _ _ _ _ (.own C) _ _ c (Nxt.refl ..) (Nat.le_refl _) s ⟨rfl, rfl⟩ q
theorem Slots.wipe1 {m : Mp} {G : Hp} {n : Nat} {σ : L2.St} (s : Slots K m G n Γ σ) (i : Nat) : Slots K m G n (Γ.set i none) (σ.set i none) := by
  refine ⟨by rw [List.length_set, List.length_set]; exact s.len, fun j d h => ?_⟩
  rw [List.getElem?_set] at h ⊢
  by_cases hv : i = j
  · rw [if_pos hv] at h
    split at h <;> cases h
  · rw [if_neg hv] at h ⊢
    exact s.at_ j d h
def clsOf : Exc → Value
  | .own C => .ref C
  | .low C _ _ => .ref C
  | .vo C _ => .ref C
  | .vl C _ _ _ => .ref C
theorem rx_cls {G : Hp} : ∀ {e : Exc} {c : Value} {d : Option Addr}, RX K G e c d → c = clsOf e
  | .own _, _, _, r => r.1
  | .low _ _ _, _, _, r => r.1
  | .vo _ _, _, _, r => r.1
  | .vl _ _ _ _, _, _, r => r.1
theorem ws_tryAs {tb : WX → TS} {ts : Addr → Value → Option Addr → TS} {c : Value} {i : Nat}
    (h : ∀ W' : WX, WS K W' (tb W') Γ Ω { O with er := fun Γ1 e Ω1 => ∃ b, PySem.W.exmOne K (clsOf e) c = some b ∧
      (b = true → ∀ a cls dd, cls = clsOf e → WS K W (ts a cls dd) (Γ1.set i (some (.e e a cls dd))) Ω1 { nx := fun Γ2 Ω2 => O.nx (Γ2.set i none) Ω2, rt := O.rt, bk := fun Γ2 Ω2 => O.bk (Γ2.set i none) Ω2, ct := fun Γ2 Ω2 => O.ct (Γ2.set i none) Ω2, er := O.er }) ∧
      (b = false → O.er Γ1 e Ω1) }) : WS K W (fun D σ H => tb (wAs K c i ts W D) D σ H) Γ Ω O := fun m G H σ D c0 s k1 k2 k3 k4 z => by
  refine h (wAs K c i ts W D) m G H σ D c0 s k1 k2 k3 k4 fun m' G' Ω' H' Γ1 σ1 e cls d c' n' l' s' rx ⟨b, hb, h1, h2⟩ => ?_
  refine ⟨b, by rw [rx_cls rx]; exact hb, fun hbt a ha => ?_, fun hbf => z m' G' Ω' H' Γ1 σ1 e cls d c' n' l' s' rx (h2 hbf)⟩
  have s2 : Slots K m' G' Ω'.length (Γ1.set i (some (.e e a cls d))) (σ1.set i (some (.ref a))) := s'.set i ⟨rfl, rx⟩
  refine h1 hbt a cls d (rx_cls rx) m' G' H' _ _ c' s2 ?_ (k2.on n' l') ?_ ?_ (z.on n' l')
  · exact fun m2 G2 Ω2 H2 Γ2 σ2 c2 n2 l2 s2 q2 => k1 m2 G2 Ω2 H2 _ _ c2 (n'.trans l' n2) (Nat.le_trans l' l2) (s2.wipe1 i) q2
  · exact fun m2 G2 Ω2 H2 Γ2 σ2 c2 n2 l2 s2 q2 => k3 m2 G2 Ω2 H2 _ _ c2 (n'.trans l' n2) (Nat.le_trans l' l2) (s2.wipe1 i) q2
  · exact fun m2 G2 Ω2 H2 Γ2 σ2 c2 n2 l2 s2 q2 => k4 m2 G2 Ω2 H2 _ _ c2 (n'.trans l' n2) (Nat.le_trans l' l2) (s2.wipe1 i) q2
theorem ws_tryOnly {tb : WX → TS} {ts : Addr → Value → Option Addr → TS} {c : Value}
    (h : ∀ W' : WX, WS K W' (tb W') Γ Ω { O with er := fun Γ1 e Ω1 => ∃ b, PySem.W.exmOne K (clsOf e) c = some b ∧ (b = true → ∀ a cls dd, cls = clsOf e → WS K W (ts a cls dd) Γ1 Ω1 O) ∧ (b = false → O.er Γ1 e Ω1) }) :
    WS K W (fun D σ H => tb (wOnly K c ts W D) D σ H) Γ Ω O := fun m G H σ D c0 s k1 k2 k3 k4 z => by
  refine h (wOnly K c ts W D) m G H σ D c0 s k1 k2 k3 k4 fun m' G' Ω' H' Γ1 σ1 e cls d c' n' l' s' rx ⟨b, hb, h1, h2⟩ => ?_
  exact ⟨b, by rw [rx_cls rx]; exact hb, fun hbt a ha => h1 hbt a cls d (rx_cls rx) m' G' H' σ1 D c' s' (k1.on n' l') (k2.on n' l') (k3.on n' l') (k4.on n' l') (z.on n' l'), fun hbf => z m' G' Ω' H' Γ1 σ1 e cls d c' n' l' s' rx (h2 hbf)⟩
end
/-! ### a pool of digits, and what changes only one's own thing -/
def SameBut (k : Nat) (Ω Ω' : Om) : Prop := Ω'.length = Ω.length ∧ ∀ j, j ≠ k → Ω'[j]? = Ω[j]?
theorem SameBut.refl (k : Nat) (Ω : Om) : SameBut k Ω Ω := ⟨rfl, fun _ _ => rfl⟩
theorem SameBut.trans {k : Nat} {Ω Ω1 Ω2 : Om} (a : SameBut k Ω Ω1) (b : SameBut k Ω1 Ω2) : SameBut k Ω Ω2 := ⟨b.1.trans a.1, fun j h => (b.2 j h).trans (a.2 j h)⟩
theorem SameBut.set {k : Nat} {Ω : Om} {c : OC} : SameBut k Ω (Ω.set k c) := ⟨by rw [List.length_set], fun j h => by rw [List.getElem?_set, if_neg (fun z : k = j => h z.symm)]⟩
end HL
namespace HL
open PySem PySem.Spec PyProof.Rows L2 Evl
/-! ### operators by names -/
def oSub : R2 := rI0 fun i j => .int (i - j)
def CMulX (i j : Int) : Prop := CMul i j ∨ CMulW i j
def oMul : R2 := rI CMulX fun i j => .int (i * j)
def oFdiv : R2 := rI CDivX fun i j => .int (i.fdiv j)
def oMod : R2 := rI (fun _ j => j ≠ 0) fun i j => .int (i.fmod j)
def oPow : R2 := rI CPow fun i j => .int (i ^ j.toNat)
def oLt : R2 := rI0 fun i j => .bl (decide (i < j))
def oLe : R2 := rI0 fun i j => .bl (decide (i ≤ j))
def oGt : R2 := rI0 fun i j => .bl (decide (j < i))
def oGe : R2 := rI0 fun i j => .bl (decide (j ≤ i))
def oIsN : R2 := fun x y H Q => y = .non ∧ Q (.bl (decide (x = .non))) H
def oNotN : R2 := fun x y H Q => y = .non ∧ Q (.bl (!decide (x = .non))) H
def uNeg : V → Hp → VK → Prop := rU fun i => .int (-i)
def rAbsI : List V → Hp → VK → Prop := fun xs H Q => ∃ i, xs = [.int i] ∧ Q (.int (if i < 0 then -i else i)) H
def rMaxI : List V → Hp → VK → Prop := fun xs H Q => ∃ i j, xs = [.int i, .int j] ∧ Q (.int (if j > i then j else i)) H
def rMinI : List V → Hp → VK → Prop := fun xs H Q => ∃ i j, xs = [.int i, .int j] ∧ Q (.int (if j < i then j else i)) H
def rIntX : List V → Hp → VK → Prop := fun xs H Q => (∃ i, xs = [.int i] ∧ Q (.int i) H) ∨ ∃ k, xs = [.bl k] ∧ Q (.int (if k then 1 else 0)) H
def rLenQ (K : KF) : List V → Hp → VK → Prop := fun xs H Q => ∃ p ys, xs = [.ref p] ∧ (SqL K H p ys ∨ SqT K H p ys) ∧ Q (.int ys.length) H
def rTupQ (K : KF) : List V → Hp → VK → Prop := fun xs H Q => ∃ p ys, xs = [.ref p] ∧ ((SqL K H p ys ∧ ∀ l, H l = none → Q (.ref l) (upd H l (.tup ys))) ∨ (SqT K H p ys ∧ Q (.ref p) H))
def rListQ (K : KF) : List V → Hp → VK → Prop := fun xs H Q => ∃ p ys, xs = [.ref p] ∧ (SqL K H p ys ∨ SqT K H p ys) ∧ ∀ l, H l = none → Q (.ref l) (upd H l (.lst ys))
section
variable {X : Cx}
theorem op_sub' : OpR X (binaryOp .Sub) oSub := op_sub
theorem op_mul' : OpR X (binaryOp .Mult) oMul := opI fun _ _ _ _ _ _ _ hc q => mul_int q (hc.elim CMul.ok CMulW.ok)
theorem op_fdiv' : OpR X (binaryOp .FloorDiv) oFdiv := op_fdivX
theorem op_mod' : OpR X (binaryOp .Mod) oMod := op_modN
theorem op_pow' : OpR X (binaryOp .Pow) oPow := op_pow
theorem op_lt' : OpR X (compareOp .Lt) oLt := op_lt
theorem op_le' : OpR X (compareOp .LtE) oLe := op_le
theorem op_gt' : OpR X (compareOp .Gt) oGt := op_gt
theorem op_ge' : OpR X (compareOp .GtE) oGe := op_ge
theorem op_isN' : OpR X (compareOp .Is) oIsN := op_isN
theorem op_notN' : OpR X (compareOp .IsNot) oNotN := op_notN
theorem un_neg' : UnR X (unaryOp .USub) uNeg := un_neg
theorem call_abs' : CallR X (.builtin "abs") rAbsI := call_abs
theorem call_max' (hc : X.calm = true) : CallR X (.builtin "max") rMaxI := call_max2 hc
theorem call_min' (hc : X.calm = true) : CallR X (.builtin "min") rMinI := call_min2 hc
theorem call_int' : CallR X (.type "int") rIntX := call_int1
theorem call_len' : CallR X (.builtin "len") (rLenQ X.K) := call_len_seq
theorem call_tup' : CallR X (.type "tuple") (rTupQ X.K) := call_tuple_of
theorem call_list' : CallR X (.type "list") (rListQ X.K) := call_list_of
end
section
variable {K : KF} {W : WX} {Γ : Gm} {Ω : Om} {R : DV → Om → Prop} {X : Exc → Om → Prop} {i j : Int}
theorem wr_sub (q : R (.d (.int (i - j))) Ω) : WR K oSub (.d (.int i)) (.d (.int j)) Ω R := wr_I0 (f := fun i j => i - j) q
theorem wr_mul (hc : CMulX i j) (q : R (.d (.int (i * j))) Ω) : WR K oMul (.d (.int i)) (.d (.int j)) Ω R := wr_I (f := fun i j => i * j) hc q
theorem wr_fdiv (hc : CDivX i j) (q : R (.d (.int (i.fdiv j))) Ω) : WR K oFdiv (.d (.int i)) (.d (.int j)) Ω R := wr_I (f := fun i j => i.fdiv j) hc q
theorem wr_fdivP (h0 : 0 < j) (hc : j.natAbs.log2 < 9000) (q : R (.d (.int (i / j))) Ω) : WR K oFdiv (.d (.int i)) (.d (.int j)) Ω R := wr_fdiv ⟨by omega, hc⟩ (by rw [Int.fdiv_eq_ediv_of_nonneg i (by omega)]; exact q)
theorem wr_mod (hc : j ≠ 0) (q : R (.d (.int (i.fmod j))) Ω) : WR K oMod (.d (.int i)) (.d (.int j)) Ω R := wr_I (f := fun i j => i.fmod j) hc q
theorem wr_modP (h0 : 0 < j) (q : R (.d (.int (i % j))) Ω) : WR K oMod (.d (.int i)) (.d (.int j)) Ω R := wr_mod (by omega) (by rw [Int.fmod_eq_emod_of_nonneg i (by omega)]; exact q)
theorem wr_pow (hc : CPow i j) (q : R (.d (.int (i ^ j.toNat))) Ω) : WR K oPow (.d (.int i)) (.d (.int j)) Ω R := wr_I (f := fun i j => i ^ j.toNat) hc q
theorem wr_lt (q : R (.d (.bool (decide (i < j)))) Ω) : WR K oLt (.d (.int i)) (.d (.int j)) Ω R := wr_I0b (f := fun i j => decide (i < j)) q
theorem wr_le (q : R (.d (.bool (decide (i ≤ j)))) Ω) : WR K oLe (.d (.int i)) (.d (.int j)) Ω R := wr_I0b (f := fun i j => decide (i ≤ j)) q
theorem wr_gt (q : R (.d (.bool (decide (j < i)))) Ω) : WR K oGt (.d (.int i)) (.d (.int j)) Ω R := wr_I0b (f := fun i j => decide (j < i)) q
theorem wr_ge (q : R (.d (.bool (decide (j ≤ i)))) Ω) : WR K oGe (.d (.int i)) (.d (.int j)) Ω R := wr_I0b (f := fun i j => decide (j ≤ i)) q
theorem wr_isN' {x : DV} (p : plainV x = true) (q : R (.d (.bool (isNo x))) Ω) : WR K oIsN x (.d .none) Ω R := wr_isN p q
theorem wr_notN' {x : DV} (p : plainV x = true) (q : R (.d (.bool (!isNo x))) Ω) : WR K oNotN x (.d .none) Ω R := wr_notN p q
theorem wu_neg (q : R (.d (.int (-i))) Ω) : WU K uNeg (.d (.int i)) Ω R := fun m G H v Q c r k => by
  cases r
  exact ⟨i, rfl, k _ _ _ _ (.d (.int (-i))) _ c (Nxt.refl ..) (Nat.le_refl _) (Dp.int _) q⟩
theorem wc_abs' (q : R (.d (.int (if i < 0 then -i else i))) Ω) : WC K rAbsI [.d (.int i)] Ω R := wc_abs q
theorem wc_max' (q : R (.d (.int (if j > i then j else i))) Ω) : WC K rMaxI [.d (.int i), .d (.int j)] Ω R := wc_max q
theorem wc_min' (q : R (.d (.int (if j < i then j else i))) Ω) : WC K rMinI [.d (.int i), .d (.int j)] Ω R := wc_min q
theorem wc_intI' (q : R (.d (.int i)) Ω) : WC K rIntX [.d (.int i)] Ω R := wc_intI q
theorem wc_intB' {b : Bool} (q : R (.d (.int (if b then 1 else 0))) Ω) : WC K rIntX [.d (.bool b)] Ω R := wc_intB q
theorem wc_len' {x : DV} {ds : List DV} (hx : sq Ω x = some ds) (q : R (.d (.int ds.length)) Ω) : WC K (rLenQ K) [x] Ω R := wc_len hx q
theorem wc_tup' {x : DV} {xs : List PyData} (hx : ls Ω x = some xs) (q : R (.d (.tuple xs)) Ω) : WC K (rTupQ K) [x] Ω R := wc_tuple hx q
theorem wc_listD' {x : DV} {xs : List PyData} (hx : ls Ω x = some xs) (q : R (.d (.list xs)) Ω) : WC K (rListQ K) [x] Ω R := wc_listD hx q
theorem wc_listO' {x : DV} {xs : List PyData} (hx : ls Ω x = some xs) (q : R (.o Ω.length) (Ω ++ [.lst (xs.map DV.d)])) : WC K (rListQ K) [x] Ω R := wc_listO hx q
/-! chains of comparisons -/
theorem we_chain {r r' : R2} {ta tb tc : TE} (h : WE K W ta Γ Ω (fun x Ω1 => WE K W tb Γ Ω1 (fun y Ω2 => WR K r x y Ω2 (fun z Ω3 => ∃ b, z = .d (.bool b) ∧ (b = true → WE K W tc Γ Ω3 (fun w Ω4 => WR K r' y w Ω4 R) X) ∧ (b = false → R (.d (.bool false)) Ω3))) X) X) :
    WE K W (tChain r r' ta tb tc) Γ Ω R X := fun m G H σ Q c s k x =>
  h m G H σ _ c s (fun m1 G1 Ω1 H1 d1 v1 c1 n1 l1 r1 h1 => h1 m1 G1 H1 σ _ c1 (s.mono n1 l1) (fun m2 G2 Ω2 H2 d2 v2 c2 n2 l2 r2 h2 => by
    have n12 := n1.trans l1 n2
    have l12 := Nat.le_trans l1 l2
    refine h2 m2 G2 H2 v1 v2 _ c2 (RV.mono n2 l2 r1) r2 (fun m3 G3 Ω3 H3 d3 v3 c3 n3 l3 r3 ⟨b, e, ht, hf⟩ => ?_)
    subst e
    cases r3
    refine ⟨b, rfl, ?_⟩
    have n13 := n12.trans l12 n3
    have l13 := Nat.le_trans l12 l3
    cases b with
    | false =>
      first
        | (rw [if_neg Bool.false_ne_true]; exact k _ _ _ _ (.d (.bool false)) _ c3 n13 l13 (Dp.bl false) (hf rfl))
        | exact k _ _ _ _ (.d (.bool false)) _ c3 n13 l13 (Dp.bl false) (hf rfl)
    | true =>
      first
        | (rw [if_pos rfl]; exact (ht rfl) m3 G3 H3 σ _ c3 (s.mono n13 l13) (fun m4 G4 Ω4 H4 d4 v4 c4 n4 l4 r4 h4 => h4 m4 G4 H4 v2 v4 Q c4 (RV.mono (n3.trans l3 n4) (Nat.le_trans l3 l4) r2) r4 (k.on (n13.trans l13 n4) (Nat.le_trans l13 l4))) (x.on n13 l13))
        | exact (ht rfl) m3 G3 H3 σ _ c3 (s.mono n13 l13) (fun m4 G4 Ω4 H4 d4 v4 c4 n4 l4 r4 h4 => h4 m4 G4 H4 v2 v4 Q c4 (RV.mono (n3.trans l3 n4) (Nat.le_trans l3 l4) r2) r4 (k.on (n13.trans l13 n4) (Nat.le_trans l13 l4))) (x.on n13 l13)) (x.on n1 l1)) x
end
end HL
namespace HL
open PySem PySem.Spec PyProof.Rows L2 Evl
/-! ### the head's facts: defs, names, and one Bool more -/
/-- the function data of a def -/
def noFd : FuncData := PySem.W.fnOf "" "" { posonlyargs := [], args := [], vararg := none, kwonlyargs := [], kw_defaults := [], kwarg := none, defaults := [] } [] { kind := .function, names := [], isGenerator := false, isCoroutine := false } .none .none .none .none none .none .none
def fdK (K : KF) (p : Str × Option Str) : FuncData := match K.lookup (He.fAd K p) with
  | some ⟨_, _, .func fd, _⟩ => fd
  | _ => noFd
theorem fdK_of {K : KF} {p : Str × Option Str} {x qual : Str} {params : Arguments} {body : List Stmt} {scope : Scope} {dvs : List V} {kws : List (Str × V)} {fd : FuncData} (F : FunD K x qual params body scope dvs kws (He.fAd K p) fd) : FunD K x qual params body scope dvs kws (He.fAd K p) (fdK K p) := by
  obtain ⟨oc, od, dV, kV, doc, pm, an, cdv, ct, osl, e, lk, _⟩ := F.ex
  have q : fdK K p = fd := by
    unfold fdK
    rw [lk]
  rw [q]
  exact F
/-- an address where a function stands -/
abbrev fA (K : KF) (x : Str) : Addr := He.fAd K (x, none)
abbrev FD (K : KF) (x : Str) (st : Stmt) (dvs : List V) : Prop := FunD K x x (defArgs st) (defBody st) (defScope st) dvs [] (fA K x) (fdK K (x, none))
abbrev FM (K : KF) (C m q : Str) (st : Stmt) (dvs : List V) : Prop := FunD K m q (defArgs st) (defBody st) (defScope st) dvs [] (He.fAd K (C, some m)) (fdK K (C, some m))
theorem fd_of {fa : List He.Fa} {fn : List He.DefD} {K : KF} (c : He.SaysD fa fn K) (i : Nat) {d : He.DefD} (h : fn[i]? = some d) : FunD K d.name d.qual d.params d.body d.scope (d.dvs K) (d.kws K) (He.fAd K d.at_) (fdK K d.at_) := by
  obtain ⟨fd, F⟩ := c.def_ i h
  exact fdK_of F
/-- facts of an exception's class -/
structure XC (K : KF) (mg : Str → Option Value) (x : Str) : Prop where
  gm : mg x = some (.ref (He.ga K x))
  ec : PySem.W.excIn K (He.ga K x) He.veBase "ValueError.__new__" = true
  kp : PySem.W.keepIn K (.ref (He.ga K x)) = true
  sb : PySem.W.subIn K (.ref (He.ga K x)) (.type "BaseException") = some true
  ty : PySem.W.typeIn K (.ref (He.ga K x)) = some (.type "type")
theorem xc_of {K : KF} {h : Heap} {mg : Str → Option Value} {x : Str} (X : K.In h) (G : h.Ns mainGlobals mg) (c0 : (He.Fa.glo x).ok K = true) (c : (He.Fa.exc x).ok K = true) : XC K mg x := by
  obtain ⟨h1, h2⟩ := He.ba c
  obtain ⟨h3, h4⟩ := He.ba h2
  obtain ⟨h5, h6⟩ := He.ba h4
  exact ⟨He.glo_ok X G c0, h1, h3, of_decide_eq_true h5, of_decide_eq_true h6⟩
theorem XC.raises {K : KF} {mg : Str → Option Value} {x : Str} (c : XC K mg x) {X : Cx} (h : X.K = K := by rfl) : Raises X (.ref (He.ga K x)) := by
  subst h
  exact raises_own c.sb c.ty
/-- a tuple of the module -/
theorem tup_dp {K : KF} {x : Str} {vs : List He.Dv} {xs : List PyData} (h : He.tupB K x vs = true) (hv : ∀ G, DpAll K G (vs.map (He.Dv.v K)) xs) : ∀ G, Dp K G (.ref (He.ga K x)) (.tuple xs) := fun G => .tup (He.tupB_ok h G) (hv G)
/-! ### isinstance of a caught error -/
def rIsEx (K : KF) (cls : Value) (dd : Option Addr) (a : Addr) : List V → Hp → VK → Prop := fun xs H Q => ∃ D, cls = .ref D ∧ dd = none ∧ ExcC K D ∧ rIsE K D a xs H Q
theorem call_isEx {X : Cx} {a : Addr} {oe : Obj} {cls : Value} {dd : Option Addr} {pn : List (Addr × Obj)} (hz : Zc cls dd oe) (hf : ∃ vs, oe.data = .fields vs) : CallR (X.suite a ((a, oe) :: pn)) (.builtin "isinstance") (rIsEx X.K cls dd a) := by
  intro pins s σ H xs us Q I r h
  obtain ⟨D, rfl, rfl, C, h⟩ := h
  exact call_isE C hz hf pins s σ H xs us Q I r h
theorem excB_ok {K : KF} {D : Addr} (h : excB K D = true) : ExcC K D := by
  obtain ⟨h1, h⟩ := Bool.and_eq_true_iff.mp h
  obtain ⟨h2, h⟩ := Bool.and_eq_true_iff.mp h
  obtain ⟨h3, h⟩ := Bool.and_eq_true_iff.mp h
  obtain ⟨h4, h⟩ := Bool.and_eq_true_iff.mp h
  obtain ⟨h5, h⟩ := Bool.and_eq_true_iff.mp h
  obtain ⟨h6, h⟩ := Bool.and_eq_true_iff.mp h
  obtain ⟨h7, h8⟩ := Bool.and_eq_true_iff.mp h
  exact ⟨of_decide_eq_true h1, of_decide_eq_true h2, of_decide_eq_true h3, h4, of_decide_eq_true h5, of_decide_eq_true h6, of_decide_eq_true h7, of_decide_eq_true h8⟩
/-- what the classes say of one another -/
theorem wc_isE {K : KF} {Ω : Om} {R : DV → Om → Prop} {D C a : Addr} {dd : Option Addr} {b : Bool} (hD : ExcC K D) (hk : PySem.W.kitOne K (.ref D) (.ref C) = some b) (q : R (.d (.bool b)) Ω) : WC K (rIsEx K (.ref D) dd a) [.e (.own D) a (.ref D) dd, .v (.ref C)] Ω R := fun m G H vs Q c r k => by
  cases r with
  | cons r1 rs => cases rs with
    | cons r2 rs =>
      cases rs
      obtain ⟨rfl, _, rfl⟩ := r1
      cases r2
      exact ⟨D, rfl, rfl, hD, _, _, b, rfl, fun u hu => hu, hk, k _ _ _ _ (.d (.bool b)) _ c (Nxt.refl ..) (Nat.le_refl _) (Dp.bl _) q⟩
theorem wc_isEv {K : KF} {Ω : Om} {R : DV → Om → Prop} {D a : Addr} {dd : Option Addr} {n : String} {b : Bool} (hD : ExcC K D) (hk : PySem.W.kitOne K (.ref D) (.type n) = some b) (q : R (.d (.bool b)) Ω) : WC K (rIsEx K (.ref D) dd a) [.e (.own D) a (.ref D) dd, .v (.ty n)] Ω R := fun m G H vs Q c r k => by
  cases r with
  | cons r1 rs => cases rs with
    | cons r2 rs =>
      cases rs
      obtain ⟨rfl, _, rfl⟩ := r1
      cases r2
      exact ⟨D, rfl, rfl, hD, _, _, b, rfl, fun u hu => hu, hk, k _ _ _ _ (.d (.bool b)) _ c (Nxt.refl ..) (Nat.le_refl _) (Dp.bl _) q⟩
def tTryAs (K : KF) (tb : WX → TS) (ts : Addr → Value → Option Addr → TS) (c : Value) (i : Nat) (W : WX) : TS := fun D σ H => tb (wAs K c i ts W D) D σ H
def tTryOnly (K : KF) (tb : WX → TS) (ts : Addr → Value → Option Addr → TS) (c : Value) (W : WX) : TS := fun D σ H => tb (wOnly K c ts W D) D σ H
def tRaise (K : KF) (x : Str) (W : WX) : TS := fun _ σ H => W (.ref (He.ga K x)) none σ H
section
variable {K : KF} {W : WX} {Γ : Gm} {Ω : Om} {O : Outs}
theorem ws_try {tb : WX → TS} {ts : Addr → Value → Option Addr → TS} {c : Value} {i : Nat}
    (h : ∀ W' : WX, WS K W' (tb W') Γ Ω { O with er := fun Γ1 e Ω1 => ∃ b, PySem.W.exmOne K (clsOf e) c = some b ∧
      (b = true → ∀ a cls dd, cls = clsOf e → WS K W (ts a cls dd) (Γ1.set i (some (.e e a cls dd))) Ω1 { nx := fun Γ2 Ω2 => O.nx (Γ2.set i none) Ω2, rt := O.rt, bk := fun Γ2 Ω2 => O.bk (Γ2.set i none) Ω2, ct := fun Γ2 Ω2 => O.ct (Γ2.set i none) Ω2, er := O.er }) ∧
      (b = false → O.er Γ1 e Ω1) }) : WS K W (tTryAs K tb ts c i W) Γ Ω O := ws_tryAs h
theorem ws_tryO {tb : WX → TS} {ts : Addr → Value → Option Addr → TS} {c : Value}
    (h : ∀ W' : WX, WS K W' (tb W') Γ Ω { O with er := fun Γ1 e Ω1 => ∃ b, PySem.W.exmOne K (clsOf e) c = some b ∧ (b = true → ∀ a cls dd, cls = clsOf e → WS K W (ts a cls dd) Γ1 Ω1 O) ∧ (b = false → O.er Γ1 e Ω1) }) :
    WS K W (tTryOnly K tb ts c W) Γ Ω O := ws_tryOnly h
theorem ws_rs {x : Str} (q : O.er Γ (.own (He.ga K x)) Ω) : WS K W (tRaise K x W) Γ Ω O := ws_raise q
end
theorem ps_rs {X : Cx} {W : WX} {x m : Str} {j : Nat} {p p2 pos pos2 : Pos} (hc : X.calm = true) (tk : Takes X W) (T : XC X.K X.mg x) (hg : Gl X x) (hdb : (x == ("__debug__" : Str)) = false := by decide) :
    PS X (.Raise (some (.Call (.Name x p) [.Constant (.str m) j p2] [] pos)) none pos2) (tRaise X.K x W) := ps_raise hc tk (pmk_own PySem.F.excBase_ValueError T.ec T.gm T.kp (raises_own T.sb T.ty) hg hdb)
section
variable {X : Cx} {x n : Str} {i : Nat} {body suite : List Stmt} {b₀ : Stmt} {np pos pos' : Pos} {tb : WX → TS} {ts : Addr → Value → Option Addr → TS} {Wout : WX}
theorem ps_tryA (hs : X.stack = X.env :: X.outer) (hf : X.env.frame = some X.env.locals) (hN : X.N.Nodup) (hi : X.N[i]? = some n) (hln : X.env.kindOf n = some .local) (hg : Gl X x) (T : XC X.K X.mg x) (tk : Takes X Wout)
    (hb : ∀ (W : WX) (pn : List (Addr × Obj)) (xe : Value → Shared → Prop), Takes (X.tr pn xe) W → PassesOwn (model X.prog X.w) X.A X.env xe → PSs (X.tr pn xe) body (tb W))
    (hsu : ∀ (a : Addr) (oe : Obj) (cls : Value) (d : Option Addr) (pn : List (Addr × Obj)), Zc cls d oe → (∃ vs, oe.data = .fields vs) → PSs (X.suite a ((a, oe) :: pn)) (b₀ :: suite) (ts a cls d)) (hdb : (x == ("__debug__" : Str)) = false := by decide) :
    PS X (.Try body [.ExceptHandler (some (.Name x np)) (some n) (b₀ :: suite) pos'] [] [] pos) (tTryAs X.K tb ts (.ref (He.ga X.K x)) i Wout) := ps_try_as hs hf hN hi hln ⟨hg, hdb, Or.inl T.gm⟩ tk hb hsu
theorem ps_tryO (hs : X.stack = X.env :: X.outer) (hf : X.env.frame = some X.env.locals) (hg : Gl X x) (T : XC X.K X.mg x) (tk : Takes X Wout)
    (hb : ∀ (W : WX) (pn : List (Addr × Obj)) (xe : Value → Shared → Prop), Takes (X.tr pn xe) W → PassesOwn (model X.prog X.w) X.A X.env xe → PSs (X.tr pn xe) body (tb W))
    (hsu : ∀ (a : Addr) (oe : Obj) (cls : Value) (d : Option Addr) (pn : List (Addr × Obj)), Zc cls d oe → (∃ vs, oe.data = .fields vs) → PSs (X.suite a ((a, oe) :: pn)) (b₀ :: suite) (ts a cls d)) (hdb : (x == ("__debug__" : Str)) = false := by decide) :
    PS X (.Try body [.ExceptHandler (some (.Name x np)) none (b₀ :: suite) pos'] [] [] pos) (tTryOnly X.K tb ts (.ref (He.ga X.K x)) Wout) := ps_try_only hs hf ⟨hg, hdb, Or.inl T.gm⟩ tk hb hsu
end
end HL
namespace HL
open PySem PySem.Spec PyProof.Rows L2 Evl
theorem bT {b : Bool} {A B : Prop} (hb : b = true) (h : A) : (b = true → A) ∧ (b = false → B) := ⟨fun _ => h, fun e => by rw [hb] at e; cases e⟩
theorem bF {b : Bool} {A B : Prop} (hb : b = false) (h : B) : (b = true → A) ∧ (b = false → B) := ⟨fun e => (by rw [hb] at e; cases e), fun _ => h⟩
theorem ex_b {b : Bool} {B : Bool → Prop} (h : B b) : ∃ b', DV.d (.bool b) = .d (.bool b') ∧ B b' := ⟨b, rfl, h⟩
theorem ex_i {b : Int} {B : Int → Prop} (h : B b) : ∃ b', DV.d (.int b) = .d (.int b') ∧ B b' := ⟨b, rfl, h⟩
theorem ex_p {x y : DV} {B : DV → DV → Prop} (h : B x y) : ∃ a b, [x, y] = [a, b] ∧ B a b := ⟨x, y, rfl, h⟩
theorem ex_as {ds : List DV} {xs : List PyData} {B : List PyData → Prop} (e : asDs ds = some xs) (l : xs.length ≤ 100000) (h : B xs) : ∃ xs, asDs ds = some xs ∧ xs.length ≤ 100000 ∧ B xs := ⟨xs, e, l, h⟩
def isInt : PyData → Bool
  | .int _ => true
  | .bool _ => true
  | _ => false
def isBool : PyData → Bool
  | .bool _ => true
  | _ => false
def isStr : PyData → Bool
  | .str _ => true
  | _ => false
def isTuple : PyData → Bool
  | .tuple _ => true
  | _ => false
def isList : PyData → Bool
  | .list _ => true
  | _ => false
def known : PyData → Bool
  | .dict _ => false
  | _ => true
section
variable {K : KF} {Ω : Om} {R : DV → Om → Prop} {x : DV} {y : PyData}
theorem wc_isInt (hx : vw Ω x = some y) (hk : known y = true) (q : R (.d (.bool (isInt y))) Ω) : WC K (rIsi K) [x, .v (.ty "int")] Ω R := by
  cases y <;> first | exact wc_isi (z := true) hx rfl (by decide +kernel) q | exact wc_isi (z := false) hx rfl (by decide +kernel) q | exact absurd (show false = true from hk) (by decide)
theorem wc_isBool (hx : vw Ω x = some y) (hk : known y = true) (q : R (.d (.bool (isBool y))) Ω) : WC K (rIsi K) [x, .v (.ty "bool")] Ω R := by
  cases y <;> first | exact wc_isi (z := true) hx rfl (by decide +kernel) q | exact wc_isi (z := false) hx rfl (by decide +kernel) q | exact absurd (show false = true from hk) (by decide)
theorem wc_isStr (hx : vw Ω x = some y) (hk : known y = true) (q : R (.d (.bool (isStr y))) Ω) : WC K (rIsi K) [x, .v (.ty "str")] Ω R := by
  cases y <;> first | exact wc_isi (z := true) hx rfl (by decide +kernel) q | exact wc_isi (z := false) hx rfl (by decide +kernel) q | exact absurd (show false = true from hk) (by decide)
theorem wc_isTuple (hx : vw Ω x = some y) (hk : known y = true) (q : R (.d (.bool (isTuple y))) Ω) : WC K (rIsi K) [x, .v (.ty "tuple")] Ω R := by
  cases y <;> first | exact wc_isi (z := true) hx rfl (by decide +kernel) q | exact wc_isi (z := false) hx rfl (by decide +kernel) q | exact absurd (show false = true from hk) (by decide)
theorem wc_isList (hx : vw Ω x = some y) (hk : known y = true) (q : R (.d (.bool (isList y))) Ω) : WC K (rIsi K) [x, .v (.ty "list")] Ω R := by
  cases y <;> first | exact wc_isi (z := true) hx rfl (by decide +kernel) q | exact wc_isi (z := false) hx rfl (by decide +kernel) q | exact absurd (show false = true from hk) (by decide)
end
def dR (x : Rat) : PyData := .tuple [.int x.num, .int x.den]
theorem wr_ixR0 {K : KF} {Ω : Om} {R : DV → Om → Prop} {x : Rat} (q : R (.d (.int x.num)) Ω) : WR K (rIx K) (.d (dR x)) (.d (.int 0)) Ω R := wr_ixT rfl q
theorem wr_ixR1 {K : KF} {Ω : Om} {R : DV → Om → Prop} {x : Rat} (q : R (.d (.int x.den)) Ω) : WR K (rIx K) (.d (dR x)) (.d (.int 1)) Ω R := wr_ixT rfl q
theorem shaped_dR (x : Rat) : SeqAt.shaped (dR x) = true := rfl
theorem eqv_dR (x y : Rat) : PyData.eqv (dR x) (dR y) = decide (x = y) := by
  show (x.num == y.num && (((x.den : Int) == (y.den : Int)) && true)) = _
  rw [Bool.and_true]
  by_cases h : x = y
  · subst h; simp
  · rw [decide_eq_false h]
    by_cases h1 : x.num = y.num
    · have h2 : x.den ≠ y.den := fun e => h (Rat.ext h1 e)
      have : ((x.den : Int) == (y.den : Int)) = false := by rw [beq_eq_false_iff_ne]; omega
      rw [this, Bool.and_false]
    · have : (x.num == y.num) = false := by simpa using h1
      rw [this, Bool.false_and]
theorem wr_eqR {K : KF} {Ω : Om} {R : DV → Om → Prop} {x y : Rat} (q : R (.d (.bool (decide (x = y)))) Ω) : WR K (rEqD K) (.d (dR x)) (.d (dR y)) Ω R := wr_eq rfl rfl (shaped_dR x) (shaped_dR y) (by rw [eqv_dR]; exact q)
theorem wr_neR {K : KF} {Ω : Om} {R : DV → Om → Prop} {x y : Rat} (q : R (.d (.bool (!decide (x = y)))) Ω) : WR K (rNeD K) (.d (dR x)) (.d (dR y)) Ω R := wr_ne rfl rfl (shaped_dR x) (shaped_dR y) (by rw [eqv_dR]; exact q)
theorem eqv_int (a b : Int) : PyData.eqv (.int a) (.int b) = decide (a = b) := by
  show (a == b) = _
  exact (Bool.beq_eq_decide_eq a b)
theorem eqv_bool (a b : Bool) : PyData.eqv (.bool a) (.bool b) = decide (a = b) := by
  show (a == b) = _
  exact (Bool.beq_eq_decide_eq a b)
theorem wr_eqI {K : KF} {Ω : Om} {R : DV → Om → Prop} {x y : Int} (q : R (.d (.bool (decide (x = y)))) Ω) : WR K (rEqD K) (.d (.int x)) (.d (.int y)) Ω R := wr_eq rfl rfl rfl rfl (by rw [eqv_int]; exact q)
theorem wr_neI {K : KF} {Ω : Om} {R : DV → Om → Prop} {x y : Int} (q : R (.d (.bool (!decide (x = y)))) Ω) : WR K (rNeD K) (.d (.int x)) (.d (.int y)) Ω R := wr_ne rfl rfl rfl rfl (by rw [eqv_int]; exact q)
theorem wr_eqB {K : KF} {Ω : Om} {R : DV → Om → Prop} {x y : Bool} (q : R (.d (.bool (decide (x = y)))) Ω) : WR K (rEqD K) (.d (.bool x)) (.d (.bool y)) Ω R := wr_eq rfl rfl rfl rfl (by rw [eqv_bool]; exact q)
theorem wr_neB {K : KF} {Ω : Om} {R : DV → Om → Prop} {x y : Bool} (q : R (.d (.bool (!decide (x = y)))) Ω) : WR K (rNeD K) (.d (.bool x)) (.d (.bool y)) Ω R := wr_ne rfl rfl rfl rfl (by rw [eqv_bool]; exact q)
theorem ws_asgL {K : KF} {W : WX} {Γ : Gm} {Ω : Om} {O : Outs} {i : Nat} (q : O.nx (Γ.set i (some (.o Ω.length))) (Ω ++ [.lst []])) : WS K W (tAsg (tLst tNil) (gName i)) Γ Ω O :=
  ws_asg (we_lstO (wa_nil ⟨by decide, wg_name q⟩))
local macro_rules | `(tactic| walk_at "hl1") => `(tactic| first
  | with_reducible refine ws_seq ?_
  | with_reducible refine ws_asgL ?_
  | with_reducible refine ws_asg ?_
  | with_reducible refine ws_if ?_
  | with_reducible refine ws_ret ?_
  | with_reducible refine ws_drop ?_
  | with_reducible refine ws_par ?_
  | with_reducible refine we_int ?_
  | with_reducible refine we_bl ?_
  | with_reducible refine we_str ?_
  | with_reducible refine we_non ?_
  | with_reducible refine we_ty ?_
  | with_reducible refine we_ref ?_
  | with_reducible refine we_op ?_
  | with_reducible refine we_un ?_
  | with_reducible refine we_if ?_
  | with_reducible refine we_cb ?_
  | with_reducible refine we_call ?_
  | with_reducible refine we_callS ?_
  | with_reducible refine we_tup ?_
  | with_reducible refine we_lstD ?_
  | with_reducible refine we_chain ?_
  | with_reducible refine we_sl ?_
  | with_reducible refine wo_none ?_
  | with_reducible refine wo_some ?_
  | with_reducible refine wa_nil ?_
  | with_reducible refine wa_cons ?_
  | with_reducible refine wt_test ?_
  | with_reducible refine wt_B ?_
  | with_reducible refine wt_and ?_
  | with_reducible refine wt_or ?_
  | with_reducible refine wt_not ?_
  | with_reducible refine wt_yes ?_
  | with_reducible refine we_andV ?_
  | with_reducible refine we_orV ?_
  | with_reducible refine we_notV ?_
  | with_reducible refine wg_name ?_
  | with_reducible refine wgs_nil ?_
  | with_reducible refine wgs_cons ?_
  | with_reducible refine wr_sub ?_
  | with_reducible refine wr_addI ?_
  | with_reducible refine wr_lt ?_
  | with_reducible refine wr_le ?_
  | with_reducible refine wr_gt ?_
  | with_reducible refine wr_ge ?_
  | with_reducible refine wu_neg ?_
  | with_reducible refine wr_ixR0 ?_
  | with_reducible refine wr_eqR ?_
  | with_reducible refine wr_neR ?_
  | with_reducible refine wr_eqI ?_
  | with_reducible refine wr_neI ?_
  | with_reducible refine wr_eqB ?_
  | with_reducible refine wr_neB ?_
  | with_reducible refine wr_ixR1 ?_
  | ((with_reducible refine' wr_mul ?h1 ?_); (case h1 => first | exact .inr (by assumption) | exact .inl (.inl ⟨by decide, by decide⟩) | exact .inl (.inr ⟨by decide, by decide⟩) | assumption))
  | with_reducible refine wc_abs' ?_
  | with_reducible refine wc_max' ?_
  | with_reducible refine wc_min' ?_
  | with_reducible refine wc_intI' ?_
  | with_reducible refine wc_intB' ?_
  | with_reducible refine wsl_T ?_
  | with_reducible refine ex_b ?_
  | with_reducible refine ex_i ?_
  | with_reducible refine ex_p ?_
  | with_reducible refine ws_next ?_
  | with_reducible refine ws_rs ?_
  | with_reducible refine ws_retN ?_
  | with_reducible refine we_bm ?_
  | with_reducible refine we_bm0 ?_
  | ((with_reducible refine' we_var ?h1 ?_); (case h1 => rfl))
  | ((with_reducible refine' wg_tup ?h1 ?_); (case h1 => rfl))
  | ((with_reducible refine' wr_isN' ?h1 ?_); (case h1 => rfl))
  | ((with_reducible refine' wr_notN' ?h1 ?_); (case h1 => rfl))
  | ((with_reducible refine' wr_ixT ?h1 ?_); (case h1 => rfl))
  | ((with_reducible refine' wr_ixL ?h1 ?_); (case h1 => rfl))
  | ((with_reducible refine' wc_len' ?h1 ?_); (case h1 => rfl))
  | ((with_reducible refine' wc_isInt ?h1 ?h2 ?_); (case h1 => rfl); (case h2 => first | rfl | assumption))
  | ((with_reducible refine' wc_isBool ?h1 ?h2 ?_); (case h1 => rfl); (case h2 => first | rfl | assumption))
  | ((with_reducible refine' wc_isTuple ?h1 ?h2 ?_); (case h1 => rfl); (case h2 => first | rfl | assumption))
  | ((with_reducible refine' wc_isStr ?h1 ?h2 ?_); (case h1 => rfl); (case h2 => first | rfl | assumption))
  | ((with_reducible refine' wc_isList ?h1 ?h2 ?_); (case h1 => rfl); (case h2 => first | rfl | assumption))
  | ((with_reducible refine' ex_as ?h1 ?h2 ?_); (case h1 => rfl); (case h2 => exact Nat.le_of_ble_eq_true rfl)))
local macro_rules | `(tactic| walk_at "hl") => `(tactic| repeat walk_at "hl1")
/-! ### ratios are the rational numbers -/
theorem fmod_natAbs_lt {a b : Int} (h : b ≠ 0) : (a.fmod b).natAbs < b.natAbs := by
  have e := Int.mul_fdiv_add_fmod a b
  by_cases h0 : 0 ≤ b
  · have h1 := Int.fmod_nonneg_of_pos a (show 0 < b by omega)
    have h2 := Int.fmod_lt_of_pos a (show 0 < b by omega)
    omega
  · have h3 : (a.fmod b) = -((-a).fmod (-b)) := by
      rw [Int.fmod_eq_emod_of_nonneg (-a) (show 0 ≤ -b by omega)]
      have : a.fmod b = -((-a).fmod (-b)) := by
        have q := Int.neg_fmod_neg (a := a) (b := b)
        rw [q]; omega
      rw [this, Int.fmod_eq_emod_of_nonneg (-a) (show 0 ≤ -b by omega)]
    rw [h3, Int.fmod_eq_emod_of_nonneg (-a) (show 0 ≤ -b by omega)]
    have h1 := Int.emod_nonneg (-a) (show (-b) ≠ 0 by omega)
    have h2 := Int.emod_lt_of_pos (-a) (show 0 < -b by omega)
    omega
theorem gcd_fmod (a b : Int) : Int.gcd b (a.fmod b) = Int.gcd a b := by
  have e := Int.mul_fdiv_add_fmod a b
  have h : a.fmod b = a - b * a.fdiv b := by omega
  rw [h]
  apply Nat.dvd_antisymm
  · apply Int.dvd_gcd
    · have h1 : ((Int.gcd b (a - b * a.fdiv b) : Nat) : Int) ∣ b := Int.gcd_dvd_left ..
      have h2 : ((Int.gcd b (a - b * a.fdiv b) : Nat) : Int) ∣ (a - b * a.fdiv b) := Int.gcd_dvd_right ..
      have h3 := Int.dvd_add h2 (Int.dvd_mul_of_dvd_left (c := a.fdiv b) h1)
      have h4 : a - b * a.fdiv b + b * a.fdiv b = a := by omega
      rw [h4] at h3
      exact h3
    · exact Int.gcd_dvd_left ..
  · apply Int.dvd_gcd
    · exact Int.gcd_dvd_right ..
    · exact Int.dvd_sub (Int.gcd_dvd_left ..) (Int.dvd_mul_of_dvd_left (Int.gcd_dvd_right ..))
theorem abs_if (a : Int) : (if a < 0 then -a else a) = (a.natAbs : Int) := by split <;> omega
/-- by what both are divided: with the sign of the lower one -/
def byOf (a b : Int) : Int := if b < 0 then 0 - (Int.gcd a b : Int) else (Int.gcd a b : Int)
theorem gcd_pos {a b : Int} (h : b ≠ 0) : 0 < (Int.gcd a b : Int) := by
  have : Int.gcd a b ≠ 0 := fun e => h (Int.gcd_eq_zero_iff.mp e).2
  omega
theorem low_num {a b : Int} (h : b ≠ 0) : a.fdiv (byOf a b) = (Rat.divInt a b).num := by
  rw [Rat.num_divInt, Int.gcd_comm b a]
  have hg := gcd_pos (a := a) h
  obtain ⟨c, hc⟩ : ((Int.gcd a b : Nat) : Int) ∣ a := Int.gcd_dvd_left ..
  unfold byOf
  generalize (Int.gcd a b : Int) = g at *
  split
  · rename_i hb
    rw [Int.sign_eq_neg_one_of_neg hb, hc]
    have e1 : (g * c).fdiv (0 - g) = -c := by
      rw [show g * c = (0 - g) * (-c) by grind]
      exact Int.mul_fdiv_cancel_left _ (by omega)
    have e2 : -1 * (g * c) / g = -c := by
      rw [show -1 * (g * c) = g * (-c) by grind]
      exact Int.mul_ediv_cancel_left _ (by omega)
    rw [e1, e2]
  · rename_i hb
    rw [Int.sign_eq_one_of_pos (by omega), hc, Int.mul_fdiv_cancel_left _ (by omega), Int.one_mul, Int.mul_ediv_cancel_left _ (by omega)]
theorem low_den {a b : Int} (h : b ≠ 0) : b.fdiv (byOf a b) = ((Rat.divInt a b).den : Int) := by
  rw [Rat.den_divInt, if_neg h, Int.gcd_comm b a]
  have hg := gcd_pos (a := a) h
  obtain ⟨c, hc⟩ : ((Int.gcd a b : Nat) : Int) ∣ b := Int.gcd_dvd_right ..
  have e3 : ((b.natAbs / Int.gcd a b : Nat) : Int) = (b.natAbs : Int) / (Int.gcd a b : Int) := Int.natCast_ediv ..
  rw [e3]
  unfold byOf
  generalize (Int.gcd a b : Int) = g at *
  have hb0 : (b.natAbs : Int) = if b < 0 then -b else b := by split <;> omega
  rw [hb0]
  split
  · rw [hc]
    have e1 : (g * c).fdiv (0 - g) = -c := by
      rw [show g * c = (0 - g) * (-c) by grind]
      exact Int.mul_fdiv_cancel_left _ (by omega)
    have e2 : -(g * c) / g = -c := by
      rw [show -(g * c) = g * (-c) by grind]
      exact Int.mul_ediv_cancel_left _ (by omega)
    rw [e1, e2]
  · rw [hc, Int.mul_fdiv_cancel_left _ (by omega), Int.mul_ediv_cancel_left _ (by omega)]
theorem dR_eq {a b : Int} (h : b ≠ 0) : dR (Rat.divInt a b) = .tuple [.int (a.fdiv (byOf a b)), .int (b.fdiv (byOf a b))] := by
  rw [low_num h, low_den h]
  rfl
/-! ### sizes -/
structure Sz (n : Nat) (x : Rat) : Prop where
  num : x.num.natAbs < 2 ^ n
  den : x.den < 2 ^ n
theorem Sz.mono {n m : Nat} {x : Rat} (h : Sz n x) (l : n ≤ m) : Sz m x :=
  ⟨Nat.lt_of_lt_of_le h.num (Nat.pow_le_pow_right (by decide) l), Nat.lt_of_lt_of_le h.den (Nat.pow_le_pow_right (by decide) l)⟩
/-- both are small enough to be reckoned with -/
def Sz2 (x y : Rat) : Prop := ∃ n m, Sz n x ∧ Sz m y ∧ n + m ≤ 8900
theorem log2_lt {x n : Nat} (h : x < 2 ^ n) (hn : 0 < n) : x.log2 < n := PySem.Flt.log2_lt_of hn h
theorem mul_lt2 {a b n m : Nat} (ha : a < 2 ^ n) (hb : b < 2 ^ m) : a * b < 2 ^ (n + m) := by
  rw [Nat.pow_add]
  exact Nat.mul_lt_mul'' ha hb
theorem cmul {i j : Int} {n m : Nat} (ha : i.natAbs < 2 ^ n) (hb : j.natAbs < 2 ^ m) (h : n + m ≤ 900000) : CMulW i j :=
  wide_mul (a := n + 1) (b := m + 1) (Nat.lt_of_lt_of_le ha (Nat.pow_le_pow_right (by decide) (by omega))) (Nat.lt_of_lt_of_le hb (Nat.pow_le_pow_right (by decide) (by omega))) (by omega) (by omega) (by omega)
theorem gcd_lt {a b : Int} {n : Nat} (h : b ≠ 0) (hb : b.natAbs < 2 ^ n) : Int.gcd a b < 2 ^ n := by
  refine Nat.lt_of_le_of_lt ?_ hb
  have : Int.gcd a b ∣ b.natAbs := by
    have := Int.gcd_dvd_right a b
    exact Int.ofNat_dvd_left.mp this
  exact Nat.le_of_dvd (by omega) this
theorem byOf_abs {a b : Int} : (byOf a b).natAbs = Int.gcd a b := by
  unfold byOf
  split <;> omega
theorem byOf_ne {a b : Int} (h : b ≠ 0) : byOf a b ≠ 0 := by
  have := gcd_pos (a := a) h
  unfold byOf
  split <;> omega
theorem cdiv_by {a b : Int} {x : Int} {n : Nat} (h : b ≠ 0) (hb : b.natAbs < 2 ^ n) (hn : n ≤ 8990) : CDivX x (byOf a b) := by
  refine ⟨byOf_ne h, ?_⟩
  rw [byOf_abs]
  have h1 := gcd_lt (a := a) h hb
  exact Nat.lt_of_lt_of_le (log2_lt (n := n + 1) (Nat.lt_of_lt_of_le h1 (Nat.pow_le_pow_right (by decide) (by omega))) (by omega)) (by omega)
theorem rat_add (p q : Rat) : Rat.divInt (p.num * q.den + q.num * p.den) (p.den * q.den) = p + q := by
  rw [Rat.add_def', ← Int.natCast_mul, Rat.divInt_ofNat]
theorem rat_sub (p q : Rat) : Rat.divInt (p.num * q.den - q.num * p.den) (p.den * q.den) = p - q := by
  rw [Rat.sub_def', ← Int.natCast_mul, Rat.divInt_ofNat]
theorem rat_mul (p q : Rat) : Rat.divInt (p.num * q.num) (p.den * q.den) = p * q := by
  rw [Rat.mul_def', ← Int.natCast_mul, Rat.divInt_ofNat]
theorem rat_div (p q : Rat) : Rat.divInt (p.num * q.den) (p.den * q.num) = p / q := by
  rw [Rat.div_def]
  conv => rhs; rw [← Rat.num_divInt_den p, ← Rat.num_divInt_den q, Rat.inv_divInt, Rat.divInt_mul_divInt]
theorem den_pos (p : Rat) : 0 < (p.den : Int) := by have := p.den_pos; omega
theorem den_ne (p : Rat) : (p.den : Int) ≠ 0 := by have := p.den_pos; omega
theorem den_mul_ne (p q : Rat) : (p.den : Int) * (q.den : Int) ≠ 0 := Int.mul_ne_zero (den_ne p) (den_ne q)
theorem den_mul_lt {p q : Rat} {n m : Nat} (hp : Sz n p) (hq : Sz m q) : ((p.den : Int) * (q.den : Int)).natAbs < 2 ^ (n + m) := by
  rw [Int.natAbs_mul]
  exact mul_lt2 (by simpa using hp.den) (by simpa using hq.den)
structure Muls (p q : Rat) : Prop where
  nn : CMulW p.num q.num
  nd : CMulW p.num q.den
  dn : CMulW p.den q.num
  dd : CMulW p.den q.den
theorem muls {p q : Rat} {n m : Nat} (hp : Sz n p) (hq : Sz m q) (h : n + m ≤ 900000) : Muls p q :=
  ⟨cmul hp.num hq.num h, cmul hp.num (m := m) (by simpa using hq.den) h, cmul (n := n) (by simpa using hp.den) hq.num h, cmul (n := n) (m := m) (by simpa using hp.den) (by simpa using hq.den) h⟩
/-- what a product, a sum may have -/
theorem Sz2.symm {p q : Rat} (h : Sz2 p q) : Sz2 q p := let ⟨n, m, a, b, c⟩ := h; ⟨m, n, b, a, by omega⟩
theorem sz_of_divInt {a b : Int} {n : Nat} (hb : b ≠ 0) (ha : a.natAbs < 2 ^ n) (h : b.natAbs < 2 ^ n) : Sz n (Rat.divInt a b) := by
  constructor
  · rw [Rat.num_divInt]
    refine Nat.lt_of_le_of_lt ?_ ha
    have e : (b.sign * a / (b.gcd a : Int)).natAbs ≤ (b.sign * a).natAbs := by
      rw [Int.natAbs_ediv_of_dvd (Int.dvd_mul_of_dvd_right (Int.gcd_dvd_right ..))]
      exact Nat.div_le_self _ _
    refine Nat.le_trans e ?_
    rw [Int.natAbs_mul]
    have : b.sign.natAbs ≤ 1 := by
      rw [Int.natAbs_sign]
      split <;> omega
    calc b.sign.natAbs * a.natAbs ≤ 1 * a.natAbs := Nat.mul_le_mul_right _ this
      _ = a.natAbs := Nat.one_mul _
  · rw [Rat.den_divInt, if_neg hb]
    exact Nat.lt_of_le_of_lt (Nat.div_le_self _ _) h
theorem Sz.add {p q : Rat} {n m : Nat} (hp : Sz n p) (hq : Sz m q) : Sz (n + m + 1) (p + q) := by
  rw [← rat_add]
  refine sz_of_divInt (den_mul_ne p q) ?_ (Nat.lt_of_lt_of_le (den_mul_lt hp hq) (Nat.pow_le_pow_right (by decide) (by omega)))
  have h1 : (p.num * q.den).natAbs < 2 ^ (n + m) := by rw [Int.natAbs_mul]; exact mul_lt2 hp.num (by simpa using hq.den)
  have h2 : (q.num * p.den).natAbs < 2 ^ (n + m) := by rw [Int.natAbs_mul, Nat.mul_comm]; exact mul_lt2 (by simpa using hp.den) hq.num
  have h3 := Int.natAbs_add_le (p.num * q.den) (q.num * p.den)
  rw [Nat.pow_succ]
  omega
theorem Sz.neg {p : Rat} {n : Nat} (hp : Sz n p) : Sz n (-p) := ⟨by rw [Rat.neg_num, Int.natAbs_neg]; exact hp.num, by rw [Rat.neg_den]; exact hp.den⟩
theorem Sz.sub {p q : Rat} {n m : Nat} (hp : Sz n p) (hq : Sz m q) : Sz (n + m + 1) (p - q) := by
  rw [Rat.sub_eq_add_neg]
  exact hp.add hq.neg
theorem Sz.mul {p q : Rat} {n m : Nat} (hp : Sz n p) (hq : Sz m q) : Sz (n + m) (p * q) := by
  rw [← rat_mul]
  exact sz_of_divInt (den_mul_ne p q) (by rw [Int.natAbs_mul]; exact mul_lt2 hp.num hq.num) (den_mul_lt hp hq)
theorem Sz.inv {p : Rat} {n : Nat} (hp : Sz n p) (h1 : 0 < n) : Sz n p⁻¹ := by
  constructor
  · rw [Rat.num_inv, Int.natAbs_mul]
    have : p.num.sign.natAbs ≤ 1 := by
      rw [Int.natAbs_sign]
      split <;> omega
    refine Nat.lt_of_le_of_lt (Nat.mul_le_mul_right _ this) ?_
    rw [Nat.one_mul]
    simpa using hp.den
  · rw [Rat.den_inv]
    split
    · exact Nat.one_lt_two_pow (by omega)
    · exact hp.num
theorem Sz.div {p q : Rat} {n m : Nat} (hp : Sz n p) (hq : Sz m q) (h : 0 < m) : Sz (n + m) (p / q) := by
  rw [Rat.div_def]
  exact hp.mul (hq.inv h)
theorem Sz.int {a : Int} {n : Nat} (h : a.natAbs < 2 ^ n) (h0 : 0 < n) : Sz n (a : Rat) := ⟨by rw [Rat.num_intCast]; exact h, by rw [Rat.den_intCast]; exact Nat.one_lt_two_pow (by omega)⟩
/-! ### a pool of digits; the law's state: the pool at k, one's own things behind -/
def IsPool (c : OC) : Prop := ∃ a b d : Int, c = .lst [.d (.int a), .d (.int b), .d (.int d)] ∧ 0 ≤ a ∧ 0 ≤ b ∧ 0 ≤ d
theorem IsPool.flat {c : OC} (h : IsPool c) : flatO c := by
  obtain ⟨a, b, d, rfl, _⟩ := h
  intro x hx
  simp only [List.mem_cons, List.not_mem_nil, or_false] at hx
  rcases hx with rfl | rfl | rfl <;> trivial
abbrev Drawn (k : Nat) (Ω : Om) (b : Int) (R : DV → Om → Prop) : Prop := ∀ (r : Int) (p : OC), 0 ≤ r → r < b → IsPool p → R (.d (.int r)) (Ω.set k p)
theorem get_app {α : Type} {l r : List α} {k : Nat} {x : α} (h : l[k]? = some x) : (l ++ r)[k]? = some x := by rw [List.getElem?_append_left (lt_of_get h)]; exact h
theorem get_set {α : Type} {l : List α} {k : Nat} {x : α} (h : k < l.length) : (l.set k x)[k]? = some x := by rw [List.getElem?_set, if_pos rfl, if_pos h]
/-- the changed pool, what was added behind left -/
theorem dr_pool {Ω : Om} {R : DV → Om → Prop} {d : DV} {k : Nat} {p : OC} {J : Om} (hk : k < Ω.length) (hp : IsPool p) (q : R d (Ω.set k p)) (io : ∀ i, d ≠ .o i) (it : ∀ ps, d ≠ .t ps := by intro ps z; cases z) : Dr Ω R d (Ω.set k p ++ J) := by
  have el : (Ω.set k p).length = Ω.length := List.length_set
  refine .inr ⟨Ω.length, ⟨Nat.le_refl _, by simp, fun j c hj e => ?_⟩, idOk_flat (flatV_of io it), ?_⟩
  · rw [List.getElem?_append_left (by rw [el]; exact hj), List.getElem?_set] at e
    by_cases ek : k = j
    · rw [if_pos ek, if_pos (by omega)] at e
      cases e
      exact .inr hp.flat
    · rw [if_neg ek] at e
      exact .inl e
  · have : (Ω.set k p ++ J).take Ω.length = Ω.set k p := by rw [← el]; exact take_app _ _
    rw [this]
    exact q
theorem wr_ix_ints {K : KF} {Ω : Om} {R : DV → Om → Prop} {xs : List PyData} {ns : List Int} {i : Int} (e : xs = ns.map PyData.int) (h0 : 0 ≤ i) (h1 : i < ns.length) (q : ∀ n ∈ ns, R (.d (.int n)) Ω) : WR K (rIx K) (.d (.list xs)) (.d (.int i)) Ω R := by
  subst e
  obtain ⟨j, rfl⟩ : ∃ j : Nat, i = (j : Int) := ⟨i.toNat, by omega⟩
  have hj : j < ns.length := by omega
  exact wr_ixL (atI_nat (j := j) (v := .int ns[j]) (by simp [hj])) (q _ (List.getElem_mem hj))
theorem wr_ix_any {K : KF} {Ω : Om} {R : DV → Om → Prop} {xs : List PyData} {i : Int} (h0 : 0 ≤ i) (h1 : i < xs.length) (q : ∀ y ∈ xs, R (.d y) Ω) : WR K (rIx K) (.d (.list xs)) (.d (.int i)) Ω R := by
  obtain ⟨j, rfl⟩ : ∃ j : Nat, i = (j : Int) := ⟨i.toNat, by omega⟩
  have hj : j < xs.length := by omega
  exact wr_ixL (atI_nat (j := j) (v := xs[j]) (by simp [hj])) (q _ (List.getElem_mem hj))
theorem natAbs_lt_pow {a : Int} {n : Nat} (h1 : a < (2 : Int) ^ n) (h2 : -(2 : Int) ^ n < a) : a.natAbs < 2 ^ n := by
  have e : ((2 ^ n : Nat) : Int) = (2 : Int) ^ n := by rw [Int.natCast_pow]; rfl
  omega
theorem mul_pos {a b : Rat} (h : 0 < a) (h2 : 0 < b) : 0 < a * b := Rat.mul_pos h h2
theorem rat_num_pos {x : Rat} (h : 0 < x) : 0 < x.num := by
  have := (Rat.lt_iff 0 x).mp h
  simpa using this
theorem rat_pos_num {x : Rat} (h : 0 < x.num) : 0 < x := by
  rw [Rat.lt_iff]
  simpa using h
theorem rng_get {α : Type} {n i : Nat} {f : Nat → α} {y : α} (h : ((List.range n).map f)[i]? = some y) : i < n ∧ y = f i := by
  rw [List.getElem?_map] at h
  have hi : i < n := by
    by_cases h1 : i < n
    · exact h1
    · rw [List.getElem?_eq_none (by rw [List.length_range]; omega)] at h
      cases h
  rw [List.getElem?_range hi] at h
  cases h
  exact ⟨hi, rfl⟩
theorem set_app {α : Type} {l r : List α} {k : Nat} {x y : α} (h : k < l.length) : (l.set k x ++ r).set k y = l.set k y ++ r := by
  rw [List.set_append_left _ _ (by rw [List.length_set]; exact h), List.set_set]
/-! ### balls, rows, walls -/
structure Bl where
  p : Rat
  s : Rat
  w : Int
def dB (b : Bl) : PyData := .tuple [dR b.p, dR b.s, .int b.w]
def dRow (l : List Bl) : PyData := .tuple (l.map dB)
abbrev Wl := Option (Rat × Rat)
def dW : Wl → PyData
  | none => .none
  | some (p, s) => .tuple [dR p, dR s]
def dWs (a b : Wl) : PyData := .tuple [dW a, dW b]
abbrev Sd (x : Rat) : Prop := Sz 4000 x
def mayS (p s q t : Rat) : Bool := if p = q then decide (s < t) else decide (p < q)
def mayB (a b : Bl) : Bool := mayS a.p a.s b.p b.s
/-- of neighbours -/
def Nb {α : Type} (f : α → α → Bool) : List α → Bool
  | a :: b :: r => f a b && Nb f (b :: r)
  | _ => true
theorem nb_snoc {α : Type} {f : α → α → Bool} : ∀ {l : List α} {a : α}, Nb f l = true → (∀ b, l.getLast? = some b → f b a = true) → Nb f (l ++ [a]) = true
  | [], _, _, _ => rfl
  | [b], a, _, h => by
    show (f b a && true) = true
    rw [Bool.and_true]
    exact h b rfl
  | b :: c :: r, a, h, h2 => by
    have h' : (f b c && Nb f (c :: r)) = true := h
    obtain ⟨h3, h4⟩ := Bool.and_eq_true_iff.mp h'
    show (f b c && Nb f (c :: r ++ [a])) = true
    rw [h3, nb_snoc h4 (fun d hd => h2 d (by rw [List.getLast?_cons_cons]; exact hd))]
    rfl
structure RowOk (l : List Bl) : Prop where
  nz : l ≠ []
  le : l.length ≤ 8
  w0 : ∀ b ∈ l, 1 ≤ b.w ∧ b.w ≤ 1000
  zp : ∀ b ∈ l, Sz 300 b.p ∧ Sz 300 b.s
  nb : Nb mayB l = true
  zs : ∀ b ∈ l, Sz 80 b.s
end HL
namespace HT
open PySem PyProof.Rows
section
variable {prog : Program} {w : World} {A : Around} {E : Value → Shared → Prop} {s : Shared}
theorem places_rev (n : Nat) : Builtin.Slice.slicePlaces ((n : Int) - 1) (-1) (-1) = n := by
  unfold Builtin.Slice.slicePlaces
  have h1 : ¬ ((-1 : Int) > 0) := by omega
  have h2 : (- -1 : Int) = 1 := by decide
  simp only [h1, if_false, h2, Int.ediv_one]
  split <;> omega
theorem sliceApplied_rev {sl : Addr} {vs : Value} {n : Nat} {Q : Int × Int × Nat → Shared → Prop} (hs : s.heap.IsSliceOf sl .none .none vs) (ps : IsPart vs (some (-1)))
    (h : Q ((n : Int) - 1, -1, n) s) : wpAny (model prog w) A (Builtin.Slice.sliceApplied (.ref sl) (pure (n : Int))) Q E s := by
  obtain ⟨os, hos, hcs, hds⟩ := id hs
  unfold Builtin.Slice.sliceApplied Builtin.Slice.sliceFields
  refine wpAny_bind (wpAny_bind (wpAny_field hos hds (x := .none) rfl (wpAny_bind (wpAny_field hos hds (x := .none) rfl (wpAny_bind (wpAny_field hos hds (x := vs) rfl (wpAny_pure ?_)))))))
  refine wpAny_bind (slicePart_ ps ?_)
  show wpAny _ _ (if ((-1 : Int) == 0) = true then _ else _) _ _ s
  rw [if_neg (by decide)]
  refine wpAny_bind (slicePart_none (wpAny_bind (slicePart_none (wpAny_bind (wpAny_pure ?_)))))
  show wpAny _ _ (match Builtin.Slice.sliceAdjust none none (-1) (n : Int) with | (lo, hi) => pure (lo, (-1 : Int), Builtin.Slice.slicePlaces lo hi (-1))) _ _ s
  have e : Builtin.Slice.sliceAdjust none none (-1) (n : Int) = ((n : Int) - 1, -1) := rfl
  rw [e]
  show wpAny _ _ (pure ((n : Int) - 1, (-1 : Int), Builtin.Slice.slicePlaces ((n : Int) - 1) (-1) (-1))) _ _ s
  rw [places_rev]
  exact wpAny_pure h
theorem pick_rev (xs : Array Value) : ((List.range xs.size).filterMap fun (k : Nat) => xs[(((xs.size : Int) - 1) + (k : Int) * (-1)).toNat]?).toArray = xs.toList.reverse.toArray := by
  have e : (fun (m : Nat) => xs[(((xs.size : Int) - 1) + (m : Int) * (-1)).toNat]?) = (fun x => xs[x]?) ∘ fun m => xs.size - 1 - m := by
    funext m
    have : (((xs.size : Int) - 1) + (m : Int) * (-1)).toNat = xs.size - 1 - m := by omega
    rw [this]
    rfl
  rw [e, ← List.filterMap_map, PySem.W.krv_range, List.filterMap_reverse, PySem.W.krv_all]
theorem getItem_tuple_rev {t sl : Addr} {items : Array Value} {vs : Value} {Q : Value → Shared → Prop} (ht : IsTup s.heap t items) (hs : s.heap.IsSliceOf sl .none .none vs) (ps : IsPart vs (some (-1)))
    (h : Q (.ref s.heap.objs.size) { s with heap := s.heap.push { cls := .type "tuple", data := .seq items.toList.reverse.toArray } })
    (hsz : items.size ≤ sizeLine) : wpAny (model prog w) A (getItem (.ref t) (.ref sl)) Q E s := by
  have htake : sizeOk (.seq items.toList.reverse.toArray) := by
    show items.toList.reverse.toArray.size ≤ sizeLine
    rw [List.size_toArray, List.length_reverse, Array.length_toList]
    exact hsz
  obtain ⟨os, hos, hcs, hds⟩ := id hs
  have hTs : s.TypeIs (.ref sl) "slice" := ⟨os, hos, hcs⟩
  unfold getItem
  try with_reducible refine wpAny_holding ?_
  first | refine wpAny_bind (wpAny_pure ?_) | skip
  refine wpAny_bind (wpAny_sequenceKey ht.typeIs (by decide) ?_)
  refine wpAny_bind (wpAny_callSpecial?_slot (name := Str.ofString "__getitem__") ht.typeIs PyProof.Rows.slot_tuple_getitem
    (wpAny_call_entry PyProof.Rows.slot_tuple_getitem ht.typeIs entry_tuple_getitem ?_ (args_tuple_getitem _ _)))
  show wpAny _ _ (Builtin.Tuple.tupleItemsOf (.ref t) >>= _) _ _ s
  refine wpAny_bind (tupleItemsOf_ ht ?_)
  refine wpAny_bind (wpAny_typeOf hTs ?_)
  rw [if_pos (by decide)]
  refine wpAny_bind (sliceApplied_rev hs ps ?_)
  have hno : ¬ ((((items.size : Int) - 1) == 0 && (-1 : Int) == 1 && items.size == items.size) = true) := by
    rw [show ((-1 : Int) == 1) = false from rfl, Bool.and_false, Bool.false_and]
    exact Bool.false_ne_true
  show wpAny _ _ (if (((items.size : Int) - 1) == 0 && (-1 : Int) == 1 && items.size == items.size) = true then _ else _) _ _ s
  rw [if_neg hno, pick_rev]
  first
    | exact wpAny_bind (m := Builtin.Tuple.tupleExact _) (wpAny_newObj_type (wpAny_pure ⟨_, rfl, wpAny_pure h⟩) htake)
    | exact wpAny_bind (m := Builtin.Tuple.tupleExact _) (wpAny_newObj_type (wpAny_bind (wpAny_pure (wpAny_pure ⟨_, rfl, wpAny_pure h⟩))) htake)
    | exact wpAny_bind (wpAny_bind (m := Builtin.Tuple.tupleExact _) (wpAny_newObj_type (wpAny_pure (wpAny_pure ⟨_, rfl, wpAny_pure h⟩)) htake))
    | exact wpAny_bind (wpAny_bind (m := Builtin.Tuple.tupleExact _) (wpAny_newObj_type (wpAny_pure ⟨_, rfl, wpAny_pure h⟩) htake))
end
end HT
namespace HL
open PySem PySem.Spec PyProof.Rows L2 Evl
/-! ### xs[::-1], of lists and tuples -/
def uRev (K : KF) : V → Hp → VK → Prop := fun x H Q => ∃ a xs, x = .ref a ∧ ((SqL K H a xs ∧ ∀ p, H p = none → Q (.ref p) (upd H p (.lst xs.reverse))) ∨ (SqT K H a xs ∧ ∀ p, H p = none → Q (.ref p) (upd H p (.tup xs.reverse))))
section
variable {X : Cx}
theorem pe_rev {e : Expr} {te : TE} {k : Nat} {p1 p2 p3 pos : Pos} (he : PE X e te) : PE X (.Subscript e (.Slice none none (some (.UnaryOp .USub (.Constant (.int 1) k p1) p2)) p3) pos) (tUn (uRev X.K) te) := by
  refine ⟨fun pins s σ H Q I h => ?_⟩
  refine Subscript_ (thn (he.run pins s σ H _ I h) fun v s1 ⟨x, H1, I1, r1, q1⟩ => ?_)
  obtain ⟨a, xs, ex, q⟩ := q1
  subst ex
  cases r1
  have hst : PO X (some (.UnaryOp .USub (.Constant (.int 1) k p1) p2)) (tPart (tUn (rU fun i => .int (-i)) (tC (.int 1)))) := po_some (pe_un un_neg pe_int)
  refine wpAny_Slice (thn (po_none.run pins s1 σ H1 (fun o H2 => o = none ∧ H2 = H1) I1 ⟨rfl, rfl⟩) fun vl s2 ⟨l, H2, I2, pl, el, e2⟩ => ?_)
  subst el e2
  refine thn (po_none.run pins s2 σ H2 (fun o H3 => o = none ∧ H3 = H2) I2 ⟨rfl, rfl⟩) fun vu s3 ⟨u, H3, I3, pu, eu, e3⟩ => ?_
  subst eu e3
  refine thn (hst.run pins s3 σ H3 (fun o H4 => o = some (-1) ∧ H4 = H3) I3 ⟨1, rfl, -1, rfl, rfl, rfl⟩) fun vs s4 ⟨o, H4, I4, ps, eo, e4⟩ => ?_
  subst eo e4
  have I5 : Inv X pins σ H4 { s4 with heap := s4.heap.push { cls := .type "slice", data := .fields #[vl, vu, vs] } } := I4.kept (t' := s4.toks) fun b ob q => Heap.get?_push_of_some _ q
  show wpAny (model X.prog X.w) X.A (subscriptTail e (.Slice none none (some (.UnaryOp .USub (.Constant (.int 1) k p1) p2)) p3) (.ref a) (.ref s4.heap.objs.size)) (EP X pins σ Q) X.xe { s4 with heap := s4.heap.push { cls := .type "slice", data := .fields #[vl, vu, vs] } }
  rcases q with ⟨hx, q⟩ | ⟨hx, q⟩
  · obtain ⟨its, r, ht, hz⟩ := I5.list hx
    have hlen := r.length
    refine tail_any (ops := [.ref a, .ref s4.heap.objs.size]) ht.isList.typeIs (PySem.slot_list_getitem.lookup) ?_ (by with_unfolding_all rfl)
    refine wpAny_getItem_list_slice ht.isList (Heap.IsSliceOf.new _ vl vu vs) pl pu ps (by decide) ?_ (by rw [List.size_toArray]; omega)
    rw [PySem.W.krv_pick]
    refine ⟨.ref _, _, I5.laid (t' := s4.toks) (o := .lst xs.reverse) (fun b ob q => Heap.get?_push_of_some _ q) (Nat.le_refl _) ?_, rfl, q _ (I5.hok.fresh (Nat.le_refl _))⟩
    exact ⟨by rw [List.length_reverse]; exact hz, _, 0, r.reverse, Heap.get?_push_size _ rfl⟩
  · obtain ⟨its, r, ht, hz⟩ := I5.tuple hx
    have hlen := r.length
    refine tail_any (ops := [.ref a, .ref s4.heap.objs.size]) ht.typeIs (PyProof.Rows.slot_tuple_getitem.lookup) ?_ (by with_unfolding_all rfl)
    cases pl
    cases pu
    refine HT.getItem_tuple_rev ht (Heap.IsSliceOf.new _ .none .none vs) ps ?_ (by rw [List.size_toArray]; omega)
    refine ⟨.ref _, _, I5.laid (t' := s4.toks) (o := .tup xs.reverse) (fun b ob q => Heap.get?_push_of_some _ q) (Nat.le_refl _) ?_, rfl, q _ (I5.hok.fresh (Nat.le_refl _))⟩
    exact ⟨by rw [List.length_reverse]; exact hz, _, r.reverse, IsTup.new _ _⟩
end
section
variable {K : KF} {Ω : Om} {R : DV → Om → Prop}
theorem dps_rev {K : KF} {G : Hp} : ∀ {vs : List V} {xs : List PyData}, DpAll K G vs xs → DpAll K G vs.reverse xs.reverse
  | _, _, .nil => .nil
  | _, _, .cons a b => by rw [List.reverse_cons, List.reverse_cons]; exact dps_app (dps_rev b) (.cons a .nil)
theorem wu_revL {d : DV} {xs : List PyData} (hx : lsL Ω d = some xs) (q : R (.d (.list xs.reverse)) Ω) : WU K (uRev K) d Ω R := fun m G H v Q c r k => by
  obtain ⟨a, vs, rfl, hs, rp⟩ := lsL_get c r hx
  refine ⟨a, vs, rfl, .inl ⟨hs, fun p hp => ?_⟩⟩
  obtain ⟨c2, n2⟩ := c.frz hp (.lst vs.reverse)
  exact k _ _ _ _ (.d (.list xs.reverse)) _ c2 n2 (Nat.le_refl _) (.lst (sq_of upd_same) (dps_ex n2.gg _ _ (dps_rev rp))) q
theorem wu_revT {xs : List PyData} (q : R (.d (.tuple xs.reverse)) Ω) : WU K (uRev K) (.d (.tuple xs)) Ω R := fun m G H v Q c r k => by
  obtain ⟨a, vs, rfl, hs, rp⟩ := lsT_get c r rfl
  refine ⟨a, vs, rfl, .inr ⟨ex_t c.ex hs, fun p hp => ?_⟩⟩
  obtain ⟨c2, n2⟩ := c.frz hp (.tup vs.reverse)
  exact k _ _ _ _ (.d (.tuple xs.reverse)) _ c2 n2 (Nat.le_refl _) (.tup (st_of upd_same) (dps_ex n2.gg _ _ (dps_rev rp))) q
end
/-! ### zip, enumerate -/
def zipD (xs ys : List PyData) : List DV := (xs.zip ys).map fun p => DV.d (.tuple [p.1, p.2])
def enumD (xs : List PyData) : List DV := (List.range xs.length).map fun i => DV.d (.tuple [.int (i : Nat), xs.getD i .none])
theorem zipD_get {xs ys : List PyData} {i : Nat} {y : DV} (h : (zipD xs ys)[i]? = some y) : ∃ a b, xs[i]? = some a ∧ ys[i]? = some b ∧ y = .d (.tuple [a, b]) := by
  unfold zipD at h
  rw [List.getElem?_map] at h
  cases hz : (xs.zip ys)[i]? with
  | none => rw [hz] at h; cases h
  | some p =>
    rw [hz] at h
    cases h
    obtain ⟨h1, h2⟩ := List.getElem?_zip_eq_some.mp hz
    exact ⟨_, _, h1, h2, rfl⟩
theorem dps_get {K : KF} {G : Hp} : ∀ {vs : List V} {xs : List PyData}, DpAll K G vs xs → ∀ {i : Nat} {x : PyData}, xs[i]? = some x → ∃ v, vs[i]? = some v ∧ Dp K G v x
  | _, _, .nil, i, x, e => by rw [List.getElem?_nil] at e; cases e
  | _, _, .cons a b, 0, x, e => by cases e; exact ⟨_, rfl, a⟩
  | _, _, .cons a b, i + 1, x, e => by rw [List.getElem?_cons_succ] at e ⊢; exact dps_get b e
section
variable {K : KF} {W : WX} {Γ : Gm} {Ω : Om} {X : Exc → Om → Prop} {Rc : List DV → (Om → Prop) → Om → Prop} {te : TE} {ta : TA}
theorem itok_zipL {m1 : Mp} {G1 : Hp} {n1 : Nat} {d e : DV} {xs ys : List PyData} {a b : Addr} (r : RV K m1 G1 n1 d (.ref a)) (r2 : RV K m1 G1 n1 e (.ref b)) :
    ItOk K (Itz K a b) (zipD xs ys) (fun Ω' => lsL Ω' d = some xs ∧ lsL Ω' e = some ys) m1 G1 n1 := fun m' G' Ω' H' c' n' l' st i => by
  obtain ⟨a', vs, ea, hs, rp⟩ := lsL_get c' (RV.mono n' l' r) st.1
  cases ea
  obtain ⟨b', ws, eb, hw, rq⟩ := lsL_get c' (RV.mono n' l' r2) st.2
  cases eb
  have el := dps_len rp
  have el2 := dps_len rq
  refine ⟨fun h => ⟨vs, ws, hs, hw, ?_⟩, fun y hy => ?_⟩
  · unfold zipD at h
    rw [List.length_map, List.length_zip] at h
    omega
  · obtain ⟨x1, y1, h1, h2, rfl⟩ := zipD_get hy
    obtain ⟨u, hu, ru⟩ := dps_get rp h1
    obtain ⟨z, hz, rz⟩ := dps_get rq h2
    refine ⟨⟨vs, ws, u, z, hs, hw, hu, hz⟩, fun v H'' ⟨T, x, y, e1, hT, e2, k1, k2⟩ => ?_⟩
    subst e1 e2
    have ex : u = x := Option.some.inj (hu.symm.trans (k1 vs hs))
    have ey : z = y := Option.some.inj (hz.symm.trans (k2 ws hw))
    subst ex ey
    obtain ⟨c2, n2⟩ := c'.frz hT (.tup [u, z])
    exact ⟨_, c2, n2.gg, .tup (st_of upd_same) (.cons (dp_ex n2.gg _ _ ru) (.cons (dp_ex n2.gg _ _ rz) .nil))⟩
theorem itok_zipT {m1 : Mp} {G1 : Hp} {n1 : Nat} {xs ys : List PyData} {a b : Addr} (r : RV K m1 G1 n1 (.d (.tuple xs)) (.ref a)) (r2 : RV K m1 G1 n1 (.d (.tuple ys)) (.ref b)) :
    ItOk K (RZ.ItzT K a b) (zipD xs ys) (fun _ => True) m1 G1 n1 := fun m' G' Ω' H' c' n' l' st i => by
  obtain ⟨a', vs, ea, hs, rp⟩ := lsT_get c' (RV.mono n' l' r) rfl
  cases ea
  obtain ⟨b', ws, eb, hw, rq⟩ := lsT_get c' (RV.mono n' l' r2) rfl
  cases eb
  have hs := ex_t c'.ex hs
  have hw := ex_t c'.ex hw
  have el := dps_len rp
  have el2 := dps_len rq
  refine ⟨fun h => ⟨vs, ws, hs, hw, ?_⟩, fun y hy => ?_⟩
  · unfold zipD at h
    rw [List.length_map, List.length_zip] at h
    omega
  · obtain ⟨x1, y1, h1, h2, rfl⟩ := zipD_get hy
    obtain ⟨u, hu, ru⟩ := dps_get rp h1
    obtain ⟨z, hz, rz⟩ := dps_get rq h2
    refine ⟨⟨vs, ws, u, z, hs, hw, hu, hz⟩, fun v H'' ⟨T, x, y, e1, hT, e2, k1, k2⟩ => ?_⟩
    subst e1 e2
    have ex : u = x := Option.some.inj (hu.symm.trans (k1 vs hs))
    have ey : z = y := Option.some.inj (hz.symm.trans (k2 ws hw))
    subst ex ey
    obtain ⟨c2, n2⟩ := c'.frz hT (.tup [u, z])
    exact ⟨_, c2, n2.gg, .tup (st_of upd_same) (.cons (dp_ex n2.gg _ _ ru) (.cons (dp_ex n2.gg _ _ rz) .nil))⟩
theorem itok_enum {m1 : Mp} {G1 : Hp} {n1 : Nat} {d : DV} {xs : List PyData} {a : Addr} (r : RV K m1 G1 n1 d (.ref a)) :
    ItOk K (Ite K a) (enumD xs) (fun Ω' => lsL Ω' d = some xs) m1 G1 n1 := fun m' G' Ω' H' c' n' l' st i => by
  obtain ⟨a', vs, ea, hs, rp⟩ := lsL_get c' (RV.mono n' l' r) st
  cases ea
  have el := dps_len rp
  refine ⟨fun h => ⟨vs, hs, ?_⟩, fun y hy => ?_⟩
  · unfold enumD at h
    rw [List.length_map, List.length_range] at h
    omega
  · obtain ⟨hi, rfl⟩ := rng_get hy
    have hg : xs[i]? = some (xs.getD i .none) := by rw [List.getD_eq_getElem?_getD, List.getElem?_eq_getElem hi]; rfl
    obtain ⟨u, hu, ru⟩ := dps_get rp hg
    refine ⟨⟨vs, u, hs, hu⟩, fun v H'' ⟨T, x, e1, hT, e2, k1⟩ => ?_⟩
    subst e1 e2
    have ex : u = x := Option.some.inj (hu.symm.trans (k1 vs hs))
    subst ex
    obtain ⟨c2, n2⟩ := c'.frz hT (.tup [.int (i : Nat), u])
    exact ⟨_, c2, n2.gg, .tup (st_of upd_same) (.cons (.int _) (.cons (dp_ex n2.gg _ _ ru) .nil))⟩
theorem wi_zipL (h : WA K W ta Γ Ω (fun ds Ω1 => ∃ d e xs ys, ds = [d, e] ∧ lsL Ω1 d = some xs ∧ lsL Ω1 e = some ys ∧ Rc (zipD xs ys) (fun Ω' => lsL Ω' d = some xs ∧ lsL Ω' e = some ys) Ω1) X) : WI K W (RZ.iZipA K ta) Γ Ω Rc X := fun m G H σ R c s x k =>
  h m G H σ _ c s (fun m1 G1 Ω1 H1 ds vs c1 n1 l1 r1 ⟨d, e, xs, ys, e1, e2, e3, q⟩ => by
    subst e1
    cases r1 with
    | cons ra rr =>
      cases rr with
      | cons rb rr =>
        cases rr
        obtain ⟨a, us, rfl, hs, rp⟩ := lsL_get c1 ra e2
        obtain ⟨b, ws, rfl, hw, rq⟩ := lsL_get c1 rb e3
        exact ⟨a, b, us, ws, rfl, .inl ⟨hs, hw, k m1 G1 Ω1 H1 _ _ _ c1 n1 l1 (itok_zipL ra rb) q⟩⟩) x
theorem wi_zipT (h : WA K W ta Γ Ω (fun ds Ω1 => ∃ xs ys, ds = [.d (.tuple xs), .d (.tuple ys)] ∧ Rc (zipD xs ys) (fun _ => True) Ω1) X) : WI K W (RZ.iZipA K ta) Γ Ω Rc X := fun m G H σ R c s x k =>
  h m G H σ _ c s (fun m1 G1 Ω1 H1 ds vs c1 n1 l1 r1 ⟨xs, ys, e1, q⟩ => by
    subst e1
    cases r1 with
    | cons ra rr =>
      cases rr with
      | cons rb rr =>
        cases rr
        obtain ⟨a, us, rfl, hs, rp⟩ := lsT_get c1 ra rfl
        obtain ⟨b, ws, rfl, hw, rq⟩ := lsT_get c1 rb rfl
        exact ⟨a, b, us, ws, rfl, .inr ⟨ex_t c1.ex hs, ex_t c1.ex hw, k m1 G1 Ω1 H1 _ _ _ c1 n1 l1 (itok_zipT ra rb) q⟩⟩) x
theorem wi_enumL (h : WA K W ta Γ Ω (fun ds Ω1 => ∃ d xs, ds = [d] ∧ lsL Ω1 d = some xs ∧ Rc (enumD xs) (fun Ω' => lsL Ω' d = some xs) Ω1) X) : WI K W (iEnum K ta) Γ Ω Rc X := fun m G H σ R c s x k =>
  h m G H σ _ c s (fun m1 G1 Ω1 H1 ds vs c1 n1 l1 r1 ⟨d, xs, e1, e2, q⟩ => by
    subst e1
    cases r1 with
    | cons ra rr =>
      cases rr
      obtain ⟨a, us, rfl, hs, rp⟩ := lsL_get c1 ra e2
      exact ⟨a, us, rfl, hs, k m1 G1 Ω1 H1 _ _ _ c1 n1 l1 (itok_enum ra) q⟩) x
end
/-! ### balls, read -/
section
variable {K : KF} {W : WX} {Γ : Gm} {Ω : Om} {R : DV → Om → Prop} {X : Exc → Om → Prop} {Rc : List DV → (Om → Prop) → Om → Prop} {te : TE} {ta : TA}
theorem wr_ixB0 {b : Bl} (q : R (.d (dR b.p)) Ω) : WR K (rIx K) (.d (dB b)) (.d (.int 0)) Ω R := wr_ixT rfl q
theorem wr_ixB1 {b : Bl} (q : R (.d (dR b.s)) Ω) : WR K (rIx K) (.d (dB b)) (.d (.int 1)) Ω R := wr_ixT rfl q
theorem wr_ixB2 {b : Bl} (q : R (.d (.int b.w)) Ω) : WR K (rIx K) (.d (dB b)) (.d (.int 2)) Ω R := wr_ixT rfl q
/-- a tuple, a list of data walked, the items told by F -/
theorem wi_T {α : Type} (F : α → PyData) (l : List α) (h : WE K W te Γ Ω (fun d Ω1 => d = .d (.tuple (l.map F)) ∧ Rc (l.map fun a => .d (F a)) (fun _ => True) Ω1) X) : WI K W (iSeq K te) Γ Ω Rc X :=
  wi_seqT (fun m G H σ Q c s k x => h m G H σ Q c s (fun m1 G1 Ω1 H1 d v c1 n1 l1 r1 ⟨e, q⟩ => k m1 G1 Ω1 H1 d v c1 n1 l1 r1 ⟨_, e, by rw [List.map_map]; exact q⟩) x)
theorem wi_L {α : Type} (F : α → PyData) (l : List α) (h : WE K W te Γ Ω (fun d Ω1 => d = .d (.list (l.map F)) ∧ Rc (l.map fun a => .d (F a)) (fun _ => True) Ω1) X) : WI K W (iSeq K te) Γ Ω Rc X :=
  wi_seqL (fun m G H σ Q c s k x => h m G H σ Q c s (fun m1 G1 Ω1 H1 d v c1 n1 l1 r1 ⟨e, q⟩ => k m1 G1 Ω1 H1 d v c1 n1 l1 r1 ⟨l.map fun a => .d (F a), by subst e; show some ((l.map F).map DV.d) = _; rw [List.map_map]; rfl, by
    refine Eq.mp ?_ q
    congr 1
    funext Ω'
    subst e
    refine (eq_true ?_).symm
    show some ((l.map F).map DV.d) = _
    rw [List.map_map]; rfl⟩) x)
end
/-! ### sums of ratios -/
def sumR : List Rat → Rat
  | [] => 0
  | a :: l => a + sumR l
theorem sumR_app : ∀ (l r : List Rat), sumR (l ++ r) = sumR l + sumR r
  | [], r => by show sumR r = 0 + sumR r; rw [Rat.zero_add]
  | a :: l, r => by show a + sumR (l ++ r) = a + sumR l + sumR r; rw [sumR_app l r, Rat.add_assoc]
theorem sumR_snoc (l : List Rat) (a : Rat) : sumR (l ++ [a]) = sumR l + a := by
  rw [sumR_app]
  show _ + (a + 0) = _
  rw [Rat.add_zero]
theorem sumR_rev : ∀ (l : List Rat), sumR l.reverse = sumR l
  | [] => rfl
  | a :: l => by rw [List.reverse_cons, sumR_snoc, sumR_rev l, Rat.add_comm]; rfl
theorem sz_zero {n : Nat} (h : 0 < n) : Sz n 0 := ⟨Nat.two_pow_pos n, Nat.one_lt_two_pow (by omega)⟩
theorem sumR_sz {n : Nat} : ∀ {l : List Rat}, (∀ q ∈ l, Sz n q) → Sz ((n + 1) * l.length + 1) (sumR l)
  | [], _ => sz_zero (by omega)
  | a :: l, h => by
    have h1 := h a (List.mem_cons_self ..)
    have h2 := sumR_sz (l := l) fun q hq => h q (List.mem_cons_of_mem _ hq)
    refine (h1.add h2).mono ?_
    rw [List.length_cons, Nat.mul_add]
    omega
theorem sumR_neg : ∀ (l : List Rat), sumR (l.map fun q => -q) = -sumR l
  | [] => rfl
  | a :: l => by
    show -a + sumR (l.map fun q => -q) = -(a + sumR l)
    rw [sumR_neg l]; grind
theorem sumR_nonneg : ∀ {l : List Rat}, (∀ q ∈ l, 0 ≤ q) → 0 ≤ sumR l
  | [], _ => Rat.le_refl
  | a :: l, h => by
    have h1 := h a (List.mem_cons_self ..)
    have h2 := sumR_nonneg (l := l) fun q hq => h q (List.mem_cons_of_mem _ hq)
    show 0 ≤ a + sumR l
    grind
theorem sumR_le : ∀ {l r : List Rat}, Paired (fun a b => a ≤ b) l r → sumR l ≤ sumR r
  | _, _, .nil => Rat.le_refl
  | _, _, .cons a b => by
    have h2 := sumR_le b
    show _ + _ ≤ _ + _
    grind
def wsum (l : List Bl) : Int := (l.map fun b => b.w).sum
theorem wsum_cast : ∀ (l : List Bl), sumR (l.map fun b => (b.w : Rat)) = (wsum l : Rat)
  | [] => rfl
  | a :: l => by
    show (a.w : Rat) + sumR (l.map fun b => (b.w : Rat)) = ((a.w + wsum l : Int) : Rat)
    rw [wsum_cast l, Rat.intCast_add]
def weighed (f : Bl → Rat) (l : List Bl) : Rat := sumR (l.map fun b => (b.w : Rat) * f b)
theorem weighed_ge {f : Bl → Rat} {c : Rat} : ∀ {l : List Bl}, (∀ b ∈ l, 0 ≤ b.w ∧ c ≤ f b) → c * (wsum l : Rat) ≤ weighed f l
  | [], _ => by show c * ((0 : Int) : Rat) ≤ 0; rw [Rat.intCast_zero, Rat.mul_zero]; exact Rat.le_refl
  | a :: l, h => by
    have h1 := h a (List.mem_cons_self ..)
    have h2 := weighed_ge (l := l) fun q hq => h q (List.mem_cons_of_mem _ hq)
    show c * ((a.w + wsum l : Int) : Rat) ≤ (a.w : Rat) * f a + weighed f l
    have h3 : (a.w : Rat) * c ≤ (a.w : Rat) * f a := Rat.mul_le_mul_of_nonneg_left h1.2 (Rat.intCast_nonneg.mpr h1.1)
    rw [Rat.intCast_add, Rat.mul_add]
    grind
theorem weighed_le {f : Bl → Rat} {c : Rat} : ∀ {l : List Bl}, (∀ b ∈ l, 0 ≤ b.w ∧ f b ≤ c) → weighed f l ≤ c * (wsum l : Rat)
  | [], _ => by show (0 : Rat) ≤ c * ((0 : Int) : Rat); rw [Rat.intCast_zero, Rat.mul_zero]; exact Rat.le_refl
  | a :: l, h => by
    have h1 := h a (List.mem_cons_self ..)
    have h2 := weighed_le (l := l) fun q hq => h q (List.mem_cons_of_mem _ hq)
    show (a.w : Rat) * f a + weighed f l ≤ c * ((a.w + wsum l : Int) : Rat)
    have h3 : (a.w : Rat) * f a ≤ (a.w : Rat) * c := Rat.mul_le_mul_of_nonneg_left h1.2 (Rat.intCast_nonneg.mpr h1.1)
    rw [Rat.intCast_add, Rat.mul_add]
    grind
theorem wsum_pos : ∀ {l : List Bl}, l ≠ [] → (∀ b ∈ l, 1 ≤ b.w) → 1 ≤ wsum l
  | [], h, _ => absurd rfl h
  | [a], _, h => by have := h a (List.mem_cons_self ..); show 1 ≤ a.w + 0; omega
  | a :: b :: l, _, h => by
    have h1 := h a (List.mem_cons_self ..)
    have h2 := wsum_pos (l := b :: l) (by simp) fun q hq => h q (List.mem_cons_of_mem _ hq)
    show 1 ≤ a.w + wsum (b :: l)
    omega
theorem wsum_le {m : Int} (h0 : 0 ≤ m) : ∀ {l : List Bl}, (∀ b ∈ l, b.w ≤ m) → wsum l ≤ m * l.length
  | [], _ => by show (0 : Int) ≤ m * (0 : Nat); omega
  | a :: l, h => by
    have h1 := h a (List.mem_cons_self ..)
    have h2 := wsum_le h0 (l := l) fun q hq => h q (List.mem_cons_of_mem _ hq)
    show a.w + wsum l ≤ m * ((l.length + 1 : Nat) : Int)
    rw [Int.natCast_add, Int.mul_add]
    simp only [Int.natCast_one, Int.mul_one]
    omega
/-- of neighbours, if the relation goes on: of the first and each -/
theorem nb_head {α : Type} {f : α → α → Bool} {g : α → α → Prop} (hf : ∀ a b, f a b = true → g a b) (ht : ∀ a b c, g a b → g b c → g a c) (hr : ∀ a, g a a) : ∀ {a : α} {l : List α}, Nb f (a :: l) = true → ∀ b ∈ a :: l, g a b
  | a, [], _, b, hb => by rw [List.mem_singleton.mp hb]; exact hr a
  | a, c :: l, h, b, hb => by
    obtain ⟨h1, h2⟩ := Bool.and_eq_true_iff.mp (show (f a c && Nb f (c :: l)) = true from h)
    rcases List.mem_cons.mp hb with rfl | hb
    · exact hr _
    · exact ht _ _ _ (hf _ _ h1) (nb_head hf ht hr h2 b hb)
theorem nb_last {α : Type} {f : α → α → Bool} {g : α → α → Prop} (hf : ∀ a b, f a b = true → g a b) (ht : ∀ a b c, g a b → g b c → g a c) (hr : ∀ a, g a a) : ∀ {l : List α} {z : α}, Nb f l = true → l.getLast? = some z → ∀ b ∈ l, g b z
  | [], _, _, _, b, hb => by cases hb
  | [a], z, _, hz, b, hb => by cases hz; rw [List.mem_singleton.mp hb]; exact hr _
  | a :: c :: l, z, h, hz, b, hb => by
    obtain ⟨h1, h2⟩ := Bool.and_eq_true_iff.mp (show (f a c && Nb f (c :: l)) = true from h)
    have ih := nb_last hf ht hr h2 (by rw [List.getLast?_cons_cons] at hz; exact hz)
    rcases List.mem_cons.mp hb with rfl | hb
    · exact ht _ _ _ (hf _ _ h1) (ih c (List.mem_cons_self ..))
    · exact ih b hb
theorem may_le {a b : Bl} (h : mayB a b = true) : a.p ≤ b.p := by
  unfold mayB mayS at h
  split at h
  · rename_i e; rw [e]; exact Rat.le_refl
  · exact Rat.le_of_lt (of_decide_eq_true h)
def negB (b : Bl) : Bl := ⟨-b.p, -b.s, b.w⟩
theorem dR_int (a : Int) : dR (a : Rat) = .tuple [.int a, .int 1] := rfl
theorem divInt_one (a : Int) : Rat.divInt a 1 = (a : Rat) := by
  rw [Rat.divInt_eq_div, Rat.intCast_one, Rat.div_def, Rat.inv_eq_of_mul_eq_one (a := 1) (b := 1) (by rw [Rat.mul_one]), Rat.mul_one]
theorem lmap_get {α β : Type} {l : List α} {f : α → β} {i : Nat} {y : β} (h : (l.map f)[i]? = some y) : ∃ a, y = f a ∧ l[i]? = some a ∧ a ∈ l ∧ i < l.length ∧ l.take (i + 1) = l.take i ++ [a] := by
  rw [List.getElem?_map] at h
  cases ea : l[i]? with
  | none => rw [ea] at h; cases h
  | some a =>
    rw [ea] at h
    cases h
    exact ⟨a, rfl, rfl, List.mem_of_getElem? ea, lt_of_get ea, by rw [List.take_add_one, ea]; rfl⟩
theorem weighed_snoc (f : Bl → Rat) (l : List Bl) (b : Bl) : weighed f (l ++ [b]) = weighed f l + (b.w : Rat) * f b := by
  unfold weighed
  rw [List.map_append, List.map_singleton, sumR_snoc]
theorem only1 {i : Nat} : Only (gName i) [i] := only_name (List.mem_singleton.mpr rfl)
theorem filter_yes {α : Type} (l : List α) : l.filter (fun _ => true) = l := List.filter_eq_self.mpr fun _ _ => rfl
/-- between its first and its last place -/
theorem mid_ge {l : List Bl} {a : Bl} (hn : Nb mayB l = true) (hw : ∀ b ∈ l, 1 ≤ b.w) (h : l.head? = some a) : a.p ≤ weighed (fun b => b.p) l / (wsum l : Rat) := by
  cases l with
  | nil => cases h
  | cons c r =>
    cases h
    have h1 := nb_head (f := mayB) (g := fun a b => a.p ≤ b.p) (fun a b h => may_le h) (fun a b c h1 h2 => Rat.le_trans h1 h2) (fun a => Rat.le_refl) hn
    have h2 := weighed_ge (f := fun b => b.p) (c := a.p) (l := a :: r) fun b hb => ⟨by have := hw b hb; omega, h1 b hb⟩
    have h3 := wsum_pos (l := a :: r) (by simp) hw
    have h4 : (0 : Rat) < (wsum (a :: r) : Rat) := Rat.intCast_pos.mpr (by omega)
    have h5 := Rat.mul_le_mul_of_nonneg_right h2 (Rat.le_of_lt (Rat.inv_pos.mpr h4))
    rw [Rat.mul_assoc, Rat.mul_inv_cancel _ (fun e => by rw [e] at h4; exact absurd h4 (Rat.lt_irrefl)), Rat.mul_one] at h5
    rw [Rat.div_def]
    exact h5
theorem mid_le {l : List Bl} {z : Bl} (hn : Nb mayB l = true) (hw : ∀ b ∈ l, 1 ≤ b.w) (h : l.getLast? = some z) : weighed (fun b => b.p) l / (wsum l : Rat) ≤ z.p := by
  have h0 : l ≠ [] := fun e => by rw [e] at h; cases h
  have h1 := nb_last (f := mayB) (g := fun a b => a.p ≤ b.p) (fun a b h => may_le h) (fun a b c h1 h2 => Rat.le_trans h1 h2) (fun a => Rat.le_refl) hn h
  have h2 := weighed_le (f := fun b => b.p) (c := z.p) (l := l) fun b hb => ⟨by have := hw b hb; omega, h1 b hb⟩
  have h3 := wsum_pos h0 hw
  have h4 : (0 : Rat) < (wsum l : Rat) := Rat.intCast_pos.mpr (by omega)
  have h5 := Rat.mul_le_mul_of_nonneg_right h2 (Rat.le_of_lt (Rat.inv_pos.mpr h4))
  rw [Rat.mul_assoc, Rat.mul_inv_cancel _ (fun e => by rw [e] at h4; exact absurd h4 (Rat.lt_irrefl)), Rat.mul_one] at h5
  rw [Rat.div_def]
  exact h5
theorem wsum_rev (l : List Bl) : wsum l.reverse = wsum l := by
  unfold wsum
  rw [List.map_reverse, List.sum_reverse]
theorem wsum_neg (l : List Bl) : wsum (l.map negB) = wsum l := by
  unfold wsum
  rw [List.map_map]
  rfl
theorem weighed_rev (f : Bl → Rat) (l : List Bl) : weighed f l.reverse = weighed f l := by
  unfold weighed
  rw [List.map_reverse, sumR_rev]
theorem push_neg (l : List Bl) : weighed (fun b => b.s) (l.map negB) = -weighed (fun b => b.s) l := by
  unfold weighed
  rw [← sumR_neg, List.map_map, List.map_map]
  congr 1
  refine List.map_congr_left fun b _ => ?_
  show (b.w : Rat) * -b.s = -((b.w : Rat) * b.s)
  grind
theorem energy_neg (l : List Bl) : weighed (fun b => b.s * b.s) (l.map negB) = weighed (fun b => b.s * b.s) l := by
  unfold weighed
  rw [List.map_map]
  congr 1
  refine List.map_congr_left fun b _ => ?_
  show (b.w : Rat) * (-b.s * -b.s) = (b.w : Rat) * (b.s * b.s)
  grind
theorem energy_nonneg {l : List Bl} (h : ∀ b ∈ l, 1 ≤ b.w) : 0 ≤ weighed (fun b => b.s * b.s) l := by
  refine sumR_nonneg fun q hq => ?_
  obtain ⟨b, hb, rfl⟩ := List.mem_map.mp hq
  have hw := h b hb
  refine Rat.mul_nonneg (Rat.intCast_nonneg.mpr (by omega)) ?_
  show 0 ≤ b.s * b.s
  rcases Rat.le_total (a := 0) (b := b.s) with h | h
  · exact Rat.mul_nonneg h h
  · have := Rat.mul_nonneg (a := -b.s) (b := -b.s) (by grind) (by grind)
    grind
theorem num_nonneg {q : Rat} (h : 0 ≤ q) : 0 ≤ q.num := Rat.num_nonneg.mpr h
section
variable {K : KF} {Γ : Gm} {Ω : Om} {S : Gm → Om → Prop} {gs : TGs}
theorem wg_tupR {q : Rat} (h : WGs K gs [.d (.int q.num), .d (.int q.den)] Γ Ω S) : WG K (gTup K 2 gs) (.d (dR q)) Γ Ω S := wg_tup (xs := [.int q.num, .int q.den]) rfl h
theorem wg_tupB {b : Bl} (h : WGs K gs [.d (dR b.p), .d (dR b.s), .d (.int b.w)] Γ Ω S) : WG K (gTup K 3 gs) (.d (dB b)) Γ Ω S := wg_tup (xs := [dR b.p, dR b.s, .int b.w]) rfl h
end
theorem wu_revRow {K : KF} {Ω : Om} {R : DV → Om → Prop} {l : List Bl} (q : R (.d (dRow l.reverse)) Ω) : WU K (uRev K) (.d (dRow l)) Ω R :=
  wu_revT (xs := l.map dB) (by rw [← List.map_reverse]; exact q)
/-! ### things that may be none of these -/
/-- numbers not too great, no dicts, to a depth -/
def Fit : Nat → PyData → Prop
  | _, .int a => a.natAbs < 2 ^ 4000
  | n + 1, .tuple xs => ∀ x ∈ xs, Fit n x
  | _, x => known x = true
theorem fit_known {n : Nat} {x : PyData} (h : Fit n x) : known x = true := by
  cases x with
  | dict d => cases n <;> exact h
  | _ => rfl
theorem fit_mem {n : Nat} {xs : List PyData} (h : Fit (n + 1) (.tuple xs)) {x : PyData} (hx : x ∈ xs) : Fit n x := h x hx
theorem isTuple_eq {x : PyData} (h : isTuple x = true) : ∃ xs, x = .tuple xs := by
  cases x with
  | tuple xs => exact ⟨xs, rfl⟩
  | _ => cases h
def isRatio : PyData → Bool
  | .tuple [.int a, .int b] => decide (0 < b) && decide (Int.gcd a b = 1)
  | _ => false
theorem isRatio_eq {x : PyData} (h : isRatio x = true) : ∃ q : Rat, x = dR q := by
  unfold isRatio at h
  split at h
  · rename_i a b
    obtain ⟨h1, h2⟩ := Bool.and_eq_true_iff.mp h
    have h1 := of_decide_eq_true h1
    have h2 := of_decide_eq_true h2
    refine ⟨Rat.divInt a b, ?_⟩
    have hb : b ≠ 0 := by omega
    rw [dR_eq hb]
    unfold byOf
    rw [if_neg (by omega), h2]
    simp
  · cases h
theorem isRatio_dR (q : Rat) : isRatio (dR q) = true := by
  show (decide (0 < (q.den : Int)) && decide (Int.gcd q.num q.den = 1)) = true
  rw [decide_eq_true (den_pos q), Bool.true_and]
  refine decide_eq_true ?_
  have := q.reduced
  unfold Nat.Coprime at this
  unfold Int.gcd
  simpa using this
theorem fit_dR {n : Nat} {q : Rat} (h : Fit (n + 1) (dR q)) : Sz 4000 q := by
  have h1 : Fit n (.int q.num) := fit_mem h (List.mem_cons_self ..)
  have h2 : Fit n (.int q.den) := fit_mem h (List.mem_cons_of_mem _ (List.mem_cons_self ..))
  have h1 : q.num.natAbs < 2 ^ 4000 := by cases n <;> exact h1
  have h2 : (q.den : Int).natAbs < 2 ^ 4000 := by cases n <;> exact h2
  exact ⟨h1, by simpa using h2⟩
theorem fit_ofR {n : Nat} {q : Rat} (h : Sz 4000 q) : Fit (n + 1) (dR q) := by
  intro x hx
  rcases List.mem_cons.mp hx with rfl | hx
  · cases n <;> exact h.num
  · rw [List.mem_singleton.mp hx]
    have : (q.den : Int).natAbs < 2 ^ 4000 := by have := h.den; simpa using this
    cases n <;> exact this
def ratOf : PyData → Rat
  | .tuple [.int a, .int b] => Rat.divInt a b
  | _ => 0
theorem ratOf_dR (q : Rat) : ratOf (dR q) = q := Rat.num_divInt_den q
def isWall : PyData → Bool
  | .none => true
  | .tuple [x, y] => isRatio x && isRatio y
  | _ => false
theorem isWall_eq {x : PyData} (h : isWall x = true) : ∃ w : Wl, x = dW w := by
  unfold isWall at h
  split at h
  · exact ⟨none, rfl⟩
  · obtain ⟨h1, h2⟩ := Bool.and_eq_true_iff.mp h
    obtain ⟨p, rfl⟩ := isRatio_eq h1
    obtain ⟨s, rfl⟩ := isRatio_eq h2
    exact ⟨some (p, s), rfl⟩
  · cases h
theorem isWall_dW (w : Wl) : isWall (dW w) = true := by
  cases w with
  | none => rfl
  | some w =>
    show (isRatio (dR w.1) && isRatio (dR w.2)) = true
    rw [isRatio_dR, isRatio_dR]; rfl
def isBall : PyData → Bool
  | .tuple [x, y, .int w] => isRatio x && (isRatio y && (decide (1 ≤ w) && decide (w ≤ 1000)))
  | _ => false
theorem isBall_eq {x : PyData} (h : isBall x = true) : ∃ b : Bl, x = dB b ∧ 1 ≤ b.w ∧ b.w ≤ 1000 := by
  unfold isBall at h
  split at h
  · obtain ⟨h1, h⟩ := Bool.and_eq_true_iff.mp h
    obtain ⟨h2, h⟩ := Bool.and_eq_true_iff.mp h
    obtain ⟨h3, h4⟩ := Bool.and_eq_true_iff.mp h
    obtain ⟨p, rfl⟩ := isRatio_eq h1
    obtain ⟨s, rfl⟩ := isRatio_eq h2
    exact ⟨⟨p, s, _⟩, rfl, of_decide_eq_true h3, of_decide_eq_true h4⟩
  · cases h
theorem isBall_dB {b : Bl} (h : 1 ≤ b.w ∧ b.w ≤ 1000) : isBall (dB b) = true := by
  show (isRatio (dR b.p) && (isRatio (dR b.s) && (decide (1 ≤ b.w) && decide (b.w ≤ 1000)))) = true
  rw [isRatio_dR, isRatio_dR, decide_eq_true h.1, decide_eq_true h.2]; rfl
def ballOf : PyData → Bl
  | .tuple [x, y, .int w] => ⟨ratOf x, ratOf y, w⟩
  | _ => ⟨0, 0, 0⟩
theorem ballOf_dB (b : Bl) : ballOf (dB b) = b := by
  show (⟨ratOf (dR b.p), ratOf (dR b.s), b.w⟩ : Bl) = b
  rw [ratOf_dR, ratOf_dR]
theorem balls_eq : ∀ {xs : List PyData}, xs.all isBall = true → xs = (xs.map ballOf).map dB ∧ ∀ b ∈ xs.map ballOf, 1 ≤ b.w ∧ b.w ≤ 1000
  | [], _ => ⟨rfl, fun _ h => by cases h⟩
  | x :: xs, h => by
    obtain ⟨h1, h2⟩ := Bool.and_eq_true_iff.mp (show (isBall x && xs.all isBall) = true from h)
    obtain ⟨e, hw⟩ := balls_eq h2
    obtain ⟨b, rfl, hb⟩ := isBall_eq h1
    refine ⟨?_, fun c hc => ?_⟩
    · rw [List.map_cons, List.map_cons, ← e, ballOf_dB]
    · rw [List.map_cons, ballOf_dB] at hc
      rcases List.mem_cons.mp hc with rfl | hc
      · exact hb
      · exact hw c hc
theorem balls_of {l : List Bl} (h : ∀ b ∈ l, 1 ≤ b.w ∧ b.w ≤ 1000) : (l.map dB).all isBall = true ∧ (l.map dB).map ballOf = l := by
  refine ⟨?_, ?_⟩
  · rw [List.all_map, List.all_eq_true]
    exact fun b hb => isBall_dB (h b hb)
  · rw [List.map_map]
    have : (ballOf ∘ dB) = id := funext ballOf_dB
    rw [this, List.map_id]
def withinS (p s q t : Rat) : Bool := decide (p = q ∧ s = t) || mayS p s q t
def lowOk : Wl → List Bl → Bool
  | some (p, s), c :: _ => withinS p s c.p c.s
  | _, _ => true
def highOk : Wl → List Bl → Bool
  | some (p, s), l => match l.getLast? with
    | some c => withinS c.p c.s p s
    | none => true
  | _, _ => true
def apart : Wl → Wl → Bool
  | some (p, _), some (q, _) => decide (p < q)
  | _, _ => true
def wallsGood : PyData → Bool
  | .tuple [x, y] => isWall x && (isWall y && (match x, y with
    | .tuple [p, _], .tuple [q, _] => decide (ratOf p < ratOf q)
    | _, _ => true))
  | _ => false
theorem wallsGood_dWs (a b : Wl) : wallsGood (dWs a b) = apart a b := by
  show (isWall (dW a) && (isWall (dW b) && _)) = _
  rw [isWall_dW, isWall_dW, Bool.true_and, Bool.true_and]
  cases a with
  | none => cases b <;> rfl
  | some a =>
    cases b with
    | none => rfl
    | some b =>
      show decide (ratOf (dR a.1) < ratOf (dR b.1)) = decide (a.1 < b.1)
      rw [ratOf_dR, ratOf_dR]
/-- a row, between walls, of balls -/
def isRow (a b : Wl) : PyData → Bool
  | .tuple xs => (decide (1 ≤ xs.length) && decide (xs.length ≤ 8)) && (xs.all isBall && (Nb mayB (xs.map ballOf) && (lowOk a (xs.map ballOf) && highOk b (xs.map ballOf))))
  | _ => false
theorem isRow_dRow {a b : Wl} {l : List Bl} (h : RowOk l) : isRow a b (dRow l) = (lowOk a l && highOk b l) := by
  obtain ⟨h1, h2⟩ := balls_of h.w0
  have hl : 1 ≤ l.length := by have := h.nz; cases l with | nil => exact absurd rfl this | cons a r => simp
  show ((decide (1 ≤ (l.map dB).length) && decide ((l.map dB).length ≤ 8)) && ((l.map dB).all isBall && (Nb mayB ((l.map dB).map ballOf) && (lowOk a ((l.map dB).map ballOf) && highOk b ((l.map dB).map ballOf))))) = _
  rw [h1, h2, h.nb, List.length_map, decide_eq_true hl, decide_eq_true h.le]
  rfl
def WSz (n : Nat) : Wl → Prop
  | some (p, s) => Sz n p ∧ Sz n s
  | none => True
theorem WSz.mono {n m : Nat} {w : Wl} (h : WSz n w) (l : n ≤ m) : WSz m w := by
  cases w with
  | none => trivial
  | some w => exact ⟨h.1.mono l, h.2.mono l⟩
theorem fit_dW {n : Nat} {w : Wl} (h : WSz 4000 w) : Fit (n + 2) (dW w) := by
  cases w with
  | none => rfl
  | some w =>
    intro x hx
    rcases List.mem_cons.mp hx with rfl | hx
    · exact fit_ofR h.1
    · rw [List.mem_singleton.mp hx]; exact fit_ofR h.2
theorem fit_dW' {n : Nat} {w : Wl} (h : Fit (n + 2) (dW w)) : WSz 4000 w := by
  cases w with
  | none => trivial
  | some w => exact ⟨fit_dR (n := n) (fit_mem h (List.mem_cons_self ..)), fit_dR (n := n) (fit_mem h (List.mem_cons_of_mem _ (List.mem_cons_self ..)))⟩
theorem fit_dWs {n : Nat} {a b : Wl} (h : WSz 4000 a) (h2 : WSz 4000 b) : Fit (n + 3) (dWs a b) := by
  intro x hx
  rcases List.mem_cons.mp hx with rfl | hx
  · exact fit_dW h
  · rw [List.mem_singleton.mp hx]; exact fit_dW h2
theorem fit_dB {n : Nat} {b : Bl} (h : Sz 4000 b.p) (h2 : Sz 4000 b.s) (h3 : b.w.natAbs < 2 ^ 4000) : Fit (n + 2) (dB b) := by
  intro x hx
  rcases List.mem_cons.mp hx with rfl | hx
  · exact fit_ofR h
  · rcases List.mem_cons.mp hx with rfl | hx
    · exact fit_ofR h2
    · rw [List.mem_singleton.mp hx]; exact h3
theorem fit_dB' {n : Nat} {b : Bl} (h : Fit (n + 2) (dB b)) : Sz 4000 b.p ∧ Sz 4000 b.s :=
  ⟨fit_dR (n := n) (fit_mem h (List.mem_cons_self ..)), fit_dR (n := n) (fit_mem h (List.mem_cons_of_mem _ (List.mem_cons_self ..)))⟩
theorem nat_pow_lt {a : Int} {k n : Nat} (h : a.natAbs < 2 ^ k) (l : k ≤ n) : a.natAbs < 2 ^ n := Nat.lt_of_lt_of_le h (Nat.pow_le_pow_right (by decide) l)
theorem fit_dRow {n : Nat} {l : List Bl} (h : RowOk l) : Fit (n + 3) (dRow l) := by
  intro x hx
  obtain ⟨b, hb, rfl⟩ := List.mem_map.mp hx
  obtain ⟨h1, h2⟩ := h.zp b hb
  have hw := h.w0 b hb
  exact fit_dB (h1.mono (by decide)) (h2.mono (by decide)) (nat_pow_lt (k := 10) (by omega) (by decide))
theorem nb_zip {α : Type} {f : α → α → Bool} : ∀ (l : List α), ((l.zip l.tail).map fun p => f p.1 p.2).all id = Nb f l
  | [] => rfl
  | [a] => rfl
  | a :: b :: l => by
    have := nb_zip (f := f) (b :: l)
    show (f a b && (((b :: l).zip l).map fun p => f p.1 p.2).all id) = (f a b && Nb f (b :: l))
    rw [← this]; rfl
theorem cut_tail {α : Type} (xs : List α) : cutG xs (some 1) none = xs.tail := by
  cases xs with
  | nil => rfl
  | cons a l =>
    unfold cutG
    rw [show HT.sIx (a :: l).length 0 (some 1) = 1 from (HT.sIx_nat _ _ 1).trans (by simp)]
    show ((a :: l).drop 1).take ((a :: l).length - 1) = l
    simp
theorem zipD_map {α : Type} (f : α → PyData) (l r : List α) : zipD (l.map f) (r.map f) = (l.zip r).map fun p => DV.d (.tuple [f p.1, f p.2]) := by
  unfold zipD
  rw [List.zip_map, List.map_map]
  rfl
section
variable {K : KF} {W : WX} {Γ : Gm} {Ω : Om} {R : DV → Om → Prop} {X : Exc → Om → Prop} {S : Gm → Om → Prop} {gs : TGs}
theorem we_nought (q0 : He.tupB K "NOUGHT" [.int 0, .int 1] = true) (q : R (.d (dR 0)) Ω) : WE K W (tC (.ref (He.ga K "NOUGHT"))) Γ Ω R X := we_g (tup_dp q0 fun G => .cons (.int 0) (.cons (.int 1) .nil)) q
theorem cutG_map {α β : Type} (f : α → β) (l : List α) (lo hi : Option Int) : cutG (l.map f) lo hi = (cutG l lo hi).map f := by
  unfold cutG
  rw [List.length_map, List.map_take, List.map_drop]
theorem wsl_Row {l : List Bl} {lo hi : Option Int} (q : R (.d (dRow (cutG l lo hi))) Ω) : WSl K (rSlS K) (.d (dRow l)) lo hi Ω R :=
  wsl_T (xs := l.map dB) (by rw [cutG_map]; exact q)
theorem wr_ixRow {l : List Bl} {i : Int} {b : Bl} (h : atI l i = some b) (q : R (.d (dB b)) Ω) : WR K (rIx K) (.d (dRow l)) (.d (.int i)) Ω R :=
  wr_ixT (xs := l.map dB) (y := dB b) (by rw [atI_map, h]; rfl) q
theorem at_first {α : Type} {l : List α} {a : α} (h : l.head? = some a) : atI l 0 = some a := by
  cases l with
  | nil => cases h
  | cons c r => cases h; exact atI_nat (j := 0) rfl
theorem at_last {α : Type} {l : List α} {a : α} (h : l.getLast? = some a) : atI l (-1) = some a := by
  have h0 : l ≠ [] := fun e => by rw [e] at h; cases h
  have e : l = l.dropLast ++ [a] := (List.dropLast_concat_getLast h0).symm.trans (by rw [show l.getLast h0 = a from Option.some.inj ((List.getLast?_eq_getLast h0).symm.trans h)])
  rw [e]
  exact atI_last _ _
theorem wr_ixW0 {a b : Wl} (q : R (.d (dW a)) Ω) : WR K (rIx K) (.d (dWs a b)) (.d (.int 0)) Ω R := wr_ixT rfl q
theorem wr_ixW1 {a b : Wl} (q : R (.d (dW b)) Ω) : WR K (rIx K) (.d (dWs a b)) (.d (.int 1)) Ω R := wr_ixT rfl q
theorem plain_dW (w : Wl) : plainV (.d (dW w)) = true := by cases w <;> rfl
theorem isNo_dW (w : Wl) : isNo (.d (dW w)) = w.isNone := by cases w <;> rfl
theorem wr_isNW {w : Wl} (q : R (.d (.bool w.isNone)) Ω) : WR K oIsN (.d (dW w)) (.d .none) Ω R := wr_isN' (plain_dW w) (by rw [isNo_dW]; exact q)
theorem wr_notNW {w : Wl} (q : R (.d (.bool (!w.isNone))) Ω) : WR K oNotN (.d (dW w)) (.d .none) Ω R := wr_notN' (plain_dW w) (by rw [isNo_dW]; exact q)
theorem wg_tupW {a b : Wl} (h : WGs K gs [.d (dW a), .d (dW b)] Γ Ω S) : WG K (gTup K 2 gs) (.d (dWs a b)) Γ Ω S := wg_tup (xs := [dW a, dW b]) rfl h
theorem wr_ixw0 {p s : Rat} (q : R (.d (dR p)) Ω) : WR K (rIx K) (.d (dW (some (p, s)))) (.d (.int 0)) Ω R := wr_ixT rfl q
theorem wr_ixw1 {p s : Rat} (q : R (.d (dR s)) Ω) : WR K (rIx K) (.d (dW (some (p, s)))) (.d (.int 1)) Ω R := wr_ixT rfl q
theorem only2 {i j : Nat} : Only (gTup K 2 (gCons (gName i) (gCons (gName j) gNil))) [i, j] :=
  only_tup (onlys_cons mono_name (only_name (List.mem_cons_self ..)) (onlys_cons mono_name (only_name (List.mem_cons_of_mem _ (List.mem_cons_self ..))) onlys_nil))
theorem only3 {i j k : Nat} : Only (gTup K 3 (gCons (gName i) (gCons (gName j) (gCons (gName k) gNil)))) [i, j, k] :=
  only_tup (onlys_cons mono_name (only_name (List.mem_cons_self ..)) (onlys_cons mono_name (only_name (List.mem_cons_of_mem _ (List.mem_cons_self ..))) (onlys_cons mono_name (only_name (List.mem_cons_of_mem _ (List.mem_cons_of_mem _ (List.mem_cons_self ..)))) onlys_nil)))
end
section
variable {K : KF} {Γ : Gm} {Ω : Om} {S : Gm → Om → Prop} {gs : TGs}
theorem wg_tup2 {a b : PyData} (h : WGs K gs [.d a, .d b] Γ Ω S) : WG K (gTup K 2 gs) (.d (.tuple [a, b])) Γ Ω S := wg_tup rfl h
theorem wg_tup3 {a b c : PyData} (h : WGs K gs [.d a, .d b, .d c] Γ Ω S) : WG K (gTup K 3 gs) (.d (.tuple [a, b, c])) Γ Ω S := wg_tup rfl h
theorem wg_tup4 {a b c d : PyData} (h : WGs K gs [.d a, .d b, .d c, .d d] Γ Ω S) : WG K (gTup K 4 gs) (.d (.tuple [a, b, c, d])) Γ Ω S := wg_tup rfl h
end
/-! ### data that can be compared, and what comparing tells -/
def Shp (n : Nat) (d : PyData) : Prop := d.canLay0 = true ∧ d.depth ≤ n
theorem shaped_of {d : PyData} (h : Shp 64 d) : SeqAt.shaped d = true := Bool.and_eq_true_iff.mpr ⟨h.1, decide_eq_true h.2⟩
theorem Shp.mono {n m : Nat} {d : PyData} (h : Shp n d) (l : n ≤ m) : Shp m d := ⟨h.1, Nat.le_trans h.2 l⟩
theorem shp_int {n : Nat} {a : Int} : Shp n (.int a) := ⟨rfl, Nat.zero_le _⟩
theorem shp_bool {n : Nat} {a : Bool} : Shp n (.bool a) := ⟨rfl, Nat.zero_le _⟩
theorem shp_none {n : Nat} : Shp n .none := ⟨rfl, Nat.zero_le _⟩
theorem shp_all {n : Nat} : ∀ {xs : List PyData}, (∀ x ∈ xs, Shp n x) → PyData.canLayAll0 xs = true ∧ PyData.depthAll xs ≤ n
  | [], _ => ⟨rfl, Nat.zero_le _⟩
  | x :: xs, h => by
    have h1 := h x (List.mem_cons_self ..)
    have h2 := shp_all (xs := xs) fun y hy => h y (List.mem_cons_of_mem _ hy)
    refine ⟨?_, ?_⟩
    · show (x.canLay0 && PyData.canLayAll0 xs) = true
      rw [h1.1, h2.1]; rfl
    · show max x.depth (PyData.depthAll xs) ≤ n
      have := h1.2
      have := h2.2
      omega
theorem shp_tup {n : Nat} {xs : List PyData} (h : ∀ x ∈ xs, Shp n x) : Shp (n + 1) (.tuple xs) := by
  obtain ⟨h1, h2⟩ := shp_all h
  exact ⟨h1, Nat.succ_le_succ h2⟩
theorem shp_list {n : Nat} {xs : List PyData} (h : ∀ x ∈ xs, Shp n x) : Shp (n + 1) (.list xs) := by
  obtain ⟨h1, h2⟩ := shp_all h
  exact ⟨h1, Nat.succ_le_succ h2⟩
theorem shp_nil {n : Nat} : ∀ x ∈ ([] : List PyData), Shp n x := fun _ h => by cases h
theorem shp_cons {n : Nat} {a : PyData} {l : List PyData} (h : Shp n a) (t : ∀ x ∈ l, Shp n x) : ∀ x ∈ a :: l, Shp n x := fun x hx => by
  rcases List.mem_cons.mp hx with rfl | hx
  · exact h
  · exact t x hx
theorem shp_map {α : Type} {n : Nat} {f : α → PyData} {l : List α} (h : ∀ a, Shp n (f a)) : ∀ x ∈ l.map f, Shp n x := fun x hx => by
  obtain ⟨a, _, rfl⟩ := List.mem_map.mp hx
  exact h a
theorem shp_dR {n : Nat} (q : Rat) : Shp (n + 1) (dR q) := shp_tup (shp_cons shp_int (shp_cons shp_int shp_nil))
theorem shp_dB {n : Nat} (b : Bl) : Shp (n + 2) (dB b) := shp_tup (shp_cons (shp_dR _) (shp_cons (shp_dR _) (shp_cons shp_int shp_nil)))
theorem shp_dRow {n : Nat} (l : List Bl) : Shp (n + 3) (dRow l) := shp_tup (shp_map fun b => shp_dB b)
theorem shp_dW {n : Nat} (w : Wl) : Shp (n + 2) (dW w) := by
  cases w with
  | none => exact shp_none
  | some w => exact shp_tup (shp_cons (shp_dR _) (shp_cons (shp_dR _) shp_nil))
theorem shp_dWs {n : Nat} (a b : Wl) : Shp (n + 3) (dWs a b) := shp_tup (shp_cons (shp_dW _) (shp_cons (shp_dW _) shp_nil))
/-- told apart by == as they are -/
def EqvI {α : Type} [DecidableEq α] (f : α → PyData) : Prop := ∀ a b, PyData.eqv (f a) (f b) = decide (a = b)
theorem eqvAll_map {α : Type} [DecidableEq α] {f : α → PyData} (h : EqvI f) : ∀ (l m : List α), PyData.eqvAll (l.map f) (m.map f) = decide (l = m)
  | [], [] => rfl
  | [], _ :: _ => rfl
  | _ :: _, [] => rfl
  | a :: l, b :: m => by
    show (PyData.eqv (f a) (f b) && PyData.eqvAll (l.map f) (m.map f)) = _
    rw [h, eqvAll_map h l m]
    by_cases h1 : a = b <;> by_cases h2 : l = m <;> simp [h1, h2]
theorem eqv_list {α : Type} [DecidableEq α] {f : α → PyData} (h : EqvI f) : EqvI fun l : List α => .list (l.map f) := fun l m => eqvAll_map h l m
theorem eqv_tup {α : Type} [DecidableEq α] {f : α → PyData} (h : EqvI f) : EqvI fun l : List α => .tuple (l.map f) := fun l m => eqvAll_map h l m
theorem eqvI_dR : EqvI dR := eqv_dR
theorem eqvI_int : EqvI PyData.int := eqv_int
instance : DecidableEq Bl := fun a b => decidable_of_iff (a.p = b.p ∧ a.s = b.s ∧ a.w = b.w) ⟨fun h => by cases a; cases b; simp at h; simp [h], fun h => by subst h; exact ⟨rfl, rfl, rfl⟩⟩
theorem eqvI_dB : EqvI dB := fun a b => by
  show (PyData.eqv (dR a.p) (dR b.p) && (PyData.eqv (dR a.s) (dR b.s) && (PyData.eqv (.int a.w) (.int b.w) && true))) = _
  rw [eqv_dR, eqv_dR, eqv_int]
  obtain ⟨p, s, w⟩ := a
  obtain ⟨q, t, v⟩ := b
  by_cases h1 : p = q <;> by_cases h2 : s = t <;> by_cases h3 : w = v <;> simp [h1, h2, h3]
theorem eqvI_dRow : EqvI dRow := eqv_tup eqvI_dB
theorem eqvI_dW : EqvI dW := fun a b => by
  cases a with
  | none => cases b <;> rfl
  | some a =>
    cases b with
    | none => rfl
    | some b =>
      show (PyData.eqv (dR a.1) (dR b.1) && (PyData.eqv (dR a.2) (dR b.2) && true)) = _
      rw [eqv_dR, eqv_dR]
      obtain ⟨p, s⟩ := a
      obtain ⟨q, t⟩ := b
      by_cases h1 : p = q <;> by_cases h2 : s = t <;> simp [h1, h2]
section
variable {K : KF} {Ω : Om} {R : DV → Om → Prop}
theorem wr_eqE {α : Type} [DecidableEq α] (f : α → PyData) (hi : EqvI f) (hs : ∀ a, Shp 64 (f a)) {x y : α} (q : R (.d (.bool (decide (x = y)))) Ω) : WR K (rEqD K) (.d (f x)) (.d (f y)) Ω R :=
  wr_eq rfl rfl (shaped_of (hs x)) (shaped_of (hs y)) (by rw [hi]; exact q)
theorem wr_neE {α : Type} [DecidableEq α] (f : α → PyData) (hi : EqvI f) (hs : ∀ a, Shp 64 (f a)) {x y : α} (q : R (.d (.bool (!decide (x = y)))) Ω) : WR K (rNeD K) (.d (f x)) (.d (f y)) Ω R :=
  wr_ne rfl rfl (shaped_of (hs x)) (shaped_of (hs y)) (by rw [hi]; exact q)
end
section
variable {K : KF} {Ω : Om} {R : DV → Om → Prop} {α : Type} [DecidableEq α]
theorem wr_eqL (f : α → PyData) (hi : EqvI f) (hs : ∀ a, Shp 63 (f a)) {l m : List α} (q : R (.d (.bool (decide (l = m)))) Ω) : WR K (rEqD K) (.d (.list (l.map f))) (.d (.list (m.map f))) Ω R :=
  wr_eqE (fun l : List α => .list (l.map f)) (eqv_list hi) (fun l => shp_list (shp_map hs)) q
theorem wr_neL (f : α → PyData) (hi : EqvI f) (hs : ∀ a, Shp 63 (f a)) {l m : List α} (q : R (.d (.bool (!decide (l = m)))) Ω) : WR K (rNeD K) (.d (.list (l.map f))) (.d (.list (m.map f))) Ω R :=
  wr_neE (fun l : List α => .list (l.map f)) (eqv_list hi) (fun l => shp_list (shp_map hs)) q
theorem wr_eqRow {l m : List Bl} (q : R (.d (.bool (decide (l = m)))) Ω) : WR K (rEqD K) (.d (dRow l)) (.d (dRow m)) Ω R := wr_eqE dRow eqvI_dRow shp_dRow q
theorem wr_neRow {l m : List Bl} (q : R (.d (.bool (!decide (l = m)))) Ω) : WR K (rNeD K) (.d (dRow l)) (.d (dRow m)) Ω R := wr_neE dRow eqvI_dRow shp_dRow q
end
/-! ### framed: all speeds more by one -/
def addB (u : Rat) (b : Bl) : Bl := ⟨b.p, b.s + u, b.w⟩
def addW (u : Rat) : Wl → Wl
  | none => none
  | some (p, s) => some (p, s + u)
theorem mayS_add (p s q t u : Rat) : mayS p (s + u) q (t + u) = mayS p s q t := by
  unfold mayS
  have : decide (s + u < t + u) = decide (s < t) := decide_eq_decide.mpr ⟨fun h => by grind, fun h => by grind⟩
  rw [this]
theorem withinS_add (p s q t u : Rat) : withinS p (s + u) q (t + u) = withinS p s q t := by
  unfold withinS
  rw [mayS_add]
  have : decide (p = q ∧ s + u = t + u) = decide (p = q ∧ s = t) := decide_eq_decide.mpr ⟨fun h => ⟨h.1, by grind⟩, fun h => ⟨h.1, by grind⟩⟩
  rw [this]
theorem nb_map {α β : Type} {f : α → α → Bool} {g : β → β → Bool} {h : α → β} (e : ∀ a b, g (h a) (h b) = f a b) : ∀ l : List α, Nb g (l.map h) = Nb f l
  | [] => rfl
  | [_] => rfl
  | a :: b :: l => by
    show (g (h a) (h b) && Nb g ((b :: l).map h)) = (f a b && Nb f (b :: l))
    rw [e, nb_map e (b :: l)]
theorem nb_add (u : Rat) (l : List Bl) : Nb mayB (l.map (addB u)) = Nb mayB l := nb_map (f := mayB) (g := mayB) (h := addB u) (fun a b => mayS_add a.p a.s b.p b.s u) l
theorem low_add (u : Rat) (w : Wl) (l : List Bl) : lowOk (addW u w) (l.map (addB u)) = lowOk w l := by
  cases w with
  | none => rfl
  | some w =>
    cases l with
    | nil => rfl
    | cons c r => exact withinS_add ..
theorem high_add (u : Rat) (w : Wl) (l : List Bl) : highOk (addW u w) (l.map (addB u)) = highOk w l := by
  cases w with
  | none => rfl
  | some w =>
    show (match (l.map (addB u)).getLast? with | some c => withinS c.p c.s w.1 (w.2 + u) | none => true) = (match l.getLast? with | some c => withinS c.p c.s w.1 w.2 | none => true)
    rw [List.getLast?_map]
    cases l.getLast? with
    | none => rfl
    | some c => exact withinS_add ..
theorem addB_add (u v : Rat) (b : Bl) : addB v (addB u b) = addB (u + v) b := by unfold addB; simp only [Rat.add_assoc]
theorem addW_add (u v : Rat) (w : Wl) : addW v (addW u w) = addW (u + v) w := by
  cases w with
  | none => rfl
  | some w => show some (w.1, w.2 + u + v) = some (w.1, w.2 + (u + v)); rw [Rat.add_assoc]
theorem addB_zero (b : Bl) : addB 0 b = b := by unfold addB; rw [Rat.add_zero]
theorem addW_zero (w : Wl) : addW 0 w = w := by
  cases w with
  | none => rfl
  | some w => show some (w.1, w.2 + 0) = some w; rw [Rat.add_zero]
theorem push_add (u : Rat) (l : List Bl) : weighed (fun b => b.s) (l.map (addB u)) = weighed (fun b => b.s) l + (wsum l : Rat) * u := by
  unfold weighed
  induction l with
  | nil => show (0 : Rat) = 0 + ((0 : Int) : Rat) * u; rw [Rat.intCast_zero, Rat.zero_mul, Rat.add_zero]
  | cons a l ih =>
    show (a.w : Rat) * (a.s + u) + sumR ((l.map (addB u)).map _) = (a.w : Rat) * a.s + sumR (l.map _) + ((a.w + wsum l : Int) : Rat) * u
    rw [ih, Rat.intCast_add]
    grind
theorem middle_add (u : Rat) (l : List Bl) : weighed (fun b => b.p) (l.map (addB u)) = weighed (fun b => b.p) l := by
  unfold weighed
  rw [List.map_map]; rfl
theorem wsum_add (u : Rat) (l : List Bl) : wsum (l.map (addB u)) = wsum l := by
  unfold wsum
  rw [List.map_map]; rfl
theorem energy_add (u : Rat) (l : List Bl) : weighed (fun b => b.s * b.s) (l.map (addB u)) = weighed (fun b => b.s * b.s) l + u * (weighed (fun b => b.s) l + (weighed (fun b => b.s) l + (wsum l : Rat) * u)) := by
  unfold weighed
  induction l with
  | nil => show (0 : Rat) = 0 + u * (0 + (0 + ((0 : Int) : Rat) * u)); rw [Rat.intCast_zero, Rat.zero_mul, Rat.add_zero, Rat.add_zero, Rat.mul_zero, Rat.add_zero]
  | cons a l ih =>
    show (a.w : Rat) * ((a.s + u) * (a.s + u)) + sumR ((l.map (addB u)).map _) = (a.w : Rat) * (a.s * a.s) + sumR (l.map _) + u * ((a.w : Rat) * a.s + sumR (l.map _) + ((a.w : Rat) * a.s + sumR (l.map _) + ((a.w + wsum l : Int) : Rat) * u))
    rw [ih, Rat.intCast_add]
    grind
/-- a row and its walls -/
def dRW (x : List Bl × Wl × Wl) : PyData := .tuple [dRow x.1, dWs x.2.1 x.2.2]
theorem eqvI_dWs : EqvI fun x : Wl × Wl => dWs x.1 x.2 := fun a b => by
  show (PyData.eqv (dW a.1) (dW b.1) && (PyData.eqv (dW a.2) (dW b.2) && true)) = _
  rw [eqvI_dW, eqvI_dW]
  obtain ⟨p, s⟩ := a
  obtain ⟨q, t⟩ := b
  by_cases h1 : p = q <;> by_cases h2 : s = t <;> simp [h1, h2]
theorem eqvI_dRW : EqvI dRW := fun a b => by
  show (PyData.eqv (dRow a.1) (dRow b.1) && (PyData.eqv (dWs a.2.1 a.2.2) (dWs b.2.1 b.2.2) && true)) = _
  rw [eqvI_dRow, eqvI_dWs a.2 b.2]
  obtain ⟨p, s⟩ := a
  obtain ⟨q, t⟩ := b
  by_cases h1 : p = q <;> by_cases h2 : s = t <;> simp [h1, h2]
theorem shp_dRW (x : List Bl × Wl × Wl) : Shp 64 (dRW x) := shp_tup (shp_cons (shp_dRow _) (shp_cons (shp_dWs _ _) shp_nil))
section
variable {K : KF} {Γ : Gm} {Ω : Om} {R : DV → Om → Prop} {S : Gm → Om → Prop} {gs : TGs}
theorem wr_neRW {x y : List Bl × Wl × Wl} (q : R (.d (.bool (!decide (x = y)))) Ω) : WR K (rNeD K) (.d (dRW x)) (.d (dRW y)) Ω R := wr_neE dRW eqvI_dRW shp_dRW q
theorem wr_eqRW {x y : List Bl × Wl × Wl} (q : R (.d (.bool (decide (x = y)))) Ω) : WR K (rEqD K) (.d (dRW x)) (.d (dRW y)) Ω R := wr_eqE dRW eqvI_dRW shp_dRW q
theorem wr_ixRW0 {x : List Bl × Wl × Wl} (q : R (.d (dRow x.1)) Ω) : WR K (rIx K) (.d (dRW x)) (.d (.int 0)) Ω R := wr_ixT rfl q
theorem wr_ixRW1 {x : List Bl × Wl × Wl} (q : R (.d (dWs x.2.1 x.2.2)) Ω) : WR K (rIx K) (.d (dRW x)) (.d (.int 1)) Ω R := wr_ixT rfl q
theorem wg_tupRW {x : List Bl × Wl × Wl} (h : WGs K gs [.d (dRow x.1), .d (dWs x.2.1 x.2.2)] Γ Ω S) : WG K (gTup K 2 gs) (.d (dRW x)) Γ Ω S := wg_tup (xs := [dRow x.1, dWs x.2.1 x.2.2]) rfl h
end
theorem cut_from2 {α : Type} {a b : α} {r : List α} : cutG (a :: b :: r) (some 2) none = r := by
  unfold cutG
  rw [show HT.sIx (a :: b :: r).length 0 (some 2) = 2 from (HT.sIx_nat _ _ 2).trans (by simp)]
  show ((a :: b :: r).drop 2).take ((a :: b :: r).length - 2) = r
  simp
/-- a row whose speeds may be greater -/
theorem isRow_of {a b : Wl} {l : List Bl} (hz : l ≠ []) (hl : l.length ≤ 8) (hw : ∀ b ∈ l, 1 ≤ b.w ∧ b.w ≤ 1000) (hn : Nb mayB l = true) : isRow a b (dRow l) = (lowOk a l && highOk b l) := by
  obtain ⟨h1, h2⟩ := balls_of hw
  have hl1 : 1 ≤ l.length := by cases l with | nil => exact absurd rfl hz | cons a r => simp
  show ((decide (1 ≤ (l.map dB).length) && decide ((l.map dB).length ≤ 8)) && ((l.map dB).all isBall && (Nb mayB ((l.map dB).map ballOf) && (lowOk a ((l.map dB).map ballOf) && highOk b ((l.map dB).map ballOf))))) = _
  rw [h1, h2, hn, List.length_map, decide_eq_true hl1, decide_eq_true hl]
  rfl
theorem fit_row {n : Nat} {l : List Bl} (h : ∀ b ∈ l, Sz 4000 b.p ∧ Sz 4000 b.s ∧ 1 ≤ b.w ∧ b.w ≤ 1000) : Fit (n + 3) (dRow l) := by
  intro x hx
  obtain ⟨b, hb, rfl⟩ := List.mem_map.mp hx
  obtain ⟨h1, h2, h3, h4⟩ := h b hb
  exact fit_dB h1 h2 (nat_pow_lt (k := 10) (by omega) (by decide))
/-! ### what is no row, no walls; cuts at a place -/
def NotRow (y : PyData) : Prop := ∀ a b, isRow a b y = false
theorem notRow_bad {xs : List PyData} {x : PyData} (hx : x ∈ xs) (h : isBall x = false) : NotRow (.tuple xs) := fun a b => by
  have : xs.all isBall = false := by
    cases e : xs.all isBall with
    | false => rfl
    | true => rw [List.all_eq_true.mp e x hx] at h; cases h
  show ((decide (1 ≤ xs.length) && decide (xs.length ≤ 8)) && (xs.all isBall && _)) = false
  rw [this, Bool.false_and, Bool.and_false]
theorem notRow_long {xs : List PyData} (h : 8 < xs.length) : NotRow (.tuple xs) := fun a b => by
  show ((decide (1 ≤ xs.length) && decide (xs.length ≤ 8)) && _) = false
  rw [decide_eq_false (show ¬ xs.length ≤ 8 by omega), Bool.and_false, Bool.false_and]
theorem notRow_nb {l : List Bl} (hw : ∀ b ∈ l, 1 ≤ b.w ∧ b.w ≤ 1000) (h : Nb mayB l = false) : NotRow (dRow l) := fun a b => by
  obtain ⟨h1, h2⟩ := balls_of hw
  show ((decide (1 ≤ (l.map dB).length) && decide ((l.map dB).length ≤ 8)) && ((l.map dB).all isBall && (Nb mayB ((l.map dB).map ballOf) && _))) = false
  rw [h1, h2, h, Bool.false_and, Bool.and_false, Bool.and_false]
theorem cut_to {α : Type} {xs : List α} {j : Nat} (h : j ≤ xs.length) : cutG xs none (some (j : Int)) = xs.take j := by
  unfold cutG
  rw [HT.sIx_nat, Nat.min_eq_left h]
  rfl
theorem cut_from {α : Type} {xs : List α} {j : Nat} (h : j ≤ xs.length) : cutG xs (some (j : Int)) none = xs.drop j := by
  unfold cutG
  rw [HT.sIx_nat, Nat.min_eq_left h]
  show (xs.drop j).take (xs.length - j) = _
  rw [List.take_of_length_le (by rw [List.length_drop]; omega)]
theorem nb_mid {α : Type} {f : α → α → Bool} {a b : α} (h : f a b = false) : ∀ l r : List α, Nb f (l ++ a :: b :: r) = false
  | [], r => by show (f a b && Nb f (b :: r)) = false; rw [h, Bool.false_and]
  | [c], r => by show (f c a && (f a b && Nb f (b :: r))) = false; rw [h, Bool.false_and, Bool.and_false]
  | c :: d :: l, r => by
    show (f c d && Nb f (d :: l ++ a :: b :: r)) = false
    rw [nb_mid h (d :: l) r, Bool.and_false]
section
variable {K : KF} {Ω : Om} {R : DV → Om → Prop}
theorem wr_repT {xs : List PyData} {k : Int} (h : xs ≠ []) (h2 : 2 ≤ k) (h3 : k ≤ 1000) (hl : xs.length ≤ 1000) (q : R (.d (.tuple (List.replicate k.toNat xs).flatten)) Ω) : WR K (rRepT K) (.d (.tuple xs)) (.d (.int k)) Ω R := fun m G H v w Q c r1 r2 k' => by
  cases r2
  obtain ⟨a, vs, rfl, hs, rp⟩ := lsT_get c r1 rfl
  have el := dps_len rp
  refine ⟨a, k, vs, rfl, rfl, ex_t c.ex hs, fun e => h ((dps_nil rp).mp e), h2, h3, by omega, fun p hp => ?_⟩
  obtain ⟨c2, n2⟩ := c.frz hp (.tup (List.replicate k.toNat vs).flatten)
  have rep : ∀ n : Nat, DpAll K _ (List.replicate n vs).flatten (List.replicate n xs).flatten := fun n => by
    induction n with
    | zero => exact .nil
    | succ n ih => rw [List.replicate_succ, List.replicate_succ, List.flatten_cons, List.flatten_cons]; exact dps_app (dps_ex n2.gg _ _ rp) ih
  exact k' _ _ _ _ (.d (.tuple (List.replicate k.toNat xs).flatten)) _ c2 n2 (Nat.le_refl _) (.tup (st_of upd_same) (rep _)) q
end
/-- a list display, list(..) that is changed later -/
def tLstO (ta : TA) : TE := tLst ta
def rListO (K : KF) : List V → Hp → VK → Prop := rListQ K
section
variable {K : KF} {W : WX} {Γ : Gm} {Ω : Om} {R : DV → Om → Prop} {X : Exc → Om → Prop} {tl : TA}
theorem we_lstO' (h : WA K W tl Γ Ω (fun ds Ω1 => ds.length ≤ 100000 ∧ R (.o Ω1.length) (Ω1 ++ [.lst ds])) X) : WE K W (tLstO tl) Γ Ω R X := we_lstO h
theorem wc_listO'' {x : DV} {xs : List PyData} (hx : ls Ω x = some xs) (q : R (.o Ω.length) (Ω ++ [.lst (xs.map DV.d)])) : WC K (rListO K) [x] Ω R := wc_listO' hx q
theorem ex_len {ds : List DV} {B : Prop} (e : ds.length ≤ 100000) (h : B) : ds.length ≤ 100000 ∧ B := ⟨e, h⟩
end
theorem set_last {α : Type} (l : List α) (a b : α) : (l ++ [a]).set l.length b = l ++ [b] := by
  rw [List.set_append_right _ _ (Nat.le_refl _), Nat.sub_self]; rfl
theorem get_last {α : Type} (l : List α) (a : α) : (l ++ [a])[l.length]? = some a := by simp
theorem lsL_last (Ω : Om) (ds : List DV) : lsL (Ω ++ [.lst ds]) (.o Ω.length) = asDs ds := by
  show (sqO (Ω ++ [OC.lst ds])[Ω.length]?).bind asDs = _
  rw [get_last]; rfl
theorem ls_last (Ω : Om) (ds : List DV) : ls (Ω ++ [.lst ds]) (.o Ω.length) = asDs ds := by
  show (sqO (Ω ++ [OC.lst ds])[Ω.length]?).bind asDs = _
  rw [get_last]; rfl
theorem sq_last (Ω : Om) (ds : List DV) : sq (Ω ++ [.lst ds]) (.o Ω.length) = some ds := by
  show sqO (Ω ++ [OC.lst ds])[Ω.length]? = _
  rw [get_last]; rfl
theorem sqLs_last (Ω : Om) (ds : List DV) : sqLs (Ω ++ [.lst ds]) (.o Ω.length) = some ds := by
  show sqO (Ω ++ [OC.lst ds])[Ω.length]? = _
  rw [get_last]; rfl
theorem wm_appL {K : KF} {Ω : Om} {R : DV → Om → Prop} {ds : List DV} {y : DV} (hl : ds.length < 100000) (q : R (.d .none) (Ω ++ [.lst (ds ++ [y])])) : WM K rAppend (.o Ω.length) [y] (Ω ++ [.lst ds]) R :=
  wm_append (get_last Ω (.lst ds)) hl (by rw [set_last]; exact q)
section
variable {K : KF} {W : WX} {Γ : Gm} {Ω : Om} {X : Exc → Om → Prop} {Rc : List DV → (Om → Prop) → Om → Prop} {te : TE}
theorem wi_Ld (h : WE K W te Γ Ω (fun d Ω1 => ∃ xs, d = .d (.list xs) ∧ Rc (xs.map DV.d) (fun _ => True) Ω1) X) : WI K W (iSeq K te) Γ Ω Rc X := fun m G H σ R c s x k =>
  h m G H σ _ c s (fun m1 G1 Ω1 H1 d v c1 n1 l1 r1 ⟨xs, e, q⟩ => by
    subst e
    obtain ⟨a, vs, rfl, hs, rp⟩ := lsL_get c1 r1 rfl
    exact ⟨a, rfl, .inl ⟨⟨vs, hs⟩, k m1 G1 Ω1 H1 _ (xs.map DV.d) _ c1 n1 l1 (fun m' G' Ω' H' c' n' l' st => itok_list r1 m' G' Ω' H' c' n' l' rfl) q⟩⟩) x
end
/-- of all items of a list -/
theorem all_nil {α : Type} {P : α → Prop} : ∀ x ∈ ([] : List α), P x := fun _ h => by cases h
theorem all_cons {α : Type} {P : α → Prop} {a : α} {l : List α} (h : P a) (t : ∀ x ∈ l, P x) : ∀ x ∈ a :: l, P x := fun x hx => by
  rcases List.mem_cons.mp hx with rfl | hx
  · exact h
  · exact t x hx
theorem all_app {α : Type} {P : α → Prop} {l r : List α} (h : ∀ x ∈ l, P x) (t : ∀ x ∈ r, P x) : ∀ x ∈ l ++ r, P x := fun x hx => by
  rcases List.mem_append.mp hx with hx | hx
  · exact h x hx
  · exact t x hx
theorem fit_tup {n : Nat} {xs : List PyData} (h : ∀ x ∈ xs, Fit n x) : Fit (n + 1) (.tuple xs) := h
theorem fit_int {n k : Nat} {a : Int} (h : a.natAbs < 2 ^ k) (l : k ≤ 4000) : Fit n (.int a) := by
  have := nat_pow_lt h l
  cases n <;> exact this
theorem fit_none {n : Nat} : Fit n .none := by cases n <;> rfl
theorem fit_bool {n : Nat} {b : Bool} : Fit n (.bool b) := by cases n <;> rfl
theorem fit_str {n : Nat} {b : Str} : Fit n (.str b) := by cases n <;> rfl
theorem fit_list {n : Nat} {b : List PyData} : Fit n (.list b) := by cases n <;> rfl
theorem wsl_B {K : KF} {Ω : Om} {R : DV → Om → Prop} {b : Bl} {lo hi : Option Int} (q : R (.d (.tuple (cutG [dR b.p, dR b.s, .int b.w] lo hi))) Ω) : WSl K (rSlS K) (.d (dB b)) lo hi Ω R := wsl_T (xs := [dR b.p, dR b.s, .int b.w]) q
theorem cut_one {α : Type} (xs : List α) : cutG xs none (some 1) = xs.take 1 := by
  cases xs with
  | nil => rfl
  | cons a l => exact cut_to (j := 1) (by simp)
theorem cut_but {α : Type} (xs : List α) : cutG xs none (some (-1)) = xs.dropLast := by
  unfold cutG
  show (xs.drop 0).take (HT.sIx xs.length xs.length (some (-1)) - 0) = _
  have e : HT.sIx xs.length xs.length (some (-1)) = xs.length - 1 := by
    show (if (-1 : Int) < 0 then ((-1 : Int) + (xs.length : Int)).toNat else min (-1 : Int).toNat xs.length) = _
    rw [if_pos (by decide)]
    omega
  rw [e, List.drop_zero, Nat.sub_zero]
  exact List.dropLast_eq_take.symm
theorem we_varFL {K : KF} {W : WX} {Γ : Gm} {Ω : Om} {R : DV → Om → Prop} {X : Exc → Om → Prop} {i : Nat} {ds : List DV} {xs : List PyData} (h : Γ[i]? = some (some (.o Ω.length))) (hx : asDs ds = some xs) (q : R (.d (.list xs)) (Ω ++ [.gone])) : WE K W (tVar i) Γ (Ω ++ [.lst ds]) R X :=
  we_varF h (by rw [get_last]; exact hx) (by rw [set_last]; exact q)
/-! ### [x] * k; comprehensions that draw -/
section
variable {K : KF} {Ω : Om} {R : DV → Om → Prop}
theorem wr_rep {i : Nat} {ds : List DV} {xs : List PyData} {k : Int} (hx : Ω[i]? = some (.lst ds)) (hd : asDs ds = some xs) (h1 : -(2 ^ 63) ≤ k) (h2 : k < 2 ^ 63) (hl : xs.length * k.toNat ≤ 100000) (q : R (.d (.list (List.replicate k.toNat xs).flatten)) Ω) : WR K rRep (.o i) (.d (.int k)) Ω R := fun m G H v w Q c r1 r2 k' => by
  obtain ⟨hi, rfl⟩ := r1
  cases r2
  obtain ⟨q1, ws, hw, rp⟩ := c.fr i _ hx (by intro z; cases z)
  rw [asDs_eq hd] at rp
  have ra := dps_of rp
  have el := dps_len ra
  refine ⟨m i, k, ws, rfl, rfl, hw, h1, h2, sz_of (by rw [el]; exact hl), fun p hp => ?_⟩
  obtain ⟨c2, n2⟩ := c.frz hp (.lst (List.replicate k.toNat ws).flatten)
  have rep : ∀ n : Nat, DpAll K _ (List.replicate n ws).flatten (List.replicate n xs).flatten := fun n => by
    induction n with
    | zero => exact .nil
    | succ n ih => rw [List.replicate_succ, List.replicate_succ, List.flatten_cons, List.flatten_cons]; exact dps_app (dps_ex n2.gg _ _ ra) ih
  exact k' _ _ _ _ (.d (.list (List.replicate k.toNat xs).flatten)) _ c2 n2 (Nat.le_refl _) (.lst (sq_of upd_same) (rep _)) q
theorem flat_one {α : Type} (n : Nat) (x : α) : (List.replicate n [x]).flatten = List.replicate n x := by
  induction n with
  | zero => rfl
  | succ n ih => rw [List.replicate_succ, List.replicate_succ, List.flatten_cons, ih]; rfl
theorem wr_rep1 {x : PyData} {k : Int} (h1 : -(2 ^ 63) ≤ k) (h2 : k.toNat ≤ 100000) (q : R (.d (.list (List.replicate k.toNat x))) (Ω ++ [.lst [.d x]])) : WR K rRep (.o Ω.length) (.d (.int k)) (Ω ++ [.lst [.d x]]) R :=
  wr_rep (xs := [x]) (get_last _ _) rfl h1 (by omega) (by simpa using h2) (by rw [flat_one]; exact q)
end
section
variable {K : KF} {W : WX} {Γ : Gm} {Ω : Om} {R : DV → Om → Prop} {X : Exc → Om → Prop} {wi : TI} {g : TG} {te : TE} {vs : List Nat}
theorem we_lcK {k : Nat} (og : Only g vs) (hk : k < Ω.length) (h : WI K W wi Γ Ω (fun ys stay Ω1 => ∃ (p1 : OC) (Q : Nat → List PyData → Prop), Ω1 = Ω.set k p1 ∧ IsPool p1 ∧ ys.length ≤ 100000 ∧ (∀ p' ds, IsPool p' → stay (Ω.set k p' ++ [.lst ds])) ∧ Q 0 [] ∧
      (∀ i y acc p', ys[i]? = some y → IsPool p' → acc.length = i → Q i acc → WG K g y (wipeG Γ vs) (Ω.set k p' ++ [.lst (acc.map DV.d)]) (fun Γ2 Ω2 => Ω2 = Ω.set k p' ++ [.lst (acc.map DV.d)] ∧
        WE K (fun _ _ _ _ => False) te Γ2 (Ω.set k p' ++ [.lst (acc.map DV.d)]) (fun x Ω4 => ∃ y p'', x = .d y ∧ Ω4 = Ω.set k p'' ++ [.lst (acc.map DV.d)] ∧ IsPool p'' ∧ Q (i + 1) (acc ++ [y])) NoX)) ∧
      ∀ acc p', IsPool p' → acc.length = ys.length → Q ys.length acc → R (.d (.list acc)) (Ω.set k p')) X) : WE K W (tLc wi g tYes te vs) Γ Ω R X := by
  refine we_frz (we_lc og fun m G H σ R' c s x kk => h m G H σ R' c s x fun m1 G1 Ω1 H1 J ys stay c1 n1 l1 it ⟨p1, Q, e1, ip1, hl, st, q0, step, fin⟩ => ?_)
  subst e1
  have hlen : ∀ p : OC, (Ω.set k p).length = Ω.length := fun p => List.length_set
  refine kk m1 G1 _ H1 J ys stay c1 n1 l1 it ⟨fun i acc Ω' => ∃ xs p', acc = xs.map DV.d ∧ Ω' = Ω.set k p' ++ [.lst acc] ∧ IsPool p' ∧ xs.length = i ∧ Q i xs, ⟨[], p1, rfl, rfl, ip1, rfl, q0⟩, ?_, ?_, ?_⟩
  · rintro i acc Ω' - ⟨xs, p', rfl, rfl, ip, -, -⟩
    exact ⟨st _ _ ip, by simp [hlen]⟩
  · rintro i y acc Ω' hy ⟨xs, p', rfl, rfl, ip, hi, hq⟩
    have hi2 := lt_of_get hy
    intro m2 G2 H2 σ2 v Q2 c2 s2 r2 k2
    refine step i y xs p' hy ip hi hq m2 G2 H2 σ2 v Q2 c2 s2 r2 fun m3 G3 Ω3 H3 Γ3 σ3 c3 n3 l3 s3 ⟨eo, hw⟩ => k2 m3 G3 Ω3 H3 Γ3 σ3 c3 n3 l3 s3 ?_
    subst eo
    refine wt_yes ⟨fun _ => ?_, fun e => by cases e⟩
    intro m6 G6 H6 σ6 Q6 c6 s6 k6 x6
    refine hw m6 G6 H6 σ6 Q6 c6 s6 (fun m7 G7 Ω7 H7 d v c7 n7 l7 r7 ⟨z, p'', ex, eo7, ip'', hq'⟩ => k6 m7 G7 Ω7 H7 d v c7 n7 l7 r7 ?_) x6
    subst ex eo7
    rw [hlen]
    refine ⟨by rw [← hlen p'', get_last], by rw [List.length_map]; omega, xs ++ [z], p'', by simp, ?_, ip'', by simp [hi], hq'⟩
    rw [← hlen p'', set_last]
  · rintro acc Ω' ⟨xs, p', rfl, rfl, ip, hi, hq⟩
    rw [hlen]
    refine ⟨Ω.length, xs.map DV.d, xs, rfl, by rw [← hlen p', get_last], asDs_data _, ⟨Nat.le_refl _, by simp, fun j c hj e => ?_⟩, ?_⟩
    · rw [List.getElem?_append_left (by rw [hlen]; exact hj), List.getElem?_set] at e
      by_cases ek : k = j
      · rw [if_pos ek, if_pos (by omega)] at e
        cases e
        exact .inr ip.flat
      · rw [if_neg ek] at e
        exact .inl e
    · rw [← hlen p', take_app]
      exact fin xs p' ip hi hq
end
/-! ### branches that join: the item's row --JOIN makes the walk stop ahead of each `if` with something behind -/
def tSeqI (a b : TS) : TS := tSeq a b
section
variable {K : KF} {W : WX} {Γ : Gm} {Ω : Om} {O : Outs} {ts tt t1 t2 : TS}
theorem ws_mono {O' : Outs} (h : WS K W ts Γ Ω O') (nx : ∀ Γ1 Ω1, O'.nx Γ1 Ω1 → O.nx Γ1 Ω1) (e1 : O'.rt = O.rt) (e2 : O'.bk = O.bk) (e3 : O'.ct = O.ct) (e4 : O'.er = O.er) : WS K W ts Γ Ω O := fun m G H σ D c s k1 k2 k3 k4 z =>
  h m G H σ D c s (fun m1 G1 Ω1 H1 Γ1 σ1 c1 n1 l1 s1 hM => k1 m1 G1 Ω1 H1 Γ1 σ1 c1 n1 l1 s1 (nx _ _ hM)) (by rw [e1]; exact k2) (by rw [e2]; exact k3) (by rw [e3]; exact k4) (by rw [e4]; exact z)
theorem ws_cut (M : Gm → Om → Prop) (h2 : ∀ Γ1 Ω1, M Γ1 Ω1 → WS K W tt Γ1 Ω1 O) (h1 : WS K W ts Γ Ω { nx := M, rt := O.rt, bk := O.bk, ct := O.ct, er := O.er }) : WS K W (tSeqI ts tt) Γ Ω O :=
  ws_seq (ws_mono h1 h2 rfl rfl rfl rfl)
theorem ws_go (h : WS K W (tSeq ts tt) Γ Ω O) : WS K W (tSeqI ts tt) Γ Ω O := h
end
/-! ### isinstance of a caught error, a tuple of classes -/
def rIsET (K : KF) (cls : Value) (dd : Option Addr) (a : Addr) : List V → Hp → VK → Prop := fun xs H Q => ∃ D, cls = .ref D ∧ dd = none ∧ ExcC K D ∧ ∃ (tp : Addr) (cs : List V) (us : List Value) (b : Bool), xs = [.ref a, .ref tp] ∧ H tp = some (.tup cs) ∧ Paired ClsV cs us ∧ PySem.W.kitAny K (.ref D) us = some b ∧ Q (.bl b) H
theorem call_isET {X : Cx} {a : Addr} {oe : Obj} {cls : Value} {dd : Option Addr} {pn : List (Addr × Obj)} (hz : Zc cls dd oe) (hf : ∃ vs, oe.data = .fields vs) : CallR (X.suite a ((a, oe) :: pn)) (.builtin "isinstance") (rIsET X.K cls dd a) := by
  intro pins s σ H xs us Q I r h
  obtain ⟨D, rfl, rfl, C, tp, cs, ws, b, rfl, hT, k, e, q⟩ := h
  obtain ⟨u1, u2, rfl, r1, r2⟩ := vals2 r
  cases (show u1 = Value.ref a from r1)
  cases (show u2 = Value.ref tp from r2)
  obtain ⟨hget, _⟩ := I.pin (a, oe) (List.mem_append.mpr (.inl List.mem_cons_self))
  obtain ⟨vs, hv⟩ := hf
  have J : PySem.W.InstAt s.heap a oe D none := by
    obtain ⟨oc, od, oda, osl⟩ := oe
    obtain ⟨h1, h2⟩ := hz
    dsimp only at h1 h2 hv
    subst h1 h2 hv
    exact ⟨hget, rfl, rfl, trivial⟩
  obtain ⟨_, its, rv, o, h1, h2, n, h3⟩ := (show ObjOk X.prog X.w H s.heap tp (.tup cs) from I.hok tp _ hT)
  have e3 := ClsV.all k rv
  subst e3
  obtain ⟨oc, od, dt, sl⟩ := o
  simp only at h2 h3
  subst h2 h3
  exact PySem.W.kia_tup (PySem.W.handS_kitx_exc C.hg C.hk C.hs C.hd C.ha C.hn C.ht C.hm) I.kIn J h1 e (fun z => nomatch z) fun tk => ⟨.bl b, H, I.kept (t' := tk) fun _ _ z => z, rfl, q⟩
def tCs : List V → TA
  | [] => tNil
  | v :: vs => tCons (tC v) (tCs vs)
theorem tCs_run {σ : L2.St} {H : Hp} : ∀ (vs : List V) {Q : List V → Hp → Prop}, Q vs H → tCs vs σ H Q
  | [], _, q => q
  | v :: vs, Q, q => tCs_run (σ := σ) (H := H) vs (Q := fun xs H2 => Q (v :: xs) H2) q
def tIsET (K : KF) (cls : Value) (dd : Option Addr) (a : Addr) (te : TE) (cs : List Addr) : TE := tCB (rIsET K cls dd a) (tCons te (tCons (tTup (tCs (cs.map V.ref))) tNil))
theorem we_isET {K : KF} {W : WX} {Γ : Gm} {Ω : Om} {R : DV → Om → Prop} {X : Exc → Om → Prop} {i : Nat} {D a : Addr} {dd : Option Addr} {cs : List Addr} {b : Bool} (hG : Γ[i]? = some (some (.e (.own D) a (.ref D) dd))) (hD : ExcC K D)
    (hl : cs.length ≤ 100000) (hk : PySem.W.kitAny K (.ref D) (cs.map Value.ref) = some b) (q : R (.d (.bool b)) Ω) : WE K W (tIsET K (.ref D) dd a (tVar i) cs) Γ Ω R X := fun m G H σ Q c s k x => by
  obtain ⟨v, e, rv⟩ := s.at_ i _ hG
  obtain ⟨rfl, _, rfl⟩ := rv
  refine ⟨_, e, ?_⟩
  refine tCs_run (cs.map V.ref) ⟨sz_of (by rw [List.length_map]; exact hl), fun p hp => ?_⟩
  obtain ⟨c2, n2⟩ := c.frz hp (.tup (cs.map V.ref))
  have pr : ∀ cs : List Addr, Paired ClsV (cs.map V.ref) (cs.map Value.ref) := fun cs => by
    induction cs with
    | nil => exact .nil
    | cons a l ih => exact .cons (.own a) ih
  exact ⟨D, rfl, rfl, hD, p, _, _, b, rfl, upd_same, pr cs, hk, k _ _ _ _ (.d (.bool b)) _ c2 n2 (Nat.le_refl _) (Dp.bl _) q⟩
theorem cut2' {α : Type} {a b : α} {r : List α} : cutG (a :: b :: r) none (some 2) = [a, b] := by
  unfold cutG
  rw [show HT.sIx (a :: b :: r).length (a :: b :: r).length (some 2) = 2 from (HT.sIx_nat _ _ 2).trans (by simp)]
  rfl
/-! ### walls at the end balls -/
theorem bound_low {b : Bl} {s g : Rat} (hg : 0 ≤ g) (h : g = 0 → ¬ b.s < s) : lowOk (some (b.p - g, s)) [b] = true := by
  show (decide (b.p - g = b.p ∧ s = b.s) || mayS (b.p - g) s b.p b.s) = true
  by_cases h0 : g = 0
  · have e : b.p - g = b.p := by grind
    rcases Rat.le_total (a := s) (b := b.s) with h1 | h1
    · by_cases h2 : s = b.s
      · rw [decide_eq_true ⟨e, h2⟩]; rfl
      · have : mayS (b.p - g) s b.p b.s = true := by
          unfold mayS
          rw [if_pos e]
          exact decide_eq_true (by grind)
        rw [this, Bool.or_true]
    · have h2 : s = b.s := by have := h h0; grind
      rw [decide_eq_true ⟨e, h2⟩]; rfl
  · have : mayS (b.p - g) s b.p b.s = true := by
      unfold mayS
      rw [if_neg (by grind)]
      exact decide_eq_true (by grind)
    rw [this, Bool.or_true]
theorem bound_high {b : Bl} {s g : Rat} (hg : 0 ≤ g) (h : g = 0 → ¬ s < b.s) : highOk (some (b.p + g, s)) [b] = true := by
  show (decide (b.p = b.p + g ∧ b.s = s) || mayS b.p b.s (b.p + g) s) = true
  by_cases h0 : g = 0
  · have e : b.p = b.p + g := by grind
    by_cases h2 : b.s = s
    · rw [decide_eq_true ⟨e, h2⟩]; rfl
    · have : mayS b.p b.s (b.p + g) s = true := by
        unfold mayS
        rw [if_pos e]
        exact decide_eq_true (by have := h h0; grind)
      rw [this, Bool.or_true]
  · have : mayS b.p b.s (b.p + g) s = true := by
      unfold mayS
      rw [if_neg (by grind)]
      exact decide_eq_true (by grind)
    rw [this, Bool.or_true]
/-! ### insert, extend on own lists -/
def rInsertS : V → List V → Hp → VK → Prop := fun x vs H Q =>
  ∃ (l : Addr) (xs : List V) (i : Int) (y : V), x = .ref l ∧ vs = [.int i, y] ∧ H l = some (.lst xs) ∧
    xs.length < sizeLine ∧ 0 ≤ i ∧ i < 2 ^ 63 ∧ Q .non (upd H l (.lst (xs.take i.toNat ++ [y] ++ xs.drop i.toNat)))
theorem mt_insertS {X : Cx} : MtR X "list.insert" rInsertS := mt_insert
section
variable {K : KF} {W : WX} {Γ : Gm} {Ω : Om} {R : DV → Om → Prop} {X : Exc → Om → Prop} {wi : TI} {g : TG} {tt : TT} {te : TE} {vs : List Nat}
theorem wm_insert {i : Nat} {j : Int} {y : DV} {ds : List DV} (hx : Ω[i]? = some (.lst ds)) (hl : ds.length < 100000) (h0 : 0 ≤ j) (h1 : j < 2 ^ 63)
    (q : R (.d .none) (Ω.set i (.lst (ds.take j.toNat ++ [y] ++ ds.drop j.toNat)))) : WM K rInsertS (.o i) [.d (.int j), y] Ω R := fun m G H v vs Q c r1 r2 k => by
  obtain ⟨hi, rfl⟩ := r1
  cases r2 with
  | cons rj rr =>
    cases rj
    cases rr with
    | cons ry rn =>
      cases rn
      obtain ⟨q1, ws, hw, rp⟩ := c.fr i _ hx (by intro z; cases z)
      refine ⟨m i, ws, j, _, rfl, rfl, hw, sz_lt (by rw [← Paired.length rp]; exact hl), h0, h1, ?_⟩
      have c2 := c.write (y := .lst (ds.take j.toNat ++ [y] ++ ds.drop j.toNat)) (o := .lst (ws.take j.toNat ++ [_] ++ ws.drop j.toNat)) hx (by intro z; cases z)
        ⟨_, upd_same, Paired.app (Paired.app (Paired.takeP _ rp) (.cons ry .nil)) (Paired.dropP _ rp)⟩
      exact k _ _ _ _ (.d .none) _ c2 (Nxt.refl ..) (by rw [List.length_set]; exact Nat.le_refl _) Dp.non q
/-- y put first into the newest own list -/
theorem wm_insL {ds : List DV} {y : DV} (hl : ds.length < 100000) (q : R (.d .none) (Ω ++ [.lst (y :: ds)])) : WM K rInsertS (.o Ω.length) [.d (.int 0), y] (Ω ++ [.lst ds]) R :=
  wm_insert (get_last _ _) hl (by decide) (by decide) (by rw [set_last]; exact q)
/-- [F(a) for a in ..if p(a)], a list that is changed later -/
theorem we_lcO {α : Type} (og : Only g vs) (h : WI K W wi Γ Ω (fun ys stay Ω1 => ∃ (l : List α) (f : α → DV) (p : α → Bool) (F : α → PyData), ys = l.map f ∧ l.length ≤ 100000 ∧ Ω1 = Ω ∧ (∀ ds, stay (Ω ++ [.lst ds])) ∧
      (∀ a Ω', a ∈ l → (∃ ds, Ω' = Ω ++ [.lst ds]) → WG K g (f a) (wipeG Γ vs) Ω' (fun Γ2 Ω2 => WT K (fun _ _ _ _ => False) tt Γ2 Ω2 (fun b Ω3 => b = p a ∧ Ω3 = Ω' ∧ (b = true → WE K (fun _ _ _ _ => False) te Γ2 Ω' (fun x Ω4 => x = .d (F a) ∧ Ω4 = Ω') NoX)) NoX)) ∧
      R (.o Ω.length) (Ω ++ [.lst (((l.filter p).map F).map DV.d)])) X) : WE K W (tLc wi g tt te vs) Γ Ω R X := by
  refine (we_lc og fun m G H σ R' c s x k => h m G H σ R' c s x fun m1 G1 Ω1 H1 J ys stay c1 n1 l1 it ⟨l, f, p, F, e1, hl, e2, st, el, q⟩ => ?_)
  subst e1 e2
  have ln : ∀ i, ((((l.take i).filter p).map F).length ≤ i) := fun i => by
    rw [List.length_map]
    refine Nat.le_trans (List.length_filter_le _ _) ?_
    rw [List.length_take]; omega
  refine k m1 G1 Ω1 H1 J _ stay c1 n1 l1 it ⟨fun i acc Ω' => acc = (((l.take i).filter p).map F).map DV.d ∧ Ω' = Ω1 ++ [.lst acc], ⟨rfl, rfl⟩, fun i acc Ω' hi hp => ?_, fun i y acc Ω' hy hp => ?_, fun acc Ω' hp => ?_⟩
  · obtain ⟨rfl, rfl⟩ := hp
    exact ⟨st _, by simp⟩
  · obtain ⟨ha, rfl⟩ := hp
    rw [List.getElem?_map] at hy
    cases ea : l[i]? with
    | none => rw [ea] at hy; cases hy
    | some a =>
      rw [ea] at hy
      cases hy
      have hi := lt_of_get ea
      have em : a ∈ l := List.mem_iff_getElem?.mpr ⟨i, ea⟩
      have et : l.take (i + 1) = l.take i ++ [a] := by rw [List.take_add_one, ea]; rfl
      intro m2 G2 H2 σ2 v Q2 c2 s2 r2 k2
      refine el a _ em ⟨acc, rfl⟩ m2 G2 H2 σ2 v Q2 c2 s2 r2 fun m3 G3 Ω3 H3 Γ3 σ3 c3 n3 l3 s3 h3 => k2 m3 G3 Ω3 H3 Γ3 σ3 c3 n3 l3 s3 fun m4 G4 H4 σ4 Q4 c4 s4 k4 x4 => ?_
      refine h3 m4 G4 H4 σ4 Q4 c4 s4 (fun m5 G5 Ω5 H5 b c5 n5 l5 ⟨eb, eo, hb⟩ => k4 m5 G5 Ω5 H5 b c5 n5 l5 ⟨fun hbt => ?_, fun hbf => ?_⟩) x4
      · subst eo
        intro m6 G6 H6 σ6 Q6 c6 s6 k6 x6
        refine hb hbt m6 G6 H6 σ6 Q6 c6 s6 (fun m7 G7 Ω7 H7 d v c7 n7 l7 r7 ⟨ex, eo7⟩ => k6 m7 G7 Ω7 H7 d v c7 n7 l7 r7 ?_) x6
        subst eo7 ex
        refine ⟨by simp, ?_, ?_, ?_⟩
        · rw [ha, List.length_map]
          have := ln i
          omega
        · rw [ha, et, List.filter_append, List.filter_cons, if_pos (by rw [← eb]; exact hbt)]
          simp
        · simp
      · subst eo
        refine ⟨?_, rfl⟩
        rw [ha, et, List.filter_append, List.filter_cons, if_neg (by rw [← eb, hbf]; exact Bool.false_ne_true)]
        simp
  · obtain ⟨ha, rfl⟩ := hp
    rw [List.length_map, List.take_length] at ha
    rw [ha]
    exact q
end
/-! ### broad balls -/
structure Bb where
  p : Rat
  s : Rat
  w : Int
  d : Rat
deriving DecidableEq
def dBb (b : Bb) : PyData := .tuple [dR b.p, dR b.s, .int b.w, dR b.d]
def dBroad (l : List Bb) : PyData := .tuple (l.map dBb)
def thickF : Rat → List Bl → List Rat → List Bb
  | a, b :: l, w :: ws => ⟨b.p + a, b.s, b.w, w⟩ :: thickF (a + w) l ws
  | _, _, _ => []
def thinF : Rat → List Bb → List Bl
  | a, b :: l => ⟨b.p - a, b.s, b.w⟩ :: thinF (a + b.d) l
  | _, [] => []
theorem thin_thick : ∀ (a : Rat) (l : List Bl) (ws : List Rat), l.length = ws.length → thinF a (thickF a l ws) = l
  | a, b :: l, w :: ws, h => by
    show (⟨b.p + a - a, b.s, b.w⟩ : Bl) :: thinF (a + w) (thickF (a + w) l ws) = _
    rw [thin_thick (a + w) l ws (by simpa using h)]
    have : b.p + a - a = b.p := by grind
    rw [this]
  | a, [], [], _ => rfl
  | a, [], w :: ws, h => by cases h
  | a, b :: l, [], h => by cases h
theorem thick_d : ∀ (a : Rat) (l : List Bl) (ws : List Rat), l.length = ws.length → (thickF a l ws).map Bb.d = ws
  | a, b :: l, w :: ws, h => by
    show w :: (thickF (a + w) l ws).map Bb.d = _
    rw [thick_d (a + w) l ws (by simpa using h)]
  | a, [], [], _ => rfl
  | a, [], w :: ws, h => by cases h
  | a, b :: l, [], h => by cases h
theorem thick_len : ∀ (a : Rat) (l : List Bl) (ws : List Rat), l.length = ws.length → (thickF a l ws).length = l.length := fun a l ws h => by
  have := congrArg List.length (thick_d a l ws h)
  rw [List.length_map] at this
  omega
theorem thin_snoc : ∀ (a : Rat) (l : List Bb) (b : Bb), thinF a (l ++ [b]) = thinF a l ++ [⟨b.p - (a + sumR (l.map Bb.d)), b.s, b.w⟩]
  | a, [], b => by
    show [_] = [_]
    have : a + sumR [] = a := by show a + 0 = a; grind
    rw [List.map_nil, this]
  | a, c :: l, b => by
    show _ :: thinF (a + c.d) (l ++ [b]) = _ :: (thinF (a + c.d) l ++ _)
    rw [thin_snoc]
    have : a + c.d + sumR (l.map Bb.d) = a + sumR ((c :: l).map Bb.d) := by show _ = a + (c.d + sumR (l.map Bb.d)); grind
    rw [this]
theorem thick_snoc : ∀ (a : Rat) (l : List Bl) (ws : List Rat) (b : Bl) (w : Rat), l.length = ws.length → thickF a (l ++ [b]) (ws ++ [w]) = thickF a l ws ++ [⟨b.p + (a + sumR ws), b.s, b.w, w⟩]
  | a, [], [], b, w, _ => by
    show [_] = [_]
    have : a + sumR [] = a := by show a + 0 = a; grind
    rw [this]
  | a, c :: l, v :: ws, b, w, h => by
    show _ :: thickF (a + v) (l ++ [b]) (ws ++ [w]) = _ :: (thickF (a + v) l ws ++ _)
    rw [thick_snoc _ _ _ _ _ (by simpa using h)]
    have : a + v + sumR ws = a + sumR (v :: ws) := by show _ = a + (v + sumR ws); grind
    rw [this]
  | a, [], v :: ws, _, _, h => by cases h
  | a, b :: l, [], _, _, h => by cases h
theorem thin_len : ∀ (a : Rat) (l : List Bb), (thinF a l).length = l.length
  | _, [] => rfl
  | a, b :: l => by show (thinF (a + b.d) l).length + 1 = l.length + 1; rw [thin_len]
section
variable {K : KF} {W : WX} {Γ : Gm} {Ω : Om} {R : DV → Om → Prop} {S : Gm → Om → Prop} {gs : TGs}
theorem wr_ixD0 {b : Bb} (q : R (.d (dR b.p)) Ω) : WR K (rIx K) (.d (dBb b)) (.d (.int 0)) Ω R := wr_ixT rfl q
theorem wr_ixD1 {b : Bb} (q : R (.d (dR b.s)) Ω) : WR K (rIx K) (.d (dBb b)) (.d (.int 1)) Ω R := wr_ixT rfl q
theorem wr_ixD2 {b : Bb} (q : R (.d (.int b.w)) Ω) : WR K (rIx K) (.d (dBb b)) (.d (.int 2)) Ω R := wr_ixT rfl q
theorem wr_ixD3 {b : Bb} (q : R (.d (dR b.d)) Ω) : WR K (rIx K) (.d (dBb b)) (.d (.int 3)) Ω R := wr_ixT rfl q
theorem wg_tupD {b : Bb} (h : WGs K gs [.d (dR b.p), .d (dR b.s), .d (.int b.w), .d (dR b.d)] Γ Ω S) : WG K (gTup K 4 gs) (.d (dBb b)) Γ Ω S := wg_tup (xs := [dR b.p, dR b.s, .int b.w, dR b.d]) rfl h
end
theorem eqvI_dBb : EqvI dBb := fun a b => by
  show (PyData.eqv (dR a.p) (dR b.p) && (PyData.eqv (dR a.s) (dR b.s) && (PyData.eqv (.int a.w) (.int b.w) && (PyData.eqv (dR a.d) (dR b.d) && true)))) = _
  rw [eqv_dR, eqv_dR, eqv_int, eqv_dR]
  obtain ⟨p, s, w, d⟩ := a
  obtain ⟨q, t, v, e⟩ := b
  by_cases h1 : p = q <;> by_cases h2 : s = t <;> by_cases h3 : w = v <;> by_cases h4 : d = e <;> simp [h1, h2, h3, h4]
theorem shp_dBb {n : Nat} (b : Bb) : Shp (n + 2) (dBb b) := shp_tup (shp_cons (shp_dR _) (shp_cons (shp_dR _) (shp_cons shp_int (shp_cons (shp_dR _) shp_nil))))
theorem eqvI_dBroad : EqvI dBroad := eqv_tup eqvI_dBb
theorem shp_dBroad (l : List Bb) : Shp 64 (dBroad l) := (shp_tup (n := 2) (shp_map fun b => shp_dBb (n := 0) b)).mono (by decide)
def brdB : PyData → Bool
  | .tuple [p, _, _, d] => isRatio p && isRatio d
  | _ => false
def widB : PyData → Bool
  | .tuple [_, _, _, .tuple [.int a, _]] => decide (0 ≤ a)
  | _ => false
def areBroad : PyData → Bool
  | .tuple xs => (decide (1 ≤ xs.length) && decide (xs.length ≤ 8)) && (xs.all brdB && xs.all widB)
  | _ => false
theorem len4 {α : Type} {xs : List α} (h : xs.length = 4) : ∃ a b c d, xs = [a, b, c, d] := by
  match xs, h with
  | [a, b, c, d], _ => exact ⟨a, b, c, d, rfl⟩
theorem brd_eq {y : PyData} (h : brdB y = true) : ∃ (p d : Rat) (s w : PyData), y = .tuple [dR p, s, w, dR d] := by
  unfold brdB at h
  split at h
  · obtain ⟨h1, h2⟩ := Bool.and_eq_true_iff.mp h
    obtain ⟨p, rfl⟩ := isRatio_eq h1
    obtain ⟨d, rfl⟩ := isRatio_eq h2
    exact ⟨p, d, _, _, rfl⟩
  · cases h
theorem areBroad_dBroad (l : List Bb) : areBroad (dBroad l) = ((decide (1 ≤ l.length) && decide (l.length ≤ 8)) && l.all fun b => decide (0 ≤ b.d.num)) := by
  show ((decide (1 ≤ (l.map dBb).length) && decide ((l.map dBb).length ≤ 8)) && ((l.map dBb).all brdB && (l.map dBb).all widB)) = _
  rw [List.length_map, List.all_map, List.all_map]
  have e1 : l.all (brdB ∘ dBb) = true := List.all_eq_true.mpr fun b _ => by
    show (isRatio (dR b.p) && isRatio (dR b.d)) = true
    rw [isRatio_dR, isRatio_dR]; rfl
  rw [e1, Bool.true_and]
  rfl
/-! ### is True, is False -/
def rIsBl : R2 := fun x y H Q => ∃ a b : Bool, x = .bl a ∧ y = .bl b ∧
  Q (.bl (decide (a = b))) H
def rIsnBl : R2 := fun x y H Q => ∃ a b : Bool, x = .bl a ∧ y = .bl b ∧
  Q (.bl (!decide (a = b))) H
theorem op_isB {X : Cx} : OpR X (compareOp .Is) rIsBl := op_is_bl
theorem op_isnB {X : Cx} : OpR X (compareOp .IsNot) rIsnBl := op_isnot_bl
theorem wr_isB {K : KF} {Ω : Om} {R : DV → Om → Prop} {a b : Bool} (q : R (.d (.bool (decide (a = b)))) Ω) : WR K rIsBl (.d (.bool a)) (.d (.bool b)) Ω R := fun m G H v w Q c r1 r2 k => by
  cases r1
  cases r2
  exact ⟨a, b, rfl, rfl, k _ _ _ _ (.d (.bool (decide (a = b)))) _ c (Nxt.refl ..) (Nat.le_refl _) (Dp.bl _) q⟩
theorem wr_isnB {K : KF} {Ω : Om} {R : DV → Om → Prop} {a b : Bool} (q : R (.d (.bool (!decide (a = b)))) Ω) : WR K rIsnBl (.d (.bool a)) (.d (.bool b)) Ω R := fun m G H v w Q c r1 r2 k => by
  cases r1
  cases r2
  exact ⟨a, b, rfl, rfl, k _ _ _ _ (.d (.bool (!decide (a = b)))) _ c (Nxt.refl ..) (Nat.le_refl _) (Dp.bl _) q⟩
/-! ### x in a list, a tuple -/
def rInA (K : KF) (neg : Bool) : R2 := fun x y H Q => ∃ (d : PyData) (ds : List PyData), Dp K H x d ∧ (Dp K H y (.list ds) ∨ Dp K H y (.tuple ds)) ∧
  Shp 63 d ∧ SeqAt.shaped (.list ds) = true ∧ Q (.bl (neg != ds.any fun z => PyData.eqv z d)) H
theorem in_room {u : Nat} {ds : List PyData} {d : PyData} (h : Shp 63 d) (hu : u + 64 < cLine) : u + 1 + min (PyData.depthAll ds) d.depth < cLine := by
  have := h.2
  have := Nat.min_le_right (PyData.depthAll ds) d.depth
  omega
theorem op_inA {X : Cx} (hu : X.A.units + 64 < cLine) : OpR X (compareOp .In) (rInA X.K false) := by
  intro pins s σ H x y v u Q I rx ry ⟨d, ds, hd, he, sd, se, q⟩
  rw [Bool.false_bne] at q
  obtain ⟨as, r1⟩ := Dp.reads I d x v hd rx
  rcases he with he | he
  · obtain ⟨bs, r2⟩ := Dp.reads I (.list ds) y u he ry
    exact SeqAt.in_list_reads r2 r1 (SeqAt.canLay_of_shaped se) sd.1 (in_room sd hu) ⟨.bl _, H, I, rfl, q⟩
  · obtain ⟨bs, r2⟩ := Dp.reads I (.tuple ds) y u he ry
    exact SeqAt.in_tuple_reads r2 r1 (SeqAt.canLay_of_shaped se) sd.1 (in_room sd hu) ⟨.bl _, H, I, rfl, q⟩
theorem op_niA {X : Cx} (hu : X.A.units + 64 < cLine) : OpR X (compareOp .NotIn) (rInA X.K true) := by
  intro pins s σ H x y v u Q I rx ry ⟨d, ds, hd, he, sd, se, q⟩
  rw [Bool.true_bne] at q
  obtain ⟨as, r1⟩ := Dp.reads I d x v hd rx
  rcases he with he | he
  · obtain ⟨bs, r2⟩ := Dp.reads I (.list ds) y u he ry
    exact SeqAt.notIn_list_reads r2 r1 (SeqAt.canLay_of_shaped se) sd.1 (in_room sd hu) ⟨.bl _, H, I, rfl, q⟩
  · obtain ⟨bs, r2⟩ := Dp.reads I (.tuple ds) y u he ry
    exact SeqAt.notIn_tuple_reads r2 r1 (SeqAt.canLay_of_shaped se) sd.1 (in_room sd hu) ⟨.bl _, H, I, rfl, q⟩
section
variable {K : KF} {W : WX} {Γ : Gm} {Ω : Om} {R : DV → Om → Prop} {X : Exc → Om → Prop} {Rc : List DV → (Om → Prop) → Om → Prop} {te : TE}
theorem wr_in {neg : Bool} {x y : DV} {a : PyData} {bs : List PyData} (hx : vw Ω x = some a) (hy : vw Ω y = some (.list bs) ∨ vw Ω y = some (.tuple bs)) (sa : Shp 63 a) (sb : SeqAt.shaped (.list bs) = true)
    (q : R (.d (.bool (neg != bs.any fun z => PyData.eqv z a))) Ω) : WR K (rInA K neg) x y Ω R := fun m G H v w Q c r1 r2 k =>
  ⟨a, bs, vw_dp c r1 hx, hy.imp (fun h => vw_dp c r2 h) (fun h => vw_dp c r2 h), sa, sb, k _ _ _ _ (.d (.bool _)) _ c (Nxt.refl ..) (Nat.le_refl _) (Dp.bl _) q⟩
theorem any_int (a : Int) : ∀ ns : List Int, ((ns.map PyData.int).any fun z => PyData.eqv z (.int a)) = decide (a ∈ ns)
  | [] => by simp
  | n :: ns => by
    rw [List.map_cons, List.any_cons, any_int a ns, eqv_int]
    by_cases h : n = a
    · subst h; simp
    · have : ¬ a = n := fun e => h e.symm
      simp [h, this]
theorem wr_inI {neg : Bool} {a : Int} (ns : List Int) {xs : List PyData} (e : xs = ns.map PyData.int) (q : R (.d (.bool (neg != decide (a ∈ ns)))) Ω) : WR K (rInA K neg) (.d (.int a)) (.d (.tuple xs)) Ω R := by
  subst e
  exact wr_in rfl (.inr rfl) shp_int (shaped_of ((shp_list (n := 0) (shp_map (f := PyData.int) fun _ => shp_int)).mono (by decide))) (by rw [any_int]; exact q)
/-- a list or a tuple walked -/
theorem wi_LT {α : Type} (F : α → PyData) (l : List α) (h : WE K W te Γ Ω (fun d Ω1 => (d = .d (.list (l.map F)) ∨ d = .d (.tuple (l.map F))) ∧ Rc (l.map fun a => .d (F a)) (fun _ => True) Ω1) X) : WI K W (iSeq K te) Γ Ω Rc X := fun m G H σ R c s x k =>
  h m G H σ _ c s (fun m1 G1 Ω1 H1 d v c1 n1 l1 r1 ⟨e, q⟩ => by
    have e2 : (l.map fun a => DV.d (F a)) = (l.map F).map DV.d := by rw [List.map_map]; rfl
    rw [e2] at q
    rcases e with rfl | rfl
    · obtain ⟨a, vs, rfl, hs, rp⟩ := sqLs_get c1 r1 rfl
      exact ⟨a, rfl, .inl ⟨⟨vs, hs⟩, k m1 G1 Ω1 H1 _ _ (fun _ => True) c1 n1 l1 (fun m' G' Ω' H' c' n' l' _ i => itok_list r1 m' G' Ω' H' c' n' l' rfl i) q⟩⟩
    · obtain ⟨a, vs, rfl, hs, rp⟩ := lsT_get c1 r1 rfl
      exact ⟨a, rfl, .inr ⟨⟨vs, ex_t c1.ex hs⟩, k m1 G1 Ω1 H1 _ _ _ c1 n1 l1 (itok_tup r1) q⟩⟩) x
end
/-! ### sightings -/
structure Sg where
  i : Int
  j : Int
  v : Rat
  w : Rat
  a : Rat
  b : Rat
deriving DecidableEq
def dSg (x : Sg) : PyData := .tuple [.int x.i, .int x.j, dR x.v, dR x.w, dR x.a, dR x.b]
def Sg.lost (x : Sg) : Rat := x.v - x.a
def Sg.won (x : Sg) : Rat := x.b - x.w
def Sg.reb (x : Sg) : Bool := !decide (x.v = x.w) && decide (x.b - x.a = x.v - x.w)
def Sg.share (x : Sg) : Option Rat := if x.reb = true ∧ 0 < x.lost / x.won then some (x.lost / x.won) else none
structure SgOk (n : Nat) (x : Sg) : Prop where
  i0 : 0 ≤ x.i ∧ x.i ≤ 1000
  j0 : 0 ≤ x.j ∧ x.j ≤ 1000
  v : Sz 300 x.v
  w : Sz 300 x.w
  a : Sz 600 x.a
  b : Sz 600 x.b
  lost : Sz n x.lost
  won : Sz n x.won
def mkMeet (i j m n : Int) (v w : Rat) : Sg := ⟨i, j, v, w, v - (v - w) * Rat.divInt (2 * n) (m + n), w + (v - w) * Rat.divInt (2 * m) (m + n)⟩
def dO : Option Rat → PyData
  | none => .none
  | some q => dR q
theorem eqvI_dSg : EqvI dSg := fun x y => by
  show (PyData.eqv (.int x.i) (.int y.i) && (PyData.eqv (.int x.j) (.int y.j) && (PyData.eqv (dR x.v) (dR y.v) && (PyData.eqv (dR x.w) (dR y.w) && (PyData.eqv (dR x.a) (dR y.a) && (PyData.eqv (dR x.b) (dR y.b) && true)))))) = _
  rw [eqv_int, eqv_int, eqv_dR, eqv_dR, eqv_dR, eqv_dR]
  obtain ⟨i, j, v, w, a, b⟩ := x
  obtain ⟨i', j', v', w', a', b'⟩ := y
  by_cases h1 : i = i' <;> by_cases h2 : j = j' <;> by_cases h3 : v = v' <;> by_cases h4 : w = w' <;> by_cases h5 : a = a' <;> by_cases h6 : b = b' <;> simp [h1, h2, h3, h4, h5, h6]
theorem shp_dSg {n : Nat} (x : Sg) : Shp (n + 2) (dSg x) := shp_tup (shp_cons shp_int (shp_cons shp_int (shp_cons (shp_dR _) (shp_cons (shp_dR _) (shp_cons (shp_dR _) (shp_cons (shp_dR _) shp_nil))))))
section
variable {K : KF} {W : WX} {Γ : Gm} {Ω : Om} {R : DV → Om → Prop} {S : Gm → Om → Prop} {gs : TGs}
theorem wg_tupS {x : Sg} (h : WGs K gs [.d (.int x.i), .d (.int x.j), .d (dR x.v), .d (dR x.w), .d (dR x.a), .d (dR x.b)] Γ Ω S) : WG K (gTup K 6 gs) (.d (dSg x)) Γ Ω S := wg_tup (xs := [.int x.i, .int x.j, dR x.v, dR x.w, dR x.a, dR x.b]) rfl h
theorem wr_ixS0 {x : Sg} (q : R (.d (.int x.i)) Ω) : WR K (rIx K) (.d (dSg x)) (.d (.int 0)) Ω R := wr_ixT rfl q
theorem wr_ixS1 {x : Sg} (q : R (.d (.int x.j)) Ω) : WR K (rIx K) (.d (dSg x)) (.d (.int 1)) Ω R := wr_ixT rfl q
theorem isNo_dO (w : Option Rat) : isNo (.d (dO w)) = w.isNone := by cases w <;> rfl
theorem plain_dO (w : Option Rat) : plainV (.d (dO w)) = true := by cases w <;> rfl
theorem wr_isNO {w : Option Rat} (q : R (.d (.bool w.isNone)) Ω) : WR K oIsN (.d (dO w)) (.d .none) Ω R := wr_isN' (plain_dO w) (by rw [isNo_dO]; exact q)
theorem wr_notNO {w : Option Rat} (q : R (.d (.bool (!w.isNone))) Ω) : WR K oNotN (.d (dO w)) (.d .none) Ω R := wr_notN' (plain_dO w) (by rw [isNo_dO]; exact q)
theorem we_one (q0 : He.tupB K "ONE" [.int 1, .int 1] = true) {X : Exc → Om → Prop} (q : R (.d (dR 1)) Ω) : WE K W (tC (.ref (He.ga K "ONE"))) Γ Ω R X := we_g (tup_dp q0 fun G => .cons (.int 1) (.cons (.int 1) .nil)) q
end
/-! ### rings of sightings -/
def dPr (x : Int × Int) : PyData := .tuple [.int x.1, .int x.2]
abbrev St3 := Int × Int × Rat
def dSt : Option St3 → PyData
  | none => .none
  | some (i, j, q) => .tuple [.int i, .int j, dR q]
def stepF (xs : List Sg) (p : Int × Int) : Option St3 :=
  if 0 ≤ p.1 ∧ p.1 < xs.length ∧ (p.2 = 0 ∨ p.2 = 1) then
    match xs[p.1.toNat]? with
    | none => none
    | some x => match x.share with
      | none => none
      | some q => if p.2 = 0 then some (x.i, x.j, q) else some (x.j, x.i, 1 / q)
  else none
def prodF (l : List St3) : Rat := l.foldl (fun q s => q * s.2.2) 1
def d3 : St3 := (0, 0, 0)
def closes (l : List St3) : Bool := (List.range l.length).all fun at_ => decide ((l.getD (if at_ = 0 then l.length - 1 else at_ - 1) d3).2.1 = (l.getD at_ d3).1)
def ringB (xs : List Sg) (ring : List (Int × Int)) : Bool :=
  if ring = [] ∨ (ring.any fun p => (stepF xs p).isNone) = true then false else closes (ring.filterMap (stepF xs)) && !decide (prodF (ring.filterMap (stepF xs)) = 1)
theorem prodF_snoc (l : List St3) (s : St3) : prodF (l ++ [s]) = prodF l * s.2.2 := by unfold prodF; rw [List.foldl_append]; rfl
theorem eqvI_dPr : EqvI dPr := fun x y => by
  show (PyData.eqv (.int x.1) (.int y.1) && (PyData.eqv (.int x.2) (.int y.2) && true)) = _
  rw [eqv_int, eqv_int]
  obtain ⟨a, b⟩ := x
  obtain ⟨c, d⟩ := y
  by_cases h1 : a = c <;> by_cases h2 : b = d <;> simp [h1, h2]
theorem shp_dPr {n : Nat} (x : Int × Int) : Shp (n + 1) (dPr x) := shp_tup (shp_cons shp_int (shp_cons shp_int shp_nil))
theorem shp_dSt {n : Nat} (x : Option St3) : Shp (n + 2) (dSt x) := by
  cases x with
  | none => exact shp_none
  | some x => exact shp_tup (shp_cons shp_int (shp_cons shp_int (shp_cons (shp_dR _) shp_nil)))
theorem steps_some {xs : List Sg} : ∀ {ring : List (Int × Int)}, (ring.any fun p => (stepF xs p).isNone) = false → ring.map (stepF xs) = (ring.filterMap (stepF xs)).map some
  | [], _ => rfl
  | p :: ring, h => by
    obtain ⟨h1, h2⟩ := Bool.or_eq_false_iff.mp (show ((stepF xs p).isNone || ring.any fun p => (stepF xs p).isNone) = false from h)
    cases e : stepF xs p with
    | none => rw [e] at h1; cases h1
    | some s => rw [List.map_cons, List.filterMap_cons, e, List.map_cons, steps_some h2]
theorem share_sz {n : Nat} {x : Sg} {q : Rat} (ok : SgOk n x) (hn : 1 ≤ n) (h : x.share = some q) : Sz (n + n) q ∧ 0 < q := by
  unfold Sg.share at h
  split at h
  · rename_i z
    cases h
    exact ⟨ok.lost.div ok.won (by omega), z.2⟩
  · cases h
theorem inv_sz {n : Nat} {q : Rat} (h : Sz n q) (h0 : 0 < q) (hn : 0 < n) : Sz (n + 1) (1 / q) ∧ 0 < 1 / q := by
  have z1 : Sz 1 (1 : Rat) := ⟨by decide, by decide⟩
  refine ⟨(z1.div h hn).mono (by omega), ?_⟩
  rw [Rat.div_def, Rat.one_mul]
  exact Rat.inv_pos.mpr h0
theorem step_ok {xs : List Sg} {n : Nat} (ok : ∀ x ∈ xs, SgOk n x) (hn : 1 ≤ n) {p : Int × Int} {s : St3} (h : stepF xs p = some s) : Sz (n + n + 1) s.2.2 ∧ 0 < s.2.2 := by
  unfold stepF at h
  split at h
  · cases e : xs[p.1.toNat]? with
    | none => rw [e] at h; cases h
    | some x =>
      rw [e] at h
      cases e2 : x.share with
      | none => simp only [e2] at h; cases h
      | some q =>
        simp only [e2] at h
        obtain ⟨h1, h2⟩ := share_sz (ok x (List.mem_of_getElem? e)) hn e2
        split at h
        · cases h; exact ⟨h1.mono (by omega), h2⟩
        · cases h; exact inv_sz h1 h2 (by omega)
  · cases h
--TAC
local macro_rules | `(tactic| walk_at "hl1") => `(tactic| first
  | with_reducible refine wu_revT ?_
  | with_reducible refine wr_ixB0 ?_
  | with_reducible refine wg_tupS ?_
  | with_reducible refine wr_ixS0 ?_
  | with_reducible refine wr_ixS1 ?_
  | with_reducible refine wr_isNO ?_
  | with_reducible refine wr_notNO ?_
  | ((with_reducible refine' we_one ?h1 ?_); (case h1 => assumption))
  | with_reducible refine wr_isB ?_
  | with_reducible refine wr_isnB ?_
  | with_reducible refine wr_ixD0 ?_
  | with_reducible refine wr_ixD1 ?_
  | with_reducible refine wr_ixD2 ?_
  | with_reducible refine wr_ixD3 ?_
  | with_reducible refine wg_tupD ?_
  | with_reducible refine we_lstO' ?_
  | with_reducible refine wsl_B ?_
  | ((with_reducible refine' wc_listD' ?h1 ?_); (case h1 => rfl))
  | ((with_reducible refine' ex_len ?h1 ?_); (case h1 => exact Nat.le_of_ble_eq_true rfl))
  | with_reducible refine wr_ixRW0 ?_
  | with_reducible refine wr_ixRW1 ?_
  | with_reducible refine wg_tupRW ?_
  | with_reducible refine wg_tup2 ?_
  | with_reducible refine wg_tup3 ?_
  | with_reducible refine wg_tup4 ?_
  | ((with_reducible refine' we_nought ?h1 ?_); (case h1 => assumption))
  | with_reducible refine wsl_Row ?_
  | with_reducible refine wr_ixW0 ?_
  | with_reducible refine wr_ixW1 ?_
  | with_reducible refine wr_isNW ?_
  | with_reducible refine wr_notNW ?_
  | with_reducible refine wg_tupW ?_
  | with_reducible refine wr_ixw0 ?_
  | with_reducible refine wr_ixw1 ?_
  | with_reducible refine wu_revRow ?_
  | with_reducible refine wg_tupR ?_
  | with_reducible refine wg_tupB ?_
  | with_reducible refine wr_ixB1 ?_
  | with_reducible refine wr_ixB2 ?_
  | with_reducible refine we_un ?_)
--END TAC
end HL
namespace HL
open PySem PySem.Spec PyProof.Rows L2 Evl RZ
/-! # numbers of three weights -/
abbrev W3 := Option Int × Int × Option Int
def dI : Option Int → PyData
  | none => .none
  | some i => .int i
def dW3 (w : W3) : PyData := .tuple [dI w.1, .int w.2.1, dI w.2.2]
def facN : W3 → Int
  | (none, _, some c) => 4 * c
  | (some a, _, none) => 4 * a
  | (some a, _, some c) => 4 * a * c
  | _ => 0
def facD : W3 → Int
  | (none, m, some c) => m + c
  | (some a, m, none) => a + m
  | (some a, m, some c) => (a + m) * (m + c)
  | _ => 1
def fac (w : W3) : Rat := Rat.divInt (facN w) (facD w)
structure W3Ok (w : W3) : Prop where
  m : 1 ≤ w.2.1 ∧ w.2.1 ≤ 1000
  a : ∀ x, w.1 = some x → 1 ≤ x ∧ x ≤ 1000 ∧ x ≤ 31 * w.2.1
  c : ∀ x, w.2.2 = some x → 1 ≤ x ∧ x ≤ 1000 ∧ x ≤ 31 * w.2.1
  one : w.1 ≠ none ∨ w.2.2 ≠ none
theorem mul_le_i {a b c d : Int} (h1 : 0 ≤ a) (h2 : a ≤ c) (h3 : 0 ≤ b) (h4 : b ≤ d) : a * b ≤ c * d := Int.mul_le_mul h2 h4 h3 (Int.le_trans h1 h2)
structure FacOk (N D : Int) : Prop where
  d0 : 0 < D
  n0 : 0 < N
  d1 : D < 2 ^ 22
  n1 : N < 2 ^ 22
  gap : 8 * N ≤ 31 * D
theorem fac_ok {w : W3} (h : W3Ok w) : FacOk (facN w) (facD w) := by
  obtain ⟨a, m, c⟩ := w
  obtain ⟨hm, ha, hc, ho⟩ := h
  have hm : 1 ≤ m ∧ m ≤ 1000 := hm
  cases a with
  | none =>
    cases c with
    | none => exact absurd rfl (ho.resolve_left (fun h => h rfl))
    | some c =>
      have hc : 1 ≤ c ∧ c ≤ 1000 ∧ c ≤ 31 * m := hc c rfl
      exact ⟨by show 0 < m + c; omega, by show 0 < 4 * c; omega, by show m + c < 2 ^ 22; omega, by show 4 * c < 2 ^ 22; omega, by show 8 * (4 * c) ≤ 31 * (m + c); omega⟩
  | some a =>
    have ha : 1 ≤ a ∧ a ≤ 1000 ∧ a ≤ 31 * m := ha a rfl
    cases c with
    | none => exact ⟨by show 0 < a + m; omega, by show 0 < 4 * a; omega, by show a + m < 2 ^ 22; omega, by show 4 * a < 2 ^ 22; omega, by show 8 * (4 * a) ≤ 31 * (a + m); omega⟩
    | some c =>
      have hc : 1 ≤ c ∧ c ≤ 1000 ∧ c ≤ 31 * m := hc c rfl
      have h1 : a * c ≤ 1000 * 1000 := mul_le_i (by omega) (by omega) (by omega) (by omega)
      have h2 : (a + m) * (m + c) ≤ 2000 * 2000 := mul_le_i (by omega) (by omega) (by omega) (by omega)
      have h3 : 0 < a * c := Int.mul_pos (by omega) (by omega)
      have h4 : 0 < (a + m) * (m + c) := Int.mul_pos (by omega) (by omega)
      have e : 4 * a * c = 4 * (a * c) := Int.mul_assoc ..
      -- 32 a c ≤ 31 (a + m) (m + c)
      have h5 : (a + m) * (m + c) = a * m + a * c + m * m + m * c := by grind
      have h6 : a * c ≤ a * (31 * m) := Int.mul_le_mul_of_nonneg_left hc.2.2 (by omega)
      have h7 : a * (31 * m) = 31 * (a * m) := by grind
      have h8 : 0 ≤ m * m := Int.mul_nonneg (by omega) (by omega)
      have h9 : 0 ≤ m * c := Int.mul_nonneg (by omega) (by omega)
      exact ⟨h4, by show 0 < 4 * a * c; omega, by show (a + m) * (m + c) < 2 ^ 22; omega, by show 4 * a * c < 2 ^ 22; omega, by show 8 * (4 * a * c) ≤ 31 * ((a + m) * (m + c)); omega⟩
/-- the numbers -/
def xs3 (f : Rat) : Nat → Rat
  | 0 => 1
  | 1 => 1
  | k + 2 => (if k % 2 = 0 then f else 1) * xs3 f (k + 1) - xs3 f k
def ys3 (f : Rat) (n : Nat) : Rat := xs3 f (2 * n + 1)
theorem ys_0 (f : Rat) : ys3 f 0 = 1 := rfl
theorem xs_even (f : Rat) (n : Nat) : xs3 f (2 * n + 2) = f * xs3 f (2 * n + 1) - xs3 f (2 * n) := by
  rw [xs3, if_pos (by omega)]
theorem xs_odd (f : Rat) (n : Nat) : xs3 f (2 * n + 3) = xs3 f (2 * n + 2) - xs3 f (2 * n + 1) := by
  rw [show 2 * n + 3 = (2 * n + 1) + 2 by omega, xs3, if_neg (by omega), Rat.one_mul]
theorem ys_1 (f : Rat) : ys3 f 1 = f - 2 := by
  show xs3 f 3 = f - 2
  have h1 := xs_odd f 0
  have h2 := xs_even f 0
  have e0 : xs3 f (2 * 0) = 1 := rfl
  have e1 : xs3 f (2 * 0 + 1) = 1 := rfl
  rw [e0, e1] at h2
  rw [e1, h2] at h1
  have h1 : xs3 f 3 = f * 1 - 1 - 1 := h1
  rw [h1]; grind
theorem ys_step (f : Rat) (n : Nat) : ys3 f (n + 2) = (f - 2) * ys3 f (n + 1) - ys3 f n := by
  show xs3 f (2 * (n + 2) + 1) = (f - 2) * xs3 f (2 * (n + 1) + 1) - xs3 f (2 * n + 1)
  have h1 := xs_odd f (n + 1)
  have h2 := xs_even f (n + 1)
  have h3 := xs_odd f n
  rw [show 2 * (n + 1) + 3 = 2 * (n + 2) + 1 by omega] at h1
  rw [show 2 * n + 3 = 2 * (n + 1) + 1 by omega, show 2 * n + 2 = 2 * (n + 1) by omega] at h3
  rw [h1, h2]
  have : xs3 f (2 * (n + 1)) = xs3 f (2 * (n + 1) + 1) + xs3 f (2 * n + 1) := by rw [h3]; grind
  rw [this]; grind
def ds3 (f : Rat) (n : Nat) : Rat := ys3 f (n + 1) - ys3 f n
theorem ds_0 (f : Rat) : ds3 f 0 = f - 3 := by unfold ds3; rw [ys_1, ys_0]; grind
theorem ds_step (f : Rat) (n : Nat) : ds3 f (n + 1) = ds3 f n - (4 - f) * ys3 f (n + 1) := by
  unfold ds3
  rw [ys_step]; grind
theorem energy3 (f : Rat) : ∀ n, ds3 f n * ds3 f n + (4 - f) * (ys3 f n * ys3 f (n + 1)) = 1
  | 0 => by rw [ds_0, ys_0, ys_1]; grind
  | n + 1 => by
    have ih := energy3 f n
    unfold ds3 at *
    rw [ys_step]
    generalize ys3 f n = p at *
    generalize ys3 f (n + 1) = q at *
    grind
theorem ends3 {f : Rat} (h1 : 0 < f) (h2 : 1 / 8 ≤ 4 - f) : ∃ k, k < 60 ∧ 1 ≤ k ∧ xs3 f k ≤ 0 := by
  apply Classical.byContradiction
  intro hno
  have hp : ∀ k, 1 ≤ k → k < 60 → 0 < xs3 f k := fun k hk hk2 => by
    apply Classical.byContradiction
    intro hn
    exact hno ⟨k, hk2, hk, Rat.not_lt.mp hn⟩
  have yp : ∀ n, n ≤ 29 → 0 < ys3 f n := fun n hn => hp (2 * n + 1) (by omega) (by omega)
  have f2 : 2 < f := by have := yp 1 (by omega); rw [ys_1] at this; grind
  obtain ⟨δ, hδ⟩ : ∃ δ : Rat, 4 - f = δ := ⟨_, rfl⟩
  have d0 : 1 / 8 ≤ δ := by rw [← hδ]; exact h2
  have d2 : δ < 2 := by rw [← hδ]; grind
  have dpos : 0 < δ := by grind
  -- the slope never rises
  have dle : ∀ n, n ≤ 28 → ds3 f n ≤ 1 := by
    intro n
    induction n with
    | zero => intro _; rw [ds_0]; grind
    | succ n ih =>
      intro hn
      have := ih (by omega)
      have hy := yp (n + 1) (by omega)
      have : 0 < δ * ys3 f (n + 1) := Rat.mul_pos dpos hy
      rw [ds_step, hδ]
      grind
  have yle : ∀ n, n ≤ 29 → ys3 f n ≤ 1 + n := by
    intro n
    induction n with
    | zero => intro _; rw [ys_0]; show (1 : Rat) ≤ 1 + 0; grind
    | succ n ih =>
      intro hn
      have h1 := ih (by omega)
      have h2 := dle n (by omega)
      unfold ds3 at h2
      have : ((n + 1 : Nat) : Rat) = (n : Rat) + 1 := by simp
      rw [this]; grind
  -- it falls once
  obtain ⟨n0, hn0, hneg⟩ : ∃ n, n ≤ 8 ∧ ds3 f n < 0 := by
    apply Classical.byContradiction
    intro hc
    have dge : ∀ n, n ≤ 8 → 0 ≤ ds3 f n := fun n hn => Rat.not_lt.mp fun h => hc ⟨n, hn, h⟩
    have yge : ∀ n, n ≤ 9 → 1 ≤ ys3 f n := by
      intro n
      induction n with
      | zero => intro _; rw [ys_0]; exact Rat.le_refl
      | succ n ih =>
        intro hn
        have h1 := ih (by omega)
        have h2 := dge n (by omega)
        unfold ds3 at h2
        grind
    have key : ∀ n, n ≤ 8 → ds3 f n ≤ 1 - (1 / 8) * (n + 1) := by
      intro n
      induction n with
      | zero => intro _; rw [ds_0]; show f - 3 ≤ 1 - 1 / 8 * (0 + 1); grind
      | succ n ih =>
        intro hn
        have h1 := ih (by omega)
        have h2 := yge (n + 1) (by omega)
        have h3 : (1 / 8 : Rat) * 1 ≤ δ * ys3 f (n + 1) := by
          have : 0 ≤ δ * (ys3 f (n + 1) - 1) := Rat.mul_nonneg (Rat.le_of_lt dpos) (by grind)
          grind
        rw [ds_step, hδ]
        have : ((n + 1 : Nat) : Rat) = (n : Rat) + 1 := by simp
        rw [this]; grind
    have h8 := key 8 (by omega)
    have h9 := dge 8 (by omega)
    have : ((8 : Nat) : Rat) = 8 := rfl
    rw [this] at h8
    grind
  have dn : ∀ j, n0 + j ≤ 28 → ds3 f (n0 + j) ≤ ds3 f n0 := by
    intro j
    induction j with
    | zero => intro _; exact Rat.le_refl
    | succ j ih =>
      intro hj
      have h1 := ih (by omega)
      have hy := yp (n0 + j + 1) (by omega)
      have : 0 < δ * ys3 f (n0 + j + 1) := Rat.mul_pos dpos hy
      rw [show n0 + (j + 1) = n0 + j + 1 by omega, ds_step, hδ]
      grind
  -- low once
  obtain ⟨i, hi, hlow⟩ : ∃ i, i ≤ 17 ∧ ys3 f (n0 + 1 + i) < 1 / 2 := by
    apply Classical.byContradiction
    intro hc
    have yge : ∀ i, i ≤ 17 → 1 / 2 ≤ ys3 f (n0 + 1 + i) := fun i hi => Rat.not_lt.mp fun h => hc ⟨i, hi, h⟩
    have key : ∀ j, j ≤ 17 → ds3 f (n0 + j) ≤ -(1 / 16) * j := by
      intro j
      induction j with
      | zero => intro _; show ds3 f n0 ≤ -(1 / 16) * 0; grind
      | succ j ih =>
        intro hj
        have h1 := ih (by omega)
        have h2 := yge j (by omega)
        rw [show n0 + 1 + j = n0 + j + 1 by omega] at h2
        have h3 : (1 / 16 : Rat) ≤ δ * ys3 f (n0 + j + 1) := by
          have a1 : 0 ≤ δ * (ys3 f (n0 + j + 1) - 1 / 2) := Rat.mul_nonneg (Rat.le_of_lt dpos) (by grind)
          grind
        rw [show n0 + (j + 1) = n0 + j + 1 by omega, ds_step, hδ]
        have : ((j + 1 : Nat) : Rat) = (j : Rat) + 1 := by simp
        rw [this]; grind
    have key2 : ∀ j, j ≤ 18 → ys3 f (n0 + j) ≤ 9 - (1 / 32) * ((j : Rat) * ((j : Rat) - 1)) := by
      intro j
      induction j with
      | zero =>
        intro _
        have h1 := yle n0 (by omega)
        have h2 : (n0 : Rat) ≤ 8 := by
          have : ((n0 : Nat) : Rat) ≤ ((8 : Nat) : Rat) := by exact_mod_cast hn0
          exact this
        show ys3 f n0 ≤ 9 - 1 / 32 * ((0 : Rat) * (0 - 1))
        grind
      | succ j ih =>
        intro hj
        have h1 := ih (by omega)
        have h2 := key j (by omega)
        unfold ds3 at h2
        have : ((j + 1 : Nat) : Rat) = (j : Rat) + 1 := by simp
        rw [this, show n0 + (j + 1) = n0 + j + 1 by omega]
        grind
    have h18 := key2 18 (by omega)
    have hy := yp (n0 + 18) (by omega)
    have : ((18 : Nat) : Rat) = 18 := rfl
    rw [this] at h18
    grind
  obtain ⟨n, hn⟩ : ∃ n, n0 + 1 + i = n := ⟨_, rfl⟩
  rw [hn] at hlow
  have hds : ds3 f n < 0 := by
    have := dn (1 + i) (by omega)
    rw [show n0 + (1 + i) = n by omega] at this
    grind
  have y1 := yp n (by omega)
  have y2 := yp (n + 1) (by omega)
  have he := energy3 f n
  rw [hδ] at he
  have e : ys3 f (n + 1) = ys3 f n + ds3 f n := by unfold ds3; grind
  generalize ys3 f n = p at *
  generalize ys3 f (n + 1) = q at *
  generalize ds3 f n = d at *
  -- p < 1/2, q = p + d > 0, d < 0: d * d < 1 / 4, p * q < 1 / 4
  have b1 : 0 < (p + d) * (p - d) := Rat.mul_pos (by grind) (by grind)
  have b2 : 0 < (1 / 2 - p) * (1 / 2 + p) := Rat.mul_pos (by grind) (by grind)
  have b3 : 0 < p * (p - q) := Rat.mul_pos y1 (by grind)
  have b4 : 0 < (2 - δ) * (p * q) := Rat.mul_pos (by grind) (Rat.mul_pos y1 y2)
  grind
theorem fac_gap {w : W3} (h : W3Ok w) : 0 < fac w ∧ 1 / 8 ≤ 4 - fac w := by
  obtain ⟨d0, n0, d1, n1, gap⟩ := fac_ok h
  have hd : (0 : Rat) < (facD w : Rat) := Rat.intCast_pos.mpr d0
  have hn : (0 : Rat) < (facN w : Rat) := Rat.intCast_pos.mpr n0
  have hg : 8 * (facN w : Rat) ≤ 31 * (facD w : Rat) := by exact_mod_cast gap
  unfold fac
  rw [Rat.divInt_eq_div]
  have hne : (facD w : Rat) ≠ 0 := by grind
  obtain ⟨q, hq⟩ : ∃ q : Rat, (facN w : Rat) / (facD w : Rat) = q := ⟨_, rfl⟩
  have e : q * (facD w : Rat) = (facN w : Rat) := by rw [← hq, Rat.div_mul_cancel hne]
  rw [hq]
  constructor
  · apply Classical.byContradiction
    intro hc
    have : 0 ≤ (0 - q) * (facD w : Rat) := Rat.mul_nonneg (by grind) (Rat.le_of_lt hd)
    grind
  · apply Classical.byContradiction
    intro hc
    have : 0 < (q - 31 / 8) * (facD w : Rat) := Rat.mul_pos (by grind) hd
    grind
/-- the place of the last number -/
def stopK (f : Rat) : Nat := ((List.range 60).find? fun k => decide (1 ≤ k) && decide (xs3 f k ≤ 0)).getD 0
theorem stop_ok {w : W3} (h : W3Ok w) : stopK (fac w) < 60 ∧ 1 ≤ stopK (fac w) ∧ xs3 (fac w) (stopK (fac w)) ≤ 0 ∧ ∀ j, 1 ≤ j → j < stopK (fac w) → 0 < xs3 (fac w) j := by
  obtain ⟨k, hk, h1, h2⟩ := ends3 (fac_gap h).1 (fac_gap h).2
  cases hf : (List.range 60).find? (fun k => decide (1 ≤ k) && decide (xs3 (fac w) k ≤ 0)) with
  | none =>
    have := List.find?_eq_none.mp hf k (List.mem_range.mpr hk)
    rw [decide_eq_true h1, decide_eq_true h2] at this
    exact absurd rfl this
  | some i =>
    obtain ⟨g1, g2, g3⟩ := List.find?_range_eq_some.mp hf
    obtain ⟨g4, g5⟩ := Bool.and_eq_true_iff.mp g1
    have e : stopK (fac w) = i := by unfold stopK; rw [hf]; rfl
    rw [e]
    refine ⟨List.mem_range.mp g2, of_decide_eq_true g4, of_decide_eq_true g5, fun j hj hlt => ?_⟩
    have := g3 j hlt
    rw [decide_eq_true hj, Bool.true_and] at this
    have : decide (xs3 (fac w) j ≤ 0) = false := by simpa using this
    exact Rat.not_le.mp (of_decide_eq_false this)
def numsL (f : Rat) : List Rat := (List.range (stopK f + 1)).map (xs3 f)
theorem nat_bound {A D z0 z1 : Int} {k P a b : Nat} (bA : A.natAbs ≤ a) (bD : (D * D).natAbs ≤ b) (hP : a * P + b ≤ P * P) (b0 : z0.natAbs ≤ P ^ k) (b1 : z1.natAbs ≤ P ^ (k + 1)) : (A * z1 - D * D * z0).natAbs ≤ P ^ (k + 1 + 1) := by
  have h1 : (A * z1).natAbs ≤ a * P ^ (k + 1) := by rw [Int.natAbs_mul]; exact Nat.mul_le_mul bA b1
  have h2 : (D * D * z0).natAbs ≤ b * P ^ k := by rw [Int.natAbs_mul]; exact Nat.mul_le_mul bD b0
  refine Nat.le_trans (Int.natAbs_sub_le _ _) (Nat.le_trans (Nat.add_le_add h1 h2) ?_)
  have e1 : a * P ^ (k + 1) = a * P * P ^ k := by rw [Nat.pow_succ, Nat.mul_comm (P ^ k) P, Nat.mul_assoc]
  have e2 : P ^ (k + 1 + 1) = P * P * P ^ k := by rw [Nat.pow_succ, Nat.pow_succ, Nat.mul_assoc, Nat.mul_comm]
  rw [e1, e2, ← Nat.add_mul]
  exact Nat.mul_le_mul_right _ hP
theorem cap45 : 2 ^ 22 * 2 ^ 45 + 2 ^ 22 * 2 ^ 22 ≤ 2 ^ 45 * 2 ^ 45 := by decide +kernel
theorem xs_int {w : W3} (h : W3Ok w) : ∀ k, (∃ z : Int, xs3 (fac w) k * ((facD w ^ k : Int) : Rat) = (z : Rat) ∧ z.natAbs ≤ (2 ^ 45) ^ k) ∧ ∃ z : Int, xs3 (fac w) (k + 1) * ((facD w ^ (k + 1) : Int) : Rat) = (z : Rat) ∧ z.natAbs ≤ (2 ^ 45) ^ (k + 1) := by
  obtain ⟨d0, n0, d1, n1, gap⟩ := fac_ok h
  have hfd : fac w * (facD w : Rat) = (facN w : Rat) := by
    unfold fac
    rw [Rat.divInt_eq_div, Rat.div_mul_cancel]
    have : (0 : Rat) < (facD w : Rat) := Rat.intCast_pos.mpr d0
    grind
  intro k
  induction k with
  | zero =>
    refine ⟨⟨1, ?_, by decide⟩, ⟨facD w, ?_, ?_⟩⟩
    · show (1 : Rat) * ((facD w ^ 0 : Int) : Rat) = ((1 : Int) : Rat)
      rw [Int.pow_zero, Rat.one_mul]
    · show (1 : Rat) * ((facD w ^ 1 : Int) : Rat) = _
      rw [Int.pow_succ, Int.pow_zero, Int.one_mul, Rat.one_mul]
    · have : (facD w).natAbs ≤ 2 ^ 22 := by omega
      show (facD w).natAbs ≤ (2 ^ 45) ^ 1
      rw [Nat.pow_one]
      exact Nat.le_trans this (Nat.pow_le_pow_right (by decide) (by decide))
  | succ k ih =>
    refine ⟨ih.2, ?_⟩
    obtain ⟨⟨z0, e0, b0⟩, z1, e1, b1⟩ := ih
    obtain ⟨A, hA, bA⟩ : ∃ A : Int, (if k % 2 = 0 then fac w else 1) * (facD w : Rat) = (A : Rat) ∧ A.natAbs ≤ 2 ^ 22 := by
      by_cases hk : k % 2 = 0
      · exact ⟨facN w, by rw [if_pos hk, hfd], by omega⟩
      · exact ⟨facD w, by rw [if_neg hk, Rat.one_mul], by omega⟩
    refine ⟨A * z1 - facD w * facD w * z0, ?_, ?_⟩
    · show ((if k % 2 = 0 then fac w else 1) * xs3 (fac w) (k + 1) - xs3 (fac w) k) * _ = _
      have p1 : ((facD w ^ (k + 1 + 1) : Int) : Rat) = (facD w : Rat) * ((facD w ^ (k + 1) : Int) : Rat) := by rw [Int.pow_succ, Rat.intCast_mul, Rat.mul_comm]
      have p2 : ((facD w ^ (k + 1) : Int) : Rat) = (facD w : Rat) * ((facD w ^ k : Int) : Rat) := by rw [Int.pow_succ, Rat.intCast_mul, Rat.mul_comm]
      rw [Rat.intCast_sub, Rat.intCast_mul, Rat.intCast_mul, Rat.intCast_mul, ← e1, ← e0, ← hA, p1, p2]
      generalize (if k % 2 = 0 then fac w else 1) = g
      generalize ((facD w ^ k : Int) : Rat) = P
      generalize xs3 (fac w) (k + 1) = u
      generalize xs3 (fac w) k = v
      generalize (facD w : Rat) = D
      grind
    · have bD : (facD w).natAbs ≤ 2 ^ 22 := by omega
      have bDD : (facD w * facD w).natAbs ≤ 2 ^ 22 * 2 ^ 22 := by rw [Int.natAbs_mul]; exact Nat.mul_le_mul bD bD
      exact nat_bound bA bDD cap45 b0 b1
theorem xs_sz {w : W3} (h : W3Ok w) {k : Nat} (hk : k ≤ 60) : Sz 2702 (xs3 (fac w) k) := by
  obtain ⟨z, e, b⟩ := (xs_int h k).1
  obtain ⟨d0, n0, d1, n1, gap⟩ := fac_ok h
  have hp : 0 < facD w ^ k := Int.pow_pos d0
  have hq : ((facD w ^ k : Int) : Rat) ≠ 0 := by
    have : (0 : Rat) < ((facD w ^ k : Int) : Rat) := Rat.intCast_pos.mpr hp
    grind
  have ex : xs3 (fac w) k = Rat.divInt z (facD w ^ k) := by
    rw [Rat.divInt_eq_div, ← e, Rat.mul_div_cancel hq]
  rw [ex]
  have hz : z.natAbs < 2 ^ 2702 := by
    rw [← Nat.pow_mul] at b
    exact Nat.lt_of_le_of_lt b (Nat.pow_lt_pow_right (by decide) (by omega))
  have hd : (facD w ^ k).natAbs < 2 ^ 2702 := by
    rw [Int.natAbs_pow]
    have h1 : (facD w).natAbs ^ k ≤ (2 ^ 22) ^ k := Nat.pow_le_pow_left (by omega) k
    rw [← Nat.pow_mul] at h1
    exact Nat.lt_of_le_of_lt h1 (Nat.pow_lt_pow_right (by decide) (by omega))
  exact sz_of_divInt (by omega) hz hd
theorem fac_sz {w : W3} (h : W3Ok w) : Sz 22 (fac w) := by
  obtain ⟨d0, n0, d1, n1, gap⟩ := fac_ok h
  exact sz_of_divInt (by omega) (by omega) (by omega)
/-- a list of one's own, drawn -/
theorem we_lcKO {K : KF} {W : WX} {Γ : Gm} {Ω : Om} {R : DV → Om → Prop} {X : Exc → Om → Prop} {wi : TI} {g : TG} {te : TE} {vs : List Nat} {k : Nat} (og : Only g vs) (hk : k < Ω.length) (h : WI K W wi Γ Ω (fun ys stay Ω1 => ∃ (p1 : OC) (Q : Nat → List PyData → Prop), Ω1 = Ω.set k p1 ∧ IsPool p1 ∧ ys.length ≤ 100000 ∧ (∀ p' ds, IsPool p' → stay (Ω.set k p' ++ [.lst ds])) ∧ Q 0 [] ∧
      (∀ i y acc p', ys[i]? = some y → IsPool p' → acc.length = i → Q i acc → WG K g y (wipeG Γ vs) (Ω.set k p' ++ [.lst (acc.map DV.d)]) (fun Γ2 Ω2 => Ω2 = Ω.set k p' ++ [.lst (acc.map DV.d)] ∧
        WE K (fun _ _ _ _ => False) te Γ2 (Ω.set k p' ++ [.lst (acc.map DV.d)]) (fun x Ω4 => ∃ y p'', x = .d y ∧ Ω4 = Ω.set k p'' ++ [.lst (acc.map DV.d)] ∧ IsPool p'' ∧ Q (i + 1) (acc ++ [y])) NoX)) ∧
      ∀ acc p', IsPool p' → acc.length = ys.length → Q ys.length acc → R (.o Ω.length) (Ω.set k p' ++ [.lst (acc.map DV.d)])) X) : WE K W (tLc wi g tYes te vs) Γ Ω R X := by
  refine (we_lc og fun m G H σ R' c s x kk => h m G H σ R' c s x fun m1 G1 Ω1 H1 J ys stay c1 n1 l1 it ⟨p1, Q, e1, ip1, hl, st, q0, step, fin⟩ => ?_)
  subst e1
  have hlen : ∀ p : OC, (Ω.set k p).length = Ω.length := fun p => List.length_set
  refine kk m1 G1 _ H1 J ys stay c1 n1 l1 it ⟨fun i acc Ω' => ∃ xs p', acc = xs.map DV.d ∧ Ω' = Ω.set k p' ++ [.lst acc] ∧ IsPool p' ∧ xs.length = i ∧ Q i xs, ⟨[], p1, rfl, rfl, ip1, rfl, q0⟩, ?_, ?_, ?_⟩
  · rintro i acc Ω' - ⟨xs, p', rfl, rfl, ip, -, -⟩
    exact ⟨st _ _ ip, by simp [hlen]⟩
  · rintro i y acc Ω' hy ⟨xs, p', rfl, rfl, ip, hi, hq⟩
    have hi2 := lt_of_get hy
    intro m2 G2 H2 σ2 v Q2 c2 s2 r2 k2
    refine step i y xs p' hy ip hi hq m2 G2 H2 σ2 v Q2 c2 s2 r2 fun m3 G3 Ω3 H3 Γ3 σ3 c3 n3 l3 s3 ⟨eo, hw⟩ => k2 m3 G3 Ω3 H3 Γ3 σ3 c3 n3 l3 s3 ?_
    subst eo
    refine wt_yes ⟨fun _ => ?_, fun e => by cases e⟩
    intro m6 G6 H6 σ6 Q6 c6 s6 k6 x6
    refine hw m6 G6 H6 σ6 Q6 c6 s6 (fun m7 G7 Ω7 H7 d v c7 n7 l7 r7 ⟨z, p'', ex, eo7, ip'', hq'⟩ => k6 m7 G7 Ω7 H7 d v c7 n7 l7 r7 ?_) x6
    subst ex eo7
    rw [hlen]
    refine ⟨by rw [← hlen p'', get_last], by rw [List.length_map]; omega, xs ++ [z], p'', by simp, ?_, ip'', by simp [hi], hq'⟩
    rw [← hlen p'', set_last]
  · rintro acc Ω' ⟨xs, p', rfl, rfl, ip, hi, hq⟩
    rw [hlen]
    exact fin xs p' ip hi hq
/-! ### pop at a place -/
theorem wm_popAt {K : KF} {Ω : Om} {R : DV → Om → Prop} {i k : Nat} {j : Int} {y : DV} {ds : List DV} (hx : Ω[i]? = some (.lst ds)) (h0 : -(2 ^ 63) ≤ j) (h1 : j < 2 ^ 63) (hk : ixN ds.length j = some k) (hy : ds[k]? = some y) (q : R y (Ω.set i (.lst (ds.eraseIdx k)))) : WM K rPopAt (.o i) [.d (.int j)] Ω R := fun m G H v vs Q c r1 r2 kk => by
  obtain ⟨hi, rfl⟩ := r1
  cases r2 with
  | cons rj rn =>
    cases rj
    cases rn
    obtain ⟨q1, ws, hw, rp⟩ := c.fr i _ hx (by intro z; cases z)
    have e := Paired.length rp
    obtain ⟨u, hu, ru⟩ := atI_pair (i := j) (x := y) rp (by show (ixN ds.length j).bind _ = _; rw [hk]; exact hy)
    rw [e] at hk
    have hu : ws[k]? = some u := by
      have : (ixN ws.length j).bind (fun z => ws[z]?) = some u := hu
      rw [hk] at this
      exact this
    have dl : Paired (RV K m G Ω.length) (ds.eraseIdx k) (ws.eraseIdx k) := by
      rw [List.eraseIdx_eq_take_drop_succ, List.eraseIdx_eq_take_drop_succ]
      exact Paired.app (Paired.takeP _ rp) (Paired.dropP _ rp)
    have c2 := c.write (y := .lst (ds.eraseIdx k)) (o := .lst (ws.eraseIdx k)) hx (by intro z; cases z) ⟨_, upd_same, dl⟩
    have nx : Nxt m Ω.length G m G := Nxt.refl ..
    exact ⟨m i, ws, j, k, u, rfl, rfl, hw, h0, h1, (ixN_seq hk).1, hu, kk _ _ _ _ y _ c2 nx (by rw [List.length_set]; exact Nat.le_refl _) (RV.mono nx (by rw [List.length_set]; exact Nat.le_refl _) ru) q⟩
end HL
namespace HL
open PySem PySem.Spec PyProof.Rows L2 Evl
theorem walk_ofW {l : PySem.W.OpenLaw} {n k : Nat} {q : Program} {loose : List Str} {XP : (Str → Option Value) → Heap → Prop} {YP : World → Heap → Prop} {d : DefRec} {CX : World → CXT} {x : Str}
    (hn : l.most = some n) (hn2 : n ≤ sizeLine) (hdf : d.params.defaults = []) (hr : Room k callerA)
    (F : ∀ (w : World) (mg : Str → Option Value) (fa : Addr) (h : Heap), YP w h → h.Ns mainGlobals mg → mg d.name = some (.ref fa) →
      ∃ (K : PySem.W.Frag) (fd : FuncData) (sp : Sp), K.In h ∧ (∀ (s : Shared) (u : Value), BindsTo s fd ⟨[u], []⟩ [(x, u)]) ∧
        (∀ (H : Hp) (a : Addr) (ns : List Int), ns.length ≤ n → L2.Only H → SqL K H a (ns.map V.int) → sp [.ref a] H (fun v _ => v = .bl true) fun _ _ _ => False) ∧
        ∀ base : Heap, K.In base → base.Ns mainGlobals mg → FnOk l.prog w K mg base (CX w) k fa fd [x] sp)
    (hCX : ∀ (w : World) (H : Hp) (s : Shared) (e : Value) (s' : Shared), CX w [] H s (fun _ _ _ => False) e s' → False) :
    PySem.W.WalkO q loose XP YP l.row.toRowW d [] (fun f vs => PySem.call f vs) := by
  refine Att.attach_call hn hdf fun w s₀ s₁ mg mb fa o pm cd doc a vs ns G Y ho hd hcd hmg hobj hints hlen hg => ?_
  obtain ⟨K, fd, sp, KX, hb, hsp, hF⟩ := F w mg fa _ Y G.T.g hmg
  exact law_call KX G.T.g G.T.b G.T.builtins G.T.nolimit hg hobj hints (Nat.le_trans hlen hn2) hr hF hb (fun H hO hS => hsp H a ns hlen hO hS) fun H e s' => hCX w H s₁ e s'
theorem cx_no {P : Program} {w : World} {H : Hp} {s : Shared} {e : Value} {s' : Shared} (h : L2.CX P w [] H s (fun _ _ _ => False) e s') : False := by
  obtain ⟨_, _, _, _, _, _, _, _, _, _, _, _, z⟩ := h
  exact z
theorem dps_of_ints {K : KF} {G : Hp} : ∀ ns : List Int, DpAll K G (ns.map V.int) (ns.map PyData.int)
  | [] => .nil
  | n :: ns => .cons (.int n) (dps_of_ints ns)
theorem law_start {K : KF} {spec : Spec} {H : Hp} {a : Addr} {ns : List Int} (hS : SqL K H a (ns.map V.int)) (h : spec [.d (.list (ns.map PyData.int))] [] (fun d _ => d = .d (.bool true)) (fun _ _ => False)) :
    FS K spec [.ref a] H (fun v _ => v = .bl true) fun _ _ _ => False := by
  refine ⟨fun _ => 0, H, [], [.d (.list (ns.map PyData.int))], _, _, ⟨Ex.refl H, fun i c e => by simp at e, fun i j ci cj e => by simp at e⟩, .cons (Dp.lst hS (dps_of_ints ns)) .nil, h, fun m' G' Ω' H' d v _ _ _ r q => ?_, fun _ _ _ _ _ _ _ _ _ _ _ z => z⟩
  subst q
  cases r
  rfl
end HL
namespace HL
open PySem PySem.Spec PyProof.Rows L2 Evl RZ
local macro_rules | `(tactic| walk_at "hl1") => `(tactic| first
  | with_reducible refine ws_seq ?_
  | with_reducible refine ws_asgL ?_
  | with_reducible refine ws_asg ?_
  | with_reducible refine ws_if ?_
  | with_reducible refine ws_ret ?_
  | with_reducible refine ws_drop ?_
  | with_reducible refine ws_par ?_
  | with_reducible refine we_int ?_
  | with_reducible refine we_bl ?_
  | with_reducible refine we_str ?_
  | with_reducible refine we_non ?_
  | with_reducible refine we_ty ?_
  | with_reducible refine we_ref ?_
  | with_reducible refine we_op ?_
  | with_reducible refine we_un ?_
  | with_reducible refine we_if ?_
  | with_reducible refine we_cb ?_
  | with_reducible refine we_call ?_
  | with_reducible refine we_callS ?_
  | with_reducible refine we_tup ?_
  | with_reducible refine we_lstD ?_
  | with_reducible refine we_chain ?_
  | with_reducible refine we_sl ?_
  | with_reducible refine wo_none ?_
  | with_reducible refine wo_some ?_
  | with_reducible refine wa_nil ?_
  | with_reducible refine wa_cons ?_
  | with_reducible refine wt_test ?_
  | with_reducible refine wt_B ?_
  | with_reducible refine wt_and ?_
  | with_reducible refine wt_or ?_
  | with_reducible refine wt_not ?_
  | with_reducible refine wt_yes ?_
  | with_reducible refine we_andV ?_
  | with_reducible refine we_orV ?_
  | with_reducible refine we_notV ?_
  | with_reducible refine wg_name ?_
  | with_reducible refine wgs_nil ?_
  | with_reducible refine wgs_cons ?_
  | with_reducible refine wr_sub ?_
  | with_reducible refine wr_addI ?_
  | with_reducible refine wr_lt ?_
  | with_reducible refine wr_le ?_
  | with_reducible refine wr_gt ?_
  | with_reducible refine wr_ge ?_
  | with_reducible refine wu_neg ?_
  | with_reducible refine wr_ixR0 ?_
  | with_reducible refine wr_eqR ?_
  | with_reducible refine wr_neR ?_
  | with_reducible refine wr_eqI ?_
  | with_reducible refine wr_neI ?_
  | with_reducible refine wr_eqB ?_
  | with_reducible refine wr_neB ?_
  | with_reducible refine wr_ixR1 ?_
  | ((with_reducible refine' wr_mul ?h1 ?_); (case h1 => first | exact .inr (by assumption) | exact .inl (.inl ⟨by decide, by decide⟩) | exact .inl (.inr ⟨by decide, by decide⟩) | assumption))
  | with_reducible refine wc_abs' ?_
  | with_reducible refine wc_max' ?_
  | with_reducible refine wc_min' ?_
  | with_reducible refine wc_intI' ?_
  | with_reducible refine wc_intB' ?_
  | with_reducible refine wsl_T ?_
  | with_reducible refine ex_b ?_
  | with_reducible refine ex_i ?_
  | with_reducible refine ex_p ?_
  | with_reducible refine ws_next ?_
  | with_reducible refine ws_rs ?_
  | with_reducible refine ws_retN ?_
  | with_reducible refine we_bm ?_
  | with_reducible refine we_bm0 ?_
  | ((with_reducible refine' we_var ?h1 ?_); (case h1 => rfl))
  | ((with_reducible refine' wg_tup ?h1 ?_); (case h1 => rfl))
  | ((with_reducible refine' wr_isN' ?h1 ?_); (case h1 => rfl))
  | ((with_reducible refine' wr_notN' ?h1 ?_); (case h1 => rfl))
  | ((with_reducible refine' wr_ixT ?h1 ?_); (case h1 => rfl))
  | ((with_reducible refine' wr_ixL ?h1 ?_); (case h1 => rfl))
  | ((with_reducible refine' wc_len' ?h1 ?_); (case h1 => rfl))
  | ((with_reducible refine' wc_isInt ?h1 ?h2 ?_); (case h1 => rfl); (case h2 => first | rfl | assumption))
  | ((with_reducible refine' wc_isBool ?h1 ?h2 ?_); (case h1 => rfl); (case h2 => first | rfl | assumption))
  | ((with_reducible refine' wc_isTuple ?h1 ?h2 ?_); (case h1 => rfl); (case h2 => first | rfl | assumption))
  | ((with_reducible refine' wc_isStr ?h1 ?h2 ?_); (case h1 => rfl); (case h2 => first | rfl | assumption))
  | ((with_reducible refine' wc_isList ?h1 ?h2 ?_); (case h1 => rfl); (case h2 => first | rfl | assumption))
  | ((with_reducible refine' ex_as ?h1 ?h2 ?_); (case h1 => rfl); (case h2 => exact Nat.le_of_ble_eq_true rfl)))
local macro_rules | `(tactic| walk_at "hl") => `(tactic| repeat walk_at "hl1")
local macro_rules | `(tactic| walk_at "hl1") => `(tactic| first
  | with_reducible refine wu_revT ?_
  | with_reducible refine wr_ixB0 ?_
  | with_reducible refine wg_tupS ?_
  | with_reducible refine wr_ixS0 ?_
  | with_reducible refine wr_ixS1 ?_
  | with_reducible refine wr_isNO ?_
  | with_reducible refine wr_notNO ?_
  | ((with_reducible refine' we_one ?h1 ?_); (case h1 => assumption))
  | with_reducible refine wr_isB ?_
  | with_reducible refine wr_isnB ?_
  | with_reducible refine wr_ixD0 ?_
  | with_reducible refine wr_ixD1 ?_
  | with_reducible refine wr_ixD2 ?_
  | with_reducible refine wr_ixD3 ?_
  | with_reducible refine wg_tupD ?_
  | with_reducible refine we_lstO' ?_
  | with_reducible refine wsl_B ?_
  | ((with_reducible refine' wc_listD' ?h1 ?_); (case h1 => rfl))
  | ((with_reducible refine' ex_len ?h1 ?_); (case h1 => exact Nat.le_of_ble_eq_true rfl))
  | with_reducible refine wr_ixRW0 ?_
  | with_reducible refine wr_ixRW1 ?_
  | with_reducible refine wg_tupRW ?_
  | with_reducible refine wg_tup2 ?_
  | with_reducible refine wg_tup3 ?_
  | with_reducible refine wg_tup4 ?_
  | ((with_reducible refine' we_nought ?h1 ?_); (case h1 => assumption))
  | with_reducible refine wsl_Row ?_
  | with_reducible refine wr_ixW0 ?_
  | with_reducible refine wr_ixW1 ?_
  | with_reducible refine wr_isNW ?_
  | with_reducible refine wr_notNW ?_
  | with_reducible refine wg_tupW ?_
  | with_reducible refine wr_ixw0 ?_
  | with_reducible refine wr_ixw1 ?_
  | with_reducible refine wu_revRow ?_
  | with_reducible refine wg_tupR ?_
  | with_reducible refine wg_tupB ?_
  | with_reducible refine wr_ixB1 ?_
  | with_reducible refine wr_ixB2 ?_
  | with_reducible refine we_un ?_)
/-- any number from 0 on, below the base -/
def sp_law_next (K : KF) : Spec := fun ds Ω R X => ∃ (k : Nat) (p : OC) (b : Int), ds = [.o k, .d (.int b)] ∧ Ω[k]? = some p ∧ IsPool p ∧ 0 < b ∧ b ≤ 10 ^ 30 ∧ Drawn k Ω b R
def t_law_next (K : KF) (W : WX) : TS :=
  (tSeq (tIfS (tTest (tOp oGt (tOp (rIx K) (tVar 0) (tC (.int 0))) (tC (.int 0)))) (tSeq (tAsg (tOp oMod (tOp (rIx K) (tVar 0) (tC (.int 0))) (tVar 1)) (gName 2))
    (tSeq (tAsg (tOp oFdiv (tOp (rIx K) (tVar 0) (tC (.int 0))) (tVar 1)) (gSub (tVar 0) (tC (.int 0)) rSetL))
    (tRet (tVar 2)))) tNext)
    (tSeq (tAsg (tOp (rAddX K) (tOp (rIx K) (tVar 0) (tC (.int 2))) (tC (.int 1))) (gSub (tVar 0) (tC (.int 2)) rSetL))
    (tSeq (tAsg (tOp oMod (tOp (rAddX K) (tOp (rIx K) (tVar 0) (tC (.int 1))) (tOp oMul (tC (.int 7919)) (tOp (rIx K) (tVar 0) (tC (.int 2))))) (tC (.int 1000000007))) (gName 3))
    (tSeq (tAsg (tOp oMod (tOp oMul (tOp (rAddX K) (tVar 3) (tC (.int 11))) (tOp (rAddX K) (tVar 3) (tC (.int 48271)))) (tC (.int 998244353))) (gName 4))
    (tRet (tOp oMod (tOp oFdiv (tOp oMod (tOp oMul (tVar 4) (tVar 4)) (tC (.int 2147483647))) (tC (.int 8))) (tVar 1)))))))
theorem small_log {b : Int} (h0 : 0 < b) (h : b ≤ 10 ^ 30) : b.natAbs.log2 < 9000 :=
  Nat.lt_of_lt_of_le (log2_lt (n := 100) (by omega) (by decide)) (by decide)
theorem w_law_next {K : KF} (W : WX) (ds : List DV) (Ω : Om) (R : DV → Om → Prop) (X : Exc → Om → Prop) (h : sp_law_next K ds Ω R X) : WS K W (t_law_next K W) (startG 5 ds) Ω (fnO Ω R X) := by
  obtain ⟨k, p, b, rfl, hp, ⟨a0, a1, a2, rfl, h0, h1, h2⟩, hb, hb2, q⟩ := h
  have hk := lt_of_get hp
  have hs : sq Ω (.o k) = some [.d (.int a0), .d (.int a1), .d (.int a2)] := by show sqO Ω[k]? = _; rw [hp]; rfl
  show WS K W (t_law_next K W) [some (.o k), some (.d (.int b)), none, none, none] Ω _
  unfold t_law_next
  walk_at "hl"
  refine wr_ix hs rfl ?_
  walk_at "hl"
  refine ⟨fun h => ?_, fun h => ?_⟩
  · have ha := of_decide_eq_true h
    walk_at "hl"
    refine wr_ix hs rfl ?_
    walk_at "hl"
    refine wr_modP hb ?_
    walk_at "hl"
    refine wr_ix hs rfl ?_
    walk_at "hl"
    refine wr_fdivP hb (small_log hb hb2) ?_
    refine wg_subL (W := W) ?_ trivial
    walk_at "hl"
    refine ⟨k, _, 0, 0, rfl, rfl, hp, rfl, ?_⟩
    walk_at "hl"
    exact dr_same (q _ _ (Int.emod_nonneg _ (by omega)) (Int.emod_lt_of_pos _ hb) ⟨_, _, _, rfl, Int.ediv_nonneg h0 (by omega), h1, h2⟩)
  · walk_at "hl"
    refine wr_ix hs rfl ?_
    walk_at "hl"
    refine wg_subL (W := W) ?_ trivial
    walk_at "hl"
    refine ⟨k, _, 2, 2, rfl, rfl, hp, rfl, ?_⟩
    have hs' : sq (Ω.set k (.lst [.d (.int a0), .d (.int a1), .d (.int (a2 + 1))])) (.o k) = some [.d (.int a0), .d (.int a1), .d (.int (a2 + 1))] := by
      show sqO _ = _
      rw [get_set hk]
      rfl
    walk_at "hl"
    refine wr_ix hs' rfl ?_
    walk_at "hl"
    refine wr_ix hs' rfl ?_
    walk_at "hl"
    refine wr_modP (by decide) ?_
    have m0 := Int.emod_nonneg (a1 + 7919 * (a2 + 1)) (show (1000000007 : Int) ≠ 0 by decide)
    have m1 := Int.emod_lt_of_pos (a1 + 7919 * (a2 + 1)) (show (0 : Int) < 1000000007 by decide)
    generalize (a1 + 7919 * (a2 + 1)) % 1000000007 = mixed at *
    walk_at "hl"
    refine wr_mul (.inl (.inl ⟨by omega, by omega⟩)) ?_
    walk_at "hl"
    refine wr_modP (by decide) ?_
    have s0 := Int.emod_nonneg ((mixed + 11) * (mixed + 48271)) (show (998244353 : Int) ≠ 0 by decide)
    have s1 := Int.emod_lt_of_pos ((mixed + 11) * (mixed + 48271)) (show (0 : Int) < 998244353 by decide)
    generalize (mixed + 11) * (mixed + 48271) % 998244353 = stir at *
    walk_at "hl"
    refine wr_mul (.inl (.inl ⟨by omega, by omega⟩)) ?_
    walk_at "hl"
    refine wr_modP (by decide) ?_
    walk_at "hl"
    refine wr_fdivP (by decide) (by decide +kernel) ?_
    walk_at "hl"
    refine wr_modP hb ?_
    exact dr_same (q _ _ (Int.emod_nonneg _ (by omega)) (Int.emod_lt_of_pos _ hb) ⟨_, _, _, rfl, h0, h1, by omega⟩)
theorem dn {K : KF} {Ω J : Om} {k : Nat} {p : OC} {b : Int} {R : DV → Om → Prop} {X : Exc → Om → Prop} (hk : k < Ω.length) (ip : IsPool p) (h0 : 0 < b) (h1 : b ≤ 10 ^ 30) (q : ∀ (r : Int) (p' : OC), 0 ≤ r → r < b → IsPool p' → R (.d (.int r)) (Ω.set k p' ++ J)) :
    sp_law_next K [.o k, .d (.int b)] (Ω.set k p ++ J) R X := ⟨k, p, b, rfl, get_app (get_set hk), ip, h0, h1, fun r p' r0 r1 ip' => by rw [set_app hk]; exact q r p' r0 r1 ip'⟩
theorem dn0 {K : KF} {Ω : Om} {k : Nat} {p : OC} {b : Int} {R : DV → Om → Prop} {X : Exc → Om → Prop} (hk : k < Ω.length) (ip : IsPool p) (h0 : 0 < b) (h1 : b ≤ 10 ^ 30) (q : ∀ (r : Int) (p' : OC), 0 ≤ r → r < b → IsPool p' → R (.d (.int r)) (Ω.set k p')) :
    sp_law_next K [.o k, .d (.int b)] (Ω.set k p) R X := ⟨k, p, b, rfl, get_set hk, ip, h0, h1, fun r p' r0 r1 ip' => by rw [List.set_set]; exact q r p' r0 r1 ip'⟩
theorem sp_len_law_next {K : KF} (ds : List DV) (Ω : Om) (R : DV → Om → Prop) (X : Exc → Om → Prop) (h : sp_law_next K ds Ω R X) : ds.length = 2 := by
  unfold sp_law_next at h
  first
    | (obtain ⟨rfl, _⟩ := h; rfl)
    | (obtain ⟨_, rfl, _⟩ := h; rfl)
    | (obtain ⟨_, _, rfl, _⟩ := h; rfl)
    | (obtain ⟨_, _, _, rfl, _⟩ := h; rfl)
    | (obtain ⟨_, _, _, _, rfl, _⟩ := h; rfl)
    | (obtain ⟨_, _, _, _, _, rfl, _⟩ := h; rfl)
    | (obtain ⟨_, _, _, _, _, _, rfl, _⟩ := h; rfl)
    | (obtain ⟨_, _, _, _, _, _, _, rfl, _⟩ := h; rfl)
    | (obtain ⟨_, _, _, _, _, _, _, _, rfl, _⟩ := h; rfl)
def sp_law_common (K : KF) : Spec := fun ds Ω R X => ∃ a b : Int, ds = [.d (.int a), .d (.int b)] ∧ 0 ≤ a ∧ 0 ≤ b ∧ R (.d (.int (Int.gcd a b))) Ω
def t_law_common (K : KF) (W : WX) : TS :=
  (tSeq (tWhile (tTest (tOp (rNeD K) (tVar 1) (tC (.int 0)))) (tPar 0 1 (tCons (tVar 1) (tCons (tOp oMod (tVar 0) (tVar 1)) tNil))))
    (tRet (tVar 0)))
theorem w_law_common {K : KF} (W : WX) (ds : List DV) (Ω : Om) (R : DV → Om → Prop) (X : Exc → Om → Prop) (h : sp_law_common K ds Ω R X) : WS K W (t_law_common K W) (startG 2 ds) Ω (fnO Ω R X) := by
  obtain ⟨a, b, rfl, ha, hb, q⟩ := h
  show WS K W (t_law_common K W) [some (.d (.int a)), some (.d (.int b))] Ω _
  unfold t_law_common
  refine ws_seq (ws_while (fun n Γ Ω1 => ∃ c d : Int, Γ = [some (.d (.int c)), some (.d (.int d))] ∧ Ω1 = Ω ∧ Int.gcd c d = Int.gcd a b ∧ 0 ≤ c ∧ 0 ≤ d ∧ d.natAbs = n) b.natAbs ⟨a, b, rfl, rfl, rfl, ha, hb, rfl⟩ ?_)
  rintro n Γ Ω1 - ⟨c, d, rfl, rfl, hg, h0, h1, rfl⟩
  walk_at "hl"
  refine ⟨fun hd => ?_, fun hd => ?_⟩
  · have hd : d ≠ 0 := by simpa using hd
    walk_at "hl"
    refine wr_mod hd ?_
    walk_at "hl"
    exact ⟨_, fmod_natAbs_lt hd, d, _, rfl, rfl, (gcd_fmod c d).trans hg, h1, Int.fmod_nonneg_of_pos c (by omega), rfl⟩
  · have hd : d = 0 := by simpa using hd
    subst hd
    have hc : c = (Int.gcd a b : Int) := by rw [← hg, Int.gcd_zero_right]; omega
    walk_at "hl"
    rw [hc]
    exact dr_same q
theorem sp_len_law_common {K : KF} (ds : List DV) (Ω : Om) (R : DV → Om → Prop) (X : Exc → Om → Prop) (h : sp_law_common K ds Ω R X) : ds.length = 2 := by
  unfold sp_law_common at h
  first
    | (obtain ⟨rfl, _⟩ := h; rfl)
    | (obtain ⟨_, rfl, _⟩ := h; rfl)
    | (obtain ⟨_, _, rfl, _⟩ := h; rfl)
    | (obtain ⟨_, _, _, rfl, _⟩ := h; rfl)
    | (obtain ⟨_, _, _, _, rfl, _⟩ := h; rfl)
    | (obtain ⟨_, _, _, _, _, rfl, _⟩ := h; rfl)
    | (obtain ⟨_, _, _, _, _, _, rfl, _⟩ := h; rfl)
    | (obtain ⟨_, _, _, _, _, _, _, rfl, _⟩ := h; rfl)
    | (obtain ⟨_, _, _, _, _, _, _, _, rfl, _⟩ := h; rfl)
def sp_law_low (K : KF) : Spec := fun ds Ω R X => ∃ a b : Int, ds = [.d (.int a), .d (.int b)] ∧ b ≠ 0 ∧ (∃ k, b.natAbs < 2 ^ k ∧ k ≤ 8990) ∧ R (.d (dR (Rat.divInt a b))) Ω
def t_law_low (K : KF) (W : WX) : TS :=
  (tSeq (tIfS (tTest (tOp oLt (tVar 1) (tC (.int 0)))) (tSeq (tAsg (tOp oSub (tC (.int 0)) (tVar 0)) (gName 0))
    (tAsg (tOp oSub (tC (.int 0)) (tVar 1)) (gName 1))) tNext)
    (tSeq (tAsg (tCall (FS K (sp_law_common K)) [] E0 (tCons (tCB rAbsI (tCons (tVar 0) tNil)) (tCons (tVar 1) tNil))) (gName 2))
    (tRet (tTup (tCons (tOp oFdiv (tVar 0) (tVar 2)) (tCons (tOp oFdiv (tVar 1) (tVar 2)) tNil))))))
theorem w_law_low {K : KF} (W : WX) (ds : List DV) (Ω : Om) (R : DV → Om → Prop) (X : Exc → Om → Prop) (h : sp_law_low K ds Ω R X) : WS K W (t_law_low K W) (startG 3 ds) Ω (fnO Ω R X) := by
  obtain ⟨a, b, rfl, hb, ⟨k, hk, hk2⟩, q⟩ := h
  show WS K W (t_law_low K W) [some (.d (.int a)), some (.d (.int b)), none] Ω _
  unfold t_law_low
  have eby : ∀ x y : Int, 0 < y → ((Int.gcd (x.natAbs : Int) y : Nat) : Int) = byOf x y := fun x y h => by
    unfold byOf
    rw [if_neg (by omega)]
    simp [Int.gcd]
  walk_at "hl"
  refine ⟨fun h => ?_, fun h => ?_⟩
  case' refine_1 =>
    have h := of_decide_eq_true h
    walk_at "hl"
    obtain ⟨a', ea⟩ : ∃ a' : Int, 0 - a = a' := ⟨_, rfl⟩
    obtain ⟨b', eb⟩ : ∃ b' : Int, 0 - b = b' := ⟨_, rfl⟩
    rw [ea, eb]
    have hb' : 0 < b' := by omega
    have hk' : b'.natAbs < 2 ^ k := by omega
    have q' : R (.d (dR (Rat.divInt a' b'))) Ω := by
      have e : Rat.divInt a' b' = Rat.divInt a b := by
        rw [← ea, ← eb, Int.zero_sub, Int.zero_sub]
        exact Rat.neg_divInt_neg a b
      rw [e]; exact q
  case' refine_2 =>
    have h := of_decide_eq_false h
    walk_at "hl"
    obtain ⟨a', ea⟩ : ∃ a' : Int, a = a' := ⟨_, rfl⟩
    obtain ⟨b', eb⟩ : ∃ b' : Int, b = b' := ⟨_, rfl⟩
    have hb' : 0 < b' := by omega
    have hk' : b'.natAbs < 2 ^ k := by omega
    have q' : R (.d (dR (Rat.divInt a' b'))) Ω := by rw [← ea, ← eb]; exact q
    subst ea eb
  all_goals (
    rw [dR_eq (by omega)] at q'
    rw [abs_if]
    refine ⟨_, _, rfl, by omega, by omega, ?_⟩
    walk_at "hl"
    rw [eby _ _ hb']
    refine wr_fdiv (cdiv_by (by omega) hk' hk2) ?_
    walk_at "hl"
    refine wr_fdiv (cdiv_by (by omega) hk' hk2) ?_
    walk_at "hl"
    exact dr_same q')
theorem sp_len_law_low {K : KF} (ds : List DV) (Ω : Om) (R : DV → Om → Prop) (X : Exc → Om → Prop) (h : sp_law_low K ds Ω R X) : ds.length = 2 := by
  unfold sp_law_low at h
  first
    | (obtain ⟨rfl, _⟩ := h; rfl)
    | (obtain ⟨_, rfl, _⟩ := h; rfl)
    | (obtain ⟨_, _, rfl, _⟩ := h; rfl)
    | (obtain ⟨_, _, _, rfl, _⟩ := h; rfl)
    | (obtain ⟨_, _, _, _, rfl, _⟩ := h; rfl)
    | (obtain ⟨_, _, _, _, _, rfl, _⟩ := h; rfl)
    | (obtain ⟨_, _, _, _, _, _, rfl, _⟩ := h; rfl)
    | (obtain ⟨_, _, _, _, _, _, _, rfl, _⟩ := h; rfl)
    | (obtain ⟨_, _, _, _, _, _, _, _, rfl, _⟩ := h; rfl)
def sp_law_by (K : KF) : Spec := fun ds Ω R X => ∃ p q : Rat, ds = [.d (dR p), .d (dR q)] ∧ Sz2 p q ∧ R (.d (dR (p * q))) Ω
def t_law_by (K : KF) (W : WX) : TS :=
  (tRet (tCall (FS K (sp_law_low K)) [] E0 (tCons (tOp oMul (tOp (rIx K) (tVar 0) (tC (.int 0))) (tOp (rIx K) (tVar 1) (tC (.int 0)))) (tCons (tOp oMul (tOp (rIx K) (tVar 0) (tC (.int 1))) (tOp (rIx K) (tVar 1) (tC (.int 1)))) tNil))))
theorem w_law_by {K : KF} (W : WX) (ds : List DV) (Ω : Om) (R : DV → Om → Prop) (X : Exc → Om → Prop) (h : sp_law_by K ds Ω R X) : WS K W (t_law_by K W) (startG 2 ds) Ω (fnO Ω R X) := by
  obtain ⟨p, q, rfl, ⟨n, m, hp, hq, hz⟩, k⟩ := h
  show WS K W (t_law_by K W) [some (.d (dR p)), some (.d (dR q))] Ω _
  unfold t_law_by
  obtain ⟨nn, nd, dn, dd⟩ := muls hp hq (by omega)
  obtain ⟨nn', nd', dn', dd'⟩ := muls hq hp (by omega)
  walk_at "hl"
  refine ⟨_, _, rfl, den_mul_ne p q, ⟨n + m, den_mul_lt hp hq, by omega⟩, ?_⟩
  walk_at "hl"
  rw [rat_mul]
  exact dr_same k
theorem sp_len_law_by {K : KF} (ds : List DV) (Ω : Om) (R : DV → Om → Prop) (X : Exc → Om → Prop) (h : sp_law_by K ds Ω R X) : ds.length = 2 := by
  unfold sp_law_by at h
  first
    | (obtain ⟨rfl, _⟩ := h; rfl)
    | (obtain ⟨_, rfl, _⟩ := h; rfl)
    | (obtain ⟨_, _, rfl, _⟩ := h; rfl)
    | (obtain ⟨_, _, _, rfl, _⟩ := h; rfl)
    | (obtain ⟨_, _, _, _, rfl, _⟩ := h; rfl)
    | (obtain ⟨_, _, _, _, _, rfl, _⟩ := h; rfl)
    | (obtain ⟨_, _, _, _, _, _, rfl, _⟩ := h; rfl)
    | (obtain ⟨_, _, _, _, _, _, _, rfl, _⟩ := h; rfl)
    | (obtain ⟨_, _, _, _, _, _, _, _, rfl, _⟩ := h; rfl)
def sp_law_gap (K : KF) : Spec := fun ds Ω R X => ∃ p q : Rat, ds = [.d (dR p), .d (dR q)] ∧ Sz2 p q ∧ R (.d (dR (p - q))) Ω
def t_law_gap (K : KF) (W : WX) : TS :=
  (tRet (tCall (FS K (sp_law_low K)) [] E0 (tCons (tOp oSub (tOp oMul (tOp (rIx K) (tVar 0) (tC (.int 0))) (tOp (rIx K) (tVar 1) (tC (.int 1)))) (tOp oMul (tOp (rIx K) (tVar 1) (tC (.int 0))) (tOp (rIx K) (tVar 0) (tC (.int 1))))) (tCons (tOp oMul (tOp (rIx K) (tVar 0) (tC (.int 1))) (tOp (rIx K) (tVar 1) (tC (.int 1)))) tNil))))
theorem w_law_gap {K : KF} (W : WX) (ds : List DV) (Ω : Om) (R : DV → Om → Prop) (X : Exc → Om → Prop) (h : sp_law_gap K ds Ω R X) : WS K W (t_law_gap K W) (startG 2 ds) Ω (fnO Ω R X) := by
  obtain ⟨p, q, rfl, ⟨n, m, hp, hq, hz⟩, k⟩ := h
  show WS K W (t_law_gap K W) [some (.d (dR p)), some (.d (dR q))] Ω _
  unfold t_law_gap
  obtain ⟨nn, nd, dn, dd⟩ := muls hp hq (by omega)
  obtain ⟨nn', nd', dn', dd'⟩ := muls hq hp (by omega)
  walk_at "hl"
  refine ⟨_, _, rfl, den_mul_ne p q, ⟨n + m, den_mul_lt hp hq, by omega⟩, ?_⟩
  walk_at "hl"
  rw [rat_sub]
  exact dr_same k
theorem sp_len_law_gap {K : KF} (ds : List DV) (Ω : Om) (R : DV → Om → Prop) (X : Exc → Om → Prop) (h : sp_law_gap K ds Ω R X) : ds.length = 2 := by
  unfold sp_law_gap at h
  first
    | (obtain ⟨rfl, _⟩ := h; rfl)
    | (obtain ⟨_, rfl, _⟩ := h; rfl)
    | (obtain ⟨_, _, rfl, _⟩ := h; rfl)
    | (obtain ⟨_, _, _, rfl, _⟩ := h; rfl)
    | (obtain ⟨_, _, _, _, rfl, _⟩ := h; rfl)
    | (obtain ⟨_, _, _, _, _, rfl, _⟩ := h; rfl)
    | (obtain ⟨_, _, _, _, _, _, rfl, _⟩ := h; rfl)
    | (obtain ⟨_, _, _, _, _, _, _, rfl, _⟩ := h; rfl)
    | (obtain ⟨_, _, _, _, _, _, _, _, rfl, _⟩ := h; rfl)
--USE HLq
def sp_law_numbers (K : KF) : Spec := fun ds Ω R X => ∃ w : W3, ds = [.d (dW3 w)] ∧ W3Ok w ∧ R (.d (.list ((numsL (fac w)).map dR))) Ω
def t_law_numbers (K : KF) (W : WX) : TS :=
  (tSeq (tAsg (tVar 0) (gTup K 3 (gCons (gName 1) (gCons (gName 2) (gCons (gName 3) gNil)))))
    (tSeqI (tIfS (tTest (tOp oIsN (tVar 1) (tC .non))) (tAsg (tCall (FS K (sp_law_low K)) [] E0 (tCons (tOp oMul (tC (.int 4)) (tVar 3)) (tCons (tOp (rAddX K) (tVar 2) (tVar 3)) tNil))) (gName 4)) (tIfS (tTest (tOp oIsN (tVar 3) (tC .non))) (tAsg (tCall (FS K (sp_law_low K)) [] E0 (tCons (tOp oMul (tC (.int 4)) (tVar 1)) (tCons (tOp (rAddX K) (tVar 1) (tVar 2)) tNil))) (gName 4)) (tAsg (tCall (FS K (sp_law_low K)) [] E0 (tCons (tOp oMul (tOp oMul (tC (.int 4)) (tVar 1)) (tVar 3)) (tCons (tOp oMul (tOp (rAddX K) (tVar 1) (tVar 2)) (tOp (rAddX K) (tVar 2) (tVar 3))) tNil))) (gName 4))))
    (tSeq (tAsg (tLstO (tCons (tTup (tCons (tC (.int 1)) (tCons (tC (.int 1)) tNil))) (tCons (tTup (tCons (tC (.int 1)) (tCons (tC (.int 1)) tNil))) tNil))) (gName 5))
    (tSeq (tWhile (tAnd (tTest (tOp oGt (tOp (rIx K) (tOp (rIx K) (tVar 5) (tUn uNeg (tC (.int 1)))) (tC (.int 0))) (tC (.int 0)))) (tTest (tOp oLt (tCB (rLenQ K) (tCons (tVar 5) tNil)) (tC (.int 200))))) (tSeq (tAsg (tOp (rIx K) (tLst (tCons (tTup (tCons (tC (.int 1)) (tCons (tC (.int 1)) tNil))) (tCons (tVar 4) tNil))) (tOp oMod (tOp oSub (tCB (rLenQ K) (tCons (tVar 5) tNil)) (tC (.int 1))) (tC (.int 2)))) (gName 6))
    (tDrop (tBM K "list" rAppend (tVar 5) (tCons (tCall (FS K (sp_law_gap K)) [] E0 (tCons (tCall (FS K (sp_law_by K)) [] E0 (tCons (tOp (rIx K) (tVar 5) (tUn uNeg (tC (.int 1)))) (tCons (tVar 6) tNil))) (tCons (tOp (rIx K) (tVar 5) (tUn uNeg (tC (.int 2)))) tNil))) tNil)))))
    (tRet (tVar 5))))))
def numsUp (f : Rat) (k : Nat) : List Rat := (List.range (k + 1)).map (xs3 f)
theorem numsUp_succ (f : Rat) (k : Nat) : numsUp f (k + 1) = numsUp f k ++ [xs3 f (k + 1)] := by
  unfold numsUp
  rw [List.range_succ, List.map_append]; rfl
theorem numsUp_last (f : Rat) (k : Nat) : (numsUp f k).getLast? = some (xs3 f k) := by
  unfold numsUp
  rw [List.range_succ, List.map_append]
  simp
theorem at_last2' {f : Rat} {k : Nat} (h : 1 ≤ k) : atI (numsUp f k) (-2) = some (xs3 f (k - 1)) := by
  obtain ⟨j, rfl⟩ : ∃ j, k = j + 1 := ⟨k - 1, by omega⟩
  rw [numsUp_succ]
  have hl : (numsUp f j).length = j + 1 := by simp [numsUp]
  have hj := numsUp_last f j
  rw [List.getLast?_eq_getElem?, hl] at hj
  unfold atI
  rw [show ixN (numsUp f j ++ [xs3 f (j + 1)]).length (-2) = some j by
    unfold ixN
    rw [List.length_append, hl, if_neg (by omega), if_pos (by simp; omega)]
    congr 1
    simp; omega]
  show (numsUp f j ++ [xs3 f (j + 1)])[j]? = _
  rw [List.getElem?_append_left (by omega)]
  exact hj
theorem w_law_numbers {K : KF} (W : WX) (ds : List DV) (Ω : Om) (R : DV → Om → Prop) (X : Exc → Om → Prop) (h : sp_law_numbers K ds Ω R X) : WS K W (t_law_numbers K W) (startG 7 ds) Ω (fnO Ω R X) := by
  obtain ⟨⟨a, m, c⟩, rfl, ok, q⟩ := h
  show WS K W (t_law_numbers K W) [some (.d (dW3 (a, m, c))), none, none, none, none, none, none] Ω _
  unfold t_law_numbers
  have fo := fac_ok ok
  have hm : 1 ≤ m ∧ m ≤ 1000 := ok.m
  walk_at "hl"
  refine wg_tup (xs := [dI a, .int m, dI c]) rfl ?_
  show WGs K _ [.d (dI a), .d (.int m), .d (dI c)] _ _ _
  walk_at "hl"
  refine ws_cut (fun Γ Ω1 => Γ = [some (.d (dW3 (a, m, c))), some (.d (dI a)), some (.d (.int m)), some (.d (dI c)), some (.d (dR (fac (a, m, c)))), none, none] ∧ Ω1 = Ω) ?_ ?_
  rotate_left
  · walk_at "hl"
    cases a with
    | none =>
      obtain ⟨c, rfl⟩ : ∃ x, c = some x := by
        cases c with
        | none => exact absurd rfl (ok.one.resolve_left (fun h => h rfl))
        | some c => exact ⟨c, rfl⟩
      have hc : 1 ≤ c ∧ c ≤ 1000 ∧ c ≤ 31 * m := ok.c c rfl
      have c1 : CMulW 4 c := cmul (n := 3) (m := 10) (by decide) (by omega) (by decide)
      refine bT rfl ?_
      show WS K W _ [_, some (.d .none), some (.d (.int m)), some (.d (.int c)), _, _, _] _ _
      walk_at "hl"
      refine ⟨4 * c, m + c, rfl, by omega, ⟨22, by omega, by decide⟩, ?_⟩
      walk_at "hl"
      exact ⟨rfl, rfl⟩
    | some a =>
      have ha : 1 ≤ a ∧ a ≤ 1000 ∧ a ≤ 31 * m := ok.a a rfl
      have c1 : CMulW 4 a := cmul (n := 3) (m := 10) (by decide) (by omega) (by decide)
      refine bF rfl ?_
      cases c with
      | none =>
        show WS K W _ [_, some (.d (.int a)), some (.d (.int m)), some (.d .none), _, _, _] _ _
        walk_at "hl"
        refine bT rfl ?_
        walk_at "hl"
        refine ⟨4 * a, a + m, rfl, by omega, ⟨22, by omega, by decide⟩, ?_⟩
        walk_at "hl"
        exact ⟨rfl, rfl⟩
      | some c =>
        have hc : 1 ≤ c ∧ c ≤ 1000 ∧ c ≤ 31 * m := ok.c c rfl
        have c2 : CMulW (4 * a) c := cmul (n := 12) (m := 10) (by omega) (by omega) (by decide)
        have c3 : CMulW (a + m) (m + c) := cmul (n := 11) (m := 11) (by omega) (by omega) (by decide)
        show WS K W _ [_, some (.d (.int a)), some (.d (.int m)), some (.d (.int c)), _, _, _] _ _
        walk_at "hl"
        refine bF rfl ?_
        walk_at "hl"
        have hd : (a + m) * (m + c) < 2 ^ 22 := fo.d1
        have hd0 : 0 < (a + m) * (m + c) := fo.d0
        refine ⟨4 * a * c, (a + m) * (m + c), rfl, by omega, ⟨22, by omega, by decide⟩, ?_⟩
        walk_at "hl"
        exact ⟨rfl, rfl⟩
  rintro Γ Ω1 ⟨rfl, rfl⟩
  walk_at "hl"
  obtain ⟨s60, s1, sneg, spos⟩ := stop_ok ok
  have fs := fac_sz ok
  generalize (a, m, c) = w at *
  refine ws_while (fun nn Γ Ω2 => ∃ (k : Nat) (x6 : Option DV), Γ = [some (.d (dW3 w)), some (.d (dI a)), some (.d (.int m)), some (.d (dI c)), some (.d (dR (fac w))), some (.o Ω1.length), x6] ∧ Ω2 = Ω1 ++ [.lst ((numsUp (fac w) k).map fun x => .d (dR x))] ∧ 1 ≤ k ∧ k ≤ stopK (fac w) ∧ stopK (fac w) - k = nn) _ ⟨1, _, rfl, rfl, Nat.le_refl _, s1, rfl⟩ ?_
  rintro m' Γ Ω2 - ⟨k, x6, rfl, rfl, hk1, hk2, rfl⟩
  have hlen : (numsUp (fac w) k).length = k + 1 := by simp [numsUp]
  have i1 : atI ((numsUp (fac w) k).map fun x => DV.d (dR x)) (-1) = some (.d (dR (xs3 (fac w) k))) := by rw [atI_map, at_last (numsUp_last _ _)]; rfl
  have i2 : atI ((numsUp (fac w) k).map fun x => DV.d (dR x)) (-2) = some (.d (dR (xs3 (fac w) (k - 1)))) := by
    rw [atI_map]
    have : atI (numsUp (fac w) k) (-2) = some (xs3 (fac w) (k - 1)) := at_last2' hk1
    rw [this]; rfl
  walk_at "hl"
  refine wr_ix (sq_last _ _) i1 ?_
  walk_at "hl"
  refine ⟨fun h => ?_, fun h => ?_⟩
  · have h := of_decide_eq_true h
    have hp : 0 < xs3 (fac w) k := rat_pos_num h
    have hk3 : k < stopK (fac w) := by
      rcases Nat.lt_or_eq_of_le hk2 with h | h
      · exact h
      · rw [h] at hp
        exact absurd hp (Rat.not_lt.mpr sneg)
    have z1 := xs_sz ok (k := k) (by omega)
    have z2 := xs_sz ok (k := k - 1) (by omega)
    have zs : Sz 22 (if (k - 1) % 2 = 0 then fac w else 1) := by
      split
      · exact fs
      · exact ⟨by decide, by decide⟩
    walk_at "hl"
    refine wc_len' (sq_last _ _) ?_
    rw [List.length_map, hlen]
    walk_at "hl"
    refine bT (decide_eq_true (by omega)) ?_
    walk_at "hl"
    refine wc_len' (sq_last _ _) ?_
    rw [List.length_map, hlen]
    walk_at "hl"
    refine wr_mod (by decide) ?_
    walk_at "hl"
    have em : ((k + 1 : Nat) - 1 : Int).fmod 2 = ((k % 2 : Nat) : Int) := by
      rw [show ((k + 1 : Nat) - 1 : Int) = (k : Int) by omega, Int.fmod_eq_emod_of_nonneg _ (by decide)]; rfl
    rw [em]
    have he : (DV.d (if (k - 1) % 2 = 0 then dR (fac w) else dR 1)) = .d (dR (if (k - 1) % 2 = 0 then fac w else 1)) := by split <;> rfl
    refine wr_ixL (y := if (k - 1) % 2 = 0 then dR (fac w) else dR 1) (by
      rcases Nat.mod_two_eq_zero_or_one k with h | h
      · rw [h, if_neg (by omega)]; rfl
      · rw [h, if_pos (by omega)]; rfl) ?_
    rw [he]
    walk_at "hl"
    refine ⟨⟨_, sq_last _ _, rfl⟩, ?_⟩
    walk_at "hl"
    refine wr_ix (sq_last _ _) i1 ?_
    walk_at "hl"
    refine ⟨_, _, rfl, ⟨2702, 22, z1, zs, by decide⟩, ?_⟩
    walk_at "hl"
    refine wr_ix (sq_last _ _) i2 ?_
    walk_at "hl"
    have zm := z1.mul zs
    refine ⟨_, _, rfl, ⟨_, 2702, zm, z2, by decide⟩, ?_⟩
    walk_at "hl"
    refine wm_appL (by rw [List.length_map]; omega) ?_
    walk_at "hl"
    have e : xs3 (fac w) k * (if (k - 1) % 2 = 0 then fac w else 1) - xs3 (fac w) (k - 1) = xs3 (fac w) (k + 1) := by
      obtain ⟨j, rfl⟩ : ∃ j, k = j + 1 := ⟨k - 1, by omega⟩
      show xs3 (fac w) (j + 1) * (if j % 2 = 0 then fac w else 1) - xs3 (fac w) j = (if j % 2 = 0 then fac w else 1) * xs3 (fac w) (j + 1) - xs3 (fac w) j
      rw [Rat.mul_comm]
    rw [e]
    exact ⟨_, by omega, k + 1, _, rfl, by rw [numsUp_succ, List.map_append]; rfl, by omega, by omega, rfl⟩
  · have h := of_decide_eq_false h
    have hp : ¬ 0 < xs3 (fac w) k := fun h' => h (rat_num_pos h')
    have hk3 : k = stopK (fac w) := by
      apply Classical.byContradiction
      intro hne
      exact hp (spos k hk1 (by omega))
    subst hk3
    refine ⟨fun h => (by cases h), fun _ => ?_⟩
    refine ws_ret (we_varFL rfl (asDs_map dR _) ?_)
    exact dr_app q (fun i h => by cases h)
theorem sp_len_law_numbers {K : KF} (ds : List DV) (Ω : Om) (R : DV → Om → Prop) (X : Exc → Om → Prop) (h : sp_law_numbers K ds Ω R X) : ds.length = 1 := by
  unfold sp_law_numbers at h
  first
    | (obtain ⟨rfl, _⟩ := h; rfl)
    | (obtain ⟨_, rfl, _⟩ := h; rfl)
    | (obtain ⟨_, _, rfl, _⟩ := h; rfl)
    | (obtain ⟨_, _, _, rfl, _⟩ := h; rfl)
    | (obtain ⟨_, _, _, _, rfl, _⟩ := h; rfl)
    | (obtain ⟨_, _, _, _, _, rfl, _⟩ := h; rfl)
    | (obtain ⟨_, _, _, _, _, _, rfl, _⟩ := h; rfl)
    | (obtain ⟨_, _, _, _, _, _, _, rfl, _⟩ := h; rfl)
    | (obtain ⟨_, _, _, _, _, _, _, _, rfl, _⟩ := h; rfl)
/-- a small ratio -/
def sp_law_small (K : KF) : Spec := fun ds Ω R X => ∃ (k : Nat) (p : OC), ds = [.o k] ∧ Ω[k]? = some p ∧ IsPool p ∧ ∀ (x : Rat) (p' : OC), Sz 4 x → IsPool p' → R (.d (dR x)) (Ω.set k p')
def t_law_small (K : KF) (W : WX) : TS :=
  (tRet (tCall (FS K (sp_law_low K)) [] E0 (tCons (tOp oSub (tCall (FS K (sp_law_next K)) [] E0 (tCons (tVar 0) (tCons (tC (.int 25)) tNil))) (tC (.int 12))) (tCons (tOp (rIx K) (tLst (tCons (tC (.int 1)) (tCons (tC (.int 1)) (tCons (tC (.int 1)) (tCons (tC (.int 2)) (tCons (tC (.int 3)) (tCons (tC (.int 4)) (tCons (tC (.int 6)) (tCons (tC (.int 12)) tNil))))))))) (tCall (FS K (sp_law_next K)) [] E0 (tCons (tVar 0) (tCons (tC (.int 8)) tNil)))) tNil))))
theorem w_law_small {K : KF} (W : WX) (ds : List DV) (Ω : Om) (R : DV → Om → Prop) (X : Exc → Om → Prop) (h : sp_law_small K ds Ω R X) : WS K W (t_law_small K W) (startG 1 ds) Ω (fnO Ω R X) := by
  obtain ⟨k, p, rfl, hp, ip, q⟩ := h
  have hk := lt_of_get hp
  show WS K W (t_law_small K W) [some (.o k)] Ω _
  unfold t_law_small
  walk_at "hl"
  refine ⟨k, p, 25, rfl, hp, ip, by decide, by decide, fun a p1 a0 a1 ip => ?_⟩
  walk_at "hl"
  refine dn0 hk ip (by decide) (by decide) fun r p1 r0 r1 ip => ?_
  refine wr_ix_ints (ns := [1, 1, 1, 2, 3, 4, 6, 12]) rfl r0 (by simpa using r1) fun b hb => ?_
  have hb : 1 ≤ b ∧ b ≤ 12 := by simp at hb; omega
  walk_at "hl"
  refine ⟨a - 12, b, rfl, by omega, ⟨4, by omega, by decide⟩, ?_⟩
  exact dr_same (q _ p1 (sz_of_divInt (by omega) (by omega) (by omega)) ip)
theorem dsm {K : KF} {Ω J : Om} {k : Nat} {p : OC} {R : DV → Om → Prop} {X : Exc → Om → Prop} (hk : k < Ω.length) (ip : IsPool p) (q : ∀ (x : Rat) (p' : OC), Sz 4 x → IsPool p' → R (.d (dR x)) (Ω.set k p' ++ J)) :
    sp_law_small K [.o k] (Ω.set k p ++ J) R X := ⟨k, p, rfl, get_app (get_set hk), ip, fun x p' hx ip' => by rw [set_app hk]; exact q x p' hx ip'⟩
theorem sp_len_law_small {K : KF} (ds : List DV) (Ω : Om) (R : DV → Om → Prop) (X : Exc → Om → Prop) (h : sp_law_small K ds Ω R X) : ds.length = 1 := by
  unfold sp_law_small at h
  first
    | (obtain ⟨rfl, _⟩ := h; rfl)
    | (obtain ⟨_, rfl, _⟩ := h; rfl)
    | (obtain ⟨_, _, rfl, _⟩ := h; rfl)
    | (obtain ⟨_, _, _, rfl, _⟩ := h; rfl)
    | (obtain ⟨_, _, _, _, rfl, _⟩ := h; rfl)
    | (obtain ⟨_, _, _, _, _, rfl, _⟩ := h; rfl)
    | (obtain ⟨_, _, _, _, _, _, rfl, _⟩ := h; rfl)
    | (obtain ⟨_, _, _, _, _, _, _, rfl, _⟩ := h; rfl)
    | (obtain ⟨_, _, _, _, _, _, _, _, rfl, _⟩ := h; rfl)
--USE HLq
def sp_law_three (K : KF) : Spec := fun ds Ω R X => ∃ (k : Nat) (p : OC), ds = [.o k] ∧ Ω[k]? = some p ∧ IsPool p ∧ ∀ (w : W3) (p' : OC), W3Ok w → IsPool p' → R (.d (dW3 w)) (Ω.set k p')
def t_law_three (K : KF) (W : WX) : TS :=
  (tSeq (tAsg (tOp (rIx K) (tLst (tCons (tC (.int 1)) (tCons (tC (.int 3)) (tCons (tC (.int 9)) (tCons (tC (.int 9)) (tCons (tC (.int 30)) (tCons (tC (.int 1000)) tNil))))))) (tCall (FS K (sp_law_next K)) [] E0 (tCons (tVar 0) (tCons (tC (.int 6)) tNil)))) (gName 1))
    (tSeq (tAsg (tLc (iRng1 (tCons (tC (.int 3)) tNil)) (gName 4) tYes (tOp (rAddX K) (tC (.int 1)) (tCall (FS K (sp_law_next K)) [] E0 (tCons (tVar 0) (tCons (tVar 1) tNil)))) [4]) (gName 2))
    (tSeqI (tIfS (tTest (tOp (rEqD K) (tVar 1) (tC (.int 1000)))) (tAsg (tOp (rAddX K) (tC (.int 40)) (tOp oMod (tOp (rIx K) (tVar 2) (tC (.int 1))) (tC (.int 961)))) (gSub (tVar 2) (tC (.int 1)) rSetL)) tNext)
    (tSeq (tAsg (tCall (FS K (sp_law_next K)) [] E0 (tCons (tVar 0) (tCons (tC (.int 5)) tNil))) (gName 3))
    (tSeqI (tIfS (tTest (tOp oLt (tVar 3) (tC (.int 2)))) (tAsg (tC .non) (gSub (tVar 2) (tOp oMul (tC (.int 2)) (tVar 3)) rSetL)) tNext)
    (tRet (tCB (rTupQ K) (tCons (tVar 2) tNil))))))))
theorem w_law_three {K : KF} (W : WX) (ds : List DV) (Ω : Om) (R : DV → Om → Prop) (X : Exc → Om → Prop) (h : sp_law_three K ds Ω R X) : WS K W (t_law_three K W) (startG 5 ds) Ω (fnO Ω R X) := by
  obtain ⟨k, p, rfl, hp, ip, q⟩ := h
  have hk := lt_of_get hp
  show WS K W (t_law_three K W) [some (.o k), none, none, none, none] Ω _
  unfold t_law_three
  walk_at "hl"
  refine ⟨k, p, 6, rfl, hp, ip, by decide, by decide, fun a p1 a0 a1 ip => ?_⟩
  refine wr_ix_ints (ns := [1, 3, 9, 9, 30, 1000]) rfl a0 (by simpa using a1) fun most hmost => ?_
  have hmost : most = 1000 ∨ (1 ≤ most ∧ most ≤ 30) := by simp at hmost; omega
  walk_at "hl"
  refine we_lcKO (k := k) only1 (by simp; exact hk) (wi_rng1 ?_)
  walk_at "hl"
  refine ⟨3, rfl, by decide, by decide, p1, fun i acc => ∃ ws : List Int, acc = ws.map PyData.int ∧ ws.length = i ∧ ∀ w ∈ ws, 1 ≤ w ∧ w ≤ most, (set_self (get_set hk)).symm, ip, by decide, fun _ _ _ => trivial, ⟨[], rfl, rfl, fun _ h => by cases h⟩, ?_, ?_⟩
  · rintro i y acc p3 hy ip hi ⟨ws, rfl, hl, hws⟩
    rw [List.set_set]
    walk_at "hl"
    refine ⟨rfl, ?_⟩
    walk_at "hl"
    refine dn hk ip (by omega) (by omega) fun r p4 r0 r1 ip => ?_
    walk_at "hl"
    refine ⟨.int (1 + r), p4, rfl, by rw [List.set_set], ip, ws ++ [1 + r], by simp, by simp [hl], all_app hws (all_cons (by omega) all_nil)⟩
  rintro acc p3 ip hacc ⟨ws, rfl, hl, hws⟩
  have le1 : ∀ p, (Ω.set k p).length = Ω.length := fun p => List.length_set
  rw [List.set_set, le1]
  have hget : ∀ p2 ds, (Ω.set k p2 ++ [OC.lst ds])[Ω.length]? = some (.lst ds) := fun p2 ds => by rw [← le1 p2, get_last]
  have hset : ∀ p2 ds ds', (Ω.set k p2 ++ [OC.lst ds]).set Ω.length (.lst ds') = Ω.set k p2 ++ [.lst ds'] := fun p2 ds ds' => by rw [← le1 p2, set_last]
  obtain ⟨a, m, c, rfl⟩ : ∃ a m c, ws = [a, m, c] := by
    match ws, hl with
    | [a, m, c], _ => exact ⟨a, m, c, rfl⟩
  have ha := hws a (by simp)
  have hm := hws m (by simp)
  have hc := hws c (by simp)
  walk_at "hl"
  refine ws_cut (fun Γ Ω1 => ∃ m : Int, Γ = [some (.o k), some (.d (.int most)), some (.o Ω.length), none, none] ∧ Ω1 = Ω.set k p3 ++ [.lst [.d (.int a), .d (.int m), .d (.int c)]] ∧ 1 ≤ m ∧ m ≤ 1000 ∧ a ≤ 31 * m ∧ c ≤ 31 * m) ?_ ?_
  rotate_left
  · walk_at "hl"
    refine ⟨fun h => ?_, fun h => ?_⟩
    · have h := of_decide_eq_true h
      walk_at "hl"
      refine wr_ix (ds := [.d (.int a), .d (.int m), .d (.int c)]) (y := .d (.int m)) (by show sqO _ = _; rw [hget]; rfl) rfl ?_
      walk_at "hl"
      refine wr_modP (by decide) ?_
      walk_at "hl"
      refine wg_subL (W := W) ?_ trivial
      walk_at "hl"
      refine ⟨_, _, 1, 1, rfl, rfl, hget _ _, rfl, ?_⟩
      rw [hset]
      have b1 := Int.emod_nonneg m (show (961 : Int) ≠ 0 by decide)
      have b2 := Int.emod_lt_of_pos m (show (0 : Int) < 961 by decide)
      exact ⟨40 + m % 961, rfl, rfl, by omega, by omega, by omega, by omega⟩
    · have h := of_decide_eq_false h
      walk_at "hl"
      exact ⟨m, rfl, rfl, by omega, by omega, by omega, by omega⟩
  clear hm
  rintro Γ Ω1 ⟨m, rfl, rfl, m1, m2, m3, m4⟩
  walk_at "hl"
  refine dn hk ip (by decide) (by decide) fun way p4 y0 y1 ip => ?_
  walk_at "hl"
  refine ws_cut (fun Γ Ω1 => ∃ w : W3, Γ = [some (.o k), some (.d (.int most)), some (.o Ω.length), some (.d (.int way)), none] ∧ Ω1 = Ω.set k p4 ++ [.lst [.d (dI w.1), .d (.int w.2.1), .d (dI w.2.2)]] ∧ W3Ok w) ?_ ?_
  · rintro Γ Ω1 ⟨w, rfl, rfl, ok⟩
    walk_at "hl"
    refine wc_tup' (xs := [dI w.1, .int w.2.1, dI w.2.2]) (by show (sqO _).bind asDs = _; rw [hget]; rfl) ?_
    walk_at "hl"
    exact dr_pool hk ip (q w p4 ok ip) (fun i h => by cases h)
  · walk_at "hl"
    refine ⟨fun h => ?_, fun h => ?_⟩
    · have h := of_decide_eq_true h
      have hw : way = 0 ∨ way = 1 := by omega
      walk_at "hl"
      have cw : CMulW 2 way := cmul (n := 2) (m := 2) (by decide) (by omega) (by decide)
      refine wg_subL (W := W) ?_ trivial
      walk_at "hl"
      rcases hw with rfl | rfl
      · refine ⟨_, _, 0, 0, rfl, rfl, hget _ _, rfl, ?_⟩
        rw [hset]
        exact ⟨(none, m, some c), rfl, rfl, ⟨⟨m1, m2⟩, fun x h => (by cases h), fun x h => (by cases h; exact ⟨hc.1, by omega, m4⟩), .inr (fun h => (by cases h))⟩⟩
      · refine ⟨_, _, 2, 2, rfl, rfl, hget _ _, rfl, ?_⟩
        rw [hset]
        exact ⟨(some a, m, none), rfl, rfl, ⟨⟨m1, m2⟩, fun x h => (by cases h; exact ⟨ha.1, by omega, m3⟩), fun x h => (by cases h), .inl (fun h => (by cases h))⟩⟩
    · walk_at "hl"
      exact ⟨(some a, m, some c), rfl, rfl, ⟨⟨m1, m2⟩, fun x h => (by cases h; exact ⟨ha.1, by omega, m3⟩), fun x h => (by cases h; exact ⟨hc.1, by omega, m4⟩), .inl (fun h => (by cases h))⟩⟩
theorem sp_len_law_three {K : KF} (ds : List DV) (Ω : Om) (R : DV → Om → Prop) (X : Exc → Om → Prop) (h : sp_law_three K ds Ω R X) : ds.length = 1 := by
  unfold sp_law_three at h
  first
    | (obtain ⟨rfl, _⟩ := h; rfl)
    | (obtain ⟨_, rfl, _⟩ := h; rfl)
    | (obtain ⟨_, _, rfl, _⟩ := h; rfl)
    | (obtain ⟨_, _, _, rfl, _⟩ := h; rfl)
    | (obtain ⟨_, _, _, _, rfl, _⟩ := h; rfl)
    | (obtain ⟨_, _, _, _, _, rfl, _⟩ := h; rfl)
    | (obtain ⟨_, _, _, _, _, _, rfl, _⟩ := h; rfl)
    | (obtain ⟨_, _, _, _, _, _, _, rfl, _⟩ := h; rfl)
    | (obtain ⟨_, _, _, _, _, _, _, _, rfl, _⟩ := h; rfl)
--USE HLq
/-- other numbers -/
def sp_law_other (K : KF) : Spec := fun ds Ω R X => ∃ (k : Nat) (p : OC) (l : List Rat), ds = [.d (.list (l.map dR)), .o k] ∧ Ω[k]? = some p ∧ IsPool p ∧ 2 ≤ l.length ∧ l.length ≤ 100 ∧ (∀ x ∈ l, Sz 2702 x) ∧ ∀ (x : List Rat) (p' : OC), x.length ≤ 101 → IsPool p' → R (.d (.list (x.map dR))) (Ω.set k p')
def t_law_other (K : KF) (W : WX) : TS :=
  (tSeq (tAsg (tCall (FS K (sp_law_next K)) [] E0 (tCons (tVar 1) (tCons (tC (.int 10)) tNil))) (gName 2))
    (tSeq (tAsg (tCall (FS K (sp_law_next K)) [] E0 (tCons (tVar 1) (tCons (tCB (rLenQ K) (tCons (tVar 0) tNil)) tNil))) (gName 3))
    (tSeq (tAsg (tCB (rListO K) (tCons (tVar 0) tNil)) (gName 4))
    (tSeqI (tIfS (tTest (tOp oGt (tVar 2) (tC (.int 6)))) (tSeq (tAsg (tLc (iSeq K (tVar 0)) (gName 6) tYes (tCall (FS K (sp_law_by K)) [] E0 (tCons (tVar 6) (tCons (tOp (rIx K) (tLst (tCons (tTup (tCons (tC (.int 2)) (tCons (tC (.int 1)) tNil))) (tCons (tTup (tCons (tC (.int 1)) (tCons (tC (.int 2)) tNil))) tNil))) (tCall (FS K (sp_law_next K)) [] E0 (tCons (tVar 1) (tCons (tC (.int 2)) tNil)))) tNil))) [6]) (gName 5))
    (tRet (tOp (rIx K) (tLst (tCons (tVar 5) (tCons (tCall (FS K (sp_law_numbers K)) [] E0 (tCons (tCall (FS K (sp_law_three K)) [] E0 (tCons (tVar 1) tNil)) tNil)) (tCons (tLst (tCons (tTup (tCons (tC (.int 1)) (tCons (tC (.int 1)) tNil))) (tCons (tTup (tCons (tC (.int 1)) (tCons (tC (.int 1)) tNil))) (tCons (tTup (tCons (tC (.int 0)) (tCons (tC (.int 1)) tNil))) tNil)))) tNil)))) (tOp oSub (tVar 2) (tC (.int 7)))))) tNext)
    (tSeqI (tIfS (tTest (tOp (rEqD K) (tVar 2) (tC (.int 0)))) (tAsg (tCall (FS K (sp_law_small K)) [] E0 (tCons (tVar 1) tNil)) (gSub (tVar 4) (tVar 3) rSetL)) (tIfS (tTest (tOp (rEqD K) (tVar 2) (tC (.int 1)))) (tDrop (tBM K "list" rPopAt (tVar 4) (tCons (tVar 3) tNil))) (tIfS (tTest (tOp (rEqD K) (tVar 2) (tC (.int 2)))) (tDrop (tBM K "list" rInsertS (tVar 4) (tCons (tVar 3) (tCons (tCall (FS K (sp_law_small K)) [] E0 (tCons (tVar 1) tNil)) tNil)))) (tIfS (tTest (tOp (rEqD K) (tVar 2) (tC (.int 3)))) (tDrop (tBM K "list" rInsertS (tVar 4) (tCons (tVar 3) (tCons (tOp (rIx K) (tVar 4) (tVar 3)) tNil)))) (tIfS (tTest (tOp (rEqD K) (tVar 2) (tC (.int 4)))) (tAsg (tSl (rSlS K) (tVar 4) tNoPart (tPart (tUn uNeg (tC (.int 1))))) (gName 4)) (tIfS (tTest (tOp (rEqD K) (tVar 2) (tC (.int 5)))) (tDrop (tBM K "list" rAppend (tVar 4) (tCons (tCall (FS K (sp_law_gap K)) [] E0 (tCons (tOp (rIx K) (tVar 4) (tUn uNeg (tC (.int 1)))) (tCons (tOp (rIx K) (tVar 4) (tUn uNeg (tC (.int 2)))) tNil))) tNil))) tNext))))))
    (tRet (tVar 4)))))))
theorem erase_map {α β : Type} (f : α → β) : ∀ (l : List α) (j : Nat), (l.map f).eraseIdx j = (l.eraseIdx j).map f
  | [], _ => rfl
  | _ :: _, 0 => rfl
  | a :: r, j + 1 => by show f a :: (r.map f).eraseIdx j = f a :: (r.eraseIdx j).map f; rw [erase_map f r j]
theorem cutG_len {α : Type} (l : List α) (lo hi : Option Int) : (cutG l lo hi).length ≤ l.length := by
  unfold cutG
  simp
  omega
theorem w_law_other {K : KF} (W : WX) (ds : List DV) (Ω : Om) (R : DV → Om → Prop) (X : Exc → Om → Prop) (h : sp_law_other K ds Ω R X) : WS K W (t_law_other K W) (startG 7 ds) Ω (fnO Ω R X) := by
  obtain ⟨k, p, l, rfl, hp, ip, l2, l1, hz, q⟩ := h
  have hk := lt_of_get hp
  show WS K W (t_law_other K W) [some (.d (.list (l.map dR))), some (.o k), none, none, none, none, none] Ω _
  unfold t_law_other
  walk_at "hl"
  refine ⟨k, p, 10, rfl, hp, ip, by decide, by decide, fun way p1 w0 w1 ip => ?_⟩
  walk_at "hl"
  refine dn0 hk ip (by simp; omega) (by simp; omega) fun at' p1 a0 a1 ip => ?_
  walk_at "hl"
  refine wc_listO'' (xs := l.map dR) rfl ?_
  have le1 : ∀ p, (Ω.set k p).length = Ω.length := fun p => List.length_set
  rw [le1]
  simp only [List.length_map] at a1
  obtain ⟨j, rfl⟩ : ∃ j : Nat, at' = j := ⟨at'.toNat, by omega⟩
  have hj : j < l.length := by omega
  have hx : ixN l.length (j : Int) = some j := by
    unfold ixN
    rw [if_pos (by omega), if_pos (by omega)]; rfl
  obtain ⟨x0, hx0⟩ : ∃ x, l[j]? = some x := ⟨l[j], List.getElem?_eq_getElem hj⟩
  have hget : ∀ p2 ds, (Ω.set k p2 ++ [OC.lst ds])[Ω.length]? = some (.lst ds) := fun p2 ds => by rw [← le1 p2, get_last]
  have hset : ∀ p2 ds ds', (Ω.set k p2 ++ [OC.lst ds]).set Ω.length (.lst ds') = Ω.set k p2 ++ [.lst ds'] := fun p2 ds ds' => by rw [← le1 p2, set_last]
  walk_at "hl"
  refine ws_cut (fun Γ Ω1 => Γ = [some (.d (.list (l.map dR))), some (.o k), some (.d (.int way)), some (.d (.int (j : Int))), some (.o Ω.length), none, none] ∧ Ω1 = Ω.set k p1 ++ [.lst ((l.map dR).map DV.d)] ∧ way ≤ 6) ?_ ?_
  rotate_left
  · walk_at "hl"
    refine ⟨fun h => ?_, fun h => ?_⟩
    · have h := of_decide_eq_true h
      have e0 : ∀ p', (Ω.set k p1 ++ [OC.lst ((l.map dR).map DV.d)]).set k p' = Ω.set k p' ++ [OC.lst ((l.map dR).map DV.d)] := fun p' => set_app hk
      walk_at "hl"
      refine we_lcK (k := k) only1 (by simp; omega) (wi_L dR l ?_)
      walk_at "hl"
      refine ⟨rfl, ?_⟩
      simp only [e0]
      refine ⟨p1, fun i acc => ∃ xs : List Rat, acc = xs.map dR ∧ xs.length = i, rfl, ip, by simp; omega, fun _ _ _ => trivial, ⟨[], rfl, rfl⟩, ?_, ?_⟩
      · rintro i y acc p3 hy ip hi ⟨xs, rfl, hl⟩
        obtain ⟨x, hx, rfl⟩ : ∃ x, x ∈ l ∧ y = .d (dR x) := by
          rw [List.getElem?_map] at hy
          cases h : l[i]? with
          | none => rw [h] at hy; cases hy
          | some x => rw [h] at hy; exact ⟨x, List.mem_of_getElem? h, (Option.some.inj hy).symm⟩
        rw [List.append_assoc]
        walk_at "hl"
        refine ⟨rfl, ?_⟩
        walk_at "hl"
        refine dn hk ip (by decide) (by decide) fun r p4 r0 r1 ip => ?_
        have hr : r = 0 ∨ r = 1 := by omega
        have hh : ∃ v : Rat, Sz 2 v ∧ atI [PyData.tuple [.int 2, .int 1], PyData.tuple [.int 1, .int 2]] r = some (dR v) := by
          rcases hr with rfl | rfl
          · exact ⟨2, ⟨by decide, by decide⟩, rfl⟩
          · exact ⟨1 / 2, ⟨by decide +kernel, by decide +kernel⟩, by
            have e1 : (1 / 2 : Rat).num = 1 := by decide +kernel
            have e2 : (1 / 2 : Rat).den = 2 := by decide +kernel
            show some (PyData.tuple [.int 1, .int 2]) = some (PyData.tuple [.int (1 / 2 : Rat).num, .int ((1 / 2 : Rat).den : Nat)])
            rw [e1, e2]; rfl⟩
        obtain ⟨v, zv, hv⟩ := hh
        refine wr_ixL hv ?_
        walk_at "hl"
        refine ⟨x, v, rfl, ⟨2702, 2, hz x hx, zv, by decide⟩, ?_⟩
        refine ⟨_, p4, rfl, by rw [List.append_assoc], ip, xs ++ [x * v], by rw [List.map_append]; rfl, by simp [hl]⟩
      rintro acc p3 ip hacc ⟨xs, rfl, hl⟩
      simp only [List.length_map] at hl
      walk_at "hl"
      refine ⟨k, p3, rfl, get_app (get_set hk), ip, fun w p4 ok ip => ?_⟩
      rw [set_app hk]
      walk_at "hl"
      refine ⟨w, rfl, ok, ?_⟩
      walk_at "hl"
      have hs := (stop_ok ok).1
      have hn : (numsL (fac w)).length ≤ 101 := by simp [numsL]; omega
      have hw : way = 7 ∨ way = 8 ∨ way = 9 := by omega
      rcases hw with rfl | rfl | rfl
      · exact wr_ixL (y := .list (xs.map dR)) rfl (dr_pool hk ip (q xs p4 (by omega) ip) (fun i h => by cases h))
      · exact wr_ixL (y := .list ((numsL (fac w)).map dR)) rfl (dr_pool hk ip (q _ p4 hn ip) (fun i h => by cases h))
      · exact wr_ixL (y := .list ([1, 1, 0].map dR)) rfl (dr_pool hk ip (q _ p4 (by simp) ip) (fun i h => by cases h))
    · have h := of_decide_eq_false h
      walk_at "hl"
      exact ⟨rfl, rfl, by omega⟩
  rintro Γ Ω1 ⟨rfl, rfl, w6⟩
  refine ws_cut (fun Γ Ω1 => ∃ (x : List Rat) (p' : OC) (y : DV), Γ[4]? = some (some y) ∧ x.length ≤ 101 ∧ IsPool p' ∧ ((y = .o Ω.length ∧ Ω1 = Ω.set k p' ++ [.lst ((x.map dR).map DV.d)]) ∨ (y = .d (.list (x.map dR)) ∧ ∃ J, Ω1 = Ω.set k p' ++ J))) ?_ ?_
  · rintro Γ Ω1 ⟨x, p', y, hy, hl, ip, ⟨rfl, rfl⟩ | ⟨rfl, J, rfl⟩⟩
    · rw [← le1 p'] at hy
      refine ws_ret (we_varFL hy (asDs_data _) ?_)
      exact dr_pool hk ip (q x p' hl ip) (fun i h => by cases h)
    · refine ws_ret (we_var hy ?_)
      exact dr_pool hk ip (q x p' hl ip) (fun i h => by cases h)
  · have hsq : ∀ p2 ds, sq (Ω.set k p2 ++ [OC.lst ds]) (.o Ω.length) = some ds := fun p2 ds => by show sqO _ = _; rw [hget]; rfl
    have gj : ((l.map dR).map DV.d)[j]? = some (.d (dR x0)) := by rw [List.getElem?_map, List.getElem?_map, hx0]; rfl
    have hx' : ixN ((l.map dR).map DV.d).length (j : Int) = some j := by rw [List.length_map, List.length_map]; exact hx
    have hll : ((l.map dR).map DV.d).length = l.length := by rw [List.length_map, List.length_map]
    walk_at "hl"
    refine ⟨fun h => ?_, fun h => ?_⟩
    · walk_at "hl"
      refine dsm hk ip fun x p2 hz2 ip => ?_
      refine wg_subL (W := W) ?_ trivial
      walk_at "hl"
      refine ⟨_, _, j, j, rfl, rfl, hget _ _, hx', ?_⟩
      rw [hset]
      exact ⟨l.set j x, p2, _, rfl, by rw [List.length_set]; omega, ip, .inl ⟨rfl, by rw [List.map_set, List.map_set]⟩⟩
    · walk_at "hl"
      refine ⟨fun h => ?_, fun h => ?_⟩
      · walk_at "hl"
        refine ⟨⟨_, hsq _ _, rfl⟩, ?_⟩
        walk_at "hl"
        refine wm_popAt (hget _ _) (by omega) (by omega) hx' gj ?_
        rw [hset]
        walk_at "hl"
        exact ⟨l.eraseIdx j, p1, _, rfl, by rw [List.length_eraseIdx]; split <;> omega, ip, .inl ⟨rfl, by rw [erase_map, erase_map]⟩⟩
      · walk_at "hl"
        refine ⟨fun h => ?_, fun h => ?_⟩
        · walk_at "hl"
          refine ⟨⟨_, hsq _ _, rfl⟩, ?_⟩
          walk_at "hl"
          refine dsm hk ip fun x p2 hz2 ip => ?_
          walk_at "hl"
          refine wm_insert (hget _ _) (by rw [hll]; omega) (by omega) (by omega) ?_
          rw [hset]
          walk_at "hl"
          exact ⟨l.take j ++ [x] ++ l.drop j, p2, _, rfl, by simp; omega, ip, .inl ⟨rfl, by simp [List.map_take, List.map_drop]⟩⟩
        · walk_at "hl"
          refine ⟨fun h => ?_, fun h => ?_⟩
          · walk_at "hl"
            refine ⟨⟨_, hsq _ _, rfl⟩, ?_⟩
            walk_at "hl"
            refine wr_ix (hsq _ _) (y := .d (dR x0)) (by show (ixN _ _).bind _ = _; rw [hx']; exact gj) ?_
            walk_at "hl"
            refine wm_insert (hget _ _) (by rw [hll]; omega) (by omega) (by omega) ?_
            rw [hset]
            walk_at "hl"
            exact ⟨l.take j ++ [x0] ++ l.drop j, p1, _, rfl, by simp; omega, ip, .inl ⟨rfl, by simp [List.map_take, List.map_drop]⟩⟩
          · walk_at "hl"
            refine ⟨fun h => ?_, fun h => ?_⟩
            · walk_at "hl"
              refine wsl_L (xs := l.map dR) (by show (sqO _).bind asDs = _; rw [hget]; exact asDs_data _) ?_
              walk_at "hl"
              exact ⟨cutG l none (some (-1)), p1, _, rfl, Nat.le_trans (cutG_len _ _ _) (by omega), ip, .inr ⟨by rw [cutG_map], _, rfl⟩⟩
            · walk_at "hl"
              refine ⟨fun h => ?_, fun h => ?_⟩
              · walk_at "hl"
                refine ⟨⟨_, hsq _ _, rfl⟩, ?_⟩
                walk_at "hl"
                obtain ⟨y1, h1, m1⟩ : ∃ y, atI l (-1) = some y ∧ y ∈ l := by
                  refine ⟨l[l.length - 1], ?_, List.getElem_mem _⟩
                  show (ixN _ _).bind _ = _
                  rw [show ixN l.length (-1) = some (l.length - 1) by unfold ixN; rw [if_neg (by omega), if_pos (by omega)]; congr 1; omega]
                  exact List.getElem?_eq_getElem _
                obtain ⟨y2, h2, m2⟩ : ∃ y, atI l (-2) = some y ∧ y ∈ l := by
                  refine ⟨l[l.length - 2], ?_, List.getElem_mem _⟩
                  show (ixN _ _).bind _ = _
                  rw [show ixN l.length (-2) = some (l.length - 2) by unfold ixN; rw [if_neg (by omega), if_pos (by omega)]; congr 1; omega]
                  exact List.getElem?_eq_getElem _
                refine wr_ix (hsq _ _) (y := .d (dR y1)) (by rw [atI_map, atI_map, h1]; rfl) ?_
                walk_at "hl"
                refine wr_ix (hsq _ _) (y := .d (dR y2)) (by rw [atI_map, atI_map, h2]; rfl) ?_
                walk_at "hl"
                refine ⟨y1, y2, rfl, ⟨2702, 2702, hz _ m1, hz _ m2, by decide⟩, ?_⟩
                walk_at "hl"
                refine wm_append (hget _ _) (by rw [hll]; omega) ?_
                rw [hset]
                walk_at "hl"
                exact ⟨l ++ [y1 - y2], p1, _, rfl, by simp; omega, ip, .inl ⟨rfl, by simp⟩⟩
              · walk_at "hl"
                exact ⟨l, p1, _, rfl, by omega, ip, .inl ⟨rfl, rfl⟩⟩
theorem sp_len_law_other {K : KF} (ds : List DV) (Ω : Om) (R : DV → Om → Prop) (X : Exc → Om → Prop) (h : sp_law_other K ds Ω R X) : ds.length = 2 := by
  unfold sp_law_other at h
  first
    | (obtain ⟨rfl, _⟩ := h; rfl)
    | (obtain ⟨_, rfl, _⟩ := h; rfl)
    | (obtain ⟨_, _, rfl, _⟩ := h; rfl)
    | (obtain ⟨_, _, _, rfl, _⟩ := h; rfl)
    | (obtain ⟨_, _, _, _, rfl, _⟩ := h; rfl)
    | (obtain ⟨_, _, _, _, _, rfl, _⟩ := h; rfl)
    | (obtain ⟨_, _, _, _, _, _, rfl, _⟩ := h; rfl)
    | (obtain ⟨_, _, _, _, _, _, _, rfl, _⟩ := h; rfl)
    | (obtain ⟨_, _, _, _, _, _, _, _, rfl, _⟩ := h; rfl)
/-- a pool of one's own -/
def sp_law_pool (K : KF) : Spec := fun ds Ω R X => ∃ c : Int, ds = [.d (.int c)] ∧ ∀ p, IsPool p → R (.o Ω.length) (Ω ++ [p])
def t_law_pool (K : KF) (W : WX) : TS :=
  (tRet (tLst (tCons (tCB rMaxI (tCons (tC (.int 0)) (tCons (tOp oSub (tVar 0) (tOp oPow (tC (.int 10)) (tC (.int 18)))) tNil))) (tCons (tOp oMod (tVar 0) (tOp oPow (tC (.int 10)) (tC (.int 18)))) (tCons (tC (.int 0)) tNil)))))
theorem w_law_pool {K : KF} (W : WX) (ds : List DV) (Ω : Om) (R : DV → Om → Prop) (X : Exc → Om → Prop) (h : sp_law_pool K ds Ω R X) : WS K W (t_law_pool K W) (startG 1 ds) Ω (fnO Ω R X) := by
  obtain ⟨c, rfl, q⟩ := h
  show WS K W (t_law_pool K W) [some (.d (.int c))] Ω _
  unfold t_law_pool
  refine ws_ret (we_lstO ?_)
  walk_at "hl"
  refine wr_pow ⟨by decide, by decide, by decide⟩ ?_
  walk_at "hl"
  refine wr_pow ⟨by decide, by decide, by decide⟩ ?_
  refine wr_modP (by decide) ?_
  walk_at "hl"
  refine dr_same (q _ ?_)
  exact ⟨_, _, _, rfl, by split <;> omega, Int.emod_nonneg _ (by decide), by omega⟩
theorem sp_len_law_pool {K : KF} (ds : List DV) (Ω : Om) (R : DV → Om → Prop) (X : Exc → Om → Prop) (h : sp_law_pool K ds Ω R X) : ds.length = 1 := by
  unfold sp_law_pool at h
  first
    | (obtain ⟨rfl, _⟩ := h; rfl)
    | (obtain ⟨_, rfl, _⟩ := h; rfl)
    | (obtain ⟨_, _, rfl, _⟩ := h; rfl)
    | (obtain ⟨_, _, _, rfl, _⟩ := h; rfl)
    | (obtain ⟨_, _, _, _, rfl, _⟩ := h; rfl)
    | (obtain ⟨_, _, _, _, _, rfl, _⟩ := h; rfl)
    | (obtain ⟨_, _, _, _, _, _, rfl, _⟩ := h; rfl)
    | (obtain ⟨_, _, _, _, _, _, _, rfl, _⟩ := h; rfl)
    | (obtain ⟨_, _, _, _, _, _, _, _, rfl, _⟩ := h; rfl)
def wholeB : PyData → Bool
  | .int _ => true
  | _ => false
def sp_is_whole (K : KF) : Spec := fun ds Ω R X => ∃ x, ds = [.d x] ∧ known x = true ∧ R (.d (.bool (wholeB x))) Ω
def t_is_whole (K : KF) (W : WX) : TS :=
  (tRet (tAndV (tCB (rIsi K) (tCons (tVar 0) (tCons (tC (.ty "int")) tNil))) (tNotV (tCB (rIsi K) (tCons (tVar 0) (tCons (tC (.ty "bool")) tNil))))))
theorem w_is_whole {K : KF} (W : WX) (ds : List DV) (Ω : Om) (R : DV → Om → Prop) (X : Exc → Om → Prop) (h : sp_is_whole K ds Ω R X) : WS K W (t_is_whole K W) (startG 1 ds) Ω (fnO Ω R X) := by
  obtain ⟨x, rfl, hn, q⟩ := h
  show WS K W (t_is_whole K W) [some (.d x)] Ω _
  unfold t_is_whole
  walk_at "hl"
  refine ⟨fun h => ?_, fun h => ?_⟩
  · walk_at "hl"
    have e : (!isBool x) = wholeB x := by cases x <;> first | rfl | cases h
    rw [e]
    exact dr_same q
  · have e : false = wholeB x := by cases x <;> first | rfl | cases h
    rw [e]
    exact dr_same q
theorem sp_len_is_whole {K : KF} (ds : List DV) (Ω : Om) (R : DV → Om → Prop) (X : Exc → Om → Prop) (h : sp_is_whole K ds Ω R X) : ds.length = 1 := by
  unfold sp_is_whole at h
  first
    | (obtain ⟨rfl, _⟩ := h; rfl)
    | (obtain ⟨_, rfl, _⟩ := h; rfl)
    | (obtain ⟨_, _, rfl, _⟩ := h; rfl)
    | (obtain ⟨_, _, _, rfl, _⟩ := h; rfl)
    | (obtain ⟨_, _, _, _, rfl, _⟩ := h; rfl)
    | (obtain ⟨_, _, _, _, _, rfl, _⟩ := h; rfl)
    | (obtain ⟨_, _, _, _, _, _, rfl, _⟩ := h; rfl)
    | (obtain ⟨_, _, _, _, _, _, _, rfl, _⟩ := h; rfl)
    | (obtain ⟨_, _, _, _, _, _, _, _, rfl, _⟩ := h; rfl)
--USE HLq
def wtB : PyData → Bool
  | .int i => decide (1 ≤ i ∧ i ≤ 1000)
  | _ => false
def sp_is_weight (K : KF) : Spec := fun ds Ω R X => ∃ x : Option Int, ds = [.d (dI x)] ∧ R (.d (.bool (wtB (dI x)))) Ω
def t_is_weight (K : KF) (W : WX) : TS :=
  (tRet (tAndV (tCall (FS K (sp_is_whole K)) [] E0 (tCons (tVar 0) tNil)) (tChain oLe oLe (tC (.int 1)) (tVar 0) (tC (.int (1000))))))
theorem w_is_weight {K : KF} (W : WX) (ds : List DV) (Ω : Om) (R : DV → Om → Prop) (X : Exc → Om → Prop) (h : sp_is_weight K ds Ω R X) : WS K W (t_is_weight K W) (startG 1 ds) Ω (fnO Ω R X) := by
  obtain ⟨x, rfl, q⟩ := h
  show WS K W (t_is_weight K W) [some (.d (dI x))] Ω _
  unfold t_is_weight
  walk_at "hl"
  cases x with
  | none =>
    refine ⟨.none, rfl, rfl, ?_⟩
    walk_at "hl"
    exact ⟨fun h => (by cases h), fun _ => dr_same q⟩
  | some i =>
    refine ⟨.int i, rfl, rfl, ?_⟩
    walk_at "hl"
    refine ⟨fun _ => ?_, fun h => (by cases h)⟩
    show WE K W _ [some (.d (.int i))] _ _ _
    walk_at "hl"
    have q : R (.d (.bool (decide (1 ≤ i ∧ i ≤ 1000)))) Ω := q
    refine ⟨fun h => ?_, fun h => ?_⟩
    · have h := of_decide_eq_true h
      walk_at "hl"
      have e : decide (i ≤ 1000) = decide (1 ≤ i ∧ i ≤ 1000) := decide_eq_decide.mpr ⟨fun h2 => ⟨h, h2⟩, fun h2 => h2.2⟩
      rw [e]
      exact dr_same q
    · have h := of_decide_eq_false h
      rw [decide_eq_false (fun h2 => h h2.1)] at q
      exact dr_same q
theorem sp_len_is_weight {K : KF} (ds : List DV) (Ω : Om) (R : DV → Om → Prop) (X : Exc → Om → Prop) (h : sp_is_weight K ds Ω R X) : ds.length = 1 := by
  unfold sp_is_weight at h
  first
    | (obtain ⟨rfl, _⟩ := h; rfl)
    | (obtain ⟨_, rfl, _⟩ := h; rfl)
    | (obtain ⟨_, _, rfl, _⟩ := h; rfl)
    | (obtain ⟨_, _, _, rfl, _⟩ := h; rfl)
    | (obtain ⟨_, _, _, _, rfl, _⟩ := h; rfl)
    | (obtain ⟨_, _, _, _, _, rfl, _⟩ := h; rfl)
    | (obtain ⟨_, _, _, _, _, _, rfl, _⟩ := h; rfl)
    | (obtain ⟨_, _, _, _, _, _, _, rfl, _⟩ := h; rfl)
    | (obtain ⟨_, _, _, _, _, _, _, _, rfl, _⟩ := h; rfl)
--USE HLq
def sp_look_at_weights (K : KF) : Spec := fun ds Ω R X => ∃ w : W3, ds = [.d (dW3 w)] ∧ W3Ok w ∧ R (.d .none) Ω
def t_look_at_weights (K : KF) (W : WX) : TS :=
  (tSeq (tIfS (tOr (tNot (tB (tCB (rIsi K) (tCons (tVar 0) (tCons (tC (.ty "tuple")) tNil))))) (tOr (tTest (tOp (rNeD K) (tCB (rLenQ K) (tCons (tVar 0) tNil)) (tC (.int 3)))) (tNot (tB (tCall (FS K (sp_is_weight K)) [] E0 (tCons (tOp (rIx K) (tVar 0) (tC (.int 1))) tNil)))))) (tRaise K "NoRow" W) tNext)
    (tSeq (tIfS (tTest (tOp oLt (tCB (rLenQ K) (tCons (tLc (iSeq K (tVar 0)) (gName 1) (tB (tCall (FS K (sp_is_weight K)) [] E0 (tCons (tVar 1) tNil))) (tVar 1) [1]) tNil)) (tC (.int 2)))) (tRaise K "NoRow" W) tNext)
    (tIfS (tNot (tB (tCB (rAll K) (tCons (tLc (iSeq K (tVar 0)) (gName 1) tYes (tOrV (tOp oIsN (tVar 1) (tC .non)) (tCall (FS K (sp_is_weight K)) [] E0 (tCons (tVar 1) tNil))) [1]) tNil)))) (tRaise K "NoRow" W) tNext)))
theorem wt_some {i : Int} (h : 1 ≤ i ∧ i ≤ 1000) : wtB (.int i) = true := decide_eq_true h
theorem w_look_at_weights {K : KF} (W : WX) (ds : List DV) (Ω : Om) (R : DV → Om → Prop) (X : Exc → Om → Prop) (h : sp_look_at_weights K ds Ω R X) : WS K W (t_look_at_weights K W) (startG 2 ds) Ω (fnO Ω R X) := by
  obtain ⟨⟨a, m, c⟩, rfl, ok, q⟩ := h
  show WS K W (t_look_at_weights K W) [some (.d (dW3 (a, m, c))), none] Ω _
  unfold t_look_at_weights
  have hm : 1 ≤ m ∧ m ≤ 1000 := ok.m
  walk_at "hl"
  refine bF rfl ?_
  walk_at "hl"
  refine bF rfl ?_
  walk_at "hl"
  refine wr_ixT (xs := [dI a, .int m, dI c]) (y := .int m) rfl ?_
  walk_at "hl"
  refine ⟨some m, rfl, ?_⟩
  rw [show wtB (dI (some m)) = true from wt_some hm]
  walk_at "hl"
  refine bF rfl ?_
  have wa : a = none ∨ wtB (dI a) = true := by
    cases a with
    | none => exact .inl rfl
    | some x => have := ok.a x rfl; exact .inr (wt_some ⟨this.1, this.2.1⟩)
  have wc : c = none ∨ wtB (dI c) = true := by
    cases c with
    | none => exact .inl rfl
    | some x => have := ok.c x rfl; exact .inr (wt_some ⟨this.1, this.2.1⟩)
  walk_at "hl"
  refine we_lcP (α := Option Int) only1 (wi_T dI [a, some m, c] ?_)
  walk_at "hl"
  refine ⟨rfl, [a, some m, c], _, fun x => wtB (dI x), fun x => dI x, rfl, by show 3 ≤ 100000; omega, rfl, fun _ => trivial, ?_, ?_⟩
  · rintro x Ω' hx -
    walk_at "hl"
    refine ⟨x, rfl, ?_⟩
    walk_at "hl"
    refine ⟨rfl, rfl, fun _ => ?_⟩
    walk_at "hl"
    exact ⟨rfl, rfl⟩
  have l2 : 2 ≤ (([a, some m, c].filter fun x => wtB (dI x)).map dI).length := by
    rw [List.length_map]
    have ho := ok.one
    have hmm : wtB (dI (some m)) = true := wt_some hm
    have h0 : wtB (dI none) = false := rfl
    rcases wa with rfl | wa <;> rcases wc with rfl | wc
    · exact absurd rfl (ho.resolve_left (fun h => h rfl))
    · simp [List.filter, hmm, wc, h0]
    · simp [List.filter, hmm, wa, h0]
    · simp [List.filter, hmm, wa, wc]
  walk_at "hl"
  refine bF (decide_eq_false (by simp only [List.length_map] at l2 ⊢; omega)) ?_
  walk_at "hl"
  refine we_lcP (α := Option Int) only1 (wi_T dI [a, some m, c] ?_)
  walk_at "hl"
  refine ⟨rfl, [a, some m, c], _, fun _ => true, fun x => .bool (x.isNone || wtB (dI x)), rfl, by show 3 ≤ 100000; omega, rfl, fun _ => trivial, ?_, ?_⟩
  · rintro x Ω' hx -
    walk_at "hl"
    refine ⟨rfl, rfl, fun _ => ?_⟩
    walk_at "hl"
    cases x with
    | none => exact ⟨fun _ => ⟨rfl, rfl⟩, fun h => (by cases h)⟩
    | some x =>
      refine ⟨fun h => (by cases h), fun _ => ?_⟩
      walk_at "hl"
      refine ⟨some x, rfl, ?_⟩
      walk_at "hl"
      exact ⟨rfl, rfl⟩
  rw [filter_yes]
  walk_at "hl"
  refine wc_all (bs := [a, some m, c].map fun x => x.isNone || wtB (dI x)) (by show some _ = some _; rw [List.map_map]; rfl) ?_
  have hall : ([a, some m, c].map fun x => x.isNone || wtB (dI x)).all id = true := by
    have hmm : wtB (dI (some m)) = true := wt_some hm
    rcases wa with rfl | wa <;> rcases wc with rfl | wc <;> simp [*]
  rw [hall]
  walk_at "hl"
  refine bF rfl ?_
  walk_at "hl"
  exact dr_same q
theorem sp_len_look_at_weights {K : KF} (ds : List DV) (Ω : Om) (R : DV → Om → Prop) (X : Exc → Om → Prop) (h : sp_look_at_weights K ds Ω R X) : ds.length = 1 := by
  unfold sp_look_at_weights at h
  first
    | (obtain ⟨rfl, _⟩ := h; rfl)
    | (obtain ⟨_, rfl, _⟩ := h; rfl)
    | (obtain ⟨_, _, rfl, _⟩ := h; rfl)
    | (obtain ⟨_, _, _, rfl, _⟩ := h; rfl)
    | (obtain ⟨_, _, _, _, rfl, _⟩ := h; rfl)
    | (obtain ⟨_, _, _, _, _, rfl, _⟩ := h; rfl)
    | (obtain ⟨_, _, _, _, _, _, rfl, _⟩ := h; rfl)
    | (obtain ⟨_, _, _, _, _, _, _, rfl, _⟩ := h; rfl)
    | (obtain ⟨_, _, _, _, _, _, _, _, rfl, _⟩ := h; rfl)
def sp_divisor_of (K : KF) : Spec := fun ds Ω R X => ∃ a b : Int, ds = [.d (.int a), .d (.int b)] ∧ R (.d (.int (Int.gcd a b))) Ω
def t_divisor_of (K : KF) (W : WX) : TS :=
  (tSeq (tWhile (tTest (tOp (rNeD K) (tVar 1) (tC (.int 0)))) (tPar 0 1 (tCons (tVar 1) (tCons (tOp oMod (tVar 0) (tVar 1)) tNil))))
    (tRet (tCB rAbsI (tCons (tVar 0) tNil))))
theorem w_divisor_of {K : KF} (W : WX) (ds : List DV) (Ω : Om) (R : DV → Om → Prop) (X : Exc → Om → Prop) (h : sp_divisor_of K ds Ω R X) : WS K W (t_divisor_of K W) (startG 2 ds) Ω (fnO Ω R X) := by
  obtain ⟨a, b, rfl, q⟩ := h
  show WS K W (t_divisor_of K W) [some (.d (.int a)), some (.d (.int b))] Ω _
  unfold t_divisor_of
  refine ws_seq (ws_while (fun n Γ Ω1 => ∃ c d : Int, Γ = [some (.d (.int c)), some (.d (.int d))] ∧ Ω1 = Ω ∧ Int.gcd c d = Int.gcd a b ∧ d.natAbs = n) b.natAbs ⟨a, b, rfl, rfl, rfl, rfl⟩ ?_)
  rintro n Γ Ω1 - ⟨c, d, rfl, rfl, hg, rfl⟩
  walk_at "hl"
  refine ⟨fun hb => ?_, fun hb => ?_⟩
  · have hd : d ≠ 0 := by
      intro e
      subst e
      simp at hb
    walk_at "hl"
    refine wr_mod hd ?_
    walk_at "hl"
    exact ⟨_, fmod_natAbs_lt hd, d, _, rfl, rfl, (gcd_fmod c d).trans hg, rfl⟩
  · have hd : d = 0 := by
      simpa using hb
    subst hd
    walk_at "hl"
    rw [abs_if, ← Int.gcd_zero_right c, hg]
    exact dr_same q
theorem sp_len_divisor_of {K : KF} (ds : List DV) (Ω : Om) (R : DV → Om → Prop) (X : Exc → Om → Prop) (h : sp_divisor_of K ds Ω R X) : ds.length = 2 := by
  unfold sp_divisor_of at h
  first
    | (obtain ⟨rfl, _⟩ := h; rfl)
    | (obtain ⟨_, rfl, _⟩ := h; rfl)
    | (obtain ⟨_, _, rfl, _⟩ := h; rfl)
    | (obtain ⟨_, _, _, rfl, _⟩ := h; rfl)
    | (obtain ⟨_, _, _, _, rfl, _⟩ := h; rfl)
    | (obtain ⟨_, _, _, _, _, rfl, _⟩ := h; rfl)
    | (obtain ⟨_, _, _, _, _, _, rfl, _⟩ := h; rfl)
    | (obtain ⟨_, _, _, _, _, _, _, rfl, _⟩ := h; rfl)
    | (obtain ⟨_, _, _, _, _, _, _, _, rfl, _⟩ := h; rfl)
def badR : PyData → PyData → Bool
  | .int _, .int b => decide (b = 0)
  | _, _ => true
/-- a ratio made: of a whole number and one that is not 0; else refused -/
def sp_ratio (K : KF) : Spec := fun ds Ω R X => ∃ x y, ds = [.d x, .d y] ∧ known x = true ∧ known y = true ∧
  ((∃ a b : Int, x = .int a ∧ y = .int b ∧ b ≠ 0 ∧ (∃ k, b.natAbs < 2 ^ k ∧ k ≤ 8990) ∧ R (.d (dR (Rat.divInt a b))) Ω) ∨ (badR x y = true ∧ X (.own (He.ga K "NoRatio")) Ω))
def t_ratio (K : KF) (W : WX) : TS :=
  (tSeq (tIfS (tOr (tNot (tB (tCall (FS K (sp_is_whole K)) [] E0 (tCons (tVar 0) tNil)))) (tOr (tNot (tB (tCall (FS K (sp_is_whole K)) [] E0 (tCons (tVar 1) tNil)))) (tTest (tOp (rEqD K) (tVar 1) (tC (.int 0)))))) (tRaise K "NoRatio" W) tNext)
    (tSeq (tAsg (tCall (FS K (sp_divisor_of K)) [] E0 (tCons (tVar 0) (tCons (tVar 1) tNil))) (gName 2))
    (tSeq (tIfS (tTest (tOp oLt (tVar 1) (tC (.int 0)))) (tAsg (tOp oSub (tC (.int 0)) (tVar 2)) (gName 2)) tNext)
    (tRet (tTup (tCons (tOp oFdiv (tVar 0) (tVar 2)) (tCons (tOp oFdiv (tVar 1) (tVar 2)) tNil)))))))
theorem w_ratio {K : KF} (W : WX) (ds : List DV) (Ω : Om) (R : DV → Om → Prop) (X : Exc → Om → Prop) (h : sp_ratio K ds Ω R X) : WS K W (t_ratio K W) (startG 3 ds) Ω (fnO Ω R X) := by
  obtain ⟨x, y, rfl, hn, hm, h⟩ := h
  show WS K W (t_ratio K W) [some (.d x), some (.d y), none] Ω _
  unfold t_ratio
  rcases h with ⟨a, b, rfl, rfl, hb, ⟨k, hk, hk2⟩, q⟩ | ⟨hbad, q⟩
  · walk_at "hl"
    refine ⟨_, rfl, hn, ?_⟩
    walk_at "hl"
    refine bF rfl ?_
    walk_at "hl"
    refine ⟨_, rfl, hm, ?_⟩
    walk_at "hl"
    refine bF rfl ?_
    walk_at "hl"
    refine ⟨fun h => absurd (of_decide_eq_true h) hb, fun _ => ?_⟩
    walk_at "hl"
    refine ⟨a, b, rfl, ?_⟩
    walk_at "hl"
    rw [dR_eq hb] at q
    refine ⟨fun h => ?_, fun h => ?_⟩
    · walk_at "hl"
      have e : (0 - ((Int.gcd a b : Nat) : Int)) = byOf a b := by
        unfold byOf
        rw [if_pos (of_decide_eq_true h)]
      rw [e]
      refine wr_fdiv (cdiv_by hb hk hk2) ?_
      walk_at "hl"
      refine wr_fdiv (cdiv_by hb hk hk2) ?_
      walk_at "hl"
      exact dr_same q
    · walk_at "hl"
      have e : ((Int.gcd a b : Nat) : Int) = byOf a b := by
        unfold byOf
        rw [if_neg (of_decide_eq_false h)]
      rw [e]
      refine wr_fdiv (cdiv_by hb hk hk2) ?_
      walk_at "hl"
      refine wr_fdiv (cdiv_by hb hk hk2) ?_
      walk_at "hl"
      exact dr_same q
  · have bad : ∀ {O : Outs}, O.er [some (.d x), some (.d y), none] (.own (He.ga K "NoRatio")) Ω → WS K W (tRaise K "NoRatio" W) [some (.d x), some (.d y), none] Ω O := fun z => ws_rs z
    walk_at "hl"
    refine ⟨_, rfl, hn, ?_⟩
    walk_at "hl"
    cases hx : wholeB x with
    | false => exact bT rfl (bT rfl (bad (.inl q)))
    | true =>
      refine bF rfl ?_
      walk_at "hl"
      refine ⟨_, rfl, hm, ?_⟩
      walk_at "hl"
      cases hy : wholeB y with
      | false => exact bT rfl (bT rfl (bad (.inl q)))
      | true =>
        refine bF rfl ?_
        walk_at "hl"
        cases x <;> cases hx
        cases y <;> cases hy
        rename_i a b
        have e : b = 0 := of_decide_eq_true hbad
        subst e
        walk_at "hl"
        exact bT rfl (bad (.inl q))
theorem sp_len_ratio {K : KF} (ds : List DV) (Ω : Om) (R : DV → Om → Prop) (X : Exc → Om → Prop) (h : sp_ratio K ds Ω R X) : ds.length = 2 := by
  unfold sp_ratio at h
  first
    | (obtain ⟨rfl, _⟩ := h; rfl)
    | (obtain ⟨_, rfl, _⟩ := h; rfl)
    | (obtain ⟨_, _, rfl, _⟩ := h; rfl)
    | (obtain ⟨_, _, _, rfl, _⟩ := h; rfl)
    | (obtain ⟨_, _, _, _, rfl, _⟩ := h; rfl)
    | (obtain ⟨_, _, _, _, _, rfl, _⟩ := h; rfl)
    | (obtain ⟨_, _, _, _, _, _, rfl, _⟩ := h; rfl)
    | (obtain ⟨_, _, _, _, _, _, _, rfl, _⟩ := h; rfl)
    | (obtain ⟨_, _, _, _, _, _, _, _, rfl, _⟩ := h; rfl)
--USE HLq
def sp_factor_of (K : KF) : Spec := fun ds Ω R X => ∃ w : W3, ds = [.d (dW3 w)] ∧ W3Ok w ∧ R (.d (dR (fac w))) Ω
def t_factor_of (K : KF) (W : WX) : TS :=
  (tSeq (tAsg (tVar 0) (gTup K 3 (gCons (gName 1) (gCons (gName 2) (gCons (gName 3) gNil)))))
    (tSeq (tIfS (tTest (tOp oIsN (tVar 1) (tC .non))) (tRet (tCall (FS K (sp_ratio K)) [] E0 (tCons (tOp oMul (tC (.int 4)) (tVar 3)) (tCons (tOp (rAddX K) (tVar 2) (tVar 3)) tNil)))) tNext)
    (tSeq (tIfS (tTest (tOp oIsN (tVar 3) (tC .non))) (tRet (tCall (FS K (sp_ratio K)) [] E0 (tCons (tOp oMul (tC (.int 4)) (tVar 1)) (tCons (tOp (rAddX K) (tVar 1) (tVar 2)) tNil)))) tNext)
    (tRet (tCall (FS K (sp_ratio K)) [] E0 (tCons (tOp oMul (tOp oMul (tC (.int 4)) (tVar 1)) (tVar 3)) (tCons (tOp oMul (tOp (rAddX K) (tVar 1) (tVar 2)) (tOp (rAddX K) (tVar 2) (tVar 3))) tNil)))))))
theorem w_factor_of {K : KF} (W : WX) (ds : List DV) (Ω : Om) (R : DV → Om → Prop) (X : Exc → Om → Prop) (h : sp_factor_of K ds Ω R X) : WS K W (t_factor_of K W) (startG 4 ds) Ω (fnO Ω R X) := by
  obtain ⟨⟨a, m, c⟩, rfl, ok, q⟩ := h
  show WS K W (t_factor_of K W) [some (.d (dW3 (a, m, c))), none, none, none] Ω _
  unfold t_factor_of
  have fo := fac_ok ok
  have hm : 1 ≤ m ∧ m ≤ 1000 := ok.m
  walk_at "hl"
  refine wg_tup (xs := [dI a, .int m, dI c]) rfl ?_
  show WGs K _ [.d (dI a), .d (.int m), .d (dI c)] _ _ _
  walk_at "hl"
  cases a with
  | none =>
    obtain ⟨c, rfl⟩ : ∃ x, c = some x := by
      cases c with
      | none => exact absurd rfl (ok.one.resolve_left (fun h => h rfl))
      | some c => exact ⟨c, rfl⟩
    refine bT rfl ?_
    show WS K W _ [_, some (.d .none), some (.d (.int m)), some (.d (.int c))] _ _
    have hc : 1 ≤ c ∧ c ≤ 1000 ∧ c ≤ 31 * m := ok.c c rfl
    have c1 : CMulW 4 c := cmul (n := 3) (m := 10) (by decide) (by omega) (by decide)
    walk_at "hl"
    refine ⟨.int (4 * c), .int (m + c), rfl, rfl, rfl, .inl ⟨4 * c, m + c, rfl, rfl, by omega, ⟨22, by omega, by decide⟩, dr_same q⟩⟩
  | some a =>
    have ha : 1 ≤ a ∧ a ≤ 1000 ∧ a ≤ 31 * m := ok.a a rfl
    have c1 : CMulW 4 a := cmul (n := 3) (m := 10) (by decide) (by omega) (by decide)
    refine bF rfl ?_
    cases c with
    | none =>
      show WS K W _ [_, some (.d (.int a)), some (.d (.int m)), some (.d .none)] _ _
      walk_at "hl"
      refine bT rfl ?_
      walk_at "hl"
      refine ⟨.int (4 * a), .int (a + m), rfl, rfl, rfl, .inl ⟨4 * a, a + m, rfl, rfl, by omega, ⟨22, by omega, by decide⟩, dr_same q⟩⟩
    | some c =>
      have hc : 1 ≤ c ∧ c ≤ 1000 ∧ c ≤ 31 * m := ok.c c rfl
      have c2 : CMulW (4 * a) c := cmul (n := 12) (m := 10) (by omega) (by omega) (by decide)
      have c3 : CMulW (a + m) (m + c) := cmul (n := 11) (m := 11) (by omega) (by omega) (by decide)
      show WS K W _ [_, some (.d (.int a)), some (.d (.int m)), some (.d (.int c))] _ _
      walk_at "hl"
      refine bF rfl ?_
      walk_at "hl"
      have hd : (a + m) * (m + c) < 2 ^ 22 := fo.d1
      have hd0 : 0 < (a + m) * (m + c) := fo.d0
      refine ⟨.int (4 * a * c), .int ((a + m) * (m + c)), rfl, rfl, rfl, .inl ⟨4 * a * c, (a + m) * (m + c), rfl, rfl, by omega, ⟨22, by omega, by decide⟩, dr_same q⟩⟩
theorem sp_len_factor_of {K : KF} (ds : List DV) (Ω : Om) (R : DV → Om → Prop) (X : Exc → Om → Prop) (h : sp_factor_of K ds Ω R X) : ds.length = 1 := by
  unfold sp_factor_of at h
  first
    | (obtain ⟨rfl, _⟩ := h; rfl)
    | (obtain ⟨_, rfl, _⟩ := h; rfl)
    | (obtain ⟨_, _, rfl, _⟩ := h; rfl)
    | (obtain ⟨_, _, _, rfl, _⟩ := h; rfl)
    | (obtain ⟨_, _, _, _, rfl, _⟩ := h; rfl)
    | (obtain ⟨_, _, _, _, _, rfl, _⟩ := h; rfl)
    | (obtain ⟨_, _, _, _, _, _, rfl, _⟩ := h; rfl)
    | (obtain ⟨_, _, _, _, _, _, _, rfl, _⟩ := h; rfl)
    | (obtain ⟨_, _, _, _, _, _, _, _, rfl, _⟩ := h; rfl)
def sp_minus (K : KF) : Spec := fun ds Ω R X => ∃ p q : Rat, ds = [.d (dR p), .d (dR q)] ∧ Sz2 p q ∧ R (.d (dR (p - q))) Ω
def t_minus (K : KF) (W : WX) : TS :=
  (tRet (tCall (FS K (sp_ratio K)) [] E0 (tCons (tOp oSub (tOp oMul (tOp (rIx K) (tVar 0) (tC (.int 0))) (tOp (rIx K) (tVar 1) (tC (.int 1)))) (tOp oMul (tOp (rIx K) (tVar 1) (tC (.int 0))) (tOp (rIx K) (tVar 0) (tC (.int 1))))) (tCons (tOp oMul (tOp (rIx K) (tVar 0) (tC (.int 1))) (tOp (rIx K) (tVar 1) (tC (.int 1)))) tNil))))
theorem w_minus {K : KF} (W : WX) (ds : List DV) (Ω : Om) (R : DV → Om → Prop) (X : Exc → Om → Prop) (h : sp_minus K ds Ω R X) : WS K W (t_minus K W) (startG 2 ds) Ω (fnO Ω R X) := by
  obtain ⟨p, q, rfl, ⟨n, m, hp, hq, hz⟩, k⟩ := h
  show WS K W (t_minus K W) [some (.d (dR p)), some (.d (dR q))] Ω _
  unfold t_minus
  obtain ⟨nn, nd, dn, dd⟩ := muls hp hq (by omega)
  obtain ⟨nn', nd', dn', dd'⟩ := muls hq hp (by omega)
  walk_at "hl"
  refine ⟨_, _, rfl, rfl, rfl, .inl ⟨_, _, rfl, rfl, den_mul_ne p q, ⟨n + m, den_mul_lt hp hq, by omega⟩, ?_⟩⟩
  walk_at "hl"
  rw [rat_sub]
  exact dr_same k
theorem sp_len_minus {K : KF} (ds : List DV) (Ω : Om) (R : DV → Om → Prop) (X : Exc → Om → Prop) (h : sp_minus K ds Ω R X) : ds.length = 2 := by
  unfold sp_minus at h
  first
    | (obtain ⟨rfl, _⟩ := h; rfl)
    | (obtain ⟨_, rfl, _⟩ := h; rfl)
    | (obtain ⟨_, _, rfl, _⟩ := h; rfl)
    | (obtain ⟨_, _, _, rfl, _⟩ := h; rfl)
    | (obtain ⟨_, _, _, _, rfl, _⟩ := h; rfl)
    | (obtain ⟨_, _, _, _, _, rfl, _⟩ := h; rfl)
    | (obtain ⟨_, _, _, _, _, _, rfl, _⟩ := h; rfl)
    | (obtain ⟨_, _, _, _, _, _, _, rfl, _⟩ := h; rfl)
    | (obtain ⟨_, _, _, _, _, _, _, _, rfl, _⟩ := h; rfl)
def sp_times (K : KF) : Spec := fun ds Ω R X => ∃ p q : Rat, ds = [.d (dR p), .d (dR q)] ∧ Sz2 p q ∧ R (.d (dR (p * q))) Ω
def t_times (K : KF) (W : WX) : TS :=
  (tRet (tCall (FS K (sp_ratio K)) [] E0 (tCons (tOp oMul (tOp (rIx K) (tVar 0) (tC (.int 0))) (tOp (rIx K) (tVar 1) (tC (.int 0)))) (tCons (tOp oMul (tOp (rIx K) (tVar 0) (tC (.int 1))) (tOp (rIx K) (tVar 1) (tC (.int 1)))) tNil))))
theorem w_times {K : KF} (W : WX) (ds : List DV) (Ω : Om) (R : DV → Om → Prop) (X : Exc → Om → Prop) (h : sp_times K ds Ω R X) : WS K W (t_times K W) (startG 2 ds) Ω (fnO Ω R X) := by
  obtain ⟨p, q, rfl, ⟨n, m, hp, hq, hz⟩, k⟩ := h
  show WS K W (t_times K W) [some (.d (dR p)), some (.d (dR q))] Ω _
  unfold t_times
  obtain ⟨nn, nd, dn, dd⟩ := muls hp hq (by omega)
  obtain ⟨nn', nd', dn', dd'⟩ := muls hq hp (by omega)
  walk_at "hl"
  refine ⟨_, _, rfl, rfl, rfl, .inl ⟨_, _, rfl, rfl, den_mul_ne p q, ⟨n + m, den_mul_lt hp hq, by omega⟩, ?_⟩⟩
  walk_at "hl"
  rw [rat_mul]
  exact dr_same k
theorem sp_len_times {K : KF} (ds : List DV) (Ω : Om) (R : DV → Om → Prop) (X : Exc → Om → Prop) (h : sp_times K ds Ω R X) : ds.length = 2 := by
  unfold sp_times at h
  first
    | (obtain ⟨rfl, _⟩ := h; rfl)
    | (obtain ⟨_, rfl, _⟩ := h; rfl)
    | (obtain ⟨_, _, rfl, _⟩ := h; rfl)
    | (obtain ⟨_, _, _, rfl, _⟩ := h; rfl)
    | (obtain ⟨_, _, _, _, rfl, _⟩ := h; rfl)
    | (obtain ⟨_, _, _, _, _, rfl, _⟩ := h; rfl)
    | (obtain ⟨_, _, _, _, _, _, rfl, _⟩ := h; rfl)
    | (obtain ⟨_, _, _, _, _, _, _, rfl, _⟩ := h; rfl)
    | (obtain ⟨_, _, _, _, _, _, _, _, rfl, _⟩ := h; rfl)
--USE HLq
def sp_numbers_of (K : KF) : Spec := fun ds Ω R X => ∃ w : W3, ds = [.d (dW3 w)] ∧ W3Ok w ∧ R (.d (.list ((numsL (fac w)).map dR))) Ω
def t_numbers_of (K : KF) (W : WX) : TS :=
  (tSeq (tAsg (tCall (FS K (sp_factor_of K)) [] E0 (tCons (tVar 0) tNil)) (gName 1))
    (tSeq (tAsg (tLstO (tCons (tC (.ref (He.ga K "ONE"))) (tCons (tC (.ref (He.ga K "ONE"))) tNil))) (gName 2))
    (tSeq (tWhile (tTest (tOp oGt (tOp (rIx K) (tOp (rIx K) (tVar 2) (tUn uNeg (tC (.int 1)))) (tC (.int 0))) (tC (.int 0)))) (tSeq (tAsg (tC (.ref (He.ga K "ONE"))) (gName 3))
    (tSeqI (tIfS (tTest (tOp (rEqD K) (tOp oMod (tCB (rLenQ K) (tCons (tVar 2) tNil)) (tC (.int 2))) (tC (.int 0)))) (tAsg (tVar 1) (gName 3)) tNext)
    (tDrop (tBM K "list" rAppend (tVar 2) (tCons (tCall (FS K (sp_minus K)) [] E0 (tCons (tCall (FS K (sp_times K)) [] E0 (tCons (tOp (rIx K) (tVar 2) (tUn uNeg (tC (.int 1)))) (tCons (tVar 3) tNil))) (tCons (tOp (rIx K) (tVar 2) (tUn uNeg (tC (.int 2)))) tNil))) tNil))))))
    (tRet (tVar 2)))))
def numsTo (f : Rat) (k : Nat) : List Rat := (List.range (k + 1)).map (xs3 f)
theorem numsTo_succ (f : Rat) (k : Nat) : numsTo f (k + 1) = numsTo f k ++ [xs3 f (k + 1)] := by
  unfold numsTo
  rw [List.range_succ, List.map_append]; rfl
theorem numsTo_last (f : Rat) (k : Nat) : (numsTo f k).getLast? = some (xs3 f k) := by
  unfold numsTo
  rw [List.range_succ, List.map_append]
  simp
theorem at_last2 {f : Rat} {k : Nat} (h : 1 ≤ k) : atI (numsTo f k) (-2) = some (xs3 f (k - 1)) := by
  obtain ⟨j, rfl⟩ : ∃ j, k = j + 1 := ⟨k - 1, by omega⟩
  rw [numsTo_succ]
  have hl : (numsTo f j).length = j + 1 := by simp [numsTo]
  have hj := numsTo_last f j
  rw [List.getLast?_eq_getElem?, hl] at hj
  unfold atI
  rw [show ixN (numsTo f j ++ [xs3 f (j + 1)]).length (-2) = some j by
    unfold ixN
    rw [List.length_append, hl, if_neg (by omega), if_pos (by simp; omega)]
    congr 1
    simp; omega]
  show (numsTo f j ++ [xs3 f (j + 1)])[j]? = _
  rw [List.getElem?_append_left (by omega)]
  exact hj
theorem w_numbers_of {K : KF} (hq : He.tupB K "ONE" [.int 1, .int 1] = true) (W : WX) (ds : List DV) (Ω : Om) (R : DV → Om → Prop) (X : Exc → Om → Prop) (h : sp_numbers_of K ds Ω R X) : WS K W (t_numbers_of K W) (startG 4 ds) Ω (fnO Ω R X) := by
  obtain ⟨w, rfl, ok, q⟩ := h
  show WS K W (t_numbers_of K W) [some (.d (dW3 w)), none, none, none] Ω _
  unfold t_numbers_of
  walk_at "hl"
  refine ⟨w, rfl, ok, ?_⟩
  walk_at "hl"
  have fs := fac_sz ok
  obtain ⟨s60, s1, sneg, spos⟩ := stop_ok ok
  refine ws_while (fun m Γ Ω1 => ∃ (k : Nat) (c : Option DV), Γ = [some (.d (dW3 w)), some (.d (dR (fac w))), some (.o Ω.length), c] ∧ Ω1 = Ω ++ [.lst ((numsTo (fac w) k).map fun x => .d (dR x))] ∧ 1 ≤ k ∧ k ≤ stopK (fac w) ∧ stopK (fac w) - k = m) _ ⟨1, _, rfl, rfl, Nat.le_refl _, s1, rfl⟩ ?_
  rintro m Γ Ω1 - ⟨k, c, rfl, rfl, hk1, hk2, rfl⟩
  have hlen : (numsTo (fac w) k).length = k + 1 := by simp [numsTo]
  have i1 : atI ((numsTo (fac w) k).map fun x => DV.d (dR x)) (-1) = some (.d (dR (xs3 (fac w) k))) := by rw [atI_map, at_last (numsTo_last _ _)]; rfl
  have i2 : atI ((numsTo (fac w) k).map fun x => DV.d (dR x)) (-2) = some (.d (dR (xs3 (fac w) (k - 1)))) := by
    rw [atI_map]
    have : atI (numsTo (fac w) k) (-2) = some (xs3 (fac w) (k - 1)) := at_last2 hk1
    rw [this]; rfl
  walk_at "hl"
  refine wr_ix (sq_last _ _) i1 ?_
  walk_at "hl"
  refine ⟨fun h => ?_, fun h => ?_⟩
  · have h := of_decide_eq_true h
    have hp : 0 < xs3 (fac w) k := rat_pos_num h
    have hk3 : k < stopK (fac w) := by
      rcases Nat.lt_or_eq_of_le hk2 with h | h
      · exact h
      · rw [h] at hp
        exact absurd hp (Rat.not_lt.mpr sneg)
    have z1 := xs_sz ok (k := k) (by omega)
    have z2 := xs_sz ok (k := k - 1) (by omega)
    walk_at "hl"
    refine ws_cut (fun Γ Ω1 => Γ = [some (.d (dW3 w)), some (.d (dR (fac w))), some (.o Ω.length), some (.d (dR (if (k - 1) % 2 = 0 then fac w else 1)))] ∧ Ω1 = Ω ++ [.lst ((numsTo (fac w) k).map fun x => .d (dR x))]) ?_ ?_
    · rintro Γ Ω1 ⟨rfl, rfl⟩
      have zs : Sz 22 (if (k - 1) % 2 = 0 then fac w else 1) := by
        split
        · exact fs
        · exact ⟨by decide, by decide⟩
      walk_at "hl"
      refine ⟨⟨_, sq_last _ _, rfl⟩, ?_⟩
      walk_at "hl"
      refine wr_ix (sq_last _ _) i1 ?_
      walk_at "hl"
      refine ⟨_, _, rfl, ⟨2702, 22, z1, zs, by decide⟩, ?_⟩
      walk_at "hl"
      refine wr_ix (sq_last _ _) i2 ?_
      walk_at "hl"
      have zm := z1.mul zs
      refine ⟨_, _, rfl, ⟨_, 2702, zm, z2, by decide⟩, ?_⟩
      walk_at "hl"
      refine wm_appL (by rw [List.length_map]; omega) ?_
      walk_at "hl"
      have e : xs3 (fac w) k * (if (k - 1) % 2 = 0 then fac w else 1) - xs3 (fac w) (k - 1) = xs3 (fac w) (k + 1) := by
        obtain ⟨j, rfl⟩ : ∃ j, k = j + 1 := ⟨k - 1, by omega⟩
        show xs3 (fac w) (j + 1) * (if j % 2 = 0 then fac w else 1) - xs3 (fac w) j = (if j % 2 = 0 then fac w else 1) * xs3 (fac w) (j + 1) - xs3 (fac w) j
        rw [Rat.mul_comm]
      rw [e]
      exact ⟨_, by omega, k + 1, _, rfl, by rw [numsTo_succ, List.map_append]; rfl, by omega, by omega, rfl⟩
    · walk_at "hl"
      refine wc_len' (sq_last _ _) ?_
      rw [List.length_map, hlen]
      walk_at "hl"
      refine wr_mod (by decide) ?_
      walk_at "hl"
      have em : ((k + 1 : Nat) : Int).fmod 2 = (((k + 1) % 2 : Nat) : Int) := by
        rw [Int.fmod_eq_emod_of_nonneg _ (by decide)]; rfl
      refine ⟨fun h => ?_, fun h => ?_⟩
      · have h := of_decide_eq_true h
        walk_at "hl"
        rw [if_pos (by omega)]
        exact ⟨rfl, rfl⟩
      · have h := of_decide_eq_false h
        walk_at "hl"
        rw [if_neg (by omega)]
        exact ⟨rfl, rfl⟩
  · have h := of_decide_eq_false h
    have hp : ¬ 0 < xs3 (fac w) k := fun h' => h (rat_num_pos h')
    have hk3 : k = stopK (fac w) := by
      apply Classical.byContradiction
      intro hne
      exact hp (spos k hk1 (by omega))
    subst hk3
    refine ws_ret (we_varFL rfl (asDs_map dR _) ?_)
    exact dr_app q (fun i h => by cases h)
theorem sp_len_numbers_of {K : KF} (ds : List DV) (Ω : Om) (R : DV → Om → Prop) (X : Exc → Om → Prop) (h : sp_numbers_of K ds Ω R X) : ds.length = 1 := by
  unfold sp_numbers_of at h
  first
    | (obtain ⟨rfl, _⟩ := h; rfl)
    | (obtain ⟨_, rfl, _⟩ := h; rfl)
    | (obtain ⟨_, _, rfl, _⟩ := h; rfl)
    | (obtain ⟨_, _, _, rfl, _⟩ := h; rfl)
    | (obtain ⟨_, _, _, _, rfl, _⟩ := h; rfl)
    | (obtain ⟨_, _, _, _, _, rfl, _⟩ := h; rfl)
    | (obtain ⟨_, _, _, _, _, _, rfl, _⟩ := h; rfl)
    | (obtain ⟨_, _, _, _, _, _, _, rfl, _⟩ := h; rfl)
    | (obtain ⟨_, _, _, _, _, _, _, _, rfl, _⟩ := h; rfl)
--USE HLq
def sp_lets_most (K : KF) : Spec := fun ds Ω R X => ∃ (w : W3) (n : Int) (l : List Rat) (nv : DV), ds = [.d (dW3 w), .d (.int n), nv] ∧ W3Ok w ∧ (nv = .d (.list (l.map dR)) ∨ nv = .d (.tuple (l.map dR))) ∧ l.length ≤ 1000 ∧ R (.d (.bool (decide (n = l.length) && decide (l = numsL (fac w))))) Ω
def t_lets_most (K : KF) (W : WX) : TS :=
  (tSeq (tDrop (tCall (FS K (sp_look_at_weights K)) [] E0 (tCons (tVar 0) tNil)))
    (tRet (tAndV (tOp (rEqD K) (tVar 1) (tCB (rLenQ K) (tCons (tVar 2) tNil))) (tOp (rEqD K) (tCB (rListQ K) (tCons (tVar 2) tNil)) (tCall (FS K (sp_numbers_of K)) [] E0 (tCons (tVar 0) tNil))))))
theorem w_lets_most {K : KF} (W : WX) (ds : List DV) (Ω : Om) (R : DV → Om → Prop) (X : Exc → Om → Prop) (h : sp_lets_most K ds Ω R X) : WS K W (t_lets_most K W) (startG 3 ds) Ω (fnO Ω R X) := by
  obtain ⟨w, n, l, nv, rfl, ok, hn, hl, q⟩ := h
  show WS K W (t_lets_most K W) [some (.d (dW3 w)), some (.d (.int n)), some nv] Ω _
  unfold t_lets_most
  have hs : sq Ω nv = some ((l.map dR).map DV.d) := by rcases hn with rfl | rfl <;> rfl
  have hs2 : ls Ω nv = some (l.map dR) := by rcases hn with rfl | rfl <;> rfl
  walk_at "hl"
  refine ⟨w, rfl, ok, ?_⟩
  walk_at "hl"
  refine wc_len' hs ?_
  rw [List.length_map, List.length_map]
  walk_at "hl"
  refine ⟨fun h => ?_, fun h => ?_⟩
  · rw [h, Bool.true_and] at q
    walk_at "hl"
    refine wc_listD' hs2 ?_
    walk_at "hl"
    refine ⟨w, rfl, ok, ?_⟩
    walk_at "hl"
    refine wr_eqL dR eqvI_dR (fun a => shp_dR (n := 62) a) ?_
    exact dr_same q
  · rw [h, Bool.false_and] at q
    exact dr_same q
theorem sp_len_lets_most {K : KF} (ds : List DV) (Ω : Om) (R : DV → Om → Prop) (X : Exc → Om → Prop) (h : sp_lets_most K ds Ω R X) : ds.length = 3 := by
  unfold sp_lets_most at h
  first
    | (obtain ⟨rfl, _⟩ := h; rfl)
    | (obtain ⟨_, rfl, _⟩ := h; rfl)
    | (obtain ⟨_, _, rfl, _⟩ := h; rfl)
    | (obtain ⟨_, _, _, rfl, _⟩ := h; rfl)
    | (obtain ⟨_, _, _, _, rfl, _⟩ := h; rfl)
    | (obtain ⟨_, _, _, _, _, rfl, _⟩ := h; rfl)
    | (obtain ⟨_, _, _, _, _, _, rfl, _⟩ := h; rfl)
    | (obtain ⟨_, _, _, _, _, _, _, rfl, _⟩ := h; rfl)
    | (obtain ⟨_, _, _, _, _, _, _, _, rfl, _⟩ := h; rfl)
--USE HLq
def sp_law (K : KF) : Spec := fun ds Ω R X => ∃ ns : List Int, ds = [.d (.list (ns.map PyData.int))] ∧ ns.length ≤ 63 ∧ ∀ Ω', R (.d (.bool true)) Ω'
def t_law (K : KF) (W : WX) : TS :=
  (tSeq (tFor (iSeq K (tOp (rAddX K) (tLst (tCons (tC (.int 0)) tNil)) (tSl (rSlS K) (tVar 0) tNoPart (tPart (tC (.int 7)))))) (gName 1) (tSeq (tAsg (tCall (FS K (sp_law_pool K)) [] E0 (tCons (tVar 1) tNil)) (gName 2))
    (tSeq (tAsg (tCall (FS K (sp_law_three K)) [] E0 (tCons (tVar 2) tNil)) (gName 3))
    (tSeq (tAsg (tCall (FS K (sp_law_numbers K)) [] E0 (tCons (tVar 3) tNil)) (gName 4))
    (tSeq (tFor (iRng1 (tCons (tC (.int 4)) tNil)) (gName 5) (tSeq (tAsg (tCall (FS K (sp_law_other K)) [] E0 (tCons (tVar 4) (tCons (tVar 2) tNil))) (gName 6))
    (tSeq (tAsg (tOp (rAddX K) (tCB (rLenQ K) (tCons (tVar 6) tNil)) (tOp (rIx K) (tLst (tCons (tC (.int 0)) (tCons (tC (.int 0)) (tCons (tC (.int 1)) (tCons (tUn uNeg (tC (.int 1))) tNil))))) (tCall (FS K (sp_law_next K)) [] E0 (tCons (tVar 2) (tCons (tC (.int 4)) tNil))))) (gName 7))
    (tSeqI (tIfS (tTest (tOp (rEqD K) (tCall (FS K (sp_law_next K)) [] E0 (tCons (tVar 2) (tCons (tC (.int 4)) tNil))) (tC (.int 0)))) (tAsg (tCB (rLenQ K) (tCons (tVar 4) tNil)) (gName 7)) tNext)
    (tSeq (tAsg (tCB (rListQ K) (tCons (tVar 6) tNil)) (gName 8))
    (tSeq (tAsg (tCall (FS K (sp_lets_most K)) [] E0 (tCons (tVar 3) (tCons (tVar 7) (tCons (tOp (rIx K) (tLst (tCons (tVar 6) (tCons (tCB (rTupQ K) (tCons (tVar 6) tNil)) tNil))) (tCall (FS K (sp_law_next K)) [] E0 (tCons (tVar 2) (tCons (tC (.int 2)) tNil)))) tNil)))) (gName 9))
    (tSeqI (tIfS (tTest (tOp (rNeD K) (tVar 6) (tVar 8))) (tRet (tC (.bl false))) tNext)
    (tSeqI (tIfS (tAnd (tTest (tOp rIsnBl (tVar 9) (tC (.bl true)))) (tTest (tOp rIsnBl (tVar 9) (tC (.bl false))))) (tRet (tC (.bl false))) tNext)
    (tIfS (tTest (tOp (rNeD K) (tVar 9) (tAndV (tOp (rEqD K) (tVar 6) (tVar 4)) (tOp (rEqD K) (tVar 7) (tCB (rLenQ K) (tCons (tVar 4) tNil)))))) (tRet (tC (.bl false))) tNext)))))))))
    (tIfS (tOr (tTest (tOp rIsnBl (tCall (FS K (sp_lets_most K)) [] E0 (tCons (tVar 3) (tCons (tCB (rLenQ K) (tCons (tVar 4) tNil)) (tCons (tVar 4) tNil)))) (tC (.bl true)))) (tTest (tOp rIsnBl (tCall (FS K (sp_lets_most K)) [] E0 (tCons (tVar 3) (tCons (tC (.int 0)) (tCons (tLst tNil) tNil)))) (tC (.bl false))))) (tRet (tC (.bl false))) tNext))))))
    (tRet (tC (.bl true))))
theorem dnE {K : KF} {S : Om} {p : OC} {b : Int} {R : DV → Om → Prop} {X : Exc → Om → Prop} {n : Nat} (e : n = S.length) (ip : IsPool p) (h0 : 0 < b) (h1 : b ≤ 10 ^ 30) (q : ∀ (r : Int) (p' : OC), 0 ≤ r → r < b → IsPool p' → R (.d (.int r)) (S ++ [p'])) :
    sp_law_next K [.o n, .d (.int b)] (S ++ [p]) R X := by
  subst e
  exact ⟨S.length, p, b, rfl, by simp, ip, h0, h1, fun r p' r0 r1 ip' => by rw [set_last]; exact q r p' r0 r1 ip'⟩
theorem w_law {K : KF} (W : WX) (ds : List DV) (Ω : Om) (R : DV → Om → Prop) (X : Exc → Om → Prop) (h : sp_law K ds Ω R X) : WS K W (t_law K W) (startG 10 ds) Ω (fnO Ω R X) := by
  obtain ⟨ns, rfl, hl, q⟩ := h
  show WS K W (t_law K W) [some (.d (.list (ns.map PyData.int))), none, none, none, none, none, none, none, none, none] Ω _
  unfold t_law
  walk_at "hl"
  refine ws_for (wi_Ld ?_)
  walk_at "hl"
  refine wsl_L (xs := ns.map PyData.int) rfl ?_
  rw [cutG_map]
  have hcut : (cutG ns none (some 7)).length ≤ ns.length := cutG_len _ _ _
  walk_at "hl"
  refine wr_addL rfl rfl (by simp; omega) ?_
  walk_at "hl"
  refine ⟨_, rfl, fun i Γ Ω1 => ∃ c1 c2 c3 c4 c5 c6 c7 c8 c9, Γ = [some (.d (.list (ns.map PyData.int))), c1, c2, c3, c4, c5, c6, c7, c8, c9] ∧ Ω.length ≤ Ω1.length, ⟨none, none, none, none, none, none, none, none, none, rfl, Nat.le_refl _⟩, ?_, ?_, ?_⟩
  · rintro i Γ Ω1 - ⟨c1, c2, c3, c4, c5, c6, c7, c8, c9, rfl, hz⟩
    exact ⟨trivial, hz⟩
  · rintro i y Γ Ω1 hy ⟨c1, c2, c3, c4, c5, c6, c7, c8, c9, rfl, hz⟩
    obtain ⟨c, rfl⟩ : ∃ c : Int, y = .d (.int c) := by
      have hm := List.mem_of_getElem? hy
      obtain ⟨d, hd, rfl⟩ := List.mem_map.mp hm
      rcases List.mem_append.mp hd with h | h
      · exact ⟨0, by rw [List.mem_singleton.mp h]⟩
      · obtain ⟨c, -, rfl⟩ := List.mem_map.mp h
        exact ⟨c, rfl⟩
    walk_at "hl"
    refine ⟨c, rfl, fun p ip => ?_⟩
    walk_at "hl"
    refine ⟨Ω1.length, p, rfl, by simp, ip, fun w p ok ip => ?_⟩
    rw [set_last]
    walk_at "hl"
    refine ⟨w, rfl, ok, ?_⟩
    have hs := stop_ok ok
    have hn : (numsL (fac w)).length = stopK (fac w) + 1 := by simp [numsL]
    have hz : ∀ x ∈ numsL (fac w), Sz 2702 x := fun x hx => by
      obtain ⟨k, hk, rfl⟩ := List.mem_map.mp hx
      exact xs_sz ok (by have := List.mem_range.mp hk; omega)
    walk_at "hl"
    refine ws_for (wi_rng1 ?_)
    walk_at "hl"
    refine ⟨_, rfl, by decide, by decide, ?_⟩
    refine ⟨fun j Γ Ω2 => ∃ p c5 c6 c7 c8 c9, Γ = [some (.d (.list (ns.map PyData.int))), some (.d (.int c)), some (.o Ω1.length), some (.d (dW3 w)), some (.d (.list ((numsL (fac w)).map dR))), c5, c6, c7, c8, c9] ∧ Ω2 = Ω1 ++ [p] ∧ IsPool p, ⟨p, c5, c6, c7, c8, c9, rfl, rfl, ip⟩, ?_, ?_, ?_⟩
    · rintro j Γ Ω2 - ⟨p, c5, c6, c7, c8, c9, rfl, rfl, ip⟩
      exact ⟨trivial, by simp⟩
    · rintro j e Γ Ω2 he ⟨p, c5, c6, c7, c8, c9, rfl, rfl, ip⟩
      obtain ⟨hi, rfl⟩ := rng_get he
      have hk : Ω1.length < (Ω1 ++ [p]).length := by simp
      walk_at "hl"
      refine ⟨Ω1.length, p, numsL (fac w), rfl, by simp, ip, by omega, by omega, hz, fun l p hl ip => ?_⟩
      rw [set_last]
      walk_at "hl"
      refine dnE rfl ip (by decide) (by decide) fun r p r0 r1 ip => ?_
      refine wr_ix_ints (ns := [0, 0, 1, -1]) rfl r0 (by simpa using r1) fun n0 hn0 => ?_
      walk_at "hl"
      refine ws_cut (fun Γ Ω2 => ∃ (m : Int) (p : OC), Γ = [some (.d (.list (ns.map PyData.int))), some (.d (.int c)), some (.o Ω1.length), some (.d (dW3 w)), some (.d (.list ((numsL (fac w)).map dR))), some (.d (.int (0 + (j : Int)))), some (.d (.list (l.map dR))), some (.d (.int m)), c8, c9] ∧ Ω2 = Ω1 ++ [p] ∧ IsPool p) ?_ ?_
      rotate_left
      · walk_at "hl"
        refine dnE rfl ip (by decide) (by decide) fun r p r0 r1 ip => ?_
        walk_at "hl"
        refine ⟨fun h => ?_, fun h => ?_⟩
        · walk_at "hl"
          exact ⟨_, p, rfl, rfl, ip⟩
        · walk_at "hl"
          exact ⟨_, p, rfl, rfl, ip⟩
      rintro Γ Ω2 ⟨m, p, rfl, rfl, ip⟩
      walk_at "hl"
      refine wc_tup' (xs := l.map dR) rfl ?_
      walk_at "hl"
      refine dnE rfl ip (by decide) (by decide) fun r p r0 r1 ip => ?_
      obtain ⟨nv, hnv, hat⟩ : ∃ nv : PyData, (DV.d nv = .d (.list (l.map dR)) ∨ DV.d nv = .d (.tuple (l.map dR))) ∧ atI [.list (l.map dR), .tuple (l.map dR)] r = some nv := by
        have hr : r = 0 ∨ r = 1 := by omega
        rcases hr with rfl | rfl
        · exact ⟨_, .inl rfl, rfl⟩
        · exact ⟨_, .inr rfl, rfl⟩
      refine wr_ixL hat ?_
      walk_at "hl"
      refine ⟨w, m, l, _, rfl, ok, hnv, by omega, ?_⟩
      obtain ⟨b, hb⟩ : ∃ b, (decide (m = l.length) && decide (l = numsL (fac w))) = b := ⟨_, rfl⟩
      rw [hb]
      walk_at "hl"
      show WS K W _ _ _ _
      refine ws_go ?_
      walk_at "hl"
      refine wr_neL dR eqvI_dR (fun a => shp_dR (n := 62) a) ?_
      rw [decide_eq_true rfl]
      walk_at "hl"
      refine bF rfl ?_
      walk_at "hl"
      refine ws_cut (fun Γ Ω2 => Γ = [some (.d (.list (ns.map PyData.int))), some (.d (.int c)), some (.o Ω1.length), some (.d (dW3 w)), some (.d (.list ((numsL (fac w)).map dR))), some (.d (.int (0 + (j : Int)))), some (.d (.list (l.map dR))), some (.d (.int m)), some (.d (.list (l.map dR))), some (.d (.bool b))] ∧ Ω2 = Ω1 ++ [p]) ?_ ?_
      rotate_left
      · walk_at "hl"
        cases b with
        | true =>
          refine ⟨fun h => (by cases h), fun _ => ?_⟩
          refine ⟨fun h => (by cases h), fun _ => ?_⟩
          walk_at "hl"
          exact ⟨rfl, rfl⟩
        | false =>
          refine ⟨fun _ => ?_, fun h => (by cases h)⟩
          walk_at "hl"
          refine ⟨fun h => (by cases h), fun _ => ?_⟩
          walk_at "hl"
          exact ⟨rfl, rfl⟩
      rintro Γ Ω2 ⟨rfl, rfl⟩
      walk_at "hl"
      refine wr_eqL dR eqvI_dR (fun a => shp_dR (n := 62) a) ?_
      walk_at "hl"
      refine ⟨fun h => ?_, fun h => ?_⟩
      · rw [h, Bool.and_true] at hb
        walk_at "hl"
        have : l = numsL (fac w) := of_decide_eq_true h
        have hb2 : b = decide (m = ((numsL (fac w)).length : Int)) := by rw [← hb, this]
        rw [List.length_map, List.length_map, ← hb2, decide_eq_true rfl]
        refine ⟨fun h => (by cases h), fun _ => ?_⟩
        walk_at "hl"
        exact ⟨p, _, _, _, _, _, rfl, rfl, ip⟩
      · rw [h, Bool.and_false] at hb
        subst hb
        refine wr_neB ?_
        refine ⟨_, rfl, fun h => (by cases h), fun _ => ?_⟩
        walk_at "hl"
        exact ⟨p, _, _, _, _, _, rfl, rfl, ip⟩
    · rintro Γ Ω2 ⟨p, c5, c6, c7, c8, c9, rfl, rfl, ip⟩
      walk_at "hl"
      rw [List.length_map, List.length_map]
      refine ⟨w, _, numsL (fac w), _, rfl, ok, .inl rfl, by omega, ?_⟩
      rw [decide_eq_true rfl, decide_eq_true rfl]
      walk_at "hl"
      refine ⟨fun h => (by cases h), fun _ => ?_⟩
      walk_at "hl"
      refine ⟨w, 0, [], _, rfl, ok, .inl rfl, by simp, ?_⟩
      rw [show decide ([] = numsL (fac w)) = false from decide_eq_false (fun h => by rw [← h] at hn; simp at hn), Bool.and_false]
      walk_at "hl"
      refine ⟨fun h => (by cases h), fun _ => ?_⟩
      walk_at "hl"
      exact ⟨_, _, _, _, _, _, _, _, _, rfl, by simp; omega⟩
  · rintro Γ Ω1 ⟨c1, c2, c3, c4, c5, c6, c7, c8, c9, rfl, hz⟩
    walk_at "hl"
    exact dr_same (q _)
theorem sp_len_law {K : KF} (ds : List DV) (Ω : Om) (R : DV → Om → Prop) (X : Exc → Om → Prop) (h : sp_law K ds Ω R X) : ds.length = 1 := by
  unfold sp_law at h
  first
    | (obtain ⟨rfl, _⟩ := h; rfl)
    | (obtain ⟨_, rfl, _⟩ := h; rfl)
    | (obtain ⟨_, _, rfl, _⟩ := h; rfl)
    | (obtain ⟨_, _, _, rfl, _⟩ := h; rfl)
    | (obtain ⟨_, _, _, _, rfl, _⟩ := h; rfl)
    | (obtain ⟨_, _, _, _, _, rfl, _⟩ := h; rfl)
    | (obtain ⟨_, _, _, _, _, _, rfl, _⟩ := h; rfl)
    | (obtain ⟨_, _, _, _, _, _, _, rfl, _⟩ := h; rfl)
    | (obtain ⟨_, _, _, _, _, _, _, _, rfl, _⟩ := h; rfl)
end HL
namespace LK
open PySem PySem.Spec PyProof.Rows L2 Evl RZ HL
abbrev N_law_next : List Str := ["pool", "base", "digit", "mixed", "stir"]
abbrev P_law_next : List Str := ["pool", "base"]
theorem sc_law_next : FnScope N_law_next P_law_next (defScope s_law_next) := ⟨rfl, rfl, rfl, by decide +kernel, rfl, by decide +kernel, by decide +kernel⟩
abbrev N_law_common : List Str := ["one", "other"]
abbrev P_law_common : List Str := ["one", "other"]
theorem sc_law_common : FnScope N_law_common P_law_common (defScope s_law_common) := ⟨rfl, rfl, rfl, by decide +kernel, rfl, by decide +kernel, by decide +kernel⟩
abbrev N_law_low : List Str := ["top", "bottom", "shared"]
abbrev P_law_low : List Str := ["top", "bottom"]
theorem sc_law_low : FnScope N_law_low P_law_low (defScope s_law_low) := ⟨rfl, rfl, rfl, by decide +kernel, rfl, by decide +kernel, by decide +kernel⟩
abbrev N_law_by : List Str := ["one", "other"]
abbrev P_law_by : List Str := ["one", "other"]
theorem sc_law_by : FnScope N_law_by P_law_by (defScope s_law_by) := ⟨rfl, rfl, rfl, by decide +kernel, rfl, by decide +kernel, by decide +kernel⟩
abbrev N_law_gap : List Str := ["one", "other"]
abbrev P_law_gap : List Str := ["one", "other"]
theorem sc_law_gap : FnScope N_law_gap P_law_gap (defScope s_law_gap) := ⟨rfl, rfl, rfl, by decide +kernel, rfl, by decide +kernel, by decide +kernel⟩
abbrev N_law_numbers : List Str := ["weights", "first", "middle", "last", "factor", "numbers", "step"]
abbrev P_law_numbers : List Str := ["weights"]
theorem sc_law_numbers : FnScope N_law_numbers P_law_numbers (defScope s_law_numbers) := ⟨rfl, rfl, rfl, by decide +kernel, rfl, by decide +kernel, by decide +kernel⟩
abbrev N_law_small : List Str := ["pool"]
abbrev P_law_small : List Str := ["pool"]
theorem sc_law_small : FnScope N_law_small P_law_small (defScope s_law_small) := ⟨rfl, rfl, rfl, by decide +kernel, rfl, by decide +kernel, by decide +kernel⟩
abbrev N_law_three : List Str := ["pool", "most", "some", "way", "k"]
abbrev P_law_three : List Str := ["pool"]
theorem sc_law_three : FnScope N_law_three P_law_three (defScope s_law_three) := ⟨rfl, rfl, rfl, by decide +kernel, rfl, by decide +kernel, by decide +kernel⟩
abbrev N_law_other : List Str := ["numbers", "pool", "way", "at", "found", "scaled", "number"]
abbrev P_law_other : List Str := ["numbers", "pool"]
theorem sc_law_other : FnScope N_law_other P_law_other (defScope s_law_other) := ⟨rfl, rfl, rfl, by decide +kernel, rfl, by decide +kernel, by decide +kernel⟩
abbrev N_law_pool : List Str := ["cell"]
abbrev P_law_pool : List Str := ["cell"]
theorem sc_law_pool : FnScope N_law_pool P_law_pool (defScope s_law_pool) := ⟨rfl, rfl, rfl, by decide +kernel, rfl, by decide +kernel, by decide +kernel⟩
abbrev N_is_whole : List Str := ["thing"]
abbrev P_is_whole : List Str := ["thing"]
theorem sc_is_whole : FnScope N_is_whole P_is_whole (defScope s_is_whole) := ⟨rfl, rfl, rfl, by decide +kernel, rfl, by decide +kernel, by decide +kernel⟩
abbrev N_is_weight : List Str := ["thing"]
abbrev P_is_weight : List Str := ["thing"]
theorem sc_is_weight : FnScope N_is_weight P_is_weight (defScope s_is_weight) := ⟨rfl, rfl, rfl, by decide +kernel, rfl, by decide +kernel, by decide +kernel⟩
abbrev N_look_at_weights : List Str := ["weights", "weight"]
abbrev P_look_at_weights : List Str := ["weights"]
theorem sc_look_at_weights : FnScope N_look_at_weights P_look_at_weights (defScope s_look_at_weights) := ⟨rfl, rfl, rfl, by decide +kernel, rfl, by decide +kernel, by decide +kernel⟩
abbrev N_divisor_of : List Str := ["one", "other"]
abbrev P_divisor_of : List Str := ["one", "other"]
theorem sc_divisor_of : FnScope N_divisor_of P_divisor_of (defScope s_divisor_of) := ⟨rfl, rfl, rfl, by decide +kernel, rfl, by decide +kernel, by decide +kernel⟩
abbrev N_ratio : List Str := ["top", "bottom", "by"]
abbrev P_ratio : List Str := ["top", "bottom"]
theorem sc_ratio : FnScope N_ratio P_ratio (defScope s_ratio) := ⟨rfl, rfl, rfl, by decide +kernel, rfl, by decide +kernel, by decide +kernel⟩
abbrev N_factor_of : List Str := ["weights", "first", "middle", "last"]
abbrev P_factor_of : List Str := ["weights"]
theorem sc_factor_of : FnScope N_factor_of P_factor_of (defScope s_factor_of) := ⟨rfl, rfl, rfl, by decide +kernel, rfl, by decide +kernel, by decide +kernel⟩
abbrev N_minus : List Str := ["one", "other"]
abbrev P_minus : List Str := ["one", "other"]
theorem sc_minus : FnScope N_minus P_minus (defScope s_minus) := ⟨rfl, rfl, rfl, by decide +kernel, rfl, by decide +kernel, by decide +kernel⟩
abbrev N_times : List Str := ["one", "other"]
abbrev P_times : List Str := ["one", "other"]
theorem sc_times : FnScope N_times P_times (defScope s_times) := ⟨rfl, rfl, rfl, by decide +kernel, rfl, by decide +kernel, by decide +kernel⟩
abbrev N_numbers_of : List Str := ["weights", "factor", "numbers", "step"]
abbrev P_numbers_of : List Str := ["weights"]
theorem sc_numbers_of : FnScope N_numbers_of P_numbers_of (defScope s_numbers_of) := ⟨rfl, rfl, rfl, by decide +kernel, rfl, by decide +kernel, by decide +kernel⟩
abbrev N_lets_most : List Str := ["weights", "most", "numbers"]
abbrev P_lets_most : List Str := ["weights", "most", "numbers"]
theorem sc_lets_most : FnScope N_lets_most P_lets_most (defScope s_lets_most) := ⟨rfl, rfl, rfl, by decide +kernel, rfl, by decide +kernel, by decide +kernel⟩
abbrev N_law : List Str := ["script", "cell", "pool", "weights", "numbers", "turn", "some", "most", "kept", "truth"]
abbrev P_law : List Str := ["script"]
theorem sc_law : FnScope N_law P_law (defScope s_law) := ⟨rfl, rfl, rfl, by decide +kernel, rfl, by decide +kernel, by decide +kernel⟩
structure Txt (K : KF) (mg : Str → Option Value) : Prop where
  F_law_next : FD K "_law_next" s_law_next []
  m_law_next : mg "_law_next" = some (.ref (fA K "_law_next"))
  F_law_common : FD K "_law_common" s_law_common []
  m_law_common : mg "_law_common" = some (.ref (fA K "_law_common"))
  F_law_low : FD K "_law_low" s_law_low []
  m_law_low : mg "_law_low" = some (.ref (fA K "_law_low"))
  F_law_by : FD K "_law_by" s_law_by []
  m_law_by : mg "_law_by" = some (.ref (fA K "_law_by"))
  F_law_gap : FD K "_law_gap" s_law_gap []
  m_law_gap : mg "_law_gap" = some (.ref (fA K "_law_gap"))
  F_law_numbers : FD K "_law_numbers" s_law_numbers []
  m_law_numbers : mg "_law_numbers" = some (.ref (fA K "_law_numbers"))
  F_law_small : FD K "_law_small" s_law_small []
  m_law_small : mg "_law_small" = some (.ref (fA K "_law_small"))
  F_law_three : FD K "_law_three" s_law_three []
  m_law_three : mg "_law_three" = some (.ref (fA K "_law_three"))
  F_law_other : FD K "_law_other" s_law_other []
  m_law_other : mg "_law_other" = some (.ref (fA K "_law_other"))
  F_law_pool : FD K "_law_pool" s_law_pool []
  m_law_pool : mg "_law_pool" = some (.ref (fA K "_law_pool"))
  F_is_whole : FD K "is_whole" s_is_whole []
  m_is_whole : mg "is_whole" = some (.ref (fA K "is_whole"))
  F_is_weight : FD K "is_weight" s_is_weight []
  m_is_weight : mg "is_weight" = some (.ref (fA K "is_weight"))
  F_look_at_weights : FD K "look_at_weights" s_look_at_weights []
  m_look_at_weights : mg "look_at_weights" = some (.ref (fA K "look_at_weights"))
  F_divisor_of : FD K "divisor_of" s_divisor_of []
  m_divisor_of : mg "divisor_of" = some (.ref (fA K "divisor_of"))
  F_ratio : FD K "ratio" s_ratio [.int 1]
  m_ratio : mg "ratio" = some (.ref (fA K "ratio"))
  F_factor_of : FD K "factor_of" s_factor_of []
  m_factor_of : mg "factor_of" = some (.ref (fA K "factor_of"))
  F_minus : FD K "minus" s_minus []
  m_minus : mg "minus" = some (.ref (fA K "minus"))
  F_times : FD K "times" s_times []
  m_times : mg "times" = some (.ref (fA K "times"))
  F_numbers_of : FD K "numbers_of" s_numbers_of []
  m_numbers_of : mg "numbers_of" = some (.ref (fA K "numbers_of"))
  F_lets_most : FD K "lets_most" s_lets_most []
  m_lets_most : mg "lets_most" = some (.ref (fA K "lets_most"))
  F_law : FD K "law" s_law []
  m_law : mg "law" = some (.ref (fA K "law"))
  z_abs : mg "abs" = none
  z_all : mg "all" = none
  z_bool : mg "bool" = none
  z_int : mg "int" = none
  z_isinstance : mg "isinstance" = none
  z_len : mg "len" = none
  z_list : mg "list" = none
  z_max : mg "max" = none
  z_range : mg "range" = none
  z_tuple : mg "tuple" = none
  g_GREATEST : ∃ t, mg "GREATEST" = some (.int (1000) t)
  g_ONE : mg "ONE" = some (.ref (He.ga K "ONE"))
  q_ONE : He.tupB K "ONE" [.int (1), .int (1)] = true
  xc_NoRatio : XC K mg "NoRatio"
  xc_NoRow : XC K mg "NoRow"
section
variable {P : Program} {w : World} {K : KF} {mg : Str → Option Value} {base : Heap}
theorem bd_law_next (T : Txt K mg) : Binds K (fdK K ("_law_next", none)) P_law_next [] := T.F_law_next.bindsN fun _ _ _ _ _ _ us hl => match us, hl with | [_, _], _ => rfl
set_option maxHeartbeats 4000000 in
theorem ok_law_next (T : Txt K mg) : FnOk P w K mg base (L2.CX P w) 1 (fA K "_law_next") (fdK K ("_law_next", none)) P_law_next (FS K (sp_law_next K)) := by
  refine T.F_law_next.ok sc_law_next (fun vs H Q E h => fs_len h sp_len_law_next) (fun cdv A outer s H vs Q E hr h => ⟨t_law_next K (fun c d _ H' => E c d H'), ?_, fs_run h (w_law_next  _)⟩)
  exact (pss_cons (ps_if (pt_cmpR op_gt' (pe_ix ix_seq (pv 0) pe_int (fun _ _ => rfl)) pe_int (nomark _)) (pss_cons (ps_set (i := 2) sc_law_next.nd rfl (Or.inl rfl) (pe_op op_mod' (pe_ix ix_seq (pv 0) pe_int (fun _ _ => rfl)) (pv 1)))
      (pss_cons (ps_asg (pe_op op_fdiv' (pe_ix ix_seq (pv 0) pe_int (fun _ _ => rfl)) (pv 1)) (pg_sub (pv 0) pe_int set_list))
      (pss_one (ps_ret (pv 2))))) pss_nil)
      (pss_cons (ps_asg (pe_op op_addX (pe_ix ix_seq (pv 0) pe_int (fun _ _ => rfl)) pe_int) (pg_sub (pv 0) pe_int set_list))
      (pss_cons (ps_set (i := 3) sc_law_next.nd rfl (Or.inl rfl) (pe_op op_mod' (pe_op op_addX (pe_ix ix_seq (pv 0) pe_int (fun _ _ => rfl)) (pe_op op_mul' pe_int (pe_ix ix_seq (pv 0) pe_int (fun _ _ => rfl)))) pe_int))
      (pss_cons (ps_set (i := 4) sc_law_next.nd rfl (Or.inl rfl) (pe_op op_mod' (pe_op op_mul' (pe_op op_addX (pv 3) pe_int) (pe_op op_addX (pv 3) pe_int)) pe_int))
      (pss_one (ps_ret (pe_op op_mod' (pe_op op_fdiv' (pe_op op_mod' (pe_op op_mul' (pv 4) (pv 4)) pe_int) pe_int) (pv 1))))))))
theorem bd_law_common (T : Txt K mg) : Binds K (fdK K ("_law_common", none)) P_law_common [] := T.F_law_common.bindsN fun _ _ _ _ _ _ us hl => match us, hl with | [_, _], _ => rfl
set_option maxHeartbeats 4000000 in
theorem ok_law_common (T : Txt K mg) : FnOk P w K mg base (L2.CX P w) 1 (fA K "_law_common") (fdK K ("_law_common", none)) P_law_common (FS K (sp_law_common K)) := by
  refine T.F_law_common.ok sc_law_common (fun vs H Q E h => fs_len h sp_len_law_common) (fun cdv A outer s H vs Q E hr h => ⟨t_law_common K (fun c d _ H' => E c d H'), ?_, fs_run h (w_law_common  _)⟩)
  exact (pss_cons (ps_while (passes_of rfl) (pt_cmpR (op_neD hr.units) (pv 1) pe_int (nomark _)) (pss_one (ps_par rfl sc_law_common.nd (i := 0) (j := 1) rfl rfl (by decide) rfl rfl (pa_cons (pv 1) (pa_cons (pe_op op_mod' (pv 0) (pv 1)) pa_nil)) (by rfl))))
      (pss_one (ps_ret (pv 0))))
theorem bd_law_low (T : Txt K mg) : Binds K (fdK K ("_law_low", none)) P_law_low [] := T.F_law_low.bindsN fun _ _ _ _ _ _ us hl => match us, hl with | [_, _], _ => rfl
set_option maxHeartbeats 4000000 in
theorem ok_law_low (T : Txt K mg) : FnOk P w K mg base (L2.CX P w) 2 (fA K "_law_low") (fdK K ("_law_low", none)) P_law_low (FS K (sp_law_low K)) := by
  refine T.F_law_low.ok sc_law_low (fun vs H Q E h => fs_len h sp_len_law_low) (fun cdv A outer s H vs Q E hr h => ⟨t_law_low K (fun c d _ H' => E c d H'), ?_, fs_run h (w_law_low  _)⟩)
  exact (pss_cons (ps_if (pt_cmpR op_lt' (pv 1) pe_int (nomark _)) (pss_cons (ps_set (i := 0) sc_law_low.nd rfl (Or.inl rfl) (pe_op op_sub' pe_int (pv 0)))
      (pss_one (ps_set (i := 1) sc_law_low.nd rfl (Or.inl rfl) (pe_op op_sub' pe_int (pv 1))))) pss_nil)
      (pss_cons (ps_set (i := 2) sc_law_low.nd rfl (Or.inl rfl) (pe_call (ok_law_common T) (hr.mono (by decide)) rfl T.m_law_common T.F_law_common.kp (bd_law_common T) .nil passL (pa_cons (pe_callB call_abs' rfl T.z_abs (by decide +kernel) (pa_cons (pv 0) pa_nil)) (pa_cons (pv 1) pa_nil))))
      (pss_one (ps_ret (pe_tup (pa_cons (pe_op op_fdiv' (pv 0) (pv 2)) (pa_cons (pe_op op_fdiv' (pv 1) (pv 2)) pa_nil)))))))
theorem bd_law_by (T : Txt K mg) : Binds K (fdK K ("_law_by", none)) P_law_by [] := T.F_law_by.bindsN fun _ _ _ _ _ _ us hl => match us, hl with | [_, _], _ => rfl
set_option maxHeartbeats 4000000 in
theorem ok_law_by (T : Txt K mg) : FnOk P w K mg base (L2.CX P w) 3 (fA K "_law_by") (fdK K ("_law_by", none)) P_law_by (FS K (sp_law_by K)) := by
  refine T.F_law_by.ok sc_law_by (fun vs H Q E h => fs_len h sp_len_law_by) (fun cdv A outer s H vs Q E hr h => ⟨t_law_by K (fun c d _ H' => E c d H'), ?_, fs_run h (w_law_by  _)⟩)
  exact (pss_one (ps_ret (pe_call (ok_law_low T) (hr.mono (by decide)) rfl T.m_law_low T.F_law_low.kp (bd_law_low T) .nil passL (pa_cons (pe_op op_mul' (pe_ix ix_seq (pv 0) pe_int (fun _ _ => rfl)) (pe_ix ix_seq (pv 1) pe_int (fun _ _ => rfl))) (pa_cons (pe_op op_mul' (pe_ix ix_seq (pv 0) pe_int (fun _ _ => rfl)) (pe_ix ix_seq (pv 1) pe_int (fun _ _ => rfl))) pa_nil)))))
theorem bd_law_gap (T : Txt K mg) : Binds K (fdK K ("_law_gap", none)) P_law_gap [] := T.F_law_gap.bindsN fun _ _ _ _ _ _ us hl => match us, hl with | [_, _], _ => rfl
set_option maxHeartbeats 4000000 in
theorem ok_law_gap (T : Txt K mg) : FnOk P w K mg base (L2.CX P w) 3 (fA K "_law_gap") (fdK K ("_law_gap", none)) P_law_gap (FS K (sp_law_gap K)) := by
  refine T.F_law_gap.ok sc_law_gap (fun vs H Q E h => fs_len h sp_len_law_gap) (fun cdv A outer s H vs Q E hr h => ⟨t_law_gap K (fun c d _ H' => E c d H'), ?_, fs_run h (w_law_gap  _)⟩)
  exact (pss_one (ps_ret (pe_call (ok_law_low T) (hr.mono (by decide)) rfl T.m_law_low T.F_law_low.kp (bd_law_low T) .nil passL (pa_cons (pe_op op_sub' (pe_op op_mul' (pe_ix ix_seq (pv 0) pe_int (fun _ _ => rfl)) (pe_ix ix_seq (pv 1) pe_int (fun _ _ => rfl))) (pe_op op_mul' (pe_ix ix_seq (pv 1) pe_int (fun _ _ => rfl)) (pe_ix ix_seq (pv 0) pe_int (fun _ _ => rfl)))) (pa_cons (pe_op op_mul' (pe_ix ix_seq (pv 0) pe_int (fun _ _ => rfl)) (pe_ix ix_seq (pv 1) pe_int (fun _ _ => rfl))) pa_nil)))))
theorem bd_law_numbers (T : Txt K mg) : Binds K (fdK K ("_law_numbers", none)) P_law_numbers [] := T.F_law_numbers.bindsN fun _ _ _ _ _ _ us hl => match us, hl with | [_], _ => rfl
set_option maxHeartbeats 4000000 in
theorem ok_law_numbers (T : Txt K mg) : FnOk P w K mg base (L2.CX P w) 4 (fA K "_law_numbers") (fdK K ("_law_numbers", none)) P_law_numbers (FS K (sp_law_numbers K)) := by
  refine T.F_law_numbers.ok sc_law_numbers (fun vs H Q E h => fs_len h sp_len_law_numbers) (fun cdv A outer s H vs Q E hr h => ⟨t_law_numbers K (fun c d _ H' => E c d H'), ?_, fs_run h (w_law_numbers  _)⟩)
  exact (pss_cons (ps_asg (pv 0) (pg_tup rfl (pgs_cons (pg_name (i := 1) sc_law_numbers.nd rfl (Or.inl rfl)) (pgs_cons (pg_name (i := 2) sc_law_numbers.nd rfl (Or.inl rfl)) (pgs_cons (pg_name (i := 3) sc_law_numbers.nd rfl (Or.inl rfl)) pgs_nil)))))
      (pss_cons (ps_if (pt_cmpR op_isN' (pv 1) pe_non (nomark _)) (pss_one (ps_set (i := 4) sc_law_numbers.nd rfl (Or.inl rfl) (pe_call (ok_law_low T) (hr.mono (by decide)) rfl T.m_law_low T.F_law_low.kp (bd_law_low T) .nil passL (pa_cons (pe_op op_mul' pe_int (pv 3)) (pa_cons (pe_op op_addX (pv 2) (pv 3)) pa_nil))))) (pss_one (ps_if (pt_cmpR op_isN' (pv 3) pe_non (nomark _)) (pss_one (ps_set (i := 4) sc_law_numbers.nd rfl (Or.inl rfl) (pe_call (ok_law_low T) (hr.mono (by decide)) rfl T.m_law_low T.F_law_low.kp (bd_law_low T) .nil passL (pa_cons (pe_op op_mul' pe_int (pv 1)) (pa_cons (pe_op op_addX (pv 1) (pv 2)) pa_nil))))) (pss_one (ps_set (i := 4) sc_law_numbers.nd rfl (Or.inl rfl) (pe_call (ok_law_low T) (hr.mono (by decide)) rfl T.m_law_low T.F_law_low.kp (bd_law_low T) .nil passL (pa_cons (pe_op op_mul' (pe_op op_mul' pe_int (pv 1)) (pv 3)) (pa_cons (pe_op op_mul' (pe_op op_addX (pv 1) (pv 2)) (pe_op op_addX (pv 2) (pv 3))) pa_nil))))))))
      (pss_cons (ps_set (i := 5) sc_law_numbers.nd rfl (Or.inl rfl) (pe_lst (pa_cons (pe_tup (pa_cons pe_int (pa_cons pe_int pa_nil))) (pa_cons (pe_tup (pa_cons pe_int (pa_cons pe_int pa_nil))) pa_nil))))
      (pss_cons (ps_while (passes_of rfl) (PW.pt (pw_and (pt_cmpR op_gt' (pe_ix ix_seq (pe_ix ix_seq (pv 5) (pe_un un_neg' pe_int) (fun _ _ => rfl)) pe_int (fun _ _ => rfl)) pe_int (nomark _)) (pw_and1 (pt_cmpR op_lt' (pe_callB call_len' rfl T.z_len (by decide +kernel) (pa_cons (pv 5) pa_nil)) pe_int (nomark _))))) (pss_cons (ps_set (i := 6) sc_law_numbers.nd rfl (Or.inl rfl) (pe_ix ix_seq (pe_lst (pa_cons (pe_tup (pa_cons pe_int (pa_cons pe_int pa_nil))) (pa_cons (pv 4) pa_nil))) (pe_op op_mod' (pe_op op_sub' (pe_callB call_len' rfl T.z_len (by decide +kernel) (pa_cons (pv 5) pa_nil)) pe_int) pe_int) (fun _ _ => rfl)))
      (pss_one (ps_expr (pe_bm PySem.F.plainAttrs_list PySem.F.slot_list_append PySem.F.type_list_append mt_append (pv 5) (pa_cons (pe_call (ok_law_gap T) (hr.mono (by decide)) rfl T.m_law_gap T.F_law_gap.kp (bd_law_gap T) .nil passL (pa_cons (pe_call (ok_law_by T) (hr.mono (by decide)) rfl T.m_law_by T.F_law_by.kp (bd_law_by T) .nil passL (pa_cons (pe_ix ix_seq (pv 5) (pe_un un_neg' pe_int) (fun _ _ => rfl)) (pa_cons (pv 6) pa_nil))) (pa_cons (pe_ix ix_seq (pv 5) (pe_un un_neg' pe_int) (fun _ _ => rfl)) pa_nil))) pa_nil))))))
      (pss_one (ps_ret (pv 5)))))))
theorem bd_law_small (T : Txt K mg) : Binds K (fdK K ("_law_small", none)) P_law_small [] := T.F_law_small.bindsN fun _ _ _ _ _ _ us hl => match us, hl with | [_], _ => rfl
set_option maxHeartbeats 4000000 in
theorem ok_law_small (T : Txt K mg) : FnOk P w K mg base (L2.CX P w) 3 (fA K "_law_small") (fdK K ("_law_small", none)) P_law_small (FS K (sp_law_small K)) := by
  refine T.F_law_small.ok sc_law_small (fun vs H Q E h => fs_len h sp_len_law_small) (fun cdv A outer s H vs Q E hr h => ⟨t_law_small K (fun c d _ H' => E c d H'), ?_, fs_run h (w_law_small  _)⟩)
  exact (pss_one (ps_ret (pe_call (ok_law_low T) (hr.mono (by decide)) rfl T.m_law_low T.F_law_low.kp (bd_law_low T) .nil passL (pa_cons (pe_op op_sub' (pe_call (ok_law_next T) (hr.mono (by decide)) rfl T.m_law_next T.F_law_next.kp (bd_law_next T) .nil passL (pa_cons (pv 0) (pa_cons pe_int pa_nil))) pe_int) (pa_cons (pe_ix ix_seq (pe_lst (pa_cons pe_int (pa_cons pe_int (pa_cons pe_int (pa_cons pe_int (pa_cons pe_int (pa_cons pe_int (pa_cons pe_int (pa_cons pe_int pa_nil))))))))) (pe_call (ok_law_next T) (hr.mono (by decide)) rfl T.m_law_next T.F_law_next.kp (bd_law_next T) .nil passL (pa_cons (pv 0) (pa_cons pe_int pa_nil))) (fun _ _ => rfl)) pa_nil)))))
theorem bd_law_three (T : Txt K mg) : Binds K (fdK K ("_law_three", none)) P_law_three [] := T.F_law_three.bindsN fun _ _ _ _ _ _ us hl => match us, hl with | [_], _ => rfl
set_option maxHeartbeats 4000000 in
theorem ok_law_three (T : Txt K mg) : FnOk P w K mg base (L2.CX P w) 2 (fA K "_law_three") (fdK K ("_law_three", none)) P_law_three (FS K (sp_law_three K)) := by
  refine T.F_law_three.ok sc_law_three (fun vs H Q E h => fs_len h sp_len_law_three) (fun cdv A outer s H vs Q E hr h => ⟨t_law_three K (fun c d _ H' => E c d H'), ?_, fs_run h (w_law_three  _)⟩)
  exact (pss_cons (ps_set (i := 1) sc_law_three.nd rfl (Or.inr rfl) (pe_ix ix_seq (pe_lst (pa_cons pe_int (pa_cons pe_int (pa_cons pe_int (pa_cons pe_int (pa_cons pe_int (pa_cons pe_int pa_nil))))))) (pe_call (ok_law_next T) (hr.mono (by decide)) rfl T.m_law_next T.F_law_next.kp (bd_law_next T) .nil passL (pa_cons (pv 0) (pa_cons pe_int pa_nil))) (fun _ _ => rfl)))
      (pss_cons (ps_setLc (i := 2) (own := [("k", 4)]) (g := (gName 4)) (tt := tYes) rfl sc_law_three.nd rfl rfl (sw_true rfl rfl rfl rfl) (pi_range1 rfl T.z_range (pa_cons pe_int pa_nil)) (blkOk_by (N := N_law_three) (sc := defScope s_law_three) (by decide +kernel)) (fun _ _ _ _ _ => (pg_name (i := 4) sc_law_three.nd rfl (Or.inl rfl))) (fun _ _ _ _ _ => pts_nil) (fun _ _ _ _ _ => (pe_op op_addX pe_int (pe_call (ok_law_next T) (hr.mono (by decide)) rfl T.m_law_next T.F_law_next.kp (bd_law_next T) .nil passL (pa_cons (pv 0) (pa_cons (pv 1) pa_nil))))))
      (pss_cons (ps_if (pt_cmpR (op_eqD hr.units) (pv 1) pe_int (nomark _)) (pss_one (ps_asg (pe_op op_addX pe_int (pe_op op_mod' (pe_ix ix_seq (pv 2) pe_int (fun _ _ => rfl)) pe_int)) (pg_sub (pv 2) pe_int set_list))) pss_nil)
      (pss_cons (ps_set (i := 3) sc_law_three.nd rfl (Or.inl rfl) (pe_call (ok_law_next T) (hr.mono (by decide)) rfl T.m_law_next T.F_law_next.kp (bd_law_next T) .nil passL (pa_cons (pv 0) (pa_cons pe_int pa_nil))))
      (pss_cons (ps_if (pt_cmpR op_lt' (pv 3) pe_int (nomark _)) (pss_one (ps_asg pe_non (pg_sub (pv 2) (pe_op op_mul' pe_int (pv 3)) set_list))) pss_nil)
      (pss_one (ps_ret (pe_callTy call_tup' rfl T.z_tuple (by decide +kernel) (pa_cons (pv 2) pa_nil)))))))))
theorem bd_law_other (T : Txt K mg) : Binds K (fdK K ("_law_other", none)) P_law_other [] := T.F_law_other.bindsN fun _ _ _ _ _ _ us hl => match us, hl with | [_, _], _ => rfl
set_option maxHeartbeats 4000000 in
theorem ok_law_other (T : Txt K mg) : FnOk P w K mg base (L2.CX P w) 5 (fA K "_law_other") (fdK K ("_law_other", none)) P_law_other (FS K (sp_law_other K)) := by
  refine T.F_law_other.ok sc_law_other (fun vs H Q E h => fs_len h sp_len_law_other) (fun cdv A outer s H vs Q E hr h => ⟨t_law_other K (fun c d _ H' => E c d H'), ?_, fs_run h (w_law_other  _)⟩)
  exact (pss_cons (ps_set (i := 2) sc_law_other.nd rfl (Or.inl rfl) (pe_call (ok_law_next T) (hr.mono (by decide)) rfl T.m_law_next T.F_law_next.kp (bd_law_next T) .nil passL (pa_cons (pv 1) (pa_cons pe_int pa_nil))))
      (pss_cons (ps_set (i := 3) sc_law_other.nd rfl (Or.inl rfl) (pe_call (ok_law_next T) (hr.mono (by decide)) rfl T.m_law_next T.F_law_next.kp (bd_law_next T) .nil passL (pa_cons (pv 1) (pa_cons (pe_callB call_len' rfl T.z_len (by decide +kernel) (pa_cons (pv 0) pa_nil)) pa_nil))))
      (pss_cons (ps_set (i := 4) sc_law_other.nd rfl (Or.inl rfl) (pe_callTy call_list' rfl T.z_list (by decide +kernel) (pa_cons (pv 0) pa_nil)))
      (pss_cons (ps_if (pt_cmpR op_gt' (pv 2) pe_int (nomark _)) (pss_cons (ps_setLc (i := 5) (own := [("number", 6)]) (g := (gName 6)) (tt := tYes) rfl sc_law_other.nd rfl rfl (sw_true rfl rfl rfl rfl) (pi_seq (pv 0)) (blkOk_by (N := N_law_other) (sc := defScope s_law_other) (by decide +kernel)) (fun _ _ _ _ _ => (pg_name (i := 6) sc_law_other.nd rfl (Or.inl rfl))) (fun _ _ _ _ _ => pts_nil) (fun _ _ _ _ _ => (pe_call (ok_law_by T) (hr.mono (by decide)) rfl T.m_law_by T.F_law_by.kp (bd_law_by T) .nil passL (pa_cons (pv 6) (pa_cons (pe_ix ix_seq (pe_lst (pa_cons (pe_tup (pa_cons pe_int (pa_cons pe_int pa_nil))) (pa_cons (pe_tup (pa_cons pe_int (pa_cons pe_int pa_nil))) pa_nil))) (pe_call (ok_law_next T) (hr.mono (by decide)) rfl T.m_law_next T.F_law_next.kp (bd_law_next T) .nil passL (pa_cons (pv 1) (pa_cons pe_int pa_nil))) (fun _ _ => rfl)) pa_nil)))))
      (pss_one (ps_ret (pe_ix ix_seq (pe_lst (pa_cons (pv 5) (pa_cons (pe_call (ok_law_numbers T) (hr.mono (by decide)) rfl T.m_law_numbers T.F_law_numbers.kp (bd_law_numbers T) .nil passL (pa_cons (pe_call (ok_law_three T) (hr.mono (by decide)) rfl T.m_law_three T.F_law_three.kp (bd_law_three T) .nil passL (pa_cons (pv 1) pa_nil)) pa_nil)) (pa_cons (pe_lst (pa_cons (pe_tup (pa_cons pe_int (pa_cons pe_int pa_nil))) (pa_cons (pe_tup (pa_cons pe_int (pa_cons pe_int pa_nil))) (pa_cons (pe_tup (pa_cons pe_int (pa_cons pe_int pa_nil))) pa_nil)))) pa_nil)))) (pe_op op_sub' (pv 2) pe_int) (fun _ _ => rfl))))) pss_nil)
      (pss_cons (ps_if (pt_cmpR (op_eqD hr.units) (pv 2) pe_int (nomark _)) (pss_one (ps_asg (pe_call (ok_law_small T) (hr.mono (by decide)) rfl T.m_law_small T.F_law_small.kp (bd_law_small T) .nil passL (pa_cons (pv 1) pa_nil)) (pg_sub (pv 4) (pv 3) set_list))) (pss_one (ps_if (pt_cmpR (op_eqD hr.units) (pv 2) pe_int (nomark _)) (pss_one (ps_expr (pe_bm PySem.F.plainAttrs_list PySem.F.slot_list_pop PySem.F.type_list_pop mt_popAt (pv 4) (pa_cons (pv 3) pa_nil)))) (pss_one (ps_if (pt_cmpR (op_eqD hr.units) (pv 2) pe_int (nomark _)) (pss_one (ps_expr (pe_bm PySem.F.plainAttrs_list PySem.F.slot_list_insert PySem.F.type_list_insert mt_insertS (pv 4) (pa_cons (pv 3) (pa_cons (pe_call (ok_law_small T) (hr.mono (by decide)) rfl T.m_law_small T.F_law_small.kp (bd_law_small T) .nil passL (pa_cons (pv 1) pa_nil)) pa_nil))))) (pss_one (ps_if (pt_cmpR (op_eqD hr.units) (pv 2) pe_int (nomark _)) (pss_one (ps_expr (pe_bm PySem.F.plainAttrs_list PySem.F.slot_list_insert PySem.F.type_list_insert mt_insertS (pv 4) (pa_cons (pv 3) (pa_cons (pe_ix ix_seq (pv 4) (pv 3) (fun _ _ => rfl)) pa_nil))))) (pss_one (ps_if (pt_cmpR (op_eqD hr.units) (pv 2) pe_int (nomark _)) (pss_one (ps_set (i := 4) sc_law_other.nd rfl (Or.inl rfl) (pe_slice sl_seq (pv 4) po_none (po_some (pe_un un_neg' pe_int))))) (pss_one (ps_if (pt_cmpR (op_eqD hr.units) (pv 2) pe_int (nomark _)) (pss_one (ps_expr (pe_bm PySem.F.plainAttrs_list PySem.F.slot_list_append PySem.F.type_list_append mt_append (pv 4) (pa_cons (pe_call (ok_law_gap T) (hr.mono (by decide)) rfl T.m_law_gap T.F_law_gap.kp (bd_law_gap T) .nil passL (pa_cons (pe_ix ix_seq (pv 4) (pe_un un_neg' pe_int) (fun _ _ => rfl)) (pa_cons (pe_ix ix_seq (pv 4) (pe_un un_neg' pe_int) (fun _ _ => rfl)) pa_nil))) pa_nil)))) pss_nil)))))))))))
      (pss_one (ps_ret (pv 4))))))))
theorem bd_law_pool (T : Txt K mg) : Binds K (fdK K ("_law_pool", none)) P_law_pool [] := T.F_law_pool.bindsN fun _ _ _ _ _ _ us hl => match us, hl with | [_], _ => rfl
set_option maxHeartbeats 4000000 in
theorem ok_law_pool (T : Txt K mg) : FnOk P w K mg base (L2.CX P w) 1 (fA K "_law_pool") (fdK K ("_law_pool", none)) P_law_pool (FS K (sp_law_pool K)) := by
  refine T.F_law_pool.ok sc_law_pool (fun vs H Q E h => fs_len h sp_len_law_pool) (fun cdv A outer s H vs Q E hr h => ⟨t_law_pool K (fun c d _ H' => E c d H'), ?_, fs_run h (w_law_pool  _)⟩)
  exact (pss_one (ps_ret (pe_lst (pa_cons (pe_callB (call_max' rfl) rfl T.z_max (by decide +kernel) (pa_cons pe_int (pa_cons (pe_op op_sub' (pv 0) (pe_op op_pow' pe_int pe_int)) pa_nil))) (pa_cons (pe_op op_mod' (pv 0) (pe_op op_pow' pe_int pe_int)) (pa_cons pe_int pa_nil))))))
theorem bd_is_whole (T : Txt K mg) : Binds K (fdK K ("is_whole", none)) P_is_whole [] := T.F_is_whole.bindsN fun _ _ _ _ _ _ us hl => match us, hl with | [_], _ => rfl
set_option maxHeartbeats 4000000 in
theorem ok_is_whole (T : Txt K mg) : FnOk P w K mg base (L2.CX P w) 1 (fA K "is_whole") (fdK K ("is_whole", none)) P_is_whole (FS K (sp_is_whole K)) := by
  refine T.F_is_whole.ok sc_is_whole (fun vs H Q E h => fs_len h sp_len_is_whole) (fun cdv A outer s H vs Q E hr h => ⟨t_is_whole K (fun c d _ H' => E c d H'), ?_, fs_run h (w_is_whole  _)⟩)
  exact (pss_one (ps_ret (pe_and (pe_callB call_isi rfl T.z_isinstance (by decide +kernel) (pa_cons (pv 0) (pa_cons (pe_bltn (v := .ty "int") rfl T.z_int (by decide +kernel) rfl) pa_nil))) (pe_one (pe_not (pe_callB call_isi rfl T.z_isinstance (by decide +kernel) (pa_cons (pv 0) (pa_cons (pe_bltn (v := .ty "bool") rfl T.z_bool (by decide +kernel) rfl) pa_nil))))))))
theorem bd_is_weight (T : Txt K mg) : Binds K (fdK K ("is_weight", none)) P_is_weight [] := T.F_is_weight.bindsN fun _ _ _ _ _ _ us hl => match us, hl with | [_], _ => rfl
set_option maxHeartbeats 4000000 in
theorem ok_is_weight (T : Txt K mg) : FnOk P w K mg base (L2.CX P w) 2 (fA K "is_weight") (fdK K ("is_weight", none)) P_is_weight (FS K (sp_is_weight K)) := by
  refine T.F_is_weight.ok sc_is_weight (fun vs H Q E h => fs_len h sp_len_is_weight) (fun cdv A outer s H vs Q E hr h => ⟨t_is_weight K (fun c d _ H' => E c d H'), ?_, fs_run h (w_is_weight  _)⟩)
  exact (pss_one (ps_ret (pe_and (pe_call (ok_is_whole T) (hr.mono (by decide)) rfl T.m_is_whole T.F_is_whole.kp (bd_is_whole T) .nil passL (pa_cons (pv 0) pa_nil)) (pe_one (pe_chain op_le' op_le' pe_int (pv 0) (pe_glob rfl T.g_GREATEST.choose_spec ⟨_, rfl⟩))))))
theorem bd_look_at_weights (T : Txt K mg) : Binds K (fdK K ("look_at_weights", none)) P_look_at_weights [] := T.F_look_at_weights.bindsN fun _ _ _ _ _ _ us hl => match us, hl with | [_], _ => rfl
set_option maxHeartbeats 4000000 in
theorem ok_look_at_weights (T : Txt K mg) : FnOk P w K mg base (L2.CX P w) 3 (fA K "look_at_weights") (fdK K ("look_at_weights", none)) P_look_at_weights (FS K (sp_look_at_weights K)) := by
  refine T.F_look_at_weights.ok sc_look_at_weights (fun vs H Q E h => fs_len h sp_len_look_at_weights) (fun cdv A outer s H vs Q E hr h => ⟨t_look_at_weights K (fun c d _ H' => E c d H'), ?_, fs_run h (w_look_at_weights  _)⟩)
  exact (pss_cons (ps_if (PW.pt (pw_or (pt_not (pt_val (pe_callB call_isi rfl T.z_isinstance (by decide +kernel) (pa_cons (pv 0) (pa_cons (pe_bltn (v := .ty "tuple") rfl T.z_tuple (by decide +kernel) rfl) pa_nil))))) (pw_or (pt_cmpR (op_neD hr.units) (pe_callB call_len' rfl T.z_len (by decide +kernel) (pa_cons (pv 0) pa_nil)) pe_int (nomark _)) (pw_or1 (pt_not (pt_val (pe_call (ok_is_weight T) (hr.mono (by decide)) rfl T.m_is_weight T.F_is_weight.kp (bd_is_weight T) .nil passL (pa_cons (pe_ix ix_seq (pv 0) pe_int (fun _ _ => rfl)) pa_nil)))))))) (pss_one (ps_rs rfl (takes_of rfl rfl rfl rfl) T.xc_NoRow rfl)) pss_nil)
      (pss_cons (ps_if (pt_cmpR op_lt' (pe_callB call_len' rfl T.z_len (by decide +kernel) (pa_cons (pe_lc (own := [("weight", 1)]) (g := (gName 1)) (tt := (tB (tCall (FS K (sp_is_weight K)) [] E0 (tCons (tVar 1) tNil)))) rfl sc_look_at_weights.nd (pi_seq (pv 0)) (blkOk_by (N := N_look_at_weights) (sc := defScope s_look_at_weights) (by decide +kernel)) (fun _ _ _ _ _ => (pg_name (i := 1) sc_look_at_weights.nd rfl (Or.inl rfl))) (fun _ _ _ _ _ => (pts_one (pt_val (pe_call (ok_is_weight T) (hr.mono (by decide)) rfl T.m_is_weight T.F_is_weight.kp (bd_is_weight T) .nil passL (pa_cons (pv 1) pa_nil))))) (fun _ _ _ _ _ => (pv 1))) pa_nil)) pe_int (nomark _)) (pss_one (ps_rs rfl (takes_of rfl rfl rfl rfl) T.xc_NoRow rfl)) pss_nil)
      (pss_one (ps_if (pt_not (pt_val (pe_callB (cr_all rfl) rfl T.z_all (by decide +kernel) (pa_cons (pe_lc (own := [("weight", 1)]) (g := (gName 1)) (tt := tYes) rfl sc_look_at_weights.nd (pi_seq (pv 0)) (blkOk_by (N := N_look_at_weights) (sc := defScope s_look_at_weights) (by decide +kernel)) (fun _ _ _ _ _ => (pg_name (i := 1) sc_look_at_weights.nd rfl (Or.inl rfl))) (fun _ _ _ _ _ => pts_nil) (fun _ _ _ _ _ => (pe_or (pe_cmpR op_isN' (pv 1) pe_non (nomark _)) (pe_one (pe_call (ok_is_weight T) (hr.mono (by decide)) rfl T.m_is_weight T.F_is_weight.kp (bd_is_weight T) .nil passL (pa_cons (pv 1) pa_nil)))))) pa_nil)))) (pss_one (ps_rs rfl (takes_of rfl rfl rfl rfl) T.xc_NoRow rfl)) pss_nil))))
theorem bd_divisor_of (T : Txt K mg) : Binds K (fdK K ("divisor_of", none)) P_divisor_of [] := T.F_divisor_of.bindsN fun _ _ _ _ _ _ us hl => match us, hl with | [_, _], _ => rfl
set_option maxHeartbeats 4000000 in
theorem ok_divisor_of (T : Txt K mg) : FnOk P w K mg base (L2.CX P w) 1 (fA K "divisor_of") (fdK K ("divisor_of", none)) P_divisor_of (FS K (sp_divisor_of K)) := by
  refine T.F_divisor_of.ok sc_divisor_of (fun vs H Q E h => fs_len h sp_len_divisor_of) (fun cdv A outer s H vs Q E hr h => ⟨t_divisor_of K (fun c d _ H' => E c d H'), ?_, fs_run h (w_divisor_of  _)⟩)
  exact (pss_cons (ps_while (passes_of rfl) (pt_cmpR (op_neD hr.units) (pv 1) pe_int (nomark _)) (pss_one (ps_par rfl sc_divisor_of.nd (i := 0) (j := 1) rfl rfl (by decide) rfl rfl (pa_cons (pv 1) (pa_cons (pe_op op_mod' (pv 0) (pv 1)) pa_nil)) (by rfl))))
      (pss_one (ps_ret (pe_callB call_abs' rfl T.z_abs (by decide +kernel) (pa_cons (pv 0) pa_nil)))))
theorem bd_ratio (T : Txt K mg) : Binds K (fdK K ("ratio", none)) P_ratio [] := by
  obtain ⟨ds, v, b⟩ := T.F_ratio.binds1 (ps := P_ratio) 2 1 (by simp) rfl (fun _ _ _ _ _ _ _ us its h1 h2 => match us, its, h1, h2 with | [_, _], [_], _, _ => ⟨_, rfl, rfl⟩)
  cases v
  exact b
theorem bdD_ratio (T : Txt K mg) : ∃ ds, Vals [.int 1] ds ∧ Binds K (fdK K ("ratio", none)) P_ratio ds := T.F_ratio.binds1 1 0 (by simp) rfl (fun _ _ _ _ _ _ _ us its h1 h2 => match us, its, h1, h2 with | [_], [_], _, _ => ⟨_, rfl, rfl⟩)
set_option maxHeartbeats 4000000 in
theorem ok_ratio (T : Txt K mg) : FnOk P w K mg base (L2.CX P w) 2 (fA K "ratio") (fdK K ("ratio", none)) P_ratio (FS K (sp_ratio K)) := by
  refine T.F_ratio.ok sc_ratio (fun vs H Q E h => fs_len h sp_len_ratio) (fun cdv A outer s H vs Q E hr h => ⟨t_ratio K (fun c d _ H' => E c d H'), ?_, fs_run h (w_ratio  _)⟩)
  exact (pss_cons (ps_if (PW.pt (pw_or (pt_not (pt_val (pe_call (ok_is_whole T) (hr.mono (by decide)) rfl T.m_is_whole T.F_is_whole.kp (bd_is_whole T) .nil passL (pa_cons (pv 0) pa_nil)))) (pw_or (pt_not (pt_val (pe_call (ok_is_whole T) (hr.mono (by decide)) rfl T.m_is_whole T.F_is_whole.kp (bd_is_whole T) .nil passL (pa_cons (pv 1) pa_nil)))) (pw_or1 (pt_cmpR (op_eqD hr.units) (pv 1) pe_int (nomark _)))))) (pss_one (ps_rs rfl (takes_of rfl rfl rfl rfl) T.xc_NoRatio rfl)) pss_nil)
      (pss_cons (ps_set (i := 2) sc_ratio.nd rfl (Or.inl rfl) (pe_call (ok_divisor_of T) (hr.mono (by decide)) rfl T.m_divisor_of T.F_divisor_of.kp (bd_divisor_of T) .nil passL (pa_cons (pv 0) (pa_cons (pv 1) pa_nil))))
      (pss_cons (ps_if (pt_cmpR op_lt' (pv 1) pe_int (nomark _)) (pss_one (ps_set (i := 2) sc_ratio.nd rfl (Or.inl rfl) (pe_op op_sub' pe_int (pv 2)))) pss_nil)
      (pss_one (ps_ret (pe_tup (pa_cons (pe_op op_fdiv' (pv 0) (pv 2)) (pa_cons (pe_op op_fdiv' (pv 1) (pv 2)) pa_nil))))))))
theorem bd_factor_of (T : Txt K mg) : Binds K (fdK K ("factor_of", none)) P_factor_of [] := T.F_factor_of.bindsN fun _ _ _ _ _ _ us hl => match us, hl with | [_], _ => rfl
set_option maxHeartbeats 4000000 in
theorem ok_factor_of (T : Txt K mg) : FnOk P w K mg base (L2.CX P w) 3 (fA K "factor_of") (fdK K ("factor_of", none)) P_factor_of (FS K (sp_factor_of K)) := by
  refine T.F_factor_of.ok sc_factor_of (fun vs H Q E h => fs_len h sp_len_factor_of) (fun cdv A outer s H vs Q E hr h => ⟨t_factor_of K (fun c d _ H' => E c d H'), ?_, fs_run h (w_factor_of  _)⟩)
  exact (pss_cons (ps_asg (pv 0) (pg_tup rfl (pgs_cons (pg_name (i := 1) sc_factor_of.nd rfl (Or.inl rfl)) (pgs_cons (pg_name (i := 2) sc_factor_of.nd rfl (Or.inl rfl)) (pgs_cons (pg_name (i := 3) sc_factor_of.nd rfl (Or.inl rfl)) pgs_nil)))))
      (pss_cons (ps_if (pt_cmpR op_isN' (pv 1) pe_non (nomark _)) (pss_one (ps_ret (pe_call (ok_ratio T) (hr.mono (by decide)) rfl T.m_ratio T.F_ratio.kp (bd_ratio T) .nil passL (pa_cons (pe_op op_mul' pe_int (pv 3)) (pa_cons (pe_op op_addX (pv 2) (pv 3)) pa_nil))))) pss_nil)
      (pss_cons (ps_if (pt_cmpR op_isN' (pv 3) pe_non (nomark _)) (pss_one (ps_ret (pe_call (ok_ratio T) (hr.mono (by decide)) rfl T.m_ratio T.F_ratio.kp (bd_ratio T) .nil passL (pa_cons (pe_op op_mul' pe_int (pv 1)) (pa_cons (pe_op op_addX (pv 1) (pv 2)) pa_nil))))) pss_nil)
      (pss_one (ps_ret (pe_call (ok_ratio T) (hr.mono (by decide)) rfl T.m_ratio T.F_ratio.kp (bd_ratio T) .nil passL (pa_cons (pe_op op_mul' (pe_op op_mul' pe_int (pv 1)) (pv 3)) (pa_cons (pe_op op_mul' (pe_op op_addX (pv 1) (pv 2)) (pe_op op_addX (pv 2) (pv 3))) pa_nil))))))))
theorem bd_minus (T : Txt K mg) : Binds K (fdK K ("minus", none)) P_minus [] := T.F_minus.bindsN fun _ _ _ _ _ _ us hl => match us, hl with | [_, _], _ => rfl
set_option maxHeartbeats 4000000 in
theorem ok_minus (T : Txt K mg) : FnOk P w K mg base (L2.CX P w) 3 (fA K "minus") (fdK K ("minus", none)) P_minus (FS K (sp_minus K)) := by
  refine T.F_minus.ok sc_minus (fun vs H Q E h => fs_len h sp_len_minus) (fun cdv A outer s H vs Q E hr h => ⟨t_minus K (fun c d _ H' => E c d H'), ?_, fs_run h (w_minus  _)⟩)
  exact (pss_one (ps_ret (pe_call (ok_ratio T) (hr.mono (by decide)) rfl T.m_ratio T.F_ratio.kp (bd_ratio T) .nil passL (pa_cons (pe_op op_sub' (pe_op op_mul' (pe_ix ix_seq (pv 0) pe_int (fun _ _ => rfl)) (pe_ix ix_seq (pv 1) pe_int (fun _ _ => rfl))) (pe_op op_mul' (pe_ix ix_seq (pv 1) pe_int (fun _ _ => rfl)) (pe_ix ix_seq (pv 0) pe_int (fun _ _ => rfl)))) (pa_cons (pe_op op_mul' (pe_ix ix_seq (pv 0) pe_int (fun _ _ => rfl)) (pe_ix ix_seq (pv 1) pe_int (fun _ _ => rfl))) pa_nil)))))
theorem bd_times (T : Txt K mg) : Binds K (fdK K ("times", none)) P_times [] := T.F_times.bindsN fun _ _ _ _ _ _ us hl => match us, hl with | [_, _], _ => rfl
set_option maxHeartbeats 4000000 in
theorem ok_times (T : Txt K mg) : FnOk P w K mg base (L2.CX P w) 3 (fA K "times") (fdK K ("times", none)) P_times (FS K (sp_times K)) := by
  refine T.F_times.ok sc_times (fun vs H Q E h => fs_len h sp_len_times) (fun cdv A outer s H vs Q E hr h => ⟨t_times K (fun c d _ H' => E c d H'), ?_, fs_run h (w_times  _)⟩)
  exact (pss_one (ps_ret (pe_call (ok_ratio T) (hr.mono (by decide)) rfl T.m_ratio T.F_ratio.kp (bd_ratio T) .nil passL (pa_cons (pe_op op_mul' (pe_ix ix_seq (pv 0) pe_int (fun _ _ => rfl)) (pe_ix ix_seq (pv 1) pe_int (fun _ _ => rfl))) (pa_cons (pe_op op_mul' (pe_ix ix_seq (pv 0) pe_int (fun _ _ => rfl)) (pe_ix ix_seq (pv 1) pe_int (fun _ _ => rfl))) pa_nil)))))
theorem bd_numbers_of (T : Txt K mg) : Binds K (fdK K ("numbers_of", none)) P_numbers_of [] := T.F_numbers_of.bindsN fun _ _ _ _ _ _ us hl => match us, hl with | [_], _ => rfl
set_option maxHeartbeats 4000000 in
theorem ok_numbers_of (T : Txt K mg) : FnOk P w K mg base (L2.CX P w) 4 (fA K "numbers_of") (fdK K ("numbers_of", none)) P_numbers_of (FS K (sp_numbers_of K)) := by
  refine T.F_numbers_of.ok sc_numbers_of (fun vs H Q E h => fs_len h sp_len_numbers_of) (fun cdv A outer s H vs Q E hr h => ⟨t_numbers_of K (fun c d _ H' => E c d H'), ?_, fs_run h (w_numbers_of T.q_ONE _)⟩)
  exact (pss_cons (ps_set (i := 1) sc_numbers_of.nd rfl (Or.inl rfl) (pe_call (ok_factor_of T) (hr.mono (by decide)) rfl T.m_factor_of T.F_factor_of.kp (bd_factor_of T) .nil passL (pa_cons (pv 0) pa_nil)))
      (pss_cons (ps_set (i := 2) sc_numbers_of.nd rfl (Or.inl rfl) (pe_lst (pa_cons (pe_glob rfl T.g_ONE rfl) (pa_cons (pe_glob rfl T.g_ONE rfl) pa_nil))))
      (pss_cons (ps_while (passes_of rfl) (pt_cmpR op_gt' (pe_ix ix_seq (pe_ix ix_seq (pv 2) (pe_un un_neg' pe_int) (fun _ _ => rfl)) pe_int (fun _ _ => rfl)) pe_int (nomark _)) (pss_cons (ps_set (i := 3) sc_numbers_of.nd rfl (Or.inl rfl) (pe_glob rfl T.g_ONE rfl))
      (pss_cons (ps_if (pt_cmpR (op_eqD hr.units) (pe_op op_mod' (pe_callB call_len' rfl T.z_len (by decide +kernel) (pa_cons (pv 2) pa_nil)) pe_int) pe_int (nomark _)) (pss_one (ps_set (i := 3) sc_numbers_of.nd rfl (Or.inl rfl) (pv 1))) pss_nil)
      (pss_one (ps_expr (pe_bm PySem.F.plainAttrs_list PySem.F.slot_list_append PySem.F.type_list_append mt_append (pv 2) (pa_cons (pe_call (ok_minus T) (hr.mono (by decide)) rfl T.m_minus T.F_minus.kp (bd_minus T) .nil passL (pa_cons (pe_call (ok_times T) (hr.mono (by decide)) rfl T.m_times T.F_times.kp (bd_times T) .nil passL (pa_cons (pe_ix ix_seq (pv 2) (pe_un un_neg' pe_int) (fun _ _ => rfl)) (pa_cons (pv 3) pa_nil))) (pa_cons (pe_ix ix_seq (pv 2) (pe_un un_neg' pe_int) (fun _ _ => rfl)) pa_nil))) pa_nil)))))))
      (pss_one (ps_ret (pv 2))))))
theorem bd_lets_most (T : Txt K mg) : Binds K (fdK K ("lets_most", none)) P_lets_most [] := T.F_lets_most.bindsN fun _ _ _ _ _ _ us hl => match us, hl with | [_, _, _], _ => rfl
set_option maxHeartbeats 4000000 in
theorem ok_lets_most (T : Txt K mg) : FnOk P w K mg base (L2.CX P w) 5 (fA K "lets_most") (fdK K ("lets_most", none)) P_lets_most (FS K (sp_lets_most K)) := by
  refine T.F_lets_most.ok sc_lets_most (fun vs H Q E h => fs_len h sp_len_lets_most) (fun cdv A outer s H vs Q E hr h => ⟨t_lets_most K (fun c d _ H' => E c d H'), ?_, fs_run h (w_lets_most  _)⟩)
  exact (pss_cons (ps_expr (pe_call (ok_look_at_weights T) (hr.mono (by decide)) rfl T.m_look_at_weights T.F_look_at_weights.kp (bd_look_at_weights T) .nil passL (pa_cons (pv 0) pa_nil)))
      (pss_one (ps_ret (pe_and (pe_cmpR (op_eqD hr.units) (pv 1) (pe_callB call_len' rfl T.z_len (by decide +kernel) (pa_cons (pv 2) pa_nil)) (nomark _)) (pe_one (pe_cmpR (op_eqD hr.units) (pe_callTy call_list' rfl T.z_list (by decide +kernel) (pa_cons (pv 2) pa_nil)) (pe_call (ok_numbers_of T) (hr.mono (by decide)) rfl T.m_numbers_of T.F_numbers_of.kp (bd_numbers_of T) .nil passL (pa_cons (pv 0) pa_nil)) (nomark _)))))))
theorem bd_law (T : Txt K mg) : Binds K (fdK K ("law", none)) P_law [] := T.F_law.bindsN fun _ _ _ _ _ _ us hl => match us, hl with | [_], _ => rfl
set_option maxHeartbeats 4000000 in
theorem ok_law (T : Txt K mg) : FnOk P w K mg base (L2.CX P w) 6 (fA K "law") (fdK K ("law", none)) P_law (FS K (sp_law K)) := by
  refine T.F_law.ok sc_law (fun vs H Q E h => fs_len h sp_len_law) (fun cdv A outer s H vs Q E hr h => ⟨t_law K (fun c d _ H' => E c d H'), ?_, fs_run h (w_law  _)⟩)
  exact (pss_cons (ps_for (passes_of rfl) rfl (pi_seq (pe_op op_addX (pe_lst (pa_cons pe_int pa_nil)) (pe_slice sl_seq (pv 0) po_none (po_some pe_int)))) (pg_name (i := 1) sc_law.nd rfl (Or.inl rfl)) (pss_cons (ps_set (i := 2) sc_law.nd rfl (Or.inl rfl) (pe_call (ok_law_pool T) (hr.mono (by decide)) rfl T.m_law_pool T.F_law_pool.kp (bd_law_pool T) .nil passL (pa_cons (pv 1) pa_nil)))
      (pss_cons (ps_set (i := 3) sc_law.nd rfl (Or.inl rfl) (pe_call (ok_law_three T) (hr.mono (by decide)) rfl T.m_law_three T.F_law_three.kp (bd_law_three T) .nil passL (pa_cons (pv 2) pa_nil)))
      (pss_cons (ps_set (i := 4) sc_law.nd rfl (Or.inl rfl) (pe_call (ok_law_numbers T) (hr.mono (by decide)) rfl T.m_law_numbers T.F_law_numbers.kp (bd_law_numbers T) .nil passL (pa_cons (pv 3) pa_nil)))
      (pss_cons (ps_for (passes_of rfl) rfl (pi_range1 rfl T.z_range (pa_cons pe_int pa_nil)) (pg_name (i := 5) sc_law.nd rfl (Or.inl rfl)) (pss_cons (ps_set (i := 6) sc_law.nd rfl (Or.inl rfl) (pe_call (ok_law_other T) (hr.mono (by decide)) rfl T.m_law_other T.F_law_other.kp (bd_law_other T) .nil passL (pa_cons (pv 4) (pa_cons (pv 2) pa_nil))))
      (pss_cons (ps_set (i := 7) sc_law.nd rfl (Or.inl rfl) (pe_op op_addX (pe_callB call_len' rfl T.z_len (by decide +kernel) (pa_cons (pv 6) pa_nil)) (pe_ix ix_seq (pe_lst (pa_cons pe_int (pa_cons pe_int (pa_cons pe_int (pa_cons (pe_un un_neg' pe_int) pa_nil))))) (pe_call (ok_law_next T) (hr.mono (by decide)) rfl T.m_law_next T.F_law_next.kp (bd_law_next T) .nil passL (pa_cons (pv 2) (pa_cons pe_int pa_nil))) (fun _ _ => rfl))))
      (pss_cons (ps_if (pt_cmpR (op_eqD hr.units) (pe_call (ok_law_next T) (hr.mono (by decide)) rfl T.m_law_next T.F_law_next.kp (bd_law_next T) .nil passL (pa_cons (pv 2) (pa_cons pe_int pa_nil))) pe_int (nomark _)) (pss_one (ps_set (i := 7) sc_law.nd rfl (Or.inl rfl) (pe_callB call_len' rfl T.z_len (by decide +kernel) (pa_cons (pv 4) pa_nil)))) pss_nil)
      (pss_cons (ps_set (i := 8) sc_law.nd rfl (Or.inl rfl) (pe_callTy call_list' rfl T.z_list (by decide +kernel) (pa_cons (pv 6) pa_nil)))
      (pss_cons (ps_set (i := 9) sc_law.nd rfl (Or.inl rfl) (pe_call (ok_lets_most T) (hr.mono (by decide)) rfl T.m_lets_most T.F_lets_most.kp (bd_lets_most T) .nil passL (pa_cons (pv 3) (pa_cons (pv 7) (pa_cons (pe_ix ix_seq (pe_lst (pa_cons (pv 6) (pa_cons (pe_callTy call_tup' rfl T.z_tuple (by decide +kernel) (pa_cons (pv 6) pa_nil)) pa_nil))) (pe_call (ok_law_next T) (hr.mono (by decide)) rfl T.m_law_next T.F_law_next.kp (bd_law_next T) .nil passL (pa_cons (pv 2) (pa_cons pe_int pa_nil))) (fun _ _ => rfl)) pa_nil)))))
      (pss_cons (ps_if (pt_cmpR (op_neD hr.units) (pv 6) (pv 8) (nomark _)) (pss_one (ps_ret pe_bl)) pss_nil)
      (pss_cons (ps_if (PW.pt (pw_and (pt_cmpR op_isnB (pv 9) pe_bl (nomark _)) (pw_and1 (pt_cmpR op_isnB (pv 9) pe_bl (nomark _))))) (pss_one (ps_ret pe_bl)) pss_nil)
      (pss_one (ps_if (pt_cmpR (op_neD hr.units) (pv 9) (pe_and (pe_cmpR (op_eqD hr.units) (pv 6) (pv 4) (nomark _)) (pe_one (pe_cmpR (op_eqD hr.units) (pv 7) (pe_callB call_len' rfl T.z_len (by decide +kernel) (pa_cons (pv 4) pa_nil)) (nomark _)))) (nomark _)) (pss_one (ps_ret pe_bl)) pss_nil))))))))))
      (pss_one (ps_if (PW.pt (pw_or (pt_cmpR op_isnB (pe_call (ok_lets_most T) (hr.mono (by decide)) rfl T.m_lets_most T.F_lets_most.kp (bd_lets_most T) .nil passL (pa_cons (pv 3) (pa_cons (pe_callB call_len' rfl T.z_len (by decide +kernel) (pa_cons (pv 4) pa_nil)) (pa_cons (pv 4) pa_nil)))) pe_bl (nomark _)) (pw_or1 (pt_cmpR op_isnB (pe_call (ok_lets_most T) (hr.mono (by decide)) rfl T.m_lets_most T.F_lets_most.kp (bd_lets_most T) .nil passL (pa_cons (pv 3) (pa_cons pe_int (pa_cons (pe_lst pa_nil) pa_nil)))) pe_bl (nomark _))))) (pss_one (ps_ret pe_bl)) pss_nil)))))))
      (pss_one (ps_ret pe_bl)))
end
theorem txt {K : KF} {h : Heap} {mg : Str → Option Value} (X : K.In h) (G : h.Ns mainGlobals mg) (c : He.SaysD fa fn K) (ce : ex K = true) : Txt K mg := by
  have exat : ∀ (i : Nat) {b : Bool}, (exs K)[i]? = some b → b = true := fun i b e => List.all_eq_true.mp ce b (List.mem_of_getElem? e)
  exact {
    F_law_next := fd_of c 0 rfl
    m_law_next := He.glo_ok X G (c.fact 0 rfl)
    F_law_common := fd_of c 1 rfl
    m_law_common := He.glo_ok X G (c.fact 1 rfl)
    F_law_low := fd_of c 2 rfl
    m_law_low := He.glo_ok X G (c.fact 2 rfl)
    F_law_by := fd_of c 3 rfl
    m_law_by := He.glo_ok X G (c.fact 3 rfl)
    F_law_gap := fd_of c 4 rfl
    m_law_gap := He.glo_ok X G (c.fact 4 rfl)
    F_law_numbers := fd_of c 5 rfl
    m_law_numbers := He.glo_ok X G (c.fact 5 rfl)
    F_law_small := fd_of c 6 rfl
    m_law_small := He.glo_ok X G (c.fact 6 rfl)
    F_law_three := fd_of c 7 rfl
    m_law_three := He.glo_ok X G (c.fact 7 rfl)
    F_law_other := fd_of c 8 rfl
    m_law_other := He.glo_ok X G (c.fact 8 rfl)
    F_law_pool := fd_of c 9 rfl
    m_law_pool := He.glo_ok X G (c.fact 9 rfl)
    F_is_whole := fd_of c 10 rfl
    m_is_whole := He.glo_ok X G (c.fact 10 rfl)
    F_is_weight := fd_of c 11 rfl
    m_is_weight := He.glo_ok X G (c.fact 11 rfl)
    F_look_at_weights := fd_of c 12 rfl
    m_look_at_weights := He.glo_ok X G (c.fact 12 rfl)
    F_divisor_of := fd_of c 13 rfl
    m_divisor_of := He.glo_ok X G (c.fact 13 rfl)
    F_ratio := fd_of c 14 rfl
    m_ratio := He.glo_ok X G (c.fact 14 rfl)
    F_factor_of := fd_of c 15 rfl
    m_factor_of := He.glo_ok X G (c.fact 15 rfl)
    F_minus := fd_of c 16 rfl
    m_minus := He.glo_ok X G (c.fact 16 rfl)
    F_times := fd_of c 17 rfl
    m_times := He.glo_ok X G (c.fact 17 rfl)
    F_numbers_of := fd_of c 18 rfl
    m_numbers_of := He.glo_ok X G (c.fact 18 rfl)
    F_lets_most := fd_of c 19 rfl
    m_lets_most := He.glo_ok X G (c.fact 19 rfl)
    F_law := fd_of c 20 rfl
    m_law := He.glo_ok X G (c.fact 20 rfl)
    z_abs := He.free_ok X G (c.fact 21 rfl)
    z_all := He.free_ok X G (c.fact 22 rfl)
    z_bool := He.free_ok X G (c.fact 23 rfl)
    z_int := He.free_ok X G (c.fact 24 rfl)
    z_isinstance := He.free_ok X G (c.fact 25 rfl)
    z_len := He.free_ok X G (c.fact 26 rfl)
    z_list := He.free_ok X G (c.fact 27 rfl)
    z_max := He.free_ok X G (c.fact 28 rfl)
    z_range := He.free_ok X G (c.fact 29 rfl)
    z_tuple := He.free_ok X G (c.fact 30 rfl)
    g_GREATEST := He.int_ok X G (c.fact 31 rfl)
    g_ONE := He.glo_ok X G (c.fact 32 rfl)
    q_ONE := exat 0 rfl
    xc_NoRatio := xc_of X G (c.fact 33 rfl) (c.fact 34 rfl)
    xc_NoRow := xc_of X G (c.fact 35 rfl) (c.fact 36 rfl) }
end LK
open PySem PySem.W PySem.Calls PyProof.Rows
set_option maxRecDepth 100000 in
set_option maxHeartbeats 0 in
theorem PySem.Challenge.cw_clackrow_k49_numbers_judged_holds : PySem.Challenge.rw_clackrow_k49_numbers_judged.Holds := by
  w_on; o_law
  refine HandSHeadRun.head_any (r := OpenLaw.row PySem.Challenge.rw_clackrow_k49_numbers_judged) (q := view (OpenLaw.row PySem.Challenge.rw_clackrow_k49_numbers_judged).prog [29]) (H := LK.hk) (ob := LK.ob) (M := 20000) (loose := LK.names) (d := HandSHeadRun.topDef (OpenLaw.row PySem.Challenge.rw_clackrow_k49_numbers_judged).prog 29) (kwd := []) LK.ob_eq
    (by kernel_rfl) (fun s => by kernel_rfl) LK.run (by kernel_rfl) (by kernel_rfl) (by kernel_rfl) (by rfl) (by first | assumption | decide +kernel) (by decide +kernel) ⟨rfl, rfl, rfl, rfl, rfl, by decide +kernel⟩ ?hw ?hc
  case hw => w_witness2
  case hc =>
    refine HL.walk_ofW (l := PySem.Challenge.rw_clackrow_k49_numbers_judged) (n := 63) (k := 6) (x := "script") (CX := fun w => L2.CX (PySem.Challenge.rw_clackrow_k49_numbers_judged).prog w) rfl (by decide) (by kernel_rfl) ⟨rfl, by decide, by decide⟩ ?F (fun w H s e s' h => HL.cx_no h)
    intro w mg fa h Y G hmg0
    obtain ⟨K, KX, c, ce⟩ := Y
    have hmg : mg ("law" : PySem.Str) = some (.ref fa) := by
      have e : (HandSHeadRun.topDef (OpenLaw.row PySem.Challenge.rw_clackrow_k49_numbers_judged).prog 29).name = ("law" : PySem.Str) := by kernel_rfl
      rw [← e]
      exact hmg0
    have T : LK.Txt K mg := LK.txt KX G c ce
    have ea := hmg.symm.trans T.m_law
    cases ea
    exact ⟨K, _, _, KX, fun s v => L2.FunD.bindsA (ps := ["script"]) T.F_law (fun _ _ _ _ _ _ us hl => match us, hl with | [_], _ => rfl) s [v] rfl, fun H a ns hl _ hS => HL.law_start hS ⟨ns, rfl, hl, fun _ => rfl⟩, fun base _ _ => LK.ok_law T⟩
