import PyProof.Rows.All
import Wide.All
import OpenK.AllK
import Wide.FinOn
import HandS.ForExc
import HandS.ForMost
import HandS.Evl
import HandS.Wide
import HandS.IsInst
import HandS.Zip
import HandS.ExcInit
import HandS.Defaults
import HandS.TupAny
import HandS.Walk
import HandS.TupMul
import HandS.More
import HandS.Words
import HandS.WordsExc
import HandS.Head0
import HandS.Head1
import HandS.Head2
import HandS.HeadEnd
import HandS.HeadHook1
import HandS.HeadHook2
import HandS.ExcOwn
import HandS.ExcIs
import HandS.TupLe
import HandS.Style
import HandS.Iter
import PySem.Challenge.RW_clackrow_k64_broad_rows_known
set_option Elab.async false
set_option linter.all false
set_option maxRecDepth 100000
set_option maxHeartbeats 4000000
namespace HL
open PySem PySem.Spec PyProof.Rows L2 Evl
/-- an exception: of a class without data, or one that bears a value -/
inductive Exc where
  | own (C : Addr)
  | low (C : Addr) (f : Str) (x : PyData)
inductive DV where
  | d (x : PyData)
  | o (i : Nat)
  | v (x : V)
  | e (x : Exc) (a : Addr) (cls : Value) (dd : Option Addr)
inductive OC where
  | lst (xs : List DV)
  | ins (C : Addr) (fs : List (Str × DV))
  | gone
abbrev Gm := List (Option DV)
abbrev Om := List OC
abbrev KF := PySem.W.Frag
abbrev Mp := Nat → Addr
mutual
theorem dp_ex {K : KF} {G H : Hp} (e : Ex G H) : ∀ (x : PyData) (v : V), Dp K G v x → Dp K H v x
  | .none, _, h => by cases h; exact .non
  | .bool b, _, h => by cases h; exact .bl b
  | .int i, _, h => by cases h; exact .int i
  | .str x, _, h => by cases h; exact .str x
  | .list ds, _, h => by
    cases h with
    | lst hs ha => exact .lst (ex_l e hs) (dps_ex e ds _ ha)
  | .tuple ds, _, h => by
    cases h with
    | tup hs ha => exact .tup (ex_t e hs) (dps_ex e ds _ ha)
  | .dict _, _, h => by cases h
theorem dps_ex {K : KF} {G H : Hp} (e : Ex G H) : ∀ (xs : List PyData) (vs : List V), DpAll K G vs xs → DpAll K H vs xs
  | [], _, h => by cases h; exact .nil
  | d :: ds, _, h => by
    cases h with
    | cons h1 h2 => exact .cons (dp_ex e d _ h1) (dps_ex e ds _ h2)
end
def RX (K : KF) (G : Hp) : Exc → Value → Option Addr → Prop
  | .own C, c, d => c = .ref C ∧ d = none
  | .low C f x, c, d => c = .ref C ∧ ∃ (a : Addr) (v : V), d = some a ∧ G a = some (.xd [(f, v)]) ∧ Dp K G v x
theorem RX.mono {K : KF} {G G' : Hp} (g : Ex G G') : ∀ {e : Exc} {c : Value} {d : Option Addr}, RX K G e c d → RX K G' e c d
  | .own _, _, _, r => r
  | .low _ _ _, _, _, ⟨e, a, v, e1, e2, r⟩ => ⟨e, a, v, e1, g _ _ e2, dp_ex g _ _ r⟩
def RV (K : KF) (m : Mp) (G : Hp) (n : Nat) : DV → V → Prop
  | .d x, v => Dp K G v x
  | .o i, v => i < n ∧ v = .ref (m i)
  | .v x, v => v = x
  | .e x a c d, v => v = .ref a ∧ RX K G x c d
structure Nxt (m : Mp) (n : Nat) (G : Hp) (m' : Mp) (G' : Hp) : Prop where
  mm : ∀ i, i < n → m' i = m i
  gg : Ex G G'
theorem Nxt.refl (m : Mp) (n : Nat) (G : Hp) : Nxt m n G m G := ⟨fun _ _ => rfl, Ex.refl G⟩
theorem Nxt.trans {m m1 m2 : Mp} {n n1 : Nat} {G G1 G2 : Hp} (a : Nxt m n G m1 G1) (h : n ≤ n1) (b : Nxt m1 n1 G1 m2 G2) : Nxt m n G m2 G2 :=
  ⟨fun i hi => (b.mm i (Nat.lt_of_lt_of_le hi h)).trans (a.mm i hi), a.gg.trans b.gg⟩
theorem RV.mono {K : KF} {m m' : Mp} {G G' : Hp} {n n' : Nat} (x : Nxt m n G m' G') (h : n ≤ n') : ∀ {d : DV} {v : V}, RV K m G n d v → RV K m' G' n' d v
  | .d y, v, r => dp_ex x.gg y v r
  | .o i, v, r => ⟨Nat.lt_of_lt_of_le r.1 h, r.2.trans (by rw [x.mm i r.1])⟩
  | .v y, v, r => r
  | .e y a c d, v, r => ⟨r.1, RX.mono x.gg r.2⟩
theorem RVs.mono {K : KF} {m m' : Mp} {G G' : Hp} {n n' : Nat} (x : Nxt m n G m' G') (h : n ≤ n') {ds : List DV} {vs : List V} (r : Paired (RV K m G n) ds vs) : Paired (RV K m' G' n') ds vs :=
  Paired.mono (fun _ _ q => RV.mono x h q) r
def FRel (K : KF) (m : Mp) (G : Hp) (n : Nat) (p : Str × DV) (q : Str × V) : Prop := p.1 = q.1 ∧ RV K m G n p.2 q.2
def Holds (K : KF) (m : Mp) (G : Hp) (n : Nat) (H : Hp) (a : Addr) : OC → Prop
  | .lst xs => ∃ vs, H a = some (.lst vs) ∧ Paired (RV K m G n) xs vs
  | .ins C fs => ∃ dx vs, H a = some (.ins C dx vs) ∧ Paired (FRel K m G n) fs vs
  | .gone => True
theorem Holds.mono {K : KF} {m m' : Mp} {G G' : Hp} {n n' : Nat} {H H' : Hp} {a : Addr} (x : Nxt m n G m' G') (h : n ≤ n') (hh : ∀ o, H a = some o → H' a = some o) : ∀ {c : OC}, Holds K m G n H a c → Holds K m' G' n' H' a c
  | .lst xs, ⟨vs, e, r⟩ => ⟨vs, hh _ e, RVs.mono x h r⟩
  | .ins C fs, ⟨dx, vs, e, r⟩ => ⟨dx, vs, hh _ e, Paired.mono (fun _ _ q => ⟨q.1, RV.mono x h q.2⟩) r⟩
  | .gone, _ => trivial
theorem Holds.some {K : KF} {m : Mp} {G : Hp} {n : Nat} {H : Hp} {a : Addr} : ∀ {c : OC}, c ≠ .gone → Holds K m G n H a c → ∃ o, H a = some o
  | .lst xs, _, ⟨_, e, _⟩ => ⟨_, e⟩
  | .ins C fs, _, ⟨_, _, e, _⟩ => ⟨_, e⟩
  | .gone, h, _ => absurd rfl h
structure Core (K : KF) (m : Mp) (G : Hp) (Ω : Om) (H : Hp) : Prop where
  ex : Ex G H
  fr : ∀ i c, Ω[i]? = some c → c ≠ .gone → G (m i) = none ∧ Holds K m G Ω.length H (m i) c
  inj : ∀ i j ci cj, Ω[i]? = some ci → Ω[j]? = some cj → ci ≠ .gone → cj ≠ .gone → m i = m j → i = j
section
variable {K : KF} {m m' : Mp} {G G' : Hp} {Ω Ω' : Om} {H H' : Hp} {p : Addr}
theorem lt_of_get {α : Type} {l : List α} {i : Nat} {x : α} (h : l[i]? = some x) : i < l.length := (List.getElem?_eq_some_iff.mp h).1
theorem fresh_g (c : Core K m G Ω H) (hp : H p = none) : G p = none := fresh_back c.ex hp
theorem Core.ne (c : Core K m G Ω H) (hp : H p = none) {i : Nat} {x : OC} (h : Ω[i]? = some x) (g : x ≠ .gone) : m i ≠ p := fun e => by
  obtain ⟨_, q⟩ := c.fr i x h g
  obtain ⟨o, z⟩ := Holds.some g q
  rw [e, hp] at z
  cases z
/-- a new thing that never changes -/
theorem Core.frz (c : Core K m G Ω H) (hp : H p = none) (o : HO) : Core K m (upd G p o) Ω (upd H p o) ∧ Nxt m Ω.length G m (upd G p o) := by
  have gp := fresh_g c hp
  have nx : Nxt m Ω.length G m (upd G p o) := ⟨fun _ _ => rfl, Ex.new gp⟩
  refine ⟨⟨fun a u e => ?_, fun i x h g => ?_, c.inj⟩, nx⟩
  · by_cases ha : a = p
    · subst ha
      rw [upd_same] at e ⊢
      exact e
    · rw [upd_ne ha] at e ⊢
      exact c.ex a u e
  · obtain ⟨q1, q2⟩ := c.fr i x h g
    have ne := c.ne hp h g
    exact ⟨by rw [upd_ne ne]; exact q1, Holds.mono nx (Nat.le_refl _) (fun o e => by rw [upd_ne ne]; exact e) q2⟩
/-- a new list of one's own -/
theorem Core.own (c : Core K m G Ω H) (hp : H p = none) {x : OC} {o : HO} (hx : Holds K m G Ω.length (upd H p o) p x) :
    ∃ m', Core K m' G (Ω ++ [x]) (upd H p o) ∧ Nxt m Ω.length G m' G ∧ m' Ω.length = p := by
  have gp := fresh_g c hp
  refine ⟨fun j => if j = Ω.length then p else m j, ?_, ⟨fun i hi => if_neg (Nat.ne_of_lt hi), Ex.refl G⟩, if_pos rfl⟩
  have nx : Nxt m Ω.length G (fun j => if j = Ω.length then p else m j) G := ⟨fun i hi => if_neg (Nat.ne_of_lt hi), Ex.refl G⟩
  have le : Ω.length ≤ (Ω ++ [x]).length := by simp
  refine ⟨fun a u e => ?_, fun i y h g => ?_, fun i j ci cj h1 h2 g1 g2 e => ?_⟩
  · rw [upd_ne (ne_of_none e gp)]
    exact c.ex a u e
  · by_cases hi : i < Ω.length
    · rw [List.getElem?_append_left hi] at h
      have ne := c.ne hp h g
      obtain ⟨q1, q2⟩ := c.fr i y h g
      simp only [if_neg (Nat.ne_of_lt hi)]
      exact ⟨q1, Holds.mono nx le (fun o e => by rw [upd_ne ne]; exact e) q2⟩
    · have hl := lt_of_get h
      rw [List.length_append, List.length_singleton] at hl
      have ei : i = Ω.length := by omega
      subst ei
      rw [List.getElem?_append_right (Nat.le_refl _), Nat.sub_self] at h
      have ey : x = y := Option.some.inj h
      subst ey
      simp only [if_true]
      exact ⟨gp, Holds.mono nx le (fun o e => e) hx⟩
  · have l1 := lt_of_get h1
    have l2 := lt_of_get h2
    rw [List.length_append, List.length_singleton] at l1 l2
    by_cases hi : i < Ω.length <;> by_cases hj : j < Ω.length
    · rw [List.getElem?_append_left hi] at h1
      rw [List.getElem?_append_left hj] at h2
      simp only [if_neg (Nat.ne_of_lt hi), if_neg (Nat.ne_of_lt hj)] at e
      exact c.inj i j ci cj h1 h2 g1 g2 e
    · rw [List.getElem?_append_left hi] at h1
      have ej : j = Ω.length := by omega
      simp only [if_neg (Nat.ne_of_lt hi), if_pos ej] at e
      exact absurd e (c.ne hp h1 g1)
    · rw [List.getElem?_append_left hj] at h2
      have ei : i = Ω.length := by omega
      simp only [if_neg (Nat.ne_of_lt hj), if_pos ei] at e
      exact absurd e.symm (c.ne hp h2 g2)
    · omega
/-- one's own thing is changed -/
theorem Core.write (c : Core K m G Ω H) {i : Nat} {x y : OC} {o : HO} (h : Ω[i]? = some x) (g : x ≠ .gone) (hy : Holds K m G Ω.length (upd H (m i) o) (m i) y) : Core K m G (Ω.set i y) (upd H (m i) o) := by
  obtain ⟨q1, q2⟩ := c.fr i x h g
  refine ⟨fun a u e => ?_, fun j z h2 g2 => ?_, fun j k cj ck h1 h2 g1 g2 e => ?_⟩
  · rw [upd_ne (ne_of_none e q1)]
    exact c.ex a u e
  · rw [List.length_set]
    rw [List.getElem?_set] at h2
    by_cases ej : i = j
    · subst ej
      have hi := lt_of_get h
      rw [if_pos rfl, if_pos hi] at h2
      cases h2
      exact ⟨q1, hy⟩
    · rw [if_neg ej] at h2
      obtain ⟨r1, r2⟩ := c.fr j z h2 g2
      have ne : m j ≠ m i := fun e => ej (c.inj i j x z h h2 g g2 e.symm)
      exact ⟨r1, Holds.mono (Nxt.refl _ _ _) (Nat.le_refl _) (fun o e => by rw [upd_ne ne]; exact e) r2⟩
  · have fix : ∀ {t : Nat} {ct : OC}, (Ω.set i y)[t]? = some ct → ct ≠ .gone → ∃ ct', Ω[t]? = some ct' ∧ ct' ≠ .gone := fun {t ct} h1 g1 => by
      rw [List.getElem?_set] at h1
      by_cases ej : i = t
      · subst ej; exact ⟨x, h, g⟩
      · rw [if_neg ej] at h1
        exact ⟨ct, h1, g1⟩
    obtain ⟨a1, b1, d1⟩ := fix h1 g1
    obtain ⟨a2, b2, d2⟩ := fix h2 g2
    exact c.inj j k a1 a2 b1 b2 d1 d2 e
/-- one's own thing is given away -/
theorem Core.freeze (c : Core K m G Ω H) {i : Nat} {x : OC} {o : HO} (h : Ω[i]? = some x) (g : x ≠ .gone) (ho : H (m i) = some o) : Core K m (upd G (m i) o) (Ω.set i .gone) H ∧ Nxt m Ω.length G m (upd G (m i) o) := by
  obtain ⟨q1, q2⟩ := c.fr i x h g
  have nx : Nxt m Ω.length G m (upd G (m i) o) := ⟨fun _ _ => rfl, Ex.new q1⟩
  refine ⟨⟨fun a u e => ?_, fun j z h2 g2 => ?_, fun j k cj ck h1 h2 g1 g2 e => ?_⟩, nx⟩
  · by_cases ha : a = m i
    · subst ha
      rw [upd_same] at e
      rw [← e]; exact ho
    · rw [upd_ne ha] at e
      exact c.ex a u e
  · rw [List.length_set]
    rw [List.getElem?_set] at h2
    by_cases ej : i = j
    · subst ej
      rw [if_pos rfl, if_pos (lt_of_get h)] at h2
      cases h2
      exact absurd rfl g2
    · rw [if_neg ej] at h2
      obtain ⟨r1, r2⟩ := c.fr j z h2 g2
      have ne : m j ≠ m i := fun e => ej (c.inj i j x z h h2 g g2 e.symm)
      exact ⟨by rw [upd_ne ne]; exact r1, Holds.mono nx (Nat.le_refl _) (fun o e => e) r2⟩
  · have fix : ∀ {t : Nat} {ct : OC}, (Ω.set i .gone)[t]? = some ct → ct ≠ .gone → Ω[t]? = some ct := fun {t ct} h1 g1 => by
      rw [List.getElem?_set] at h1
      by_cases ej : i = t
      · subst ej
        rw [if_pos rfl, if_pos (lt_of_get h)] at h1
        cases h1
        exact absurd rfl g1
      · rw [if_neg ej] at h1
        exact h1
    exact c.inj j k cj ck (fix h1 g1) (fix h2 g2) g1 g2 e
end
def RVn (K : KF) (m : Mp) (G : Hp) (n : Nat) : DV → V → Prop := RV K m G n
structure Slots (K : KF) (m : Mp) (G : Hp) (n : Nat) (Γ : Gm) (σ : L2.St) : Prop where
  len : Γ.length = σ.length
  at_ : ∀ (i : Nat) (d : DV), Γ[i]? = some (some d) → ∃ v, σ[i]? = some (some v) ∧ RV K m G n d v
theorem Slots.mono {K : KF} {m m' : Mp} {G G' : Hp} {n n' : Nat} {Γ : Gm} {σ : L2.St} (x : Nxt m n G m' G') (h : n ≤ n') (s : Slots K m G n Γ σ) : Slots K m' G' n' Γ σ :=
  ⟨s.len, fun i d e => let ⟨v, e1, r⟩ := s.at_ i d e; ⟨v, e1, RV.mono x h r⟩⟩
theorem Slots.set {K : KF} {m : Mp} {G : Hp} {n : Nat} {Γ : Gm} {σ : L2.St} {d : DV} {v : V} (s : Slots K m G n Γ σ) (i : Nat) (r : RV K m G n d v) : Slots K m G n (Γ.set i (some d)) (σ.set i (some v)) := by
  refine ⟨by rw [List.length_set, List.length_set]; exact s.len, fun j e h => ?_⟩
  have hl := lt_of_get h
  rw [List.length_set] at hl
  rw [List.getElem?_set] at h
  by_cases hj : i = j
  · subst hj
    rw [if_pos rfl, if_pos hl] at h
    cases h
    refine ⟨v, ?_, r⟩
    rw [List.getElem?_set, if_pos rfl, if_pos (by rw [← s.len]; exact hl)]
  · rw [if_neg hj] at h
    obtain ⟨w, e1, r1⟩ := s.at_ j e h
    exact ⟨w, by rw [List.getElem?_set, if_neg hj]; exact e1, r1⟩
/-- what is forgotten -/
theorem Slots.sub {K : KF} {m : Mp} {G : Hp} {n : Nat} {Γ Γ' : Gm} {σ : L2.St} (s : Slots K m G n Γ σ) (hl : Γ'.length = Γ.length) (h : ∀ (i : Nat) (d : DV), Γ'[i]? = some (some d) → Γ[i]? = some (some d)) : Slots K m G n Γ' σ :=
  ⟨hl.trans s.len, fun i d e => s.at_ i d (h i d e)⟩
section
variable (K : KF) (m : Mp) (G : Hp) (n : Nat)
def QOk (R : DV → Om → Prop) (Q : VK) : Prop := ∀ m' G' Ω' H' d v, Core K m' G' Ω' H' → Nxt m n G m' G' → n ≤ Ω'.length → RV K m' G' Ω'.length d v → R d Ω' → Q v H'
def BOk (R : Bool → Om → Prop) (Q : Bool → Hp → Prop) : Prop := ∀ m' G' Ω' H' b, Core K m' G' Ω' H' → Nxt m n G m' G' → n ≤ Ω'.length → R b Ω' → Q b H'
def AOk (R : List DV → Om → Prop) (Q : List V → Hp → Prop) : Prop := ∀ m' G' Ω' H' ds vs, Core K m' G' Ω' H' → Nxt m n G m' G' → n ≤ Ω'.length → Paired (RV K m' G' Ω'.length) ds vs → R ds Ω' → Q vs H'
def SOk (R : Gm → Om → Prop) (Q : L2.St → Hp → Prop) : Prop := ∀ m' G' Ω' H' Γ' σ', Core K m' G' Ω' H' → Nxt m n G m' G' → n ≤ Ω'.length → Slots K m' G' Ω'.length Γ' σ' → R Γ' Ω' → Q σ' H'
def XOk (R : Exc → Om → Prop) (Q : XK) : Prop := ∀ m' G' Ω' H' e c d, Core K m' G' Ω' H' → Nxt m n G m' G' → n ≤ Ω'.length → RX K G' e c d → R e Ω' → Q c d H'
def ZOk (R : Gm → Exc → Om → Prop) (W : WX) : Prop := ∀ m' G' Ω' H' Γ' σ' e c d, Core K m' G' Ω' H' → Nxt m n G m' G' → n ≤ Ω'.length → Slots K m' G' Ω'.length Γ' σ' → RX K G' e c d → R Γ' e Ω' → W c d σ' H'
end
section
variable {K : KF} {m m1 : Mp} {G G1 : Hp} {n n1 : Nat}
theorem QOk.on {R : DV → Om → Prop} {Q : VK} (q : QOk K m G n R Q) (x : Nxt m n G m1 G1) (h : n ≤ n1) : QOk K m1 G1 n1 R Q := fun _ _ _ _ _ _ c y l r z => q _ _ _ _ _ _ c (x.trans h y) (Nat.le_trans h l) r z
theorem BOk.on {R : Bool → Om → Prop} {Q : Bool → Hp → Prop} (q : BOk K m G n R Q) (x : Nxt m n G m1 G1) (h : n ≤ n1) : BOk K m1 G1 n1 R Q := fun _ _ _ _ _ c y l z => q _ _ _ _ _ c (x.trans h y) (Nat.le_trans h l) z
theorem AOk.on {R : List DV → Om → Prop} {Q : List V → Hp → Prop} (q : AOk K m G n R Q) (x : Nxt m n G m1 G1) (h : n ≤ n1) : AOk K m1 G1 n1 R Q := fun _ _ _ _ _ _ c y l r z => q _ _ _ _ _ _ c (x.trans h y) (Nat.le_trans h l) r z
theorem SOk.on {R : Gm → Om → Prop} {Q : L2.St → Hp → Prop} (q : SOk K m G n R Q) (x : Nxt m n G m1 G1) (h : n ≤ n1) : SOk K m1 G1 n1 R Q := fun _ _ _ _ _ _ c y l r z => q _ _ _ _ _ _ c (x.trans h y) (Nat.le_trans h l) r z
theorem XOk.on {R : Exc → Om → Prop} {Q : XK} (q : XOk K m G n R Q) (x : Nxt m n G m1 G1) (h : n ≤ n1) : XOk K m1 G1 n1 R Q := fun _ _ _ _ _ _ _ c y l r z => q _ _ _ _ _ _ _ c (x.trans h y) (Nat.le_trans h l) r z
theorem ZOk.on {R : Gm → Exc → Om → Prop} {W : WX} (q : ZOk K m G n R W) (x : Nxt m n G m1 G1) (h : n ≤ n1) : ZOk K m1 G1 n1 R W := fun _ _ _ _ _ _ _ _ _ c y l s r z => q _ _ _ _ _ _ _ _ _ c (x.trans h y) (Nat.le_trans h l) s r z
theorem QOk.imp {R R' : DV → Om → Prop} {Q : VK} (q : QOk K m G n R Q) (h : ∀ d Ω, R' d Ω → R d Ω) : QOk K m G n R' Q := fun _ _ _ _ _ _ c y l r z => q _ _ _ _ _ _ c y l r (h _ _ z)
end
end HL
namespace HL
open PySem PySem.Spec PyProof.Rows L2 Evl
structure Outs where
  nx : Gm → Om → Prop
  rt : DV → Om → Prop
  bk : Gm → Om → Prop
  ct : Gm → Om → Prop
  er : Gm → Exc → Om → Prop
section
variable (K : KF) (W : WX)
def WE (te : TE) (Γ : Gm) (Ω : Om) (R : DV → Om → Prop) (X : Exc → Om → Prop) : Prop :=
  ∀ m G H σ Q, Core K m G Ω H → Slots K m G Ω.length Γ σ → QOk K m G Ω.length R Q → XOk K m G Ω.length X (fun c d H' => W c d σ H') → te σ H Q
def WT (tt : TT) (Γ : Gm) (Ω : Om) (R : Bool → Om → Prop) (X : Exc → Om → Prop) : Prop :=
  ∀ m G H σ Q, Core K m G Ω H → Slots K m G Ω.length Γ σ → BOk K m G Ω.length R Q → XOk K m G Ω.length X (fun c d H' => W c d σ H') → tt σ H Q
def WA (ta : TA) (Γ : Gm) (Ω : Om) (R : List DV → Om → Prop) (X : Exc → Om → Prop) : Prop :=
  ∀ m G H σ Q, Core K m G Ω H → Slots K m G Ω.length Γ σ → AOk K m G Ω.length R Q → XOk K m G Ω.length X (fun c d H' => W c d σ H') → ta σ H Q
def WS (ts : TS) (Γ : Gm) (Ω : Om) (O : Outs) : Prop :=
  ∀ m G H σ (D : Ends), Core K m G Ω H → Slots K m G Ω.length Γ σ → SOk K m G Ω.length O.nx D.nx → QOk K m G Ω.length O.rt D.rt → SOk K m G Ω.length O.bk D.bk → SOk K m G Ω.length O.ct D.ct → ZOk K m G Ω.length O.er W → ts D σ H
def WG (g : TG) (y : DV) (Γ : Gm) (Ω : Om) (R : Gm → Om → Prop) : Prop :=
  ∀ m G H σ v Q, Core K m G Ω H → Slots K m G Ω.length Γ σ → RV K m G Ω.length y v → SOk K m G Ω.length R Q → g v σ H Q
def WGs (g : TGs) (ys : List DV) (Γ : Gm) (Ω : Om) (R : Gm → Om → Prop) : Prop :=
  ∀ m G H σ vs Q, Core K m G Ω H → Slots K m G Ω.length Γ σ → Paired (RV K m G Ω.length) ys vs → SOk K m G Ω.length R Q → g vs σ H Q
/-- operators on values -/
def WR (r : R2) (x y : DV) (Ω : Om) (R : DV → Om → Prop) : Prop :=
  ∀ m G H v w Q, Core K m G Ω H → RV K m G Ω.length x v → RV K m G Ω.length y w → QOk K m G Ω.length R Q → r v w H Q
def WU (r : V → Hp → VK → Prop) (x : DV) (Ω : Om) (R : DV → Om → Prop) : Prop :=
  ∀ m G H v Q, Core K m G Ω H → RV K m G Ω.length x v → QOk K m G Ω.length R Q → r v H Q
def WC (r : List V → Hp → VK → Prop) (xs : List DV) (Ω : Om) (R : DV → Om → Prop) : Prop :=
  ∀ m G H vs Q, Core K m G Ω H → Paired (RV K m G Ω.length) xs vs → QOk K m G Ω.length R Q → r vs H Q
def WM (r : V → List V → Hp → VK → Prop) (x : DV) (xs : List DV) (Ω : Om) (R : DV → Om → Prop) : Prop :=
  ∀ m G H v vs Q, Core K m G Ω H → RV K m G Ω.length x v → Paired (RV K m G Ω.length) xs vs → QOk K m G Ω.length R Q → r v vs H Q
end
/-! views -/
def asDs : List DV → Option (List PyData)
  | [] => some []
  | .d x :: r => (asDs r).map (x :: ·)
  | _ :: _ => none
theorem asDs_map {α : Type} (f : α → PyData) : ∀ l : List α, asDs (l.map fun a => .d (f a)) = some (l.map f)
  | [] => rfl
  | a :: l => by
    show (asDs (l.map fun a => .d (f a))).map (f a :: ·) = _
    rw [asDs_map f l]
    rfl
theorem asDs_eq : ∀ {ds : List DV} {xs : List PyData}, asDs ds = some xs → ds = xs.map DV.d
  | [], xs, h => by cases h; rfl
  | .d x :: r, xs, h => by
    cases e : asDs r with
    | none => rw [show asDs (.d x :: r) = (asDs r).map (x :: ·) from rfl, e] at h; cases h
    | some ys =>
      rw [show asDs (.d x :: r) = (asDs r).map (x :: ·) from rfl, e] at h
      cases h
      rw [asDs_eq e]
      rfl
  | .o _ :: _, _, h => by cases h
  | .v _ :: _, _, h => by cases h
  | .e _ _ _ _ :: _, _, h => by cases h
theorem dps_of {K : KF} {m : Mp} {G : Hp} {n : Nat} : ∀ {xs : List PyData} {vs : List V}, Paired (RV K m G n) (xs.map DV.d) vs → DpAll K G vs xs
  | [], _, h => by cases h; exact .nil
  | x :: xs, _, h => by cases h with | cons a b => exact .cons a (dps_of b)
theorem of_dps {K : KF} {m : Mp} {G : Hp} {n : Nat} : ∀ {xs : List PyData} {vs : List V}, DpAll K G vs xs → Paired (RV K m G n) (xs.map DV.d) vs
  | [], _, h => by cases h; exact .nil
  | x :: xs, _, h => by cases h with | cons a b => exact .cons a (of_dps b)
def vwO : Option OC → Option PyData
  | some (.lst ds) => (asDs ds).map PyData.list
  | _ => none
def vw (Ω : Om) : DV → Option PyData
  | .d x => some x
  | .o i => vwO Ω[i]?
  | _ => none
theorem vw_dp {K : KF} {m : Mp} {G H : Hp} {Ω : Om} {d : DV} {x : PyData} {v : V} (c : Core K m G Ω H) (r : RV K m G Ω.length d v) (h : vw Ω d = some x) : Dp K H v x := by
  cases d with
  | d y => cases h; exact dp_ex c.ex _ _ r
  | v y => cases h
  | e _ _ _ _ => cases h
  | o i =>
    have h : vwO Ω[i]? = some x := h
    cases e : Ω[i]? with
    | none => rw [e] at h; cases h
    | some oc =>
      rw [e] at h
      cases oc with
      | ins C fs => cases h
      | gone => cases h
      | lst ds =>
        have h' : (asDs ds).map PyData.list = some x := h
        cases e2 : asDs ds with
        | none => rw [e2] at h'; cases h'
        | some xs =>
          rw [e2] at h'
          cases h'
          obtain ⟨_, vs, hv, rp⟩ := c.fr i _ e (by intro z; cases z)
          obtain ⟨hi, rfl⟩ := r
          rw [asDs_eq e2] at rp
          exact .lst (sq_of hv) (dps_ex c.ex _ _ (dps_of rp))
/-- the items of a sequence -/
def sqO : Option OC → Option (List DV)
  | some (.lst ds) => some ds
  | _ => none
def sq (Ω : Om) : DV → Option (List DV)
  | .d (.tuple xs) => some (xs.map DV.d)
  | .d (.list xs) => some (xs.map DV.d)
  | .o i => sqO Ω[i]?
  | _ => none
theorem sq_o {Ω : Om} {i : Nat} {ds : List DV} (h : sq Ω (.o i) = some ds) : Ω[i]? = some (.lst ds) := by
  have h : sqO Ω[i]? = some ds := h
  cases e : Ω[i]? with
  | none => rw [e] at h; cases h
  | some oc =>
    rw [e] at h
    cases oc with
    | ins C fs => cases h
    | gone => cases h
    | lst ds => cases h; rfl
theorem sq_get {K : KF} {m : Mp} {G H : Hp} {Ω : Om} {d : DV} {ds : List DV} {v : V} (c : Core K m G Ω H) (r : RV K m G Ω.length d v) (h : sq Ω d = some ds) :
    ∃ a vs, v = .ref a ∧ (SqL K H a vs ∨ SqT K H a vs) ∧ Paired (RV K m G Ω.length) ds vs := by
  cases d with
  | v y => cases h
  | e _ _ _ _ => cases h
  | o i =>
    have e := sq_o h
    obtain ⟨_, vs, hv, rp⟩ := c.fr i _ e (by intro z; cases z)
    obtain ⟨hi, rfl⟩ := r
    exact ⟨m i, vs, rfl, .inl (sq_of hv), rp⟩
  | d y =>
    cases y with
    | tuple xs =>
      cases h
      cases r with
      | tup hs ha => exact ⟨_, _, rfl, .inr (ex_t c.ex hs), of_dps ha⟩
    | list xs =>
      cases h
      cases r with
      | lst hs ha => exact ⟨_, _, rfl, .inl (ex_l c.ex hs), of_dps ha⟩
    | none => cases h
    | bool b => cases h
    | int b => cases h
    | str b => cases h
    | dict b => cases h
theorem Paired.getL {α β : Type} {F : α → β → Prop} : ∀ {xs : List α} {ys : List β} {i : Nat} {x : α}, Paired F xs ys → xs[i]? = some x → ∃ y, ys[i]? = some y ∧ F x y
  | _, _, _, _, .nil, e => by simp at e
  | _, _, 0, _, .cons r _, e => by simp at e; subst e; exact ⟨_, rfl, r⟩
  | _, _, i + 1, x, .cons _ t, e => by
    obtain ⟨u, h1, h2⟩ := Paired.getL (i := i) (x := x) t (by simpa using e)
    exact ⟨u, by simpa using h1, h2⟩
theorem Paired.getR {α β : Type} {F : α → β → Prop} : ∀ {xs : List α} {ys : List β} {i : Nat} {y : β}, Paired F xs ys → ys[i]? = some y → ∃ x, xs[i]? = some x ∧ F x y
  | _, _, _, _, .nil, e => by simp at e
  | _, _, 0, _, .cons r _, e => by simp at e; subst e; exact ⟨_, rfl, r⟩
  | _, _, i + 1, x, .cons _ t, e => by
    obtain ⟨u, h1, h2⟩ := Paired.getR (i := i) t (by simpa using e)
    exact ⟨u, by simpa using h1, h2⟩
theorem Paired.app {α β : Type} {F : α → β → Prop} : ∀ {a c : List α} {b d : List β}, Paired F a b → Paired F c d → Paired F (a ++ c) (b ++ d)
  | _, _, _, _, .nil, s => s
  | _, _, _, _, .cons r t, s => .cons r (Paired.app t s)
theorem Paired.setP {α β : Type} {F : α → β → Prop} {x : α} {y : β} (r : F x y) : ∀ {xs : List α} {ys : List β} (i : Nat), Paired F xs ys → Paired F (xs.set i x) (ys.set i y)
  | _, _, _, .nil => .nil
  | _, _, 0, .cons _ t => .cons r t
  | _, _, i + 1, .cons q t => .cons q (Paired.setP r i t)
theorem Paired.takeP {α β : Type} {F : α → β → Prop} : ∀ {xs : List α} {ys : List β} (n : Nat), Paired F xs ys → Paired F (xs.take n) (ys.take n)
  | _, _, 0, _ => .nil
  | _, _, _ + 1, .nil => .nil
  | _, _, n + 1, .cons r t => .cons r (Paired.takeP n t)
theorem Paired.dropP {α β : Type} {F : α → β → Prop} : ∀ {xs : List α} {ys : List β} (n : Nat), Paired F xs ys → Paired F (xs.drop n) (ys.drop n)
  | _, _, 0, r => r
  | _, _, _ + 1, .nil => .nil
  | _, _, n + 1, .cons _ t => Paired.dropP n t
section
variable {K : KF} {W : WX} {Γ : Gm} {Ω : Om} {R : DV → Om → Prop} {X : Exc → Om → Prop} {ta tb te : TE} {tt tu : TT} {tl tr : TA} {r : R2} {d : DV} {S : List DV → Om → Prop} {B : Bool → Om → Prop}
theorem we_var {i : Nat} (h : Γ[i]? = some (some d)) (q : R d Ω) : WE K W (tVar i) Γ Ω R X := fun m G H σ Q c s k x =>
  let ⟨v, e, rv⟩ := s.at_ i d h
  ⟨v, e, k _ _ _ _ _ _ c (Nxt.refl ..) (Nat.le_refl _) rv q⟩
theorem we_int {i : Int} (q : R (.d (.int i)) Ω) : WE K W (tC (.int i)) Γ Ω R X := fun m G H σ Q c s k x => k _ _ _ _ (.d (.int i)) _ c (Nxt.refl ..) (Nat.le_refl _) (Dp.int i) q
theorem we_bl {b : Bool} (q : R (.d (.bool b)) Ω) : WE K W (tC (.bl b)) Γ Ω R X := fun m G H σ Q c s k x => k _ _ _ _ (.d (.bool b)) _ c (Nxt.refl ..) (Nat.le_refl _) (Dp.bl b) q
theorem we_str {b : Str} (q : R (.d (.str b)) Ω) : WE K W (tC (.str b)) Γ Ω R X := fun m G H σ Q c s k x => k _ _ _ _ (.d (.str b)) _ c (Nxt.refl ..) (Nat.le_refl _) (Dp.str b) q
theorem we_non (q : R (.d .none) Ω) : WE K W (tC .non) Γ Ω R X := fun m G H σ Q c s k x => k _ _ _ _ (.d .none) _ c (Nxt.refl ..) (Nat.le_refl _) Dp.non q
theorem we_ty {b : String} (q : R (.v (.ty b)) Ω) : WE K W (tC (.ty b)) Γ Ω R X := fun m G H σ Q c s k x => k _ _ _ _ (.v (.ty b)) _ c (Nxt.refl ..) (Nat.le_refl _) rfl q
theorem we_ref {a : Addr} (q : R (.v (.ref a)) Ω) : WE K W (tC (.ref a)) Γ Ω R X := fun m G H σ Q c s k x => k _ _ _ _ (.v (.ref a)) _ c (Nxt.refl ..) (Nat.le_refl _) rfl q
/-- a constant of the module -/
theorem we_g {v : V} {y : PyData} (h : ∀ G, Dp K G v y) (q : R (.d y) Ω) : WE K W (tC v) Γ Ω R X := fun m G H σ Q c s k x => k _ _ _ _ (.d y) _ c (Nxt.refl ..) (Nat.le_refl _) (h _) q
theorem we_op (h : WE K W ta Γ Ω (fun x Ω1 => WE K W tb Γ Ω1 (fun y Ω2 => WR K r x y Ω2 R) X) X) : WE K W (tOp r ta tb) Γ Ω R X := fun m G H σ Q c s k x =>
  h m G H σ _ c s (fun m1 G1 Ω1 H1 d1 v1 c1 n1 l1 r1 h1 => h1 m1 G1 H1 σ _ c1 (s.mono n1 l1) (fun m2 G2 Ω2 H2 d2 v2 c2 n2 l2 r2 h2 =>
    h2 m2 G2 H2 v1 v2 Q c2 (RV.mono n2 l2 r1) r2 (k.on (n1.trans l1 n2) (Nat.le_trans l1 l2))) (x.on n1 l1)) x
theorem we_un {r : V → Hp → VK → Prop} (h : WE K W ta Γ Ω (fun x Ω1 => WU K r x Ω1 R) X) : WE K W (tUn r ta) Γ Ω R X := fun m G H σ Q c s k x =>
  h m G H σ _ c s (fun m1 G1 Ω1 H1 d1 v1 c1 n1 l1 r1 h1 => h1 m1 G1 H1 v1 Q c1 r1 (k.on n1 l1)) x
theorem we_if (h : WT K W tt Γ Ω (fun b Ω1 => (b = true → WE K W ta Γ Ω1 R X) ∧ (b = false → WE K W tb Γ Ω1 R X)) X) : WE K W (tIf tt ta tb) Γ Ω R X := fun m G H σ Q c s k x =>
  h m G H σ _ c s (fun m1 G1 Ω1 H1 b c1 n1 l1 h1 => by
    cases b with
    | true => exact (h1.1 rfl) m1 G1 H1 σ Q c1 (s.mono n1 l1) (k.on n1 l1) (x.on n1 l1)
    | false => exact (h1.2 rfl) m1 G1 H1 σ Q c1 (s.mono n1 l1) (k.on n1 l1) (x.on n1 l1)) x
theorem wa_nil (q : S [] Ω) : WA K W tNil Γ Ω S X := fun m G H σ Q c s k x => k _ _ _ _ [] _ c (Nxt.refl ..) (Nat.le_refl _) .nil q
theorem wa_cons (h : WE K W ta Γ Ω (fun y Ω1 => WA K W tr Γ Ω1 (fun ys Ω2 => S (y :: ys) Ω2) X) X) : WA K W (tCons ta tr) Γ Ω S X := fun m G H σ Q c s k x =>
  h m G H σ _ c s (fun m1 G1 Ω1 H1 d1 v1 c1 n1 l1 r1 h1 => h1 m1 G1 H1 σ _ c1 (s.mono n1 l1) (fun m2 G2 Ω2 H2 ds vs c2 n2 l2 r2 h2 =>
    k m2 G2 Ω2 H2 _ _ c2 (n1.trans l1 n2) (Nat.le_trans l1 l2) (.cons (RV.mono n2 l2 r1) r2) h2) (x.on n1 l1)) x
theorem we_tup (h : WA K W tl Γ Ω (fun ds Ω1 => ∃ xs, asDs ds = some xs ∧ xs.length ≤ 100000 ∧ R (.d (.tuple xs)) Ω1) X) : WE K W (tTup tl) Γ Ω R X := fun m G H σ Q c s k x =>
  h m G H σ _ c s (fun m1 G1 Ω1 H1 ds vs c1 n1 l1 r1 ⟨xs, e, hl, q⟩ => by
    have hlen := Paired.length r1
    rw [asDs_eq e] at r1 hlen
    rw [List.length_map] at hlen
    refine ⟨sz_of (by rw [← hlen]; exact hl), fun p hp => ?_⟩
    obtain ⟨c2, n2⟩ := c1.frz hp (.tup vs)
    exact k _ _ _ _ (.d (.tuple xs)) _ c2 (n1.trans l1 n2) l1 (.tup (st_of upd_same) (dps_ex n2.gg _ _ (dps_of r1))) q) x
/-- a list that nobody changes -/
theorem we_lstD (h : WA K W tl Γ Ω (fun ds Ω1 => ∃ xs, asDs ds = some xs ∧ xs.length ≤ 100000 ∧ R (.d (.list xs)) Ω1) X) : WE K W (tLst tl) Γ Ω R X := fun m G H σ Q c s k x =>
  h m G H σ _ c s (fun m1 G1 Ω1 H1 ds vs c1 n1 l1 r1 ⟨xs, e, hl, q⟩ => by
    have hlen := Paired.length r1
    rw [asDs_eq e] at r1 hlen
    rw [List.length_map] at hlen
    refine ⟨sz_of (by rw [← hlen]; exact hl), fun p hp => ?_⟩
    obtain ⟨c2, n2⟩ := c1.frz hp (.lst vs)
    exact k _ _ _ _ (.d (.list xs)) _ c2 (n1.trans l1 n2) l1 (.lst (sq_of upd_same) (dps_ex n2.gg _ _ (dps_of r1))) q) x
/-- a list of one's own -/
theorem we_lstO (h : WA K W tl Γ Ω (fun ds Ω1 => ds.length ≤ 100000 ∧ R (.o Ω1.length) (Ω1 ++ [.lst ds])) X) : WE K W (tLst tl) Γ Ω R X := fun m G H σ Q c s k x =>
  h m G H σ _ c s (fun m1 G1 Ω1 H1 ds vs c1 n1 l1 r1 ⟨hl, q⟩ => by
    have hlen := Paired.length r1
    refine ⟨sz_of (by rw [← hlen]; exact hl), fun p hp => ?_⟩
    obtain ⟨m2, c2, n2, e2⟩ := c1.own (x := .lst ds) (o := .lst vs) hp ⟨vs, upd_same, r1⟩
    have le : Ω1.length ≤ (Ω1 ++ [OC.lst ds]).length := by simp
    exact k _ _ _ _ (.o Ω1.length) _ c2 (n1.trans l1 n2) (Nat.le_trans l1 le) ⟨by simp, by rw [e2]⟩ q) x
theorem we_cb {r : List V → Hp → VK → Prop} (h : WA K W tl Γ Ω (fun ds Ω1 => WC K r ds Ω1 R) X) : WE K W (tCB r tl) Γ Ω R X := fun m G H σ Q c s k x =>
  h m G H σ _ c s (fun m1 G1 Ω1 H1 ds vs c1 n1 l1 r1 h1 => h1 m1 G1 H1 vs Q c1 r1 (k.on n1 l1)) x
theorem wt_test (h : WE K W te Γ Ω (fun y Ω1 => ∃ b, y = .d (.bool b) ∧ B b Ω1) X) : WT K W (tTest te) Γ Ω B X := fun m G H σ Q c s k x =>
  h m G H σ _ c s (fun m1 G1 Ω1 H1 d1 v1 c1 n1 l1 r1 ⟨b, e, q⟩ => by
    subst e
    cases r1
    exact ⟨b, rfl, k _ _ _ _ _ c1 n1 l1 q⟩) x
theorem wt_B (h : WE K W te Γ Ω (fun y Ω1 => ∃ b, y = .d (.bool b) ∧ B b Ω1) X) : WT K W (tB te) Γ Ω B X := fun m G H σ Q c s k x =>
  h m G H σ _ c s (fun m1 G1 Ω1 H1 d1 v1 c1 n1 l1 r1 ⟨b, e, q⟩ => by
    subst e
    cases r1
    exact ⟨b, rfl, k _ _ _ _ _ c1 n1 l1 q⟩) x
theorem wt_and (h : WT K W tt Γ Ω (fun b Ω1 => (b = true → WT K W tu Γ Ω1 B X) ∧ (b = false → B false Ω1)) X) : WT K W (tAnd tt tu) Γ Ω B X := fun m G H σ Q c s k x =>
  h m G H σ _ c s (fun m1 G1 Ω1 H1 b c1 n1 l1 h1 => by
    cases b with
    | true => exact (h1.1 rfl) m1 G1 H1 σ Q c1 (s.mono n1 l1) (k.on n1 l1) (x.on n1 l1)
    | false => exact k _ _ _ _ _ c1 n1 l1 (h1.2 rfl)) x
theorem wt_or (h : WT K W tt Γ Ω (fun b Ω1 => (b = true → B true Ω1) ∧ (b = false → WT K W tu Γ Ω1 B X)) X) : WT K W (tOr tt tu) Γ Ω B X := fun m G H σ Q c s k x =>
  h m G H σ _ c s (fun m1 G1 Ω1 H1 b c1 n1 l1 h1 => by
    cases b with
    | true => exact k _ _ _ _ _ c1 n1 l1 (h1.1 rfl)
    | false => exact (h1.2 rfl) m1 G1 H1 σ Q c1 (s.mono n1 l1) (k.on n1 l1) (x.on n1 l1)) x
theorem wt_not (h : WT K W tt Γ Ω (fun b Ω1 => B (!b) Ω1) X) : WT K W (tNot tt) Γ Ω B X := fun m G H σ Q c s k x =>
  h m G H σ _ c s (fun m1 G1 Ω1 H1 b c1 n1 l1 h1 => k _ _ _ _ _ c1 n1 l1 h1) x
theorem we_andV (h : WE K W ta Γ Ω (fun y Ω1 => ∃ b, y = .d (.bool b) ∧ (b = true → WE K W tb Γ Ω1 R X) ∧ (b = false → R (.d (.bool false)) Ω1)) X) : WE K W (tAndV ta tb) Γ Ω R X := fun m G H σ Q c s k x =>
  h m G H σ _ c s (fun m1 G1 Ω1 H1 d1 v1 c1 n1 l1 r1 ⟨b, e, h1⟩ => by
    subst e
    cases r1
    refine ⟨b, rfl, ?_⟩
    cases b with
    | true => exact (h1.1 rfl) m1 G1 H1 σ Q c1 (s.mono n1 l1) (k.on n1 l1) (x.on n1 l1)
    | false => exact k _ _ _ _ (.d (.bool false)) _ c1 n1 l1 (Dp.bl false) (h1.2 rfl)) x
theorem we_orV (h : WE K W ta Γ Ω (fun y Ω1 => ∃ b, y = .d (.bool b) ∧ (b = true → R (.d (.bool true)) Ω1) ∧ (b = false → WE K W tb Γ Ω1 R X)) X) : WE K W (tOrV ta tb) Γ Ω R X := fun m G H σ Q c s k x =>
  h m G H σ _ c s (fun m1 G1 Ω1 H1 d1 v1 c1 n1 l1 r1 ⟨b, e, h1⟩ => by
    subst e
    cases r1
    refine ⟨b, rfl, ?_⟩
    cases b with
    | true => exact k _ _ _ _ (.d (.bool true)) _ c1 n1 l1 (Dp.bl true) (h1.1 rfl)
    | false => exact (h1.2 rfl) m1 G1 H1 σ Q c1 (s.mono n1 l1) (k.on n1 l1) (x.on n1 l1)) x
theorem we_notV (h : WE K W ta Γ Ω (fun y Ω1 => ∃ b, y = .d (.bool b) ∧ R (.d (.bool (!b))) Ω1) X) : WE K W (tNotV ta) Γ Ω R X := fun m G H σ Q c s k x =>
  h m G H σ _ c s (fun m1 G1 Ω1 H1 d1 v1 c1 n1 l1 r1 ⟨b, e, h1⟩ => by
    subst e
    cases r1
    exact ⟨b, rfl, k _ _ _ _ (.d (.bool (!b))) _ c1 n1 l1 (Dp.bl (!b)) h1⟩) x
/-! calls -/
abbrev Spec := List DV → Om → (DV → Om → Prop) → (Exc → Om → Prop) → Prop
def FS (K : KF) (spec : Spec) : Sp := fun vs H Q E => ∃ m G Ω ds R X, Core K m G Ω H ∧ Paired (RV K m G Ω.length) ds vs ∧ spec ds Ω R X ∧ QOk K m G Ω.length R Q ∧ XOk K m G Ω.length X E
theorem we_call {spec : Spec} (h : WA K W tl Γ Ω (fun ds Ω1 => spec ds Ω1 R (fun _ _ => False)) X) : WE K W (tCall (FS K spec) [] E0 tl) Γ Ω R X := fun m G H σ Q c s k x =>
  h m G H σ _ c s (fun m1 G1 Ω1 H1 ds vs c1 n1 l1 r1 h1 => by
    show FS K spec (vs ++ []) H1 Q E0
    rw [List.append_nil]
    exact ⟨m1, G1, Ω1, ds, R, _, c1, r1, h1, k.on n1 l1, fun _ _ _ _ _ _ _ _ _ _ _ z => z⟩) x
/-- with defaults -/
theorem we_callD {spec : Spec} {dvs : List V} {xs : List PyData} (hx : ∀ G, DpAll K G dvs xs) (h : WA K W tl Γ Ω (fun ds Ω1 => spec (ds ++ xs.map DV.d) Ω1 R (fun _ _ => False)) X) : WE K W (tCall (FS K spec) dvs E0 tl) Γ Ω R X := fun m G H σ Q c s k x =>
  h m G H σ _ c s (fun m1 G1 Ω1 H1 ds vs c1 n1 l1 r1 h1 =>
    ⟨m1, G1, Ω1, ds ++ xs.map DV.d, R, _, c1, Paired.app r1 (of_dps (hx G1)), h1, k.on n1 l1, fun _ _ _ _ _ _ _ _ _ _ _ z => z⟩) x
theorem we_callS {spec : Spec} (h : WA K W tl Γ Ω (fun ds Ω1 => spec ds Ω1 R X) X) : WE K W (tCallS (FS K spec) (L2.WE W) tl) Γ Ω R X := fun m G H σ Q c s k x =>
  h m G H σ _ c s (fun m1 G1 Ω1 H1 ds vs c1 n1 l1 r1 h1 => ⟨m1, G1, Ω1, ds, R, X, c1, r1, h1, k.on n1 l1, x.on n1 l1⟩) x
/-! targets -/
theorem wg_name {i : Nat} {S : Gm → Om → Prop} {y : DV} (q : S (Γ.set i (some y)) Ω) : WG K (gName i) y Γ Ω S := fun m G H σ v Q c s r k => k _ _ _ _ _ _ c (Nxt.refl ..) (Nat.le_refl _) (s.set i r) q
theorem wgs_nil {S : Gm → Om → Prop} (q : S Γ Ω) : WGs K gNil [] Γ Ω S := fun m G H σ vs Q c s r k => by
  cases r
  exact ⟨rfl, k _ _ _ _ _ _ c (Nxt.refl ..) (Nat.le_refl _) s q⟩
theorem wgs_cons {S : Gm → Om → Prop} {g : TG} {gs : TGs} {y : DV} {ys : List DV} (h : WG K g y Γ Ω (fun Γ1 Ω1 => WGs K gs ys Γ1 Ω1 S)) : WGs K (gCons g gs) (y :: ys) Γ Ω S := fun m G H σ vs Q c s r k => by
  cases r with
  | cons r1 rs => exact ⟨_, _, rfl, h m G H σ _ _ c s r1 fun m1 G1 Ω1 H1 Γ1 σ1 c1 n1 l1 s1 h1 => h1 m1 G1 H1 σ1 _ _ c1 s1 (RVs.mono n1 l1 rs) (k.on n1 l1)⟩
theorem wg_tup {n : Nat} {S : Gm → Om → Prop} {gs : TGs} {xs : List PyData} (hl : xs.length = n) (h : WGs K gs (xs.map DV.d) Γ Ω S) : WG K (gTup K n gs) (.d (.tuple xs)) Γ Ω S := fun m G H σ v Q c s r k => by
  cases r with
  | tup hs ha =>
    have ra := of_dps (m := m) (n := Ω.length) ha
    have e := Paired.length ra
    rw [List.length_map] at e
    exact ⟨_, _, rfl, ex_t c.ex hs, e.symm.trans hl, h m G H σ _ _ c s ra k⟩
/-! statements -/
variable {O : Outs} {ts tv tw : TS} {g : TG}
theorem ws_next (q : O.nx Γ Ω) : WS K W tNext Γ Ω O := fun m G H σ D c s k1 k2 k3 k4 z => k1 _ _ _ _ _ _ c (Nxt.refl ..) (Nat.le_refl _) s q
theorem ws_break (q : O.bk Γ Ω) : WS K W tBreak Γ Ω O := fun m G H σ D c s k1 k2 k3 k4 z => k3 _ _ _ _ _ _ c (Nxt.refl ..) (Nat.le_refl _) s q
theorem ws_cont (q : O.ct Γ Ω) : WS K W tCont Γ Ω O := fun m G H σ D c s k1 k2 k3 k4 z => k4 _ _ _ _ _ _ c (Nxt.refl ..) (Nat.le_refl _) s q
theorem ws_seq (h : WS K W tv Γ Ω { O with nx := fun Γ1 Ω1 => WS K W tw Γ1 Ω1 O }) : WS K W (tSeq tv tw) Γ Ω O := fun m G H σ D c s k1 k2 k3 k4 z =>
  h m G H σ { D with nx := tw D } c s (fun m1 G1 Ω1 H1 Γ1 σ1 c1 n1 l1 s1 h1 => h1 m1 G1 H1 σ1 D c1 s1 (k1.on n1 l1) (k2.on n1 l1) (k3.on n1 l1) (k4.on n1 l1) (z.on n1 l1)) k2 k3 k4 z
/-- an exception at the slots as they stand -/
theorem xok_of {m : Mp} {G : Hp} {n : Nat} {Z : Gm → Exc → Om → Prop} {σ : L2.St} (z : ZOk K m G n Z W) (s : Slots K m G n Γ σ) : XOk K m G n (fun e Ω1 => Z Γ e Ω1) (fun c d H' => W c d σ H') := fun m1 G1 Ω1 H1 e c d c1 n1 l1 r1 h1 =>
  z m1 G1 Ω1 H1 Γ σ e c d c1 n1 l1 (s.mono n1 l1) r1 h1
theorem ws_asg (h : WE K W te Γ Ω (fun y Ω1 => WG K g y Γ Ω1 O.nx) (fun e Ω1 => O.er Γ e Ω1)) : WS K W (tAsg te g) Γ Ω O := fun m G H σ D c s k1 k2 k3 k4 z =>
  h m G H σ _ c s (fun m1 G1 Ω1 H1 d1 v1 c1 n1 l1 r1 h1 => h1 m1 G1 H1 σ v1 _ c1 (s.mono n1 l1) r1 (k1.on n1 l1)) (xok_of z s)
theorem ws_par {i j : Nat} (h : WA K W tl Γ Ω (fun ys Ω1 => ∃ y y', ys = [y, y'] ∧ O.nx ((Γ.set i (some y)).set j (some y')) Ω1) (fun e Ω1 => O.er Γ e Ω1)) : WS K W (tPar i j tl) Γ Ω O := fun m G H σ D c s k1 k2 k3 k4 z =>
  h m G H σ _ c s (fun m1 G1 Ω1 H1 ds vs c1 n1 l1 r1 ⟨y, y', e, q⟩ => by
    subst e
    cases r1 with
    | cons ra rb => cases rb with
      | cons rb rc =>
        cases rc
        exact ⟨_, _, rfl, k1 _ _ _ _ _ _ c1 n1 l1 (((s.mono n1 l1).set i ra).set j rb) q⟩) (xok_of z s)
theorem ws_if (h : WT K W tt Γ Ω (fun b Ω1 => (b = true → WS K W tv Γ Ω1 O) ∧ (b = false → WS K W tw Γ Ω1 O)) (fun e Ω1 => O.er Γ e Ω1)) : WS K W (tIfS tt tv tw) Γ Ω O := fun m G H σ D c s k1 k2 k3 k4 z =>
  h m G H σ _ c s (fun m1 G1 Ω1 H1 b c1 n1 l1 h1 => by
    cases b with
    | true => exact (h1.1 rfl) m1 G1 H1 σ D c1 (s.mono n1 l1) (k1.on n1 l1) (k2.on n1 l1) (k3.on n1 l1) (k4.on n1 l1) (z.on n1 l1)
    | false => exact (h1.2 rfl) m1 G1 H1 σ D c1 (s.mono n1 l1) (k1.on n1 l1) (k2.on n1 l1) (k3.on n1 l1) (k4.on n1 l1) (z.on n1 l1)) (xok_of z s)
theorem ws_ret (h : WE K W te Γ Ω O.rt (fun e Ω1 => O.er Γ e Ω1)) : WS K W (tRet te) Γ Ω O := fun m G H σ D c s k1 k2 k3 k4 z => h m G H σ _ c s k2 (xok_of z s)
theorem ws_retN (q : O.rt (.d .none) Ω) : WS K W tRetN Γ Ω O := fun m G H σ D c s k1 k2 k3 k4 z => k2 _ _ _ _ (.d .none) _ c (Nxt.refl ..) (Nat.le_refl _) Dp.non q
theorem ws_drop (h : WE K W te Γ Ω (fun _ Ω1 => O.nx Γ Ω1) (fun e Ω1 => O.er Γ e Ω1)) : WS K W (tDrop te) Γ Ω O := fun m G H σ D c s k1 k2 k3 k4 z =>
  h m G H σ _ c s (fun m1 G1 Ω1 H1 d1 v1 c1 n1 l1 r1 h1 => k1 _ _ _ _ _ _ c1 n1 l1 (s.mono n1 l1) h1) (xok_of z s)
theorem ws_while (P : Nat → Gm → Om → Prop) (n0 : Nat) (h0 : P n0 Γ Ω)
    (hs : ∀ n Γ1 Ω1, Ω.length ≤ Ω1.length → P n Γ1 Ω1 → WT K W tt Γ1 Ω1 (fun b Ω2 => (b = true → WS K W tv Γ1 Ω2 { nx := fun Γ3 Ω3 => ∃ k, k < n ∧ P k Γ3 Ω3, ct := fun Γ3 Ω3 => ∃ k, k < n ∧ P k Γ3 Ω3, bk := O.nx, rt := O.rt, er := O.er }) ∧ (b = false → O.nx Γ1 Ω2)) (fun e Ω2 => O.er Γ1 e Ω2)) :
    WS K W (tWhile tt tv) Γ Ω O := fun m G H σ D c s k1 k2 k3 k4 z => by
  refine ⟨fun n σ' H' => ∃ m' G' Ω' Γ', Core K m' G' Ω' H' ∧ Nxt m Ω.length G m' G' ∧ Ω.length ≤ Ω'.length ∧ Slots K m' G' Ω'.length Γ' σ' ∧ P n Γ' Ω', ⟨n0, m, G, Ω, Γ, c, Nxt.refl .., Nat.le_refl _, s, h0⟩, ?_⟩
  rintro n σ1 H1 ⟨m1, G1, Ω1, Γ1, c1, n1, l1, s1, p1⟩
  refine hs n Γ1 Ω1 l1 p1 m1 G1 H1 σ1 _ c1 s1 (fun m2 G2 Ω2 H2 b c2 n2 l2 h2 => ?_) (xok_of (z.on n1 l1) s1)
  have n12 := n1.trans l1 n2
  have l12 := Nat.le_trans l1 l2
  cases b with
  | false =>
    rw [if_neg Bool.false_ne_true]
    exact k1 _ _ _ _ _ _ c2 n12 l12 (s1.mono n2 l2) (h2.2 rfl)
  | true =>
    rw [if_pos rfl]
    refine ⟨fun σ' H' => ∃ k, k < n ∧ ∃ m' G' Ω' Γ', Core K m' G' Ω' H' ∧ Nxt m Ω.length G m' G' ∧ Ω.length ≤ Ω'.length ∧ Slots K m' G' Ω'.length Γ' σ' ∧ P k Γ' Ω', fun σ' H' ⟨k, hk, q⟩ => ⟨k, hk, q⟩, ?_⟩
    have again : SOk K m2 G2 Ω2.length (fun Γ3 Ω3 => ∃ k, k < n ∧ P k Γ3 Ω3) (fun σ' H' => ∃ k, k < n ∧ ∃ m' G' Ω' Γ', Core K m' G' Ω' H' ∧ Nxt m Ω.length G m' G' ∧ Ω.length ≤ Ω'.length ∧ Slots K m' G' Ω'.length Γ' σ' ∧ P k Γ' Ω') := fun m3 G3 Ω3 H3 Γ3 σ3 c3 n3 l3 s3 ⟨k, hk, p3⟩ =>
      ⟨k, hk, m3, G3, Ω3, Γ3, c3, n12.trans l12 n3, Nat.le_trans l12 l3, s3, p3⟩
    exact (h2.1 rfl) m2 G2 H2 σ1 { D with nx := _, ct := _, bk := D.nx } c2 (s1.mono n2 l2) again (k2.on n12 l12) (k1.on n12 l12) again (z.on n12 l12)
end
end HL
namespace HL
open PySem PySem.Spec PyProof.Rows L2 Evl
/-! more operators -/
def CDivX (_ j : Int) : Prop := j ≠ 0 ∧ j.natAbs.log2 < 9000
section
variable {X : Cx}
theorem op_fdivX : OpR X (binaryOp .FloorDiv) (rI CDivX fun i j => .int (i.fdiv j)) := opI fun _ _ _ _ _ _ _ hc q => floordiv_int hc.1 q (.inl (PyProof.noPylong_of_log2 hc.2))
def rCatS (K : KF) : R2 := fun x y H Q => ∃ l b xs zs, x = .ref l ∧ y = .ref b ∧ SqL K H l xs ∧ SqL K H b zs ∧ xs.length + zs.length ≤ sizeLine ∧ ∀ p, H p = none → Q (.ref p) (upd H p (.lst (xs ++ zs)))
theorem op_catS : OpR X (binaryOp .Add) (rCatS X.K) := by
  intro pins s σ H x y v u Q I rx ry h
  obtain ⟨l, b, xs, zs, rfl, rfl, hl, hb, hz, q⟩ := h
  cases rx
  cases ry
  obtain ⟨its, r1, p1, _⟩ := I.list hl
  obtain ⟨its2, r2, p2, _⟩ := I.list hb
  obtain ⟨⟨cls, dd, data, sl⟩, ho, hc, n, hd⟩ := p1.isList
  obtain ⟨⟨cls2, dd2, data2, sl2⟩, ho2, hc2, n2, hd2⟩ := p2.isList
  simp only at hc hd hc2 hd2
  subst hc hd hc2 hd2
  have e : its.toArray ++ its2.toArray = (its ++ its2).toArray := by simp
  have l1 := r1.length
  have l2 := r2.length
  refine concat_meets ⟨_, ho, rfl⟩ ⟨_, ho2, rfl⟩ PySem.noFill_list_add PySem.seq_list_add PySem.F.slot_list_add PySem.F.entry_list_add (PySem.F.args_list_add_2 _ _) (list_addW l b its.toArray its2.toArray n n2 dd dd2 sl sl2 (by simp only [List.size_toArray]; omega)) ⟨ho, ho2, ?_⟩
  rw [e]
  exact ⟨.ref _, _, I.lnew (t' := s.toks) (r1.append r2) (by rw [List.length_append]; omega), rfl, q _ I.fresh⟩
/-- x + y of numbers, texts, lists, tuples -/
def rAddX (K : KF) : R2 := fun x y H Q => rI0 (fun i j => .int (i + j)) x y H Q ∨ (∃ i j, x = .str i ∧ y = .str j ∧ i.length + j.length ≤ sizeLine ∧ Q (.str (i ++ j)) H) ∨ rCatS K x y H Q ∨ rCatA K x y H Q
theorem op_addX : OpR X (binaryOp .Add) (rAddX X.K) := fun pins s σ H x y v u Q I rx ry h =>
  h.elim (fun h => op_add pins s σ H x y v u Q I rx ry h) fun h => h.elim (fun h => op_add_str pins s σ H x y v u Q I rx ry h) fun h => h.elim (fun h => op_catS pins s σ H x y v u Q I rx ry h) fun h => op_catA pins s σ H x y v u Q I rx ry h
def rSlS (K : KF) : V → Option Int → Option Int → Hp → VK → Prop := fun x lo hi H Q => rSlL K x lo hi H Q ∨ rSlA K x lo hi H Q
theorem sl_seq : SlR X (rSlS X.K) := fun pins s σ H x v vl vu lo hi sl Q I rx hs pl pu h =>
  h.elim (fun h => sl_list pins s σ H x v vl vu lo hi sl Q I rx hs pl pu h) fun h => sl_tupA pins s σ H x v vl vu lo hi sl Q I rx hs pl pu h
/-- a walked list or tuple -/
def iSeq (K : KF) (tl : TE) : TI := fun σ H R => tl σ H fun x H1 => ∃ a, x = .ref a ∧ (((∃ xs, SqL K H1 a xs) ∧ R (Itl K a) H1) ∨ ((∃ xs, SqT K H1 a xs) ∧ R (Itt K a) H1))
theorem pi_seq {tg : Expr} {l : Expr} {tl : TE} (hl : PE X l tl) : PI X tg l (iSeq X.K tl) := by
  refine ⟨fun pins s σ H R I h => ?_⟩
  refine thn (hl.run pins s σ H _ I h) fun v s1 ⟨x, H1, I1, r1, q1⟩ => ?_
  obtain ⟨a, e, q1⟩ := q1
  subst e
  cases r1
  rcases q1 with ⟨⟨xs, hq⟩, q⟩ | ⟨⟨xs, hq⟩, q⟩
  · obtain ⟨its, rv, p, hz⟩ := I1.list hq
    refine wpAny_pyIter_list p.isList ?_
    refine ⟨s1.heap.objs.size, [s1.heap.objs.size], _, _, H1, rfl, I1.kept (t' := s1.toks) fun b o e => Heap.get?_push_of_some _ e, turn_list a _, ⟨_, Heap.get?_push_size _ rfl, rfl, rfl⟩, fun b hb => ?_, q⟩
    have e : b = s1.heap.objs.size := by simpa using hb
    subst e
    exact I1.fpOk (Nat.le_refl _) (I1.hok.fresh (Nat.le_refl _))
  · obtain ⟨its, rv, p, hz⟩ := I1.tuple hq
    refine wpAny_pyIter_tuple (show s1.heap.IsTuple a its.toArray from p) ?_
    refine ⟨s1.heap.objs.size, [s1.heap.objs.size], _, _, H1, rfl, I1.kept (t' := s1.toks) fun b o e => Heap.get?_push_of_some _ e, turn_tuple a _, ⟨_, Heap.get?_push_size _ rfl, rfl, rfl⟩, fun b hb => ?_, q⟩
    have e : b = s1.heap.objs.size := by simpa using hb
    subst e
    exact I1.fpOk (Nat.le_refl _) (I1.hok.fresh (Nat.le_refl _))
end
section
variable {K : KF} {W : WX} {Γ : Gm} {Ω : Om} {R : DV → Om → Prop} {X : Exc → Om → Prop}
/-! operators -/
theorem wr_I {C : Int → Int → Prop} {f : Int → Int → Int} {i j : Int} (hc : C i j) (q : R (.d (.int (f i j))) Ω) : WR K (rI C fun i j => .int (f i j)) (.d (.int i)) (.d (.int j)) Ω R := fun m G H v w Q c r1 r2 k => by
  cases r1; cases r2
  exact ⟨i, j, rfl, rfl, hc, k _ _ _ _ (.d (.int (f i j))) _ c (Nxt.refl ..) (Nat.le_refl _) (Dp.int _) q⟩
theorem wr_I0b {f : Int → Int → Bool} {i j : Int} (q : R (.d (.bool (f i j))) Ω) : WR K (rI0 fun i j => .bl (f i j)) (.d (.int i)) (.d (.int j)) Ω R := fun m G H v w Q c r1 r2 k => by
  cases r1; cases r2
  exact ⟨i, j, rfl, rfl, k _ _ _ _ (.d (.bool (f i j))) _ c (Nxt.refl ..) (Nat.le_refl _) (Dp.bl _) q⟩
theorem wr_I0 {f : Int → Int → Int} {i j : Int} (q : R (.d (.int (f i j))) Ω) : WR K (rI0 fun i j => .int (f i j)) (.d (.int i)) (.d (.int j)) Ω R := fun m G H v w Q c r1 r2 k => by
  cases r1; cases r2
  exact ⟨i, j, rfl, rfl, k _ _ _ _ (.d (.int (f i j))) _ c (Nxt.refl ..) (Nat.le_refl _) (Dp.int _) q⟩
theorem wr_addI {i j : Int} (q : R (.d (.int (i + j))) Ω) : WR K (rAddX K) (.d (.int i)) (.d (.int j)) Ω R := fun m G H v w Q c r1 r2 k => .inl (wr_I0 (f := fun i j => i + j) q m G H v w Q c r1 r2 k)
theorem wr_addS {i j : Str} (h : i.length + j.length ≤ 100000) (q : R (.d (.str (i ++ j))) Ω) : WR K (rAddX K) (.d (.str i)) (.d (.str j)) Ω R := fun m G H v w Q c r1 r2 k => by
  cases r1; cases r2
  exact .inr (.inl ⟨i, j, rfl, rfl, sz_of h, k _ _ _ _ (.d (.str (i ++ j))) _ c (Nxt.refl ..) (Nat.le_refl _) (Dp.str _) q⟩)
theorem dps_app {K : KF} {G : Hp} : ∀ {vs ws : List V} {xs ys : List PyData}, DpAll K G vs xs → DpAll K G ws ys → DpAll K G (vs ++ ws) (xs ++ ys)
  | [], _, [], _, .nil, h => h
  | _ :: _, _, _ :: _, _, .cons a b, h => .cons a (dps_app b h)
theorem dps_len {K : KF} {G : Hp} : ∀ {vs : List V} {xs : List PyData}, DpAll K G vs xs → vs.length = xs.length
  | [], [], .nil => rfl
  | _ :: _, _ :: _, .cons a b => congrArg Nat.succ (dps_len b)
/-! views with their parts of the frozen heap -/
def lsL (Ω : Om) : DV → Option (List PyData)
  | .d (.list xs) => some xs
  | .o i => (sqO Ω[i]?).bind asDs
  | _ => none
def lsT : DV → Option (List PyData)
  | .d (.tuple xs) => some xs
  | _ => none
def ls (Ω : Om) : DV → Option (List PyData)
  | .d (.list xs) => some xs
  | .d (.tuple xs) => some xs
  | .o i => (sqO Ω[i]?).bind asDs
  | _ => none
theorem lsL_get {m : Mp} {G H : Hp} {d : DV} {xs : List PyData} {v : V} (c : Core K m G Ω H) (r : RV K m G Ω.length d v) (h : lsL Ω d = some xs) : ∃ a vs, v = .ref a ∧ SqL K H a vs ∧ DpAll K G vs xs := by
  cases d with
  | v y => cases h
  | e _ _ _ _ => cases h
  | o i =>
    have h : (sqO Ω[i]?).bind asDs = some xs := h
    cases e : sqO Ω[i]? with
    | none => rw [e] at h; cases h
    | some ds =>
      rw [e] at h
      have e2 : Ω[i]? = some (.lst ds) := sq_o (Ω := Ω) e
      obtain ⟨_, vs, hv, rp⟩ := c.fr i _ e2 (by intro z; cases z)
      obtain ⟨hi, rfl⟩ := r
      rw [asDs_eq (ds := ds) (xs := xs) h] at rp
      exact ⟨m i, vs, rfl, sq_of hv, dps_of rp⟩
  | d y =>
    cases y with
    | list xs =>
      cases h
      cases r with
      | lst hs ha => exact ⟨_, _, rfl, ex_l c.ex hs, ha⟩
    | tuple xs => cases h
    | none => cases h
    | bool b => cases h
    | int b => cases h
    | str b => cases h
    | dict b => cases h
theorem lsT_get {m : Mp} {G H : Hp} {d : DV} {xs : List PyData} {v : V} (c : Core K m G Ω H) (r : RV K m G Ω.length d v) (h : lsT d = some xs) : ∃ a vs, v = .ref a ∧ SqT K G a vs ∧ DpAll K G vs xs := by
  cases d with
  | v y => cases h
  | e _ _ _ _ => cases h
  | o i => cases h
  | d y =>
    cases y with
    | tuple xs =>
      cases h
      cases r with
      | tup hs ha => exact ⟨_, _, rfl, hs, ha⟩
    | list xs => cases h
    | none => cases h
    | bool b => cases h
    | int b => cases h
    | str b => cases h
    | dict b => cases h
theorem ls_get {m : Mp} {G H : Hp} {d : DV} {xs : List PyData} {v : V} (c : Core K m G Ω H) (r : RV K m G Ω.length d v) (h : ls Ω d = some xs) : ∃ a vs, v = .ref a ∧ (SqL K H a vs ∨ SqT K G a vs) ∧ DpAll K G vs xs := by
  have go1 : lsL Ω d = some xs → ∃ a vs, v = .ref a ∧ (SqL K H a vs ∨ SqT K G a vs) ∧ DpAll K G vs xs := fun h => by
    obtain ⟨a, vs, e, q, p⟩ := lsL_get c r h
    exact ⟨a, vs, e, .inl q, p⟩
  have go2 : lsT d = some xs → ∃ a vs, v = .ref a ∧ (SqL K H a vs ∨ SqT K G a vs) ∧ DpAll K G vs xs := fun h => by
    obtain ⟨a, vs, e, q, p⟩ := lsT_get c r h
    exact ⟨a, vs, e, .inr q, p⟩
  cases d with
  | v y => cases h
  | e _ _ _ _ => cases h
  | o i => exact go1 h
  | d y =>
    cases y with
    | tuple xs => exact go2 h
    | list xs => exact go1 h
    | none => cases h
    | bool b => cases h
    | int b => cases h
    | str b => cases h
    | dict b => cases h
/-- list + list: a list that nobody changes -/
theorem wr_addL {x y : DV} {xs ys : List PyData} (hx : lsL Ω x = some xs) (hy : lsL Ω y = some ys) (h : xs.length + ys.length ≤ 100000) (q : R (.d (.list (xs ++ ys))) Ω) : WR K (rAddX K) x y Ω R := fun m G H v w Q c r1 r2 k => by
  obtain ⟨a, vs, rfl, s1, a1⟩ := lsL_get c r1 hx
  obtain ⟨b, ws, rfl, s2, a2⟩ := lsL_get c r2 hy
  refine .inr (.inr (.inl ⟨_, _, _, _, rfl, rfl, s1, s2, sz_of (by rw [dps_len a1, dps_len a2]; exact h), fun p hp => ?_⟩))
  obtain ⟨c2, n2⟩ := c.frz hp (.lst (vs ++ ws))
  exact k _ _ _ _ (.d (.list (xs ++ ys))) _ c2 n2 (Nat.le_refl _) (.lst (sq_of upd_same) (dps_ex n2.gg _ _ (dps_app a1 a2))) q
/-- .. of one's own -/
theorem wr_addLO {x y : DV} {xs ys : List PyData} (hx : lsL Ω x = some xs) (hy : lsL Ω y = some ys) (h : xs.length + ys.length ≤ 100000) (q : R (.o Ω.length) (Ω ++ [.lst ((xs ++ ys).map DV.d)])) : WR K (rAddX K) x y Ω R := fun m G H v w Q c r1 r2 k => by
  obtain ⟨a, vs, rfl, s1, a1⟩ := lsL_get c r1 hx
  obtain ⟨b, ws, rfl, s2, a2⟩ := lsL_get c r2 hy
  refine .inr (.inr (.inl ⟨_, _, _, _, rfl, rfl, s1, s2, sz_of (by rw [dps_len a1, dps_len a2]; exact h), fun p hp => ?_⟩))
  obtain ⟨m2, c2, n2, e2⟩ := c.own (x := .lst ((xs ++ ys).map DV.d)) (o := .lst (vs ++ ws)) hp ⟨_, upd_same, of_dps (dps_app a1 a2)⟩
  exact k _ _ _ _ (.o Ω.length) _ c2 n2 (by simp) ⟨by simp, by rw [e2]⟩ q
theorem dps_nil {K : KF} {G : Hp} {vs : List V} {xs : List PyData} (h : DpAll K G vs xs) : vs = [] ↔ xs = [] := by
  cases h with
  | nil => simp
  | cons a b => simp
theorem wr_addT {xs ys : List PyData} (h : xs.length + ys.length ≤ 100000) (q : R (.d (.tuple (xs ++ ys))) Ω) : WR K (rAddX K) (.d (.tuple xs)) (.d (.tuple ys)) Ω R := fun m G H v w Q c r1 r2 k => by
  obtain ⟨a, vs, rfl, s1, a1⟩ := lsT_get c r1 rfl
  obtain ⟨b, ws, rfl, s2, a2⟩ := lsT_get c r2 rfl
  refine .inr (.inr (.inr ⟨_, _, _, _, rfl, rfl, ex_t c.ex s1, ex_t c.ex s2, sz_of (by rw [dps_len a1, dps_len a2]; exact h), fun e => ?_, fun _ e => ?_, fun _ _ p hp => ?_⟩))
  · rw [(dps_nil a1).mp e] at q
    exact k _ _ _ _ (.d (.tuple ys)) _ c (Nxt.refl ..) (Nat.le_refl _) r2 q
  · rw [(dps_nil a2).mp e, List.append_nil] at q
    exact k _ _ _ _ (.d (.tuple xs)) _ c (Nxt.refl ..) (Nat.le_refl _) r1 q
  · obtain ⟨c2, n2⟩ := c.frz hp (.tup (vs ++ ws))
    exact k _ _ _ _ (.d (.tuple (xs ++ ys))) _ c2 n2 (Nat.le_refl _) (.tup (st_of upd_same) (dps_ex n2.gg _ _ (dps_app a1 a2))) q
theorem wr_eq {x y : DV} {a b : PyData} (hx : vw Ω x = some a) (hy : vw Ω y = some b) (sa : SeqAt.shaped a = true) (sb : SeqAt.shaped b = true) (q : R (.d (.bool (PyData.eqv a b))) Ω) : WR K (rEqD K) x y Ω R := fun m G H v w Q c r1 r2 k =>
  ⟨a, b, vw_dp c r1 hx, vw_dp c r2 hy, sa, sb, k _ _ _ _ (.d (.bool (PyData.eqv a b))) _ c (Nxt.refl ..) (Nat.le_refl _) (Dp.bl _) q⟩
theorem wr_ne {x y : DV} {a b : PyData} (hx : vw Ω x = some a) (hy : vw Ω y = some b) (sa : SeqAt.shaped a = true) (sb : SeqAt.shaped b = true) (q : R (.d (.bool (!PyData.eqv a b))) Ω) : WR K (rNeD K) x y Ω R := fun m G H v w Q c r1 r2 k =>
  ⟨a, b, vw_dp c r1 hx, vw_dp c r2 hy, sa, sb, k _ _ _ _ (.d (.bool (!PyData.eqv a b))) _ c (Nxt.refl ..) (Nat.le_refl _) (Dp.bl _) q⟩
def isNo : DV → Bool
  | .d .none => true
  | _ => false
def plainV : DV → Bool
  | .v _ => false
  | _ => true
theorem isNo_v {m : Mp} {G : Hp} {n : Nat} {x : DV} {v : V} (r : RV K m G n x v) (p : plainV x = true) : decide (v = .non) = isNo x := by
  cases x with
  | v y => cases p
  | e _ _ _ _ =>
    obtain ⟨rfl, _⟩ := r
    rfl
  | o i =>
    obtain ⟨_, rfl⟩ := r
    rfl
  | d y => cases y <;> cases r <;> rfl
theorem wr_isN {x : DV} (p : plainV x = true) (q : R (.d (.bool (isNo x))) Ω) : WR K (fun x y H Q => y = .non ∧ Q (.bl (decide (x = .non))) H) x (.d .none) Ω R := fun m G H v w Q c r1 r2 k => by
  cases r2
  refine ⟨rfl, ?_⟩
  rw [isNo_v r1 p]
  exact k _ _ _ _ (.d (.bool (isNo x))) _ c (Nxt.refl ..) (Nat.le_refl _) (Dp.bl _) q
theorem wr_notN {x : DV} (p : plainV x = true) (q : R (.d (.bool (!isNo x))) Ω) : WR K (fun x y H Q => y = .non ∧ Q (.bl (!decide (x = .non))) H) x (.d .none) Ω R := fun m G H v w Q c r1 r2 k => by
  cases r2
  refine ⟨rfl, ?_⟩
  rw [isNo_v r1 p]
  exact k _ _ _ _ (.d (.bool (!isNo x))) _ c (Nxt.refl ..) (Nat.le_refl _) (Dp.bl _) q
/-! items -/
theorem atI_pair {F : DV → V → Prop} {xs : List DV} {vs : List V} {i : Int} {x : DV} (r : Paired F xs vs) (h : atI xs i = some x) : ∃ v, atI vs i = some v ∧ F x v := by
  unfold atI at h ⊢
  rw [← Paired.length r]
  cases e : ixN xs.length i with
  | none => rw [e] at h; cases h
  | some j =>
    rw [e] at h
    exact Paired.getL r h
theorem wr_ix {x : DV} {ds : List DV} {i : Int} {y : DV} (hx : sq Ω x = some ds) (hi : atI ds i = some y) (q : R y Ω) : WR K (rIx K) x (.d (.int i)) Ω R := fun m G H v w Q c r1 r2 k => by
  cases r2
  obtain ⟨a, vs, rfl, hs, rp⟩ := sq_get c r1 hx
  obtain ⟨u, e, ru⟩ := atI_pair rp hi
  rcases hs with hs | hs
  · exact .inl ⟨a, vs, i, u, rfl, rfl, hs, e, k _ _ _ _ _ _ c (Nxt.refl ..) (Nat.le_refl _) ru q⟩
  · exact .inr (.inl ⟨a, vs, i, u, rfl, rfl, hs, e, k _ _ _ _ _ _ c (Nxt.refl ..) (Nat.le_refl _) ru q⟩)
theorem atI_map {α β : Type} (f : α → β) (xs : List α) (i : Int) : atI (xs.map f) i = (atI xs i).map f := by
  unfold atI
  rw [List.length_map]
  cases ixN xs.length i with
  | none => rfl
  | some j => show (xs.map f)[j]? = (xs[j]?).map f; rw [List.getElem?_map]
theorem wr_ixT {xs : List PyData} {i : Int} {y : PyData} (hi : atI xs i = some y) (q : R (.d y) Ω) : WR K (rIx K) (.d (.tuple xs)) (.d (.int i)) Ω R := wr_ix (ds := xs.map DV.d) rfl (by rw [atI_map, hi]; rfl) q
theorem wr_ixL {xs : List PyData} {i : Int} {y : PyData} (hi : atI xs i = some y) (q : R (.d y) Ω) : WR K (rIx K) (.d (.list xs)) (.d (.int i)) Ω R := wr_ix (ds := xs.map DV.d) rfl (by rw [atI_map, hi]; rfl) q
theorem wr_ixS {z : Str} {i : Int} {c0 : Nat} (hz : z.length ≤ 100000) (hi : atI z.cps.toList i = some c0) (q : R (.d (.str ⟨#[c0]⟩)) Ω) : WR K (rIx K) (.d (.str z)) (.d (.int i)) Ω R := fun m G H v w Q c r1 r2 k => by
  cases r1; cases r2
  exact .inr (.inr ⟨z, i, c0, rfl, rfl, sz_of hz, hi, k _ _ _ _ (.d (.str ⟨#[c0]⟩)) _ c (Nxt.refl ..) (Nat.le_refl _) (Dp.str _) q⟩)
/-! built-in functions -/
theorem wc_abs {i : Int} (q : R (.d (.int (if i < 0 then -i else i))) Ω) : WC K (fun xs H Q => ∃ i, xs = [.int i] ∧ Q (.int (if i < 0 then -i else i)) H) [.d (.int i)] Ω R := fun m G H vs Q c r k => by
  cases r with | cons a b => cases b; cases a; exact ⟨i, rfl, k _ _ _ _ (.d (.int (if i < 0 then -i else i))) _ c (Nxt.refl ..) (Nat.le_refl _) (Dp.int _) q⟩
theorem wc_max {i j : Int} (q : R (.d (.int (if j > i then j else i))) Ω) : WC K (fun xs H Q => ∃ i j, xs = [.int i, .int j] ∧ Q (.int (if j > i then j else i)) H) [.d (.int i), .d (.int j)] Ω R := fun m G H vs Q c r k => by
  cases r with | cons a b => cases b with | cons b d => cases d; cases a; cases b; exact ⟨i, j, rfl, k _ _ _ _ (.d (.int (if j > i then j else i))) _ c (Nxt.refl ..) (Nat.le_refl _) (Dp.int _) q⟩
theorem wc_min {i j : Int} (q : R (.d (.int (if j < i then j else i))) Ω) : WC K (fun xs H Q => ∃ i j, xs = [.int i, .int j] ∧ Q (.int (if j < i then j else i)) H) [.d (.int i), .d (.int j)] Ω R := fun m G H vs Q c r k => by
  cases r with | cons a b => cases b with | cons b d => cases d; cases a; cases b; exact ⟨i, j, rfl, k _ _ _ _ (.d (.int (if j < i then j else i))) _ c (Nxt.refl ..) (Nat.le_refl _) (Dp.int _) q⟩
theorem wc_intI {i : Int} (q : R (.d (.int i)) Ω) : WC K (fun xs H Q => (∃ i, xs = [.int i] ∧ Q (.int i) H) ∨ ∃ k, xs = [.bl k] ∧ Q (.int (if k then 1 else 0)) H) [.d (.int i)] Ω R := fun m G H vs Q c r k => by
  cases r with | cons a b => cases b; cases a; exact .inl ⟨i, rfl, k _ _ _ _ (.d (.int i)) _ c (Nxt.refl ..) (Nat.le_refl _) (Dp.int _) q⟩
theorem wc_intB {b : Bool} (q : R (.d (.int (if b then 1 else 0))) Ω) : WC K (fun xs H Q => (∃ i, xs = [.int i] ∧ Q (.int i) H) ∨ ∃ k, xs = [.bl k] ∧ Q (.int (if k then 1 else 0)) H) [.d (.bool b)] Ω R := fun m G H vs Q c r k => by
  cases r with | cons a b => cases b; cases a; exact .inr ⟨_, rfl, k _ _ _ _ (.d (.int _)) _ c (Nxt.refl ..) (Nat.le_refl _) (Dp.int _) q⟩
theorem wc_len {x : DV} {ds : List DV} (hx : sq Ω x = some ds) (q : R (.d (.int ds.length)) Ω) : WC K (fun xs H Q => ∃ p ys, xs = [.ref p] ∧ (SqL K H p ys ∨ SqT K H p ys) ∧ Q (.int ys.length) H) [x] Ω R := fun m G H vs Q c r k => by
  cases r with
  | cons a b =>
    cases b
    obtain ⟨p, ws, rfl, hs, rp⟩ := sq_get c a hx
    refine ⟨p, ws, rfl, hs, ?_⟩
    rw [← Paired.length rp]
    exact k _ _ _ _ (.d (.int ds.length)) _ c (Nxt.refl ..) (Nat.le_refl _) (Dp.int _) q
theorem wc_tuple {x : DV} {xs : List PyData} (hx : ls Ω x = some xs) (q : R (.d (.tuple xs)) Ω) : WC K (fun xs H Q => ∃ p ys, xs = [.ref p] ∧ ((SqL K H p ys ∧ ∀ l, H l = none → Q (.ref l) (upd H l (.tup ys))) ∨ (SqT K H p ys ∧ Q (.ref p) H))) [x] Ω R := fun m G H vs Q c r k => by
  cases r with
  | cons a b =>
    cases b
    obtain ⟨p, ws, rfl, hs, rp⟩ := ls_get c a hx
    refine ⟨p, ws, rfl, ?_⟩
    rcases hs with hs | hs
    · refine .inl ⟨hs, fun l hl => ?_⟩
      obtain ⟨c2, n2⟩ := c.frz hl (.tup ws)
      exact k _ _ _ _ (.d (.tuple xs)) _ c2 n2 (Nat.le_refl _) (.tup (st_of upd_same) (dps_ex n2.gg _ _ rp)) q
    · exact .inr ⟨ex_t c.ex hs, k _ _ _ _ (.d (.tuple xs)) _ c (Nxt.refl ..) (Nat.le_refl _) (.tup hs rp) q⟩
theorem hs_h {m : Mp} {G H : Hp} (c : Core K m G Ω H) {a : Addr} {vs : List V} (h : SqL K H a vs ∨ SqT K G a vs) : SqL K H a vs ∨ SqT K H a vs := h.imp id fun z => ex_t c.ex z
theorem wc_listD {x : DV} {xs : List PyData} (hx : ls Ω x = some xs) (q : R (.d (.list xs)) Ω) : WC K (fun xs H Q => ∃ p ys, xs = [.ref p] ∧ (SqL K H p ys ∨ SqT K H p ys) ∧ ∀ l, H l = none → Q (.ref l) (upd H l (.lst ys))) [x] Ω R := fun m G H vs Q c r k => by
  cases r with
  | cons a b =>
    cases b
    obtain ⟨p, ws, rfl, hs, rp⟩ := ls_get c a hx
    refine ⟨p, ws, rfl, hs_h c hs, fun l hl => ?_⟩
    obtain ⟨c2, n2⟩ := c.frz hl (.lst ws)
    exact k _ _ _ _ (.d (.list xs)) _ c2 n2 (Nat.le_refl _) (.lst (sq_of upd_same) (dps_ex n2.gg _ _ rp)) q
theorem wc_listO {x : DV} {xs : List PyData} (hx : ls Ω x = some xs) (q : R (.o Ω.length) (Ω ++ [.lst (xs.map DV.d)])) : WC K (fun xs H Q => ∃ p ys, xs = [.ref p] ∧ (SqL K H p ys ∨ SqT K H p ys) ∧ ∀ l, H l = none → Q (.ref l) (upd H l (.lst ys))) [x] Ω R := fun m G H vs Q c r k => by
  cases r with
  | cons a b =>
    cases b
    obtain ⟨p, ws, rfl, hs, rp⟩ := ls_get c a hx
    refine ⟨p, ws, rfl, hs_h c hs, fun l hl => ?_⟩
    obtain ⟨m2, c2, n2, e2⟩ := c.own (x := .lst (xs.map DV.d)) (o := .lst ws) hl ⟨_, upd_same, of_dps rp⟩
    exact k _ _ _ _ (.o Ω.length) _ c2 n2 (by simp) ⟨by simp, by rw [e2]⟩ q
theorem dps_ints {K : KF} {G : Hp} : ∀ {ns : List Int} {vs : List V}, DpAll K G vs (ns.map PyData.int) → vs = ns.map V.int
  | [], _, .nil => rfl
  | n :: ns, _, .cons a b => by cases a; rw [dps_ints b]; rfl
theorem dps_bools {K : KF} {G : Hp} : ∀ {ns : List Bool} {vs : List V}, DpAll K G vs (ns.map PyData.bool) → vs = ns.map V.bl
  | [], _, .nil => rfl
  | n :: ns, _, .cons a b => by cases a; rw [dps_bools b]; rfl
theorem wc_sum {x : DV} {ns : List Int} (hx : lsL Ω x = some (ns.map PyData.int)) (q : R (.d (.int ns.sum)) Ω) : WC K (rSum K) [x] Ω R := fun m G H vs Q c r k => by
  cases r with
  | cons a b =>
    cases b
    obtain ⟨p, ws, rfl, hs, rp⟩ := lsL_get c a hx
    rw [dps_ints rp] at hs
    exact ⟨p, ns, rfl, hs, k _ _ _ _ (.d (.int ns.sum)) _ c (Nxt.refl ..) (Nat.le_refl _) (Dp.int _) q⟩
theorem wc_all {x : DV} {bs : List Bool} (hx : lsL Ω x = some (bs.map PyData.bool)) (q : R (.d (.bool (bs.all id))) Ω) : WC K (rAll K) [x] Ω R := fun m G H vs Q c r k => by
  cases r with
  | cons a b =>
    cases b
    obtain ⟨p, ws, rfl, hs, rp⟩ := lsL_get c a hx
    rw [dps_bools rp] at hs
    exact ⟨p, bs, rfl, hs, k _ _ _ _ (.d (.bool (bs.all id))) _ c (Nxt.refl ..) (Nat.le_refl _) (Dp.bl _) q⟩
theorem wc_any {x : DV} {bs : List Bool} (hx : lsL Ω x = some (bs.map PyData.bool)) (q : R (.d (.bool (bs.any id))) Ω) : WC K (rAny K) [x] Ω R := fun m G H vs Q c r k => by
  cases r with
  | cons a b =>
    cases b
    obtain ⟨p, ws, rfl, hs, rp⟩ := lsL_get c a hx
    rw [dps_bools rp] at hs
    exact ⟨p, bs, rfl, hs, k _ _ _ _ (.d (.bool (bs.any id))) _ c (Nxt.refl ..) (Nat.le_refl _) (Dp.bl _) q⟩
/-! isinstance -/
def tyN : PyData → Option String
  | .none => some "NoneType"
  | .bool _ => some "bool"
  | .int _ => some "int"
  | .str _ => some "str"
  | .list _ => some "list"
  | .tuple _ => some "tuple"
  | .dict _ => none
theorem ty_of {H : Hp} {x : PyData} {v : V} {n : String} (h : Dp K H v x) (e : tyN x = some n) : TyX K H v (.type n) := by
  cases h with
  | non => cases e; exact .base .non
  | bl b => cases e; exact .base (.bl b)
  | int b => cases e; exact .base (.int b)
  | str b => cases e; exact .base (.str b)
  | lst hs ha =>
    cases e
    rcases hs with (hs | ⟨o, hs⟩) | ⟨o, its, n, hk, hc, _⟩
    · exact .base (.lst hs)
    · exact .base (.frz hs)
    · exact .kList hk hc
  | tup hs ha =>
    cases e
    rcases hs with (hs | ⟨o, hs⟩) | ⟨o, its, n, hk, hc, _⟩
    · exact .base (.tup hs)
    · exact .fTuple hs
    · exact .kTuple hk hc
theorem wc_isi {x : DV} {y : PyData} {a b : String} {z : Bool} (hx : vw Ω x = some y) (ha : tyN y = some a) (hk : kitB a b = some z) (q : R (.d (.bool z)) Ω) : WC K (rIsi K) [x, .v (.ty b)] Ω R := fun m G H vs Q c r k => by
  cases r with
  | cons r1 rs => cases rs with
    | cons r2 rs =>
      cases rs
      cases r2
      exact ⟨_, _, _, _, z, rfl, .ty b, ty_of (vw_dp c r1 hx) ha, kit_ty hk, k _ _ _ _ (.d (.bool z)) _ c (Nxt.refl ..) (Nat.le_refl _) (Dp.bl _) q⟩
end
end HL
namespace HL
open PySem PySem.Spec PyProof.Rows L2 Evl
/-! ### slices -/
def cutG {α : Type} (xs : List α) (lo hi : Option Int) : List α := (xs.drop (HT.sIx xs.length 0 lo)).take (HT.sIx xs.length xs.length hi - HT.sIx xs.length 0 lo)
theorem dps_drop {K : KF} {G : Hp} : ∀ (n : Nat) {vs : List V} {xs : List PyData}, DpAll K G vs xs → DpAll K G (vs.drop n) (xs.drop n)
  | 0, _, _, h => h
  | _ + 1, [], [], .nil => .nil
  | n + 1, _ :: _, _ :: _, .cons _ b => dps_drop n b
theorem dps_take {K : KF} {G : Hp} : ∀ (n : Nat) {vs : List V} {xs : List PyData}, DpAll K G vs xs → DpAll K G (vs.take n) (xs.take n)
  | 0, _, _, _ => .nil
  | _ + 1, [], [], .nil => .nil
  | n + 1, _ :: _, _ :: _, .cons a b => .cons a (dps_take n b)
theorem dps_cut {K : KF} {G : Hp} {vs : List V} {xs : List PyData} (lo hi : Option Int) (h : DpAll K G vs xs) : DpAll K G (cutV vs lo hi) (cutG xs lo hi) := by
  unfold cutV cutG
  rw [dps_len h]
  exact dps_take _ (dps_drop _ h)
theorem cut_whole {α : Type} {xs : List α} {lo hi : Option Int} (h : HT.sIx xs.length 0 lo = 0 ∧ HT.sIx xs.length xs.length hi = xs.length) : cutG xs lo hi = xs := by
  unfold cutG
  rw [h.1, h.2]
  simp
section
variable (K : KF) (W : WX)
def WO (to : TO) (Γ : Gm) (Ω : Om) (R : Option Int → Om → Prop) (X : Exc → Om → Prop) : Prop :=
  ∀ m G H σ Q, Core K m G Ω H → Slots K m G Ω.length Γ σ → (∀ m' G' Ω' H' b, Core K m' G' Ω' H' → Nxt m Ω.length G m' G' → Ω.length ≤ Ω'.length → R b Ω' → Q b H') → XOk K m G Ω.length X (fun c d H' => W c d σ H') → to σ H Q
def WSl (r : V → Option Int → Option Int → Hp → VK → Prop) (x : DV) (lo hi : Option Int) (Ω : Om) (R : DV → Om → Prop) : Prop :=
  ∀ m G H v Q, Core K m G Ω H → RV K m G Ω.length x v → QOk K m G Ω.length R Q → r v lo hi H Q
end
section
variable {K : KF} {W : WX} {Γ : Gm} {Ω : Om} {R : DV → Om → Prop} {X : Exc → Om → Prop} {te : TE}
theorem wo_none {S : Option Int → Om → Prop} (q : S none Ω) : WO K W tNoPart Γ Ω S X := fun m G H σ Q c s k x => k _ _ _ _ _ c (Nxt.refl ..) (Nat.le_refl _) q
theorem wo_some {S : Option Int → Om → Prop} (h : WE K W te Γ Ω (fun d Ω1 => ∃ i, d = .d (.int i) ∧ S (some i) Ω1) X) : WO K W (tPart te) Γ Ω S X := fun m G H σ Q c s k x =>
  h m G H σ _ c s (fun m1 G1 Ω1 H1 d1 v1 c1 n1 l1 r1 ⟨i, e, q⟩ => by
    subst e
    cases r1
    exact ⟨i, rfl, k _ _ _ _ _ c1 n1 l1 q⟩) x
theorem we_sl {r : V → Option Int → Option Int → Hp → VK → Prop} {tl th : TO} (h : WE K W te Γ Ω (fun d Ω1 => WO K W tl Γ Ω1 (fun lo Ω2 => WO K W th Γ Ω2 (fun hi Ω3 => WSl K r d lo hi Ω3 R) X) X) X) : WE K W (tSl r te tl th) Γ Ω R X := fun m G H σ Q c s k x =>
  h m G H σ _ c s (fun m1 G1 Ω1 H1 d1 v1 c1 n1 l1 r1 h1 => h1 m1 G1 H1 σ _ c1 (s.mono n1 l1) (fun m2 G2 Ω2 H2 lo c2 n2 l2 h2 =>
    h2 m2 G2 H2 σ _ c2 ((s.mono n1 l1).mono n2 l2) (fun m3 G3 Ω3 H3 hi c3 n3 l3 h3 =>
      h3 m3 G3 H3 v1 Q c3 (RV.mono (n2.trans l2 n3) (Nat.le_trans l2 l3) r1) (k.on (n1.trans l1 (n2.trans l2 n3)) (Nat.le_trans l1 (Nat.le_trans l2 l3)))) (x.on (n1.trans l1 n2) (Nat.le_trans l1 l2))) (x.on n1 l1)) x
theorem wsl_L {d : DV} {xs : List PyData} {lo hi : Option Int} (hx : lsL Ω d = some xs) (q : R (.d (.list (cutG xs lo hi))) Ω) : WSl K (rSlS K) d lo hi Ω R := fun m G H v Q c r k => by
  obtain ⟨a, vs, rfl, hs, rp⟩ := lsL_get c r hx
  refine .inl ⟨a, vs, rfl, hs, fun p hp => ?_⟩
  obtain ⟨c2, n2⟩ := c.frz hp (.lst (cutV vs lo hi))
  exact k _ _ _ _ (.d (.list (cutG xs lo hi))) _ c2 n2 (Nat.le_refl _) (.lst (sq_of upd_same) (dps_ex n2.gg _ _ (dps_cut lo hi rp))) q
theorem wsl_T {xs : List PyData} {lo hi : Option Int} (q : R (.d (.tuple (cutG xs lo hi))) Ω) : WSl K (rSlS K) (.d (.tuple xs)) lo hi Ω R := fun m G H v Q c r k => by
  obtain ⟨a, vs, rfl, hs, rp⟩ := lsT_get c r rfl
  refine .inr ⟨a, vs, rfl, ex_t c.ex hs, fun e => ?_, fun _ p hp => ?_⟩
  · rw [dps_len rp] at e
    rw [cut_whole e] at q
    exact k _ _ _ _ (.d (.tuple xs)) _ c (Nxt.refl ..) (Nat.le_refl _) r q
  · obtain ⟨c2, n2⟩ := c.frz hp (.tup (cutV vs lo hi))
    exact k _ _ _ _ (.d (.tuple (cutG xs lo hi))) _ c2 n2 (Nat.le_refl _) (.tup (st_of upd_same) (dps_ex n2.gg _ _ (dps_cut lo hi rp))) q
end
/-! ### methods of lists -/
section
variable {K : KF} {W : WX} {Γ : Gm} {Ω : Om} {R : DV → Om → Prop} {X : Exc → Om → Prop} {to : TE} {ta : TA}
/-- a method of one's own list -/
theorem we_bm {r : V → List V → Hp → VK → Prop} (h : WE K W to Γ Ω (fun d Ω1 => (∃ ds, sq Ω1 d = some ds ∧ lsT d = none) ∧ WA K W ta Γ Ω1 (fun ds Ω2 => WM K r d ds Ω2 R) X) X) : WE K W (tBM K "list" r to ta) Γ Ω R X := fun m G H σ Q c s k x =>
  h m G H σ _ c s (fun m1 G1 Ω1 H1 d1 v1 c1 n1 l1 r1 ⟨⟨ds, e1, e2⟩, h1⟩ => by
    refine ⟨?_, h1 m1 G1 H1 σ _ c1 (s.mono n1 l1) (fun m2 G2 Ω2 H2 es vs c2 n2 l2 r2 h2 => h2 m2 G2 H2 v1 vs Q c2 (RV.mono n2 l2 r1) r2 (k.on (n1.trans l1 n2) (Nat.le_trans l1 l2))) (x.on n1 l1)⟩
    obtain ⟨a, vs, rfl, hs, rp⟩ := sq_get c1 r1 e1
    rcases hs with hs | hs
    · exact Or.inl ⟨rfl, vs, hs⟩
    · cases d1 with
      | v y => cases e1
      | e _ _ _ _ => cases e1
      | o i =>
        obtain ⟨_, q⟩ := c1.fr i _ (sq_o e1) (by intro z; cases z)
        obtain ⟨vs', hv, _⟩ := q
        obtain ⟨_, er⟩ := r1
        cases er
        exact Or.inl ⟨rfl, vs', sq_of hv⟩
      | d y =>
        cases y with
        | list xs =>
          cases r1 with
          | lst hl ha => exact Or.inl ⟨rfl, _, ex_l c1.ex hl⟩
        | tuple xs => cases e2
        | none => cases e1
        | bool b => cases e1
        | int b => cases e1
        | str b => cases e1
        | dict b => cases e1) x
theorem we_bm0 {r : V → List V → Hp → VK → Prop} (h : WE K W to Γ Ω (fun d Ω1 => (∃ ds, sq Ω1 d = some ds ∧ lsT d = none) ∧ WM K r d [] Ω1 R) X) : WE K W (tBM0 K "list" r to) Γ Ω R X := fun m G H σ Q c s k x =>
  we_bm (ta := tNil) (K := K) (W := W) (Γ := Γ) (Ω := Ω) (R := R) (X := X) (to := to) (r := r) (fun m G H σ Q c s k x => h m G H σ _ c s (fun m1 G1 Ω1 H1 d1 v1 c1 n1 l1 r1 ⟨e1, h1⟩ => k m1 G1 Ω1 H1 d1 v1 c1 n1 l1 r1 ⟨e1, wa_nil h1⟩) x) m G H σ Q c s k x
theorem wm_append {i : Nat} {y : DV} {ds : List DV} (hx : Ω[i]? = some (.lst ds)) (hl : ds.length < 100000) (q : R (.d .none) (Ω.set i (.lst (ds ++ [y])))) : WM K rAppend (.o i) [y] Ω R := fun m G H v vs Q c r1 r2 k => by
  obtain ⟨hi, rfl⟩ := r1
  cases r2 with
  | cons ry rn =>
    cases rn
    obtain ⟨q1, ws, hw, rp⟩ := c.fr i _ hx (by intro z; cases z)
    refine ⟨m i, ws, _, rfl, rfl, hw, sz_lt (by rw [← Paired.length rp]; exact hl), ?_⟩
    have c2 := c.write (y := .lst (ds ++ [y])) (o := .lst (ws ++ [_])) hx (by intro z; cases z) ⟨_, upd_same, Paired.snoc rp ry⟩
    exact k _ _ _ _ (.d .none) _ c2 (Nxt.refl ..) (by rw [List.length_set]; exact Nat.le_refl _) Dp.non q
theorem wm_pop {i : Nat} {y : DV} {ds : List DV} (hx : Ω[i]? = some (.lst ds)) (hy : ds[ds.length - 1]? = some y) (q : R y (Ω.set i (.lst ds.dropLast))) : WM K rPop (.o i) [] Ω R := fun m G H v vs Q c r1 r2 k => by
  obtain ⟨hi, rfl⟩ := r1
  cases r2
  obtain ⟨q1, ws, hw, rp⟩ := c.fr i _ hx (by intro z; cases z)
  obtain ⟨u, hu, ru⟩ := Paired.getL rp hy
  have e := Paired.length rp
  have dl : Paired (RV K m G Ω.length) ds.dropLast ws.dropLast := by
    rw [List.dropLast_eq_take, List.dropLast_eq_take, e]
    exact Paired.takeP _ rp
  rw [e] at hu
  have c2 := c.write (y := .lst ds.dropLast) (o := .lst ws.dropLast) hx (by intro z; cases z) ⟨_, upd_same, dl⟩
  have nx : Nxt m Ω.length G m G := Nxt.refl ..
  exact ⟨m i, ws, u, rfl, rfl, hw, hu, k _ _ _ _ y _ c2 nx (by rw [List.length_set]; exact Nat.le_refl _) (RV.mono nx (by rw [List.length_set]; exact Nat.le_refl _) ru) q⟩
theorem wm_reverse {i : Nat} {ds : List DV} (hx : Ω[i]? = some (.lst ds)) (q : R (.d .none) (Ω.set i (.lst ds.reverse))) : WM K rReverse (.o i) [] Ω R := fun m G H v vs Q c r1 r2 k => by
  obtain ⟨hi, rfl⟩ := r1
  cases r2
  obtain ⟨q1, ws, hw, rp⟩ := c.fr i _ hx (by intro z; cases z)
  have rev : ∀ {xs : List DV} {ys : List V}, Paired (RV K m G Ω.length) xs ys → Paired (RV K m G Ω.length) xs.reverse ys.reverse := fun {xs ys} h => by
    induction h with
    | nil => exact .nil
    | cons a _ ih => rw [List.reverse_cons, List.reverse_cons]; exact Paired.snoc ih a
  have c2 := c.write (y := .lst ds.reverse) (o := .lst ws.reverse) hx (by intro z; cases z) ⟨_, upd_same, rev rp⟩
  exact ⟨m i, ws, rfl, rfl, hw, k _ _ _ _ (.d .none) _ c2 (Nxt.refl ..) (by rw [List.length_set]; exact Nat.le_refl _) Dp.non q⟩
/-- o[i] = v, a list of one's own -/
theorem wg_subL {to ti : TE} {y : DV} {S : Gm → Om → Prop} (h : WE K W to Γ Ω (fun d Ω1 => WE K W ti Γ Ω1 (fun e Ω2 => ∃ k ds i j, d = .o k ∧ e = .d (.int i) ∧ Ω2[k]? = some (.lst ds) ∧ ixN ds.length i = some j ∧ S Γ (Ω2.set k (.lst (ds.set j y)))) (fun _ _ => False)) (fun _ _ => False))
    (hW : True) : WG K (gSub to ti rSetL) y Γ Ω S := fun m G H σ v Q c s ry k => by
  have x0 : ∀ {m' : Mp} {G' : Hp} {n' : Nat}, XOk K m' G' n' (fun _ _ => False) (fun c d H' => W c d σ H') := fun {m' G' n'} _ _ _ _ _ _ _ _ _ _ _ z => z.elim
  refine h m G H σ _ c s (fun m1 G1 Ω1 H1 d1 v1 c1 n1 l1 r1 h1 => h1 m1 G1 H1 σ _ c1 (s.mono n1 l1) (fun m2 G2 Ω2 H2 d2 v2 c2 n2 l2 r2 ⟨kk, ds, i, j, e1, e2, hx, hj, q⟩ => ?_) x0) x0
  subst e1 e2
  cases r2
  have n12 := n1.trans l1 n2
  have l12 := Nat.le_trans l1 l2
  obtain ⟨_, er⟩ := RV.mono n2 l2 r1
  obtain ⟨q1, ws, hw, rp⟩ := c2.fr kk _ hx (by intro z; cases z)
  have c3 := c2.write (y := .lst (ds.set j y)) (o := .lst (ws.set j v)) hx (by intro z; cases z) ⟨_, upd_same, Paired.setP (RV.mono n12 l12 ry) j rp⟩
  have le : Ω2.length ≤ (Ω2.set kk (OC.lst (ds.set j y))).length := by rw [List.length_set]; exact Nat.le_refl _
  exact ⟨m2 kk, ws, i, j, er, rfl, hw, by rw [← Paired.length rp]; exact hj, k _ _ _ _ _ _ c3 n12 (Nat.le_trans l12 le) ((s.mono n12 l12).mono (Nxt.refl ..) le) q⟩
/-- a list of one's own is handed on for good -/
theorem we_varF {i k : Nat} {xs : List PyData} (h : Γ[i]? = some (some (.o k))) (hx : (sqO Ω[k]?).bind asDs = some xs) (q : R (.d (.list xs)) (Ω.set k .gone)) : WE K W (tVar i) Γ Ω R X := fun m G H σ Q c s kk x => by
  obtain ⟨v, e, rv⟩ := s.at_ i _ h
  obtain ⟨hi, rfl⟩ := rv
  cases e1 : sqO Ω[k]? with
  | none => rw [e1] at hx; cases hx
  | some ds =>
    rw [e1] at hx
    have e2 : Ω[k]? = some (.lst ds) := sq_o (Ω := Ω) e1
    obtain ⟨q1, ws, hw, rp⟩ := c.fr k _ e2 (by intro z; cases z)
    rw [asDs_eq (ds := ds) (xs := xs) hx] at rp
    obtain ⟨c2, n2⟩ := c.freeze e2 (by intro z; cases z) hw
    have le : Ω.length ≤ (Ω.set k .gone).length := by rw [List.length_set]; exact Nat.le_refl _
    exact ⟨_, e, kk _ _ _ _ (.d (.list xs)) _ c2 n2 le (.lst (sq_of upd_same) (dps_ex n2.gg _ _ (dps_of rp))) q⟩
end
/-! ### what is walked -/
def ItOk (K : KF) (J : It) (ys : List DV) (stay : Om → Prop) (m1 : Mp) (G1 : Hp) (n1 : Nat) : Prop :=
  ∀ m' G' Ω' H', Core K m' G' Ω' H' → Nxt m1 n1 G1 m' G' → n1 ≤ Ω'.length → stay Ω' → ∀ i, (ys.length ≤ i → J.stop i H') ∧
    ∀ y, ys[i]? = some y → J.go i H' ∧ ∀ x H'', J.yld i H' x H'' → ∃ G'', Core K m' G'' Ω' H'' ∧ Ex G' G'' ∧ RV K m' G'' Ω'.length y x
def WI (K : KF) (W : WX) (wi : TI) (Γ : Gm) (Ω : Om) (Rc : List DV → (Om → Prop) → Om → Prop) (X : Exc → Om → Prop) : Prop :=
  ∀ m G H σ (R : It → Hp → Prop), Core K m G Ω H → Slots K m G Ω.length Γ σ → XOk K m G Ω.length X (fun c d H' => W c d σ H') →
    (∀ m1 G1 Ω1 H1 J ys stay, Core K m1 G1 Ω1 H1 → Nxt m Ω.length G m1 G1 → Ω.length ≤ Ω1.length → ItOk K J ys stay m1 G1 Ω1.length → Rc ys stay Ω1 → R J H1) → wi σ H R
section
variable {K : KF} {W : WX} {Γ : Gm} {Ω : Om} {X : Exc → Om → Prop} {Rc : List DV → (Om → Prop) → Om → Prop} {te : TE} {ta : TA}
def sqLs (Ω : Om) : DV → Option (List DV)
  | .d (.list xs) => some (xs.map DV.d)
  | .o i => sqO Ω[i]?
  | _ => none
theorem sqLs_get {m : Mp} {G H : Hp} {d : DV} {ds : List DV} {v : V} (c : Core K m G Ω H) (r : RV K m G Ω.length d v) (h : sqLs Ω d = some ds) : ∃ a vs, v = .ref a ∧ SqL K H a vs ∧ Paired (RV K m G Ω.length) ds vs := by
  cases d with
  | v y => cases h
  | e _ _ _ _ => cases h
  | o i =>
    have e2 : Ω[i]? = some (.lst ds) := sq_o (Ω := Ω) h
    obtain ⟨_, vs, hv, rp⟩ := c.fr i _ e2 (by intro z; cases z)
    obtain ⟨hi, rfl⟩ := r
    exact ⟨m i, vs, rfl, sq_of hv, rp⟩
  | d y =>
    cases y with
    | list xs =>
      cases h
      cases r with
      | lst hs ha => exact ⟨_, _, rfl, ex_l c.ex hs, of_dps ha⟩
    | tuple xs => cases h
    | none => cases h
    | bool b => cases h
    | int b => cases h
    | str b => cases h
    | dict b => cases h
theorem itok_list {m1 : Mp} {G1 : Hp} {n1 : Nat} {d : DV} {ds : List DV} {a : Addr} (r : RV K m1 G1 n1 d (.ref a)) : ItOk K (Itl K a) ds (fun Ω' => sqLs Ω' d = some ds) m1 G1 n1 := fun m' G' Ω' H' c' n' l' st i => by
  obtain ⟨a', vs, ea, hs, rp⟩ := sqLs_get c' (RV.mono n' l' r) st
  cases ea
  have el := Paired.length rp
  refine ⟨fun h => ⟨vs, hs, by rw [← el]; exact h⟩, fun y hy => ?_⟩
  obtain ⟨u, hu, ru⟩ := Paired.getL rp hy
  refine ⟨⟨vs, u, hs, hu⟩, fun x H'' ⟨e, hx⟩ => ?_⟩
  subst e
  have ex : u = x := Option.some.inj (hu.symm.trans (hx vs hs))
  subst ex
  exact ⟨G', c', Ex.refl _, ru⟩
theorem itok_tup {m1 : Mp} {G1 : Hp} {n1 : Nat} {xs : List PyData} {a : Addr} (r : RV K m1 G1 n1 (.d (.tuple xs)) (.ref a)) : ItOk K (Itt K a) (xs.map DV.d) (fun _ => True) m1 G1 n1 := fun m' G' Ω' H' c' n' l' st i => by
  have r' := RV.mono n' l' r
  obtain ⟨a', vs, ea, hs, rp0⟩ := lsT_get c' r' rfl
  cases ea
  have rp : Paired (RV K m' G' Ω'.length) (xs.map DV.d) vs := of_dps rp0
  have hs' := ex_t c'.ex hs
  have el := Paired.length rp
  refine ⟨fun h => ⟨vs, hs', by rw [← el]; exact h⟩, fun y hy => ?_⟩
  obtain ⟨u, hu, ru⟩ := Paired.getL rp hy
  refine ⟨⟨vs, u, hs', hu⟩, fun x H'' ⟨e, hx⟩ => ?_⟩
  subst e
  have ex : u = x := Option.some.inj (hu.symm.trans (hx vs hs'))
  subst ex
  exact ⟨G', c', Ex.refl _, ru⟩
theorem itok_rng {m1 : Mp} {G1 : Hp} {n1 : Nat} {lo : Int} {n : Nat} : ItOk K (Itr lo n) ((List.range n).map fun (i : Nat) => .d (.int (lo + (i : Int)))) (fun _ => True) m1 G1 n1 := fun m' G' Ω' H' c' n' l' st i => by
  refine ⟨fun h => ?_, fun y hy => ?_⟩
  · rw [List.length_map, List.length_range] at h
    exact h
  · rw [List.getElem?_map] at hy
    have hi : i < n := by
      by_cases h : i < n
      · exact h
      · rw [List.getElem?_eq_none (by rw [List.length_range]; omega)] at hy
        cases hy
    rw [List.getElem?_range hi] at hy
    cases hy
    refine ⟨hi, fun x H'' ⟨e, hx⟩ => ?_⟩
    subst e hx
    exact ⟨G', c', Ex.refl _, Dp.int _⟩
/-- what is walked, by its kind -/
theorem wi_seqL (h : WE K W te Γ Ω (fun d Ω1 => ∃ ds, sqLs Ω1 d = some ds ∧ Rc ds (fun Ω' => sqLs Ω' d = some ds) Ω1) X) : WI K W (iSeq K te) Γ Ω Rc X := fun m G H σ R c s x k =>
  h m G H σ _ c s (fun m1 G1 Ω1 H1 d v c1 n1 l1 r1 ⟨ds, e, q⟩ => by
    obtain ⟨a, vs, rfl, hs, rp⟩ := sqLs_get c1 r1 e
    exact ⟨a, rfl, .inl ⟨⟨vs, hs⟩, k m1 G1 Ω1 H1 _ ds _ c1 n1 l1 (itok_list r1) q⟩⟩) x
theorem wi_seqT (h : WE K W te Γ Ω (fun d Ω1 => ∃ xs, d = .d (.tuple xs) ∧ Rc (xs.map DV.d) (fun _ => True) Ω1) X) : WI K W (iSeq K te) Γ Ω Rc X := fun m G H σ R c s x k =>
  h m G H σ _ c s (fun m1 G1 Ω1 H1 d v c1 n1 l1 r1 ⟨xs, e, q⟩ => by
    subst e
    obtain ⟨a, vs, rfl, hs, rp⟩ := lsT_get c1 r1 rfl
    exact ⟨a, rfl, .inr ⟨⟨vs, ex_t c1.ex hs⟩, k m1 G1 Ω1 H1 _ _ _ c1 n1 l1 (itok_tup r1) q⟩⟩) x
theorem wi_rng1 (h : WA K W ta Γ Ω (fun ds Ω1 => ∃ j : Int, ds = [.d (.int j)] ∧ -(2 ^ 62) ≤ j ∧ j < 2 ^ 62 ∧ Rc ((List.range j.toNat).map fun (i : Nat) => .d (.int (0 + (i : Int)))) (fun _ => True) Ω1) X) : WI K W (iRng1 ta) Γ Ω Rc X := fun m G H σ R c s x k =>
  h m G H σ _ c s (fun m1 G1 Ω1 H1 ds vs c1 n1 l1 r1 ⟨j, e, h1, h2, q⟩ => by
    subst e
    cases r1 with
    | cons a b => cases b; cases a; exact ⟨j, rfl, h1, h2, k m1 G1 Ω1 H1 _ _ _ c1 n1 l1 itok_rng q⟩) x
theorem wi_rng2 (h : WA K W ta Γ Ω (fun ds Ω1 => ∃ i j : Int, ds = [.d (.int i), .d (.int j)] ∧ (-(2 ^ 62) ≤ i ∧ i < 2 ^ 62 ∧ -(2 ^ 62) ≤ j ∧ j < 2 ^ 62) ∧ Rc ((List.range (j - i).toNat).map fun (t : Nat) => .d (.int (i + (t : Int)))) (fun _ => True) Ω1) X) : WI K W (iRng2 ta) Γ Ω Rc X := fun m G H σ R c s x k =>
  h m G H σ _ c s (fun m1 G1 Ω1 H1 ds vs c1 n1 l1 r1 ⟨i, j, e, h1, q⟩ => by
    subst e
    cases r1 with
    | cons a b => cases b with | cons b d => cases d; cases a; cases b; exact ⟨i, j, rfl, h1, k m1 G1 Ω1 H1 _ _ _ c1 n1 l1 itok_rng q⟩) x
/-! ### for -/
variable {O : Outs} {g : TG} {tb : TS} {wi : TI}
theorem ws_for (h : WI K W wi Γ Ω (fun ys stay Ω1 => ∃ P : Nat → Gm → Om → Prop, P 0 Γ Ω1 ∧ (∀ i Γ' Ω', i ≤ ys.length → P i Γ' Ω' → stay Ω' ∧ Ω1.length ≤ Ω'.length) ∧
      (∀ i y Γ' Ω', ys[i]? = some y → P i Γ' Ω' → WG K g y Γ' Ω' (fun Γ2 Ω2 => WS K W tb Γ2 Ω2 { nx := P (i + 1), ct := P (i + 1), bk := O.nx, rt := O.rt, er := O.er })) ∧ ∀ Γ' Ω', P ys.length Γ' Ω' → O.nx Γ' Ω') (fun e Ω1 => O.er Γ e Ω1)) :
    WS K W (tFor wi g tb) Γ Ω O := fun m G H σ D c s k1 k2 k3 k4 z => by
  refine h m G H σ _ c s (xok_of z s) (fun m1 G1 Ω1 H1 J ys stay c1 n1 l1 it ⟨P, p0, pst, step, fin⟩ => ?_)
  have s1 := s.mono n1 l1
  refine ⟨fun i n σ' H' => n = ys.length - i ∧ i ≤ ys.length ∧ ∃ m' G' Ω' Γ', Core K m' G' Ω' H' ∧ Nxt m1 Ω1.length G1 m' G' ∧ Ω1.length ≤ Ω'.length ∧ Slots K m' G' Ω'.length Γ' σ' ∧ P i Γ' Ω',
    ⟨ys.length, by simp, Nat.zero_le _, m1, G1, Ω1, Γ, c1, Nxt.refl .., Nat.le_refl _, s1, p0⟩, ?_⟩
  rintro i n σ2 H2 ⟨rfl, hi, m2, G2, Ω2, Γ2, c2, n2, l2, s2, p2⟩
  have n12 := n1.trans l1 n2
  have l12 := Nat.le_trans l1 l2
  have ik := it m2 G2 Ω2 H2 c2 n2 l2 (pst i Γ2 Ω2 hi p2).1 i
  by_cases hlt : i < ys.length
  · obtain ⟨go, yl⟩ := ik.2 ys[i] (List.getElem?_eq_getElem hlt)
    refine .inr ⟨go, fun σ' H' => ∃ m' G' Ω' Γ', Core K m' G' Ω' H' ∧ Nxt m1 Ω1.length G1 m' G' ∧ Ω1.length ≤ Ω'.length ∧ Slots K m' G' Ω'.length Γ' σ' ∧ P (i + 1) Γ' Ω', fun σ' H' q => ⟨ys.length - (i + 1), by omega, rfl, hlt, q⟩, fun x H'' hy => ?_⟩
    obtain ⟨G3, c3, e3, r3⟩ := yl x H'' hy
    have n3 : Nxt m2 Ω2.length G2 m2 G3 := ⟨fun _ _ => rfl, e3⟩
    have n13 := n12.trans l12 n3
    refine step i ys[i] Γ2 Ω2 (List.getElem?_eq_getElem hlt) p2 m2 G3 H'' σ2 x _ c3 (s2.mono n3 (Nat.le_refl _)) r3 (fun m4 G4 Ω4 H4 Γ4 σ4 c4 n4 l4 s4 h4 => ?_)
    have n14 := n13.trans l12 n4
    have l14 := Nat.le_trans l12 l4
    have again : SOk K m4 G4 Ω4.length (P (i + 1)) (fun σ' H' => ∃ m' G' Ω' Γ', Core K m' G' Ω' H' ∧ Nxt m1 Ω1.length G1 m' G' ∧ Ω1.length ≤ Ω'.length ∧ Slots K m' G' Ω'.length Γ' σ' ∧ P (i + 1) Γ' Ω') := fun m5 G5 Ω5 H5 Γ5 σ5 c5 n5 l5 s5 p5 =>
      ⟨m5, G5, Ω5, Γ5, c5, (n2.trans l2 (n3.trans (Nat.le_refl _) n4)).trans (Nat.le_trans l2 l4) n5, Nat.le_trans (Nat.le_trans l2 l4) l5, s5, p5⟩
    exact h4 m4 G4 H4 σ4 { D with nx := _, ct := _, bk := D.nx } c4 s4 again (k2.on n14 l14) (k1.on n14 l14) again (z.on n14 l14)
  · have ei : i = ys.length := by omega
    subst ei
    exact .inl ⟨ik.1 (Nat.le_refl _), k1 _ _ _ _ _ _ c2 n12 l12 s2 (fin Γ2 Ω2 p2)⟩
end
/-! ### comprehensions -/
def wipeG (Γ : Gm) : List Nat → Gm
  | [] => Γ
  | v :: vs => (wipeG Γ vs).set v none
theorem wipeG_slots {K : KF} {m : Mp} {G : Hp} {n : Nat} {Γ : Gm} {σ : L2.St} (s : Slots K m G n Γ σ) : ∀ vs, Slots K m G n (wipeG Γ vs) (wipe σ vs)
  | [] => s
  | v :: vs => by
    have ih := wipeG_slots s vs
    refine ⟨?_, fun i d h => ?_⟩
    · show ((wipeG Γ vs).set v none).length = ((wipe σ vs).set v none).length
      rw [List.length_set, List.length_set]
      exact ih.len
    · have h : ((wipeG Γ vs).set v none)[i]? = some (some d) := h
      show ∃ w, ((wipe σ vs).set v none)[i]? = some (some w) ∧ _
      rw [List.getElem?_set] at h ⊢
      by_cases hv : v = i
      · rw [if_pos hv] at h
        split at h <;> cases h
      · rw [if_neg hv] at h ⊢
        exact ih.at_ i d h
theorem wipe_ext {σ τ : L2.St} : ∀ {vs : List Nat}, σ.length = τ.length → (∀ i, i ∉ vs → σ[i]? = τ[i]?) → wipe σ vs = wipe τ vs
  | [], _, h => List.ext_getElem? fun i => h i (by simp)
  | v :: vs, hl, h => by
    show (wipe σ vs).set v none = (wipe τ vs).set v none
    refine List.ext_getElem? fun i => ?_
    rw [List.getElem?_set, List.getElem?_set, wipe_length, wipe_length, hl]
    by_cases hv : v = i
    · rw [if_pos hv, if_pos hv]
    · rw [if_neg hv, if_neg hv]
      have e : wipe (σ.set v none) vs = wipe (τ.set v none) vs := wipe_ext (by rw [List.length_set, List.length_set]; exact hl) fun j hj => by
        rw [List.getElem?_set, List.getElem?_set, hl]
        by_cases hvj : v = j
        · rw [if_pos hvj, if_pos hvj]
        · rw [if_neg hvj, if_neg hvj]
          exact h j (by simp; exact ⟨fun z => hvj z.symm, hj⟩)
      have at_ : ∀ (ρ : L2.St), (wipe ρ vs)[i]? = (wipe (ρ.set v none) vs)[i]? := fun ρ => by
        clear e h hl
        induction vs with
        | nil => show ρ[i]? = (ρ.set v none)[i]?; rw [List.getElem?_set, if_neg hv]
        | cons w ws ih =>
          show ((wipe ρ ws).set w none)[i]? = ((wipe (ρ.set v none) ws).set w none)[i]?
          rw [List.getElem?_set, List.getElem?_set, wipe_length, wipe_length, List.length_set, ih]
      rw [at_ σ, at_ τ, e]
theorem wipe_out {σ : L2.St} {i : Nat} : ∀ {vs : List Nat}, i ∉ vs → (wipe σ vs)[i]? = σ[i]?
  | [], _ => rfl
  | v :: vs, h => by
    show ((wipe σ vs).set v none)[i]? = σ[i]?
    rw [List.getElem?_set, if_neg (fun z : v = i => h (by simp [z]))]
    exact wipe_out fun z => h (List.mem_cons_of_mem _ z)
theorem wipe_idem (σ : L2.St) (vs : List Nat) : wipe (wipe σ vs) vs = wipe σ vs := wipe_ext (wipe_length σ vs) fun _ h => wipe_out h
def Only (g : TG) (vs : List Nat) : Prop := ∀ v σ H Q, g v σ H Q → g v σ H fun σ2 H2 => (wipe σ2 vs = wipe σ vs) ∧ Q σ2 H2
def Onlys (g : TGs) (vs : List Nat) : Prop := ∀ xs σ H Q, g xs σ H Q → g xs σ H fun σ2 H2 => (wipe σ2 vs = wipe σ vs) ∧ Q σ2 H2
theorem only_name {i : Nat} {vs : List Nat} (h : i ∈ vs) : Only (gName i) vs := fun v σ H Q q =>
  ⟨wipe_ext (by rw [List.length_set]) fun j hj => by rw [List.getElem?_set, if_neg (fun z : i = j => hj (z ▸ h))], q⟩
theorem onlys_nil {vs : List Nat} : Onlys gNil vs := fun xs σ H Q q => ⟨q.1, rfl, q.2⟩
theorem onlys_cons {g : TG} {gs : TGs} {vs : List Nat} (mono : ∀ v σ H Q Q', (∀ a b, Q a b → Q' a b) → g v σ H Q → g v σ H Q') (h : Only g vs) (t : Onlys gs vs) : Onlys (gCons g gs) vs := fun xs σ H Q q => by
  obtain ⟨v, r, e, q⟩ := q
  refine ⟨v, r, e, mono _ _ _ _ _ (fun a b z => ?_) (h v σ H _ q)⟩
  have z2 := t r a b Q z.2
  rw [z.1] at z2
  exact z2
theorem mono_name {i : Nat} : ∀ v σ H Q Q', (∀ a b, Q a b → Q' a b) → gName i v σ H Q → gName i v σ H Q' := fun _ _ _ _ _ k q => k _ _ q
theorem only_tup {K : KF} {n : Nat} {gs : TGs} {vs : List Nat} (h : Onlys gs vs) : Only (gTup K n gs) vs := fun v σ H Q q => by
  obtain ⟨a, xs, e1, e2, e3, q⟩ := q
  exact ⟨a, xs, e1, e2, e3, h _ _ _ _ q⟩
/-- targets hand on what is wanted -/
def MonoG (g : TG) : Prop := ∀ v σ H Q Q', (∀ a b, Q a b → Q' a b) → g v σ H Q → g v σ H Q'
def MonoGs (g : TGs) : Prop := ∀ v σ H Q Q', (∀ a b, Q a b → Q' a b) → g v σ H Q → g v σ H Q'
theorem monos_nil : MonoGs gNil := fun _ _ _ _ _ k q => ⟨q.1, k _ _ q.2⟩
theorem monos_cons {g : TG} {gs : TGs} (a : MonoG g) (b : MonoGs gs) : MonoGs (gCons g gs) := fun xs σ H Q Q' k ⟨v, r, e, q⟩ => ⟨v, r, e, a _ _ _ _ _ (fun x y z => b _ _ _ _ _ k z) q⟩
theorem mono_tup {K : KF} {n : Nat} {gs : TGs} (b : MonoGs gs) : MonoG (gTup K n gs) := fun v σ H Q Q' k ⟨a, xs, e1, e2, e3, q⟩ => ⟨a, xs, e1, e2, e3, b _ _ _ _ _ k q⟩
section
variable {K : KF} {W : WX} {Γ : Gm} {Ω : Om} {R : DV → Om → Prop} {X : Exc → Om → Prop} {wi : TI} {g : TG} {tt : TT} {te : TE} {vs : List Nat}
abbrev NoX : Exc → Om → Prop := fun _ _ => False
theorem noX {K : KF} {m : Mp} {G : Hp} {n : Nat} {Q : XK} : XOk K m G n NoX Q := fun _ _ _ _ _ _ _ _ _ _ _ z => z.elim
theorem set_self {α : Type} {l : List α} {i : Nat} {x : α} (h : l[i]? = some x) : l.set i x = l := by
  refine List.ext_getElem? fun j => ?_
  rw [List.getElem?_set]
  by_cases e : i = j
  · subst e
    rw [if_pos rfl, if_pos (lt_of_get h), h]
  · rw [if_neg e]
theorem we_lc (og : Only g vs) (h : WI K W wi Γ Ω (fun ys stay Ω1 => ∃ P : Nat → List DV → Om → Prop, P 0 [] (Ω1 ++ [.lst []]) ∧
      (∀ i acc Ω', i ≤ ys.length → P i acc Ω' → stay Ω' ∧ Ω1.length < Ω'.length) ∧
      (∀ i y acc Ω', ys[i]? = some y → P i acc Ω' → WG K g y (wipeG Γ vs) Ω' (fun Γ2 Ω2 => WT K (fun _ _ _ _ => False) tt Γ2 Ω2 (fun b Ω3 =>
        (b = true → WE K (fun _ _ _ _ => False) te Γ2 Ω3 (fun x Ω4 => Ω4[Ω1.length]? = some (.lst acc) ∧ acc.length < 100000 ∧ P (i + 1) (acc ++ [x]) (Ω4.set Ω1.length (.lst (acc ++ [x])))) NoX) ∧ (b = false → P (i + 1) acc Ω3)) NoX)) ∧
      ∀ acc Ω', P ys.length acc Ω' → R (.o Ω1.length) Ω') X) : WE K W (tLc wi g tt te vs) Γ Ω R X := fun m G H σ Q c s k x => by
  refine h m G H σ _ c s x (fun m1 G1 Ω1 H1 J ys stay c1 n1 l1 it ⟨P, p0, pst, step, fin⟩ D hD => ?_)
  have s1 := s.mono n1 l1
  obtain ⟨m2, c2, n2, e2⟩ := c1.own (x := .lst []) (o := .lst []) hD ⟨[], upd_same, .nil⟩
  have le1 : Ω1.length ≤ (Ω1 ++ [OC.lst []]).length := by simp
  refine ⟨fun i n H' => n = ys.length - i ∧ i ≤ ys.length ∧ ∃ m' G' Ω' acc, Core K m' G' Ω' H' ∧ Nxt m2 (Ω1 ++ [OC.lst []]).length G1 m' G' ∧ (Ω1 ++ [OC.lst []]).length ≤ Ω'.length ∧ P i acc Ω',
    ⟨ys.length, by simp, Nat.zero_le _, m2, G1, _, [], c2, Nxt.refl .., Nat.le_refl _, p0⟩, ?_⟩
  rintro i n H3 ⟨rfl, hi, m3, G3, Ω3, acc, c3, n3, l3, p3⟩
  have l3' : Ω1.length < Ω3.length := by simp at l3; omega
  have n13 : Nxt m1 Ω1.length G1 m3 G3 := n2.trans le1 n3
  have n03 := n1.trans l1 n13
  have l03 : Ω.length ≤ Ω3.length := Nat.le_trans l1 (Nat.le_of_lt l3')
  have em : m3 Ω1.length = D := by
    rw [n3.mm _ (by simp), e2]
  have ik := it m3 G3 Ω3 H3 c3 n13 (Nat.le_of_lt l3') (pst i acc Ω3 hi p3).1 i
  by_cases hlt : i < ys.length
  · obtain ⟨go, yl⟩ := ik.2 ys[i] (List.getElem?_eq_getElem hlt)
    refine .inr ⟨go, fun H' => ∃ m' G' Ω' acc', Core K m' G' Ω' H' ∧ Nxt m2 (Ω1 ++ [OC.lst []]).length G1 m' G' ∧ (Ω1 ++ [OC.lst []]).length ≤ Ω'.length ∧ P (i + 1) acc' Ω', fun H' q => ⟨ys.length - (i + 1), by omega, rfl, hlt, q⟩, fun y H'' hy => ?_⟩
    obtain ⟨G4, c4, e4, r4⟩ := yl y H'' hy
    have n4 : Nxt m3 Ω3.length G3 m3 G4 := ⟨fun _ _ => rfl, e4⟩
    refine (fun q => by
      have q := og _ _ _ _ q
      rw [wipe_idem] at q
      exact q) (?_ : g y (wipe σ vs) H'' fun σ2 H2 => tt σ2 H2 fun b H3 => if b = true then te σ2 H3 fun y H4 => ∃ acc, H4 D = some (.lst acc) ∧ acc.length < sizeLine ∧ (∃ m' G' Ω' acc', Core K m' G' Ω' (upd H4 D (.lst (acc ++ [y]))) ∧ Nxt m2 (Ω1 ++ [OC.lst []]).length G1 m' G' ∧ (Ω1 ++ [OC.lst []]).length ≤ Ω'.length ∧ P (i + 1) acc' Ω')
        else (∃ m' G' Ω' acc', Core K m' G' Ω' H3 ∧ Nxt m2 (Ω1 ++ [OC.lst []]).length G1 m' G' ∧ (Ω1 ++ [OC.lst []]).length ≤ Ω'.length ∧ P (i + 1) acc' Ω'))
    refine step i ys[i] acc Ω3 (List.getElem?_eq_getElem hlt) p3 m3 G4 H'' (wipe σ vs) y _ c4 (wipeG_slots (s.mono (n03.trans l03 n4) l03) vs) r4 (fun m5 G5 Ω5 H5 Γ5 σ5 c5 n5 l5 s5 h5 => ?_)
    refine h5 m5 G5 H5 σ5 _ c5 s5 (fun m6 G6 Ω6 H6 b c6 n6 l6 h6 => ?_) noX
    have n36 : Nxt m3 Ω3.length G3 m6 G6 := n4.trans (Nat.le_refl _) (n5.trans l5 n6)
    have l36 : Ω3.length ≤ Ω6.length := Nat.le_trans l5 l6
    cases b with
    | false =>
      rw [if_neg Bool.false_ne_true]
      exact ⟨m6, G6, Ω6, acc, c6, n3.trans l3 n36, Nat.le_trans l3 l36, h6.2 rfl⟩
    | true =>
      rw [if_pos rfl]
      refine (h6.1 rfl) m6 G6 H6 σ5 _ c6 (s5.mono n6 l6) (fun m7 G7 Ω7 H7 x7 v7 c7 n7 l7 r7 ⟨e7, z7, p7⟩ => ?_) noX
      have n37 := n36.trans l36 n7
      have l37 := Nat.le_trans l36 l7
      obtain ⟨_, ws, hw, rp⟩ := c7.fr Ω1.length _ e7 (by intro z; cases z)
      have em7 : m7 Ω1.length = D := by rw [n37.mm _ l3', em]
      rw [em7] at hw
      have c8 := c7.write (y := .lst (acc ++ [x7])) (o := .lst (ws ++ [v7])) e7 (by intro z; cases z) ⟨_, upd_same, Paired.snoc rp r7⟩
      rw [em7] at c8
      exact ⟨ws, hw, sz_lt (by rw [← Paired.length rp]; exact z7), m7, G7, _, _, c8, n3.trans l3 n37, by rw [List.length_set]; exact Nat.le_trans l3 l37, p7⟩
  · have ei : i = ys.length := by omega
    subst ei
    exact .inl ⟨ik.1 (Nat.le_refl _), k _ _ _ _ (.o Ω1.length) _ c3 n03 l03 ⟨l3', by rw [em]⟩ (fin acc Ω3 p3)⟩
/-! ### what is left behind -/
def idOk (k : Nat) : DV → Prop
  | .o i => i < k
  | _ => True
def flatO : OC → Prop
  | .lst xs => ∀ x ∈ xs, ∀ i, x ≠ .o i
  | .ins _ fs => ∀ p ∈ fs, ∀ i, p.2 ≠ .o i
  | .gone => True
def Cut (Ω : Om) (k : Nat) (Ω' : Om) : Prop := Ω.length ≤ k ∧ k ≤ Ω'.length ∧ ∀ j c, j < k → Ω'[j]? = some c → Ω[j]? = some c ∨ flatO c
theorem RV.cut {m m0 : Mp} {G G0 : Hp} {n k : Nat} : ∀ {d : DV} {v : V}, idOk k d → RV K m G n d v → RV K m G k d v
  | .d _, _, _, r => r
  | .o _, _, h, r => ⟨h, r.2⟩
  | .v _, _, _, r => r
  | .e _ _ _ _, _, _, r => r
theorem idOk_of {m : Mp} {G : Hp} {n k : Nat} (h : n ≤ k) : ∀ {d : DV} {v : V}, RV K m G n d v → idOk k d
  | .d _, _, _ => trivial
  | .o _, _, r => Nat.lt_of_lt_of_le r.1 h
  | .v _, _, _ => trivial
  | .e _ _ _ _, _, _ => trivial
theorem paired_cut {m : Mp} {G : Hp} {n k : Nat} : ∀ {xs : List DV} {vs : List V}, (∀ x ∈ xs, idOk k x) → Paired (RV K m G n) xs vs → Paired (RV K m G k) xs vs
  | _, _, _, .nil => .nil
  | _, _, h, .cons a b => .cons (RV.cut (m0 := m) (G0 := G) (h _ List.mem_cons_self) a) (paired_cut (fun x hx => h x (List.mem_cons_of_mem _ hx)) b)
theorem paired_ids {m : Mp} {G : Hp} {n k : Nat} (h : n ≤ k) : ∀ {xs : List DV} {vs : List V}, Paired (RV K m G n) xs vs → ∀ x ∈ xs, idOk k x
  | _, _, .nil, x, hx => by cases hx
  | _, _, .cons a b, x, hx => by
    rcases List.mem_cons.mp hx with e | hx
    · subst e; exact idOk_of h a
    · exact paired_ids h b x hx
theorem fpaired_cut {m : Mp} {G : Hp} {n k : Nat} : ∀ {xs : List (Str × DV)} {vs : List (Str × V)}, (∀ x ∈ xs, idOk k x.2) → Paired (FRel K m G n) xs vs → Paired (FRel K m G k) xs vs
  | _, _, _, .nil => .nil
  | _, _, h, .cons a b => .cons ⟨a.1, RV.cut (m0 := m) (G0 := G) (h _ List.mem_cons_self) a.2⟩ (fpaired_cut (fun x hx => h x (List.mem_cons_of_mem _ hx)) b)
theorem fpaired_ids {m : Mp} {G : Hp} {n k : Nat} (h : n ≤ k) : ∀ {xs : List (Str × DV)} {vs : List (Str × V)}, Paired (FRel K m G n) xs vs → ∀ x ∈ xs, idOk k x.2
  | _, _, .nil, x, hx => by cases hx
  | _, _, .cons a b, x, hx => by
    rcases List.mem_cons.mp hx with e | hx
    · subst e; exact idOk_of h a.2
    · exact fpaired_ids h b x hx
def idsOc (k : Nat) : OC → Prop
  | .lst xs => ∀ x ∈ xs, idOk k x
  | .ins _ fs => ∀ p ∈ fs, idOk k p.2
  | .gone => True
theorem idOk_flat {k : Nat} : ∀ {d : DV}, (∀ i, d ≠ .o i) → idOk k d
  | .d _, _ => trivial
  | .o i, h => absurd rfl (h i)
  | .v _, _ => trivial
  | .e _ _ _ _, _ => trivial
theorem Holds.cut {m : Mp} {G H : Hp} {n k : Nat} {a : Addr} : ∀ {c : OC}, idsOc k c → Holds K m G n H a c → Holds K m G k H a c
  | .lst _, h, ⟨vs, e, r⟩ => ⟨vs, e, paired_cut h r⟩
  | .ins _ _, h, ⟨dx, vs, e, r⟩ => ⟨dx, vs, e, fpaired_cut h r⟩
  | .gone, _, _ => trivial
theorem Core.cut {m0 m : Mp} {G0 G H0 H : Hp} {Ω' : Om} {k : Nat} (c0 : Core K m0 G0 Ω H0) (c : Core K m G Ω' H) (h : Cut Ω k Ω') : Core K m G (Ω'.take k) H := by
  obtain ⟨h1, h2, h3⟩ := h
  have el : (Ω'.take k).length = k := by rw [List.length_take]; omega
  have get : ∀ {j : Nat} {x : OC}, (Ω'.take k)[j]? = some x → j < k ∧ Ω'[j]? = some x := fun {j x} e => by
    have hj := lt_of_get e
    rw [el] at hj
    rw [List.getElem?_take, if_pos hj] at e
    exact ⟨hj, e⟩
  refine ⟨c.ex, fun i x e g => ?_, fun i j ci cj e1 e2 g1 g2 z => c.inj i j ci cj (get e1).2 (get e2).2 g1 g2 z⟩
  obtain ⟨hi, e'⟩ := get e
  obtain ⟨q1, q2⟩ := c.fr i x e' g
  refine ⟨q1, ?_⟩
  rw [el]
  refine Holds.cut ?_ q2
  rcases h3 i x hi e' with z | z
  · obtain ⟨_, q3⟩ := c0.fr i x z g
    cases x with
    | gone => exact absurd rfl g
    | lst xs => obtain ⟨vs, _, r⟩ := q3; exact paired_ids h1 r
    | ins C fs => obtain ⟨dx, vs, _, r⟩ := q3; exact fpaired_ids h1 r
  · cases x with
    | gone => exact absurd rfl g
    | lst xs => exact fun y hy => idOk_flat (z y hy)
    | ins C fs => exact fun y hy => idOk_flat (z y hy)
/-- a new list is given away at once, what lies behind it is left -/
theorem we_frz (h : WE K W te Γ Ω (fun d Ω1 => ∃ n ds xs, d = .o n ∧ Ω1[n]? = some (.lst ds) ∧ asDs ds = some xs ∧ Cut Ω n Ω1 ∧ R (.d (.list xs)) (Ω1.take n)) X) : WE K W te Γ Ω R X := fun m G H σ Q c s k x =>
  h m G H σ Q c s (fun m1 G1 Ω1 H1 d v c1 n1 l1 r1 ⟨n, ds, xs, e1, e0, e3, cu, q⟩ => by
    subst e1
    obtain ⟨hi, rfl⟩ := r1
    obtain ⟨q1, ws, hw, rp⟩ := c1.fr _ _ e0 (by intro z; cases z)
    obtain ⟨c2, n2⟩ := c1.freeze e0 (by intro z; cases z) hw
    rw [asDs_eq e3] at rp
    have el : (Ω1.take n).length = n := by rw [List.length_take]; have := cu.2.1; omega
    have et : (Ω1.set n .gone).take n = Ω1.take n := by
      refine List.ext_getElem? fun j => ?_
      rw [List.getElem?_take, List.getElem?_take]
      by_cases hj : j < n
      · rw [if_pos hj, if_pos hj, List.getElem?_set, if_neg (fun z : n = j => absurd hj (by omega))]
      · rw [if_neg hj, if_neg hj]
    have c3 : Core K m1 (upd G1 (m1 n) (HO.lst ws)) (Ω1.take n) H1 := by
      rw [← et]
      refine c.cut c2 ⟨cu.1, by rw [List.length_set]; exact cu.2.1, fun j x hj e => ?_⟩
      rw [List.getElem?_set, if_neg (fun z : n = j => absurd hj (by omega))] at e
      exact cu.2.2 j x hj e
    exact k _ _ _ _ (.d (.list xs)) _ c3 (n1.trans l1 n2) (by rw [el]; exact cu.1) (.lst (sq_of upd_same) (dps_ex n2.gg _ _ (dps_of rp))) q) x
def tYesT : TT := tYes
theorem wt_yes {B : Bool → Om → Prop} (q : B true Ω) : WT K W tYes Γ Ω B X := fun m G H σ Q c s k x => k _ _ _ _ _ c (Nxt.refl ..) (Nat.le_refl _) q
theorem asDs_data (xs : List PyData) : asDs (xs.map DV.d) = some xs := by
  have h := asDs_map (fun x : PyData => x) xs
  rw [List.map_id'] at h
  exact h
theorem take_app {α : Type} (l r : List α) : (l ++ r).take l.length = l := by simp
/-- [F(a) for a in ..if p(a)], a list that nobody changes; nothing else changes -/
theorem we_lcP {α : Type} (og : Only g vs) (h : WI K W wi Γ Ω (fun ys stay Ω1 => ∃ (l : List α) (f : α → DV) (p : α → Bool) (F : α → PyData), ys = l.map f ∧ l.length ≤ 100000 ∧ Ω1 = Ω ∧ (∀ ds, stay (Ω ++ [.lst ds])) ∧
      (∀ a Ω', a ∈ l → (∃ ds, Ω' = Ω ++ [.lst ds]) → WG K g (f a) (wipeG Γ vs) Ω' (fun Γ2 Ω2 => WT K (fun _ _ _ _ => False) tt Γ2 Ω2 (fun b Ω3 => b = p a ∧ Ω3 = Ω' ∧ (b = true → WE K (fun _ _ _ _ => False) te Γ2 Ω' (fun x Ω4 => x = .d (F a) ∧ Ω4 = Ω') NoX)) NoX)) ∧
      R (.d (.list ((l.filter p).map F))) Ω) X) : WE K W (tLc wi g tt te vs) Γ Ω R X := by
  refine we_frz (we_lc og fun m G H σ R' c s x k => h m G H σ R' c s x fun m1 G1 Ω1 H1 J ys stay c1 n1 l1 it ⟨l, f, p, F, e1, hl, e2, st, el, q⟩ => ?_)
  subst e1 e2
  have ln : ∀ i, ((((l.take i).filter p).map F).length ≤ i) := fun i => by
    rw [List.length_map]
    refine Nat.le_trans (List.length_filter_le _ _) ?_
    rw [List.length_take]; omega
  refine k m1 G1 Ω1 H1 J _ stay c1 n1 l1 it ⟨fun i acc Ω' => acc = (((l.take i).filter p).map F).map DV.d ∧ Ω' = Ω1 ++ [.lst acc], ⟨rfl, rfl⟩, fun i acc Ω' hi hp => ?_, fun i y acc Ω' hy hp => ?_, fun acc Ω' hp => ?_⟩
  · obtain ⟨rfl, rfl⟩ := hp
    exact ⟨st _, by simp⟩
  · obtain ⟨ha, rfl⟩ := hp
    rw [List.getElem?_map] at hy
    cases ea : l[i]? with
    | none => rw [ea] at hy; cases hy
    | some a =>
      rw [ea] at hy
      cases hy
      have hi := lt_of_get ea
      have em : a ∈ l := List.mem_iff_getElem?.mpr ⟨i, ea⟩
      have et : l.take (i + 1) = l.take i ++ [a] := by rw [List.take_add_one, ea]; rfl
      intro m2 G2 H2 σ2 v Q2 c2 s2 r2 k2
      refine el a _ em ⟨acc, rfl⟩ m2 G2 H2 σ2 v Q2 c2 s2 r2 fun m3 G3 Ω3 H3 Γ3 σ3 c3 n3 l3 s3 h3 => k2 m3 G3 Ω3 H3 Γ3 σ3 c3 n3 l3 s3 fun m4 G4 H4 σ4 Q4 c4 s4 k4 x4 => ?_
      refine h3 m4 G4 H4 σ4 Q4 c4 s4 (fun m5 G5 Ω5 H5 b c5 n5 l5 ⟨eb, eo, hb⟩ => k4 m5 G5 Ω5 H5 b c5 n5 l5 ⟨fun hbt => ?_, fun hbf => ?_⟩) x4
      · subst eo
        intro m6 G6 H6 σ6 Q6 c6 s6 k6 x6
        refine hb hbt m6 G6 H6 σ6 Q6 c6 s6 (fun m7 G7 Ω7 H7 d v c7 n7 l7 r7 ⟨ex, eo7⟩ => k6 m7 G7 Ω7 H7 d v c7 n7 l7 r7 ?_) x6
        subst eo7 ex
        refine ⟨by simp, ?_, ?_, ?_⟩
        · rw [ha, List.length_map]
          have := ln i
          omega
        · rw [ha, et, List.filter_append, List.filter_cons, if_pos (by rw [← eb]; exact hbt)]
          simp
        · simp
      · subst eo
        refine ⟨?_, rfl⟩
        rw [ha, et, List.filter_append, List.filter_cons, if_neg (by rw [← eb, hbf]; exact Bool.false_ne_true)]
        simp
  · obtain ⟨ha, rfl⟩ := hp
    refine ⟨Ω1.length, acc, ((l.take (l.map f).length).filter p).map F, rfl, by simp, ?_, ⟨Nat.le_refl _, by simp, fun j c hj e => .inl ?_⟩, ?_⟩
    · rw [ha]; exact asDs_data _
    · rw [List.getElem?_append_left hj] at e; exact e
    · rw [List.length_map, List.take_length, take_app]
      exact q
end
end HL
namespace HL
open PySem PySem.Spec PyProof.Rows L2 Evl
/-! ### a def's body against its promise -/
def Dr (Ω : Om) (R : DV → Om → Prop) (d : DV) (Ω' : Om) : Prop := R d Ω' ∨ ∃ k, Cut Ω k Ω' ∧ idOk k d ∧ R d (Ω'.take k)
def DrX (Ω : Om) (R : Exc → Om → Prop) (e : Exc) (Ω' : Om) : Prop := R e Ω' ∨ ∃ k, Cut Ω k Ω' ∧ R e (Ω'.take k)
def fnO (Ω : Om) (R : DV → Om → Prop) (X : Exc → Om → Prop) : Outs := ⟨fun _ Ω' => Dr Ω R (.d .none) Ω', fun d Ω' => Dr Ω R d Ω', fun _ _ => False, fun _ _ => False, fun _ e Ω' => DrX Ω X e Ω'⟩
def startG (N : Nat) (ds : List DV) : Gm := ds.map some ++ List.replicate (N - ds.length) none
section
variable {K : KF} {spec : Spec} {vs : List V} {H : Hp} {Q : VK} {E : XK}
theorem fs_len {n : Nat} (h : FS K spec vs H Q E) (hl : ∀ ds Ω R X, spec ds Ω R X → ds.length = n) : vs.length = n := by
  obtain ⟨m, G, Ω, ds, R, X, c, r, q, _⟩ := h
  rw [← Paired.length r]
  exact hl ds Ω R X q
theorem startG_slots {m : Mp} {G : Hp} {n : Nat} {ds : List DV} {vs : List V} (N : List Str) (r : Paired (RV K m G n) ds vs) : Slots K m G n (startG N.length ds) (L2.start N vs) := by
  have e := Paired.length r
  refine ⟨by unfold startG L2.start; simp [e], fun i d h => ?_⟩
  unfold startG at h
  unfold L2.start
  by_cases hi : i < ds.length
  · rw [List.getElem?_append_left (by rw [List.length_map]; exact hi), List.getElem?_map] at h
    cases q : ds[i]? with
    | none => rw [q] at h; cases h
    | some x =>
      rw [q] at h
      cases h
      obtain ⟨v, hv, rv⟩ := Paired.getL r q
      exact ⟨v, by rw [List.getElem?_append_left (by rw [List.length_map, ← e]; exact hi), List.getElem?_map, hv]; rfl, rv⟩
  · rw [List.getElem?_append_right (by rw [List.length_map]; omega), List.getElem?_replicate] at h
    split at h <;> cases h
theorem fs_run {N : List Str} {t : TS} (h : FS K spec vs H Q E) (hb : ∀ ds Ω R X, spec ds Ω R X → WS K (fun c d _ H' => E c d H') t (startG N.length ds) Ω (fnO Ω R X)) :
    t { nx := fun _ H' => Q .non H', rt := Q } (L2.start N vs) H := by
  obtain ⟨m, G, Ω, ds, R, X, c, r, q, k, x⟩ := h
  have nc : ∀ {k : Nat} {Ω' : Om}, Cut Ω k Ω' → (Ω'.take k).length = k := fun {k Ω'} cu => by rw [List.length_take]; have := cu.2.1; omega
  have rt : ∀ m' G' Ω' H' d v, Core K m' G' Ω' H' → Nxt m Ω.length G m' G' → Ω.length ≤ Ω'.length → RV K m' G' Ω'.length d v → Dr Ω R d Ω' → Q v H' := fun m' G' Ω' H' d v c' n' l' r' q' => by
    rcases q' with q' | ⟨kk, cu, io, q'⟩
    · exact k m' G' Ω' H' d v c' n' l' r' q'
    · refine k m' G' (Ω'.take kk) H' d v (c.cut c' cu) n' (by rw [nc cu]; exact cu.1) ?_ q'
      rw [nc cu]
      exact RV.cut (m0 := m) (G0 := G) io r'
  refine hb ds Ω R X q m G H _ _ c (startG_slots N r) (fun m' G' Ω' H' Γ' σ' c' n' l' s' q' => rt m' G' Ω' H' (.d .none) .non c' n' l' Dp.non q') rt (fun _ _ _ _ _ _ _ _ _ _ z => z.elim) (fun _ _ _ _ _ _ _ _ _ _ z => z.elim) fun m' G' Ω' H' Γ' σ' e cc d c' n' l' s' r' q' => ?_
  rcases q' with q' | ⟨kk, cu, q'⟩
  · exact x m' G' Ω' H' e cc d c' n' l' r' q'
  · exact x m' G' (Ω'.take kk) H' e cc d (c.cut c' cu) n' (by rw [nc cu]; exact cu.1) r' q'
end
theorem dr_same {Ω Ω' : Om} {R : DV → Om → Prop} {d : DV} (q : R d Ω') : Dr Ω R d Ω' := .inl q
/-- what was added behind is left -/
theorem dr_app {Ω J : Om} {R : DV → Om → Prop} {d : DV} (q : R d Ω) (io : ∀ i, d ≠ .o i) : Dr Ω R d (Ω ++ J) :=
  .inr ⟨Ω.length, ⟨Nat.le_refl _, by simp, fun j c hj e => .inl (by rw [List.getElem?_append_left hj] at e; exact e)⟩, idOk_flat io, by rw [take_app]; exact q⟩
/-! ### raise, try -/
section
variable {K : KF} {W : WX} {Γ : Gm} {Ω : Om} {O : Outs}
theorem ws_raise {C : Addr} (q : O.er Γ (.own C) Ω) : WS K W (fun _ σ H => W (.ref C) none σ H) Γ Ω O := fun m G H σ D c s k1 k2 k3 k4 z => z _ _ _ _ _ _ (.own C) _ _ c (Nxt.refl ..) (Nat.le_refl _) s ⟨rfl, rfl⟩ q
theorem Slots.wipe1 {m : Mp} {G : Hp} {n : Nat} {σ : L2.St} (s : Slots K m G n Γ σ) (i : Nat) : Slots K m G n (Γ.set i none) (σ.set i none) := by
  refine ⟨by rw [List.length_set, List.length_set]; exact s.len, fun j d h => ?_⟩
  rw [List.getElem?_set] at h ⊢
  by_cases hv : i = j
  · rw [if_pos hv] at h
    split at h <;> cases h
  · rw [if_neg hv] at h ⊢
    exact s.at_ j d h
def clsOf : Exc → Value
  | .own C => .ref C
  | .low C _ _ => .ref C
theorem rx_cls {G : Hp} : ∀ {e : Exc} {c : Value} {d : Option Addr}, RX K G e c d → c = clsOf e
  | .own _, _, _, r => r.1
  | .low _ _ _, _, _, r => r.1
theorem ws_tryAs {tb : WX → TS} {ts : Addr → Value → Option Addr → TS} {c : Value} {i : Nat}
    (h : ∀ W' : WX, WS K W' (tb W') Γ Ω { O with er := fun Γ1 e Ω1 => ∃ b, PySem.W.exmOne K (clsOf e) c = some b ∧
      (b = true → ∀ a cls dd, cls = clsOf e → WS K W (ts a cls dd) (Γ1.set i (some (.e e a cls dd))) Ω1 { nx := fun Γ2 Ω2 => O.nx (Γ2.set i none) Ω2, rt := O.rt, bk := fun Γ2 Ω2 => O.bk (Γ2.set i none) Ω2, ct := fun Γ2 Ω2 => O.ct (Γ2.set i none) Ω2, er := O.er }) ∧
      (b = false → O.er Γ1 e Ω1) }) : WS K W (fun D σ H => tb (wAs K c i ts W D) D σ H) Γ Ω O := fun m G H σ D c0 s k1 k2 k3 k4 z => by
  refine h (wAs K c i ts W D) m G H σ D c0 s k1 k2 k3 k4 fun m' G' Ω' H' Γ1 σ1 e cls d c' n' l' s' rx ⟨b, hb, h1, h2⟩ => ?_
  refine ⟨b, by rw [rx_cls rx]; exact hb, fun hbt a ha => ?_, fun hbf => z m' G' Ω' H' Γ1 σ1 e cls d c' n' l' s' rx (h2 hbf)⟩
  have s2 : Slots K m' G' Ω'.length (Γ1.set i (some (.e e a cls d))) (σ1.set i (some (.ref a))) := s'.set i ⟨rfl, rx⟩
  refine h1 hbt a cls d (rx_cls rx) m' G' H' _ _ c' s2 ?_ (k2.on n' l') ?_ ?_ (z.on n' l')
  · exact fun m2 G2 Ω2 H2 Γ2 σ2 c2 n2 l2 s2 q2 => k1 m2 G2 Ω2 H2 _ _ c2 (n'.trans l' n2) (Nat.le_trans l' l2) (s2.wipe1 i) q2
  · exact fun m2 G2 Ω2 H2 Γ2 σ2 c2 n2 l2 s2 q2 => k3 m2 G2 Ω2 H2 _ _ c2 (n'.trans l' n2) (Nat.le_trans l' l2) (s2.wipe1 i) q2
  · exact fun m2 G2 Ω2 H2 Γ2 σ2 c2 n2 l2 s2 q2 => k4 m2 G2 Ω2 H2 _ _ c2 (n'.trans l' n2) (Nat.le_trans l' l2) (s2.wipe1 i) q2
theorem ws_tryOnly {tb : WX → TS} {ts : Addr → Value → Option Addr → TS} {c : Value}
    (h : ∀ W' : WX, WS K W' (tb W') Γ Ω { O with er := fun Γ1 e Ω1 => ∃ b, PySem.W.exmOne K (clsOf e) c = some b ∧ (b = true → ∀ a cls dd, cls = clsOf e → WS K W (ts a cls dd) Γ1 Ω1 O) ∧ (b = false → O.er Γ1 e Ω1) }) :
    WS K W (fun D σ H => tb (wOnly K c ts W D) D σ H) Γ Ω O := fun m G H σ D c0 s k1 k2 k3 k4 z => by
  refine h (wOnly K c ts W D) m G H σ D c0 s k1 k2 k3 k4 fun m' G' Ω' H' Γ1 σ1 e cls d c' n' l' s' rx ⟨b, hb, h1, h2⟩ => ?_
  exact ⟨b, by rw [rx_cls rx]; exact hb, fun hbt a ha => h1 hbt a cls d (rx_cls rx) m' G' H' σ1 D c' s' (k1.on n' l') (k2.on n' l') (k3.on n' l') (k4.on n' l') (z.on n' l'), fun hbf => z m' G' Ω' H' Γ1 σ1 e cls d c' n' l' s' rx (h2 hbf)⟩
end
/-! ### a pool of digits, and what changes only one's own thing -/
def SameBut (k : Nat) (Ω Ω' : Om) : Prop := Ω'.length = Ω.length ∧ ∀ j, j ≠ k → Ω'[j]? = Ω[j]?
theorem SameBut.refl (k : Nat) (Ω : Om) : SameBut k Ω Ω := ⟨rfl, fun _ _ => rfl⟩
theorem SameBut.trans {k : Nat} {Ω Ω1 Ω2 : Om} (a : SameBut k Ω Ω1) (b : SameBut k Ω1 Ω2) : SameBut k Ω Ω2 := ⟨b.1.trans a.1, fun j h => (b.2 j h).trans (a.2 j h)⟩
theorem SameBut.set {k : Nat} {Ω : Om} {c : OC} : SameBut k Ω (Ω.set k c) := ⟨by rw [List.length_set], fun j h => by rw [List.getElem?_set, if_neg (fun z : k = j => h z.symm)]⟩
end HL
namespace HL
open PySem PySem.Spec PyProof.Rows L2 Evl
/-! ### operators by names -/
def oSub : R2 := rI0 fun i j => .int (i - j)
def CMulX (i j : Int) : Prop := CMul i j ∨ CMulW i j
def oMul : R2 := rI CMulX fun i j => .int (i * j)
def oFdiv : R2 := rI CDivX fun i j => .int (i.fdiv j)
def oMod : R2 := rI (fun _ j => j ≠ 0) fun i j => .int (i.fmod j)
def oPow : R2 := rI CPow fun i j => .int (i ^ j.toNat)
def oLt : R2 := rI0 fun i j => .bl (decide (i < j))
def oLe : R2 := rI0 fun i j => .bl (decide (i ≤ j))
def oGt : R2 := rI0 fun i j => .bl (decide (j < i))
def oGe : R2 := rI0 fun i j => .bl (decide (j ≤ i))
def oIsN : R2 := fun x y H Q => y = .non ∧ Q (.bl (decide (x = .non))) H
def oNotN : R2 := fun x y H Q => y = .non ∧ Q (.bl (!decide (x = .non))) H
def uNeg : V → Hp → VK → Prop := rU fun i => .int (-i)
def rAbsI : List V → Hp → VK → Prop := fun xs H Q => ∃ i, xs = [.int i] ∧ Q (.int (if i < 0 then -i else i)) H
def rMaxI : List V → Hp → VK → Prop := fun xs H Q => ∃ i j, xs = [.int i, .int j] ∧ Q (.int (if j > i then j else i)) H
def rMinI : List V → Hp → VK → Prop := fun xs H Q => ∃ i j, xs = [.int i, .int j] ∧ Q (.int (if j < i then j else i)) H
def rIntX : List V → Hp → VK → Prop := fun xs H Q => (∃ i, xs = [.int i] ∧ Q (.int i) H) ∨ ∃ k, xs = [.bl k] ∧ Q (.int (if k then 1 else 0)) H
def rLenQ (K : KF) : List V → Hp → VK → Prop := fun xs H Q => ∃ p ys, xs = [.ref p] ∧ (SqL K H p ys ∨ SqT K H p ys) ∧ Q (.int ys.length) H
def rTupQ (K : KF) : List V → Hp → VK → Prop := fun xs H Q => ∃ p ys, xs = [.ref p] ∧ ((SqL K H p ys ∧ ∀ l, H l = none → Q (.ref l) (upd H l (.tup ys))) ∨ (SqT K H p ys ∧ Q (.ref p) H))
def rListQ (K : KF) : List V → Hp → VK → Prop := fun xs H Q => ∃ p ys, xs = [.ref p] ∧ (SqL K H p ys ∨ SqT K H p ys) ∧ ∀ l, H l = none → Q (.ref l) (upd H l (.lst ys))
section
variable {X : Cx}
theorem op_sub' : OpR X (binaryOp .Sub) oSub := op_sub
theorem op_mul' : OpR X (binaryOp .Mult) oMul := opI fun _ _ _ _ _ _ _ hc q => mul_int q (hc.elim CMul.ok CMulW.ok)
theorem op_fdiv' : OpR X (binaryOp .FloorDiv) oFdiv := op_fdivX
theorem op_mod' : OpR X (binaryOp .Mod) oMod := op_modN
theorem op_pow' : OpR X (binaryOp .Pow) oPow := op_pow
theorem op_lt' : OpR X (compareOp .Lt) oLt := op_lt
theorem op_le' : OpR X (compareOp .LtE) oLe := op_le
theorem op_gt' : OpR X (compareOp .Gt) oGt := op_gt
theorem op_ge' : OpR X (compareOp .GtE) oGe := op_ge
theorem op_isN' : OpR X (compareOp .Is) oIsN := op_isN
theorem op_notN' : OpR X (compareOp .IsNot) oNotN := op_notN
theorem un_neg' : UnR X (unaryOp .USub) uNeg := un_neg
theorem call_abs' : CallR X (.builtin "abs") rAbsI := call_abs
theorem call_max' (hc : X.calm = true) : CallR X (.builtin "max") rMaxI := call_max2 hc
theorem call_min' (hc : X.calm = true) : CallR X (.builtin "min") rMinI := call_min2 hc
theorem call_int' : CallR X (.type "int") rIntX := call_int1
theorem call_len' : CallR X (.builtin "len") (rLenQ X.K) := call_len_seq
theorem call_tup' : CallR X (.type "tuple") (rTupQ X.K) := call_tuple_of
theorem call_list' : CallR X (.type "list") (rListQ X.K) := call_list_of
end
section
variable {K : KF} {W : WX} {Γ : Gm} {Ω : Om} {R : DV → Om → Prop} {X : Exc → Om → Prop} {i j : Int}
theorem wr_sub (q : R (.d (.int (i - j))) Ω) : WR K oSub (.d (.int i)) (.d (.int j)) Ω R := wr_I0 (f := fun i j => i - j) q
theorem wr_mul (hc : CMulX i j) (q : R (.d (.int (i * j))) Ω) : WR K oMul (.d (.int i)) (.d (.int j)) Ω R := wr_I (f := fun i j => i * j) hc q
theorem wr_fdiv (hc : CDivX i j) (q : R (.d (.int (i.fdiv j))) Ω) : WR K oFdiv (.d (.int i)) (.d (.int j)) Ω R := wr_I (f := fun i j => i.fdiv j) hc q
theorem wr_fdivP (h0 : 0 < j) (hc : j.natAbs.log2 < 9000) (q : R (.d (.int (i / j))) Ω) : WR K oFdiv (.d (.int i)) (.d (.int j)) Ω R := wr_fdiv ⟨by omega, hc⟩ (by rw [Int.fdiv_eq_ediv_of_nonneg i (by omega)]; exact q)
theorem wr_mod (hc : j ≠ 0) (q : R (.d (.int (i.fmod j))) Ω) : WR K oMod (.d (.int i)) (.d (.int j)) Ω R := wr_I (f := fun i j => i.fmod j) hc q
theorem wr_modP (h0 : 0 < j) (q : R (.d (.int (i % j))) Ω) : WR K oMod (.d (.int i)) (.d (.int j)) Ω R := wr_mod (by omega) (by rw [Int.fmod_eq_emod_of_nonneg i (by omega)]; exact q)
theorem wr_pow (hc : CPow i j) (q : R (.d (.int (i ^ j.toNat))) Ω) : WR K oPow (.d (.int i)) (.d (.int j)) Ω R := wr_I (f := fun i j => i ^ j.toNat) hc q
theorem wr_lt (q : R (.d (.bool (decide (i < j)))) Ω) : WR K oLt (.d (.int i)) (.d (.int j)) Ω R := wr_I0b (f := fun i j => decide (i < j)) q
theorem wr_le (q : R (.d (.bool (decide (i ≤ j)))) Ω) : WR K oLe (.d (.int i)) (.d (.int j)) Ω R := wr_I0b (f := fun i j => decide (i ≤ j)) q
theorem wr_gt (q : R (.d (.bool (decide (j < i)))) Ω) : WR K oGt (.d (.int i)) (.d (.int j)) Ω R := wr_I0b (f := fun i j => decide (j < i)) q
theorem wr_ge (q : R (.d (.bool (decide (j ≤ i)))) Ω) : WR K oGe (.d (.int i)) (.d (.int j)) Ω R := wr_I0b (f := fun i j => decide (j ≤ i)) q
theorem wr_isN' {x : DV} (p : plainV x = true) (q : R (.d (.bool (isNo x))) Ω) : WR K oIsN x (.d .none) Ω R := wr_isN p q
theorem wr_notN' {x : DV} (p : plainV x = true) (q : R (.d (.bool (!isNo x))) Ω) : WR K oNotN x (.d .none) Ω R := wr_notN p q
theorem wu_neg (q : R (.d (.int (-i))) Ω) : WU K uNeg (.d (.int i)) Ω R := fun m G H v Q c r k => by
  cases r
  exact ⟨i, rfl, k _ _ _ _ (.d (.int (-i))) _ c (Nxt.refl ..) (Nat.le_refl _) (Dp.int _) q⟩
theorem wc_abs' (q : R (.d (.int (if i < 0 then -i else i))) Ω) : WC K rAbsI [.d (.int i)] Ω R := wc_abs q
theorem wc_max' (q : R (.d (.int (if j > i then j else i))) Ω) : WC K rMaxI [.d (.int i), .d (.int j)] Ω R := wc_max q
theorem wc_min' (q : R (.d (.int (if j < i then j else i))) Ω) : WC K rMinI [.d (.int i), .d (.int j)] Ω R := wc_min q
theorem wc_intI' (q : R (.d (.int i)) Ω) : WC K rIntX [.d (.int i)] Ω R := wc_intI q
theorem wc_intB' {b : Bool} (q : R (.d (.int (if b then 1 else 0))) Ω) : WC K rIntX [.d (.bool b)] Ω R := wc_intB q
theorem wc_len' {x : DV} {ds : List DV} (hx : sq Ω x = some ds) (q : R (.d (.int ds.length)) Ω) : WC K (rLenQ K) [x] Ω R := wc_len hx q
theorem wc_tup' {x : DV} {xs : List PyData} (hx : ls Ω x = some xs) (q : R (.d (.tuple xs)) Ω) : WC K (rTupQ K) [x] Ω R := wc_tuple hx q
theorem wc_listD' {x : DV} {xs : List PyData} (hx : ls Ω x = some xs) (q : R (.d (.list xs)) Ω) : WC K (rListQ K) [x] Ω R := wc_listD hx q
theorem wc_listO' {x : DV} {xs : List PyData} (hx : ls Ω x = some xs) (q : R (.o Ω.length) (Ω ++ [.lst (xs.map DV.d)])) : WC K (rListQ K) [x] Ω R := wc_listO hx q
/-! chains of comparisons -/
theorem we_chain {r r' : R2} {ta tb tc : TE} (h : WE K W ta Γ Ω (fun x Ω1 => WE K W tb Γ Ω1 (fun y Ω2 => WR K r x y Ω2 (fun z Ω3 => ∃ b, z = .d (.bool b) ∧ (b = true → WE K W tc Γ Ω3 (fun w Ω4 => WR K r' y w Ω4 R) X) ∧ (b = false → R (.d (.bool false)) Ω3))) X) X) :
    WE K W (tChain r r' ta tb tc) Γ Ω R X := fun m G H σ Q c s k x =>
  h m G H σ _ c s (fun m1 G1 Ω1 H1 d1 v1 c1 n1 l1 r1 h1 => h1 m1 G1 H1 σ _ c1 (s.mono n1 l1) (fun m2 G2 Ω2 H2 d2 v2 c2 n2 l2 r2 h2 => by
    have n12 := n1.trans l1 n2
    have l12 := Nat.le_trans l1 l2
    refine h2 m2 G2 H2 v1 v2 _ c2 (RV.mono n2 l2 r1) r2 (fun m3 G3 Ω3 H3 d3 v3 c3 n3 l3 r3 ⟨b, e, ht, hf⟩ => ?_)
    subst e
    cases r3
    refine ⟨b, rfl, ?_⟩
    have n13 := n12.trans l12 n3
    have l13 := Nat.le_trans l12 l3
    cases b with
    | false =>
      first
        | (rw [if_neg Bool.false_ne_true]; exact k _ _ _ _ (.d (.bool false)) _ c3 n13 l13 (Dp.bl false) (hf rfl))
        | exact k _ _ _ _ (.d (.bool false)) _ c3 n13 l13 (Dp.bl false) (hf rfl)
    | true =>
      first
        | (rw [if_pos rfl]; exact (ht rfl) m3 G3 H3 σ _ c3 (s.mono n13 l13) (fun m4 G4 Ω4 H4 d4 v4 c4 n4 l4 r4 h4 => h4 m4 G4 H4 v2 v4 Q c4 (RV.mono (n3.trans l3 n4) (Nat.le_trans l3 l4) r2) r4 (k.on (n13.trans l13 n4) (Nat.le_trans l13 l4))) (x.on n13 l13))
        | exact (ht rfl) m3 G3 H3 σ _ c3 (s.mono n13 l13) (fun m4 G4 Ω4 H4 d4 v4 c4 n4 l4 r4 h4 => h4 m4 G4 H4 v2 v4 Q c4 (RV.mono (n3.trans l3 n4) (Nat.le_trans l3 l4) r2) r4 (k.on (n13.trans l13 n4) (Nat.le_trans l13 l4))) (x.on n13 l13)) (x.on n1 l1)) x
end
end HL
namespace HL
open PySem PySem.Spec PyProof.Rows L2 Evl
/-! ### the head's facts: defs, names, and one Bool more -/
def obsM (n : Nat) (fa : List He.Fa) (fn : List He.DefD) (ex : KF → Bool) (g : Addr → Option Obj) : He.AlD × Bool := (He.obsD fa fn (He.frG g (He.asD g n)), ex (He.frG g (He.asD g n)))
def hookM (n : Nat) (fa : List He.Fa) (fn : List He.DefD) (ex : KF → Bool) : PySem.W.Hook where
  α := He.AlD × Bool
  obs := fun s => obsM n fa fn ex s.heap.get?
  val := fun _ => (He.valD fn, true)
  says := fun _ h => ∃ K : PySem.W.Frag, K.In h ∧ He.SaysD fa fn K ∧ ex K = true
  of := fun _ _ e => ⟨_, He.frG_in, congrArg (fun z : He.AlD × Bool => z.1) e, congrArg (fun z : He.AlD × Bool => z.2) e⟩
  keeps := fun _ _ _ ⟨K, hK, c⟩ k => ⟨K, PySem.W.Frag.In.keeps hK k, c⟩
theorem obsM_eq {n : Nat} {fa : List He.Fa} {fn : List He.DefD} {ex : KF → Bool} {g : Addr → Option Obj} {s : Shared} (h : ∀ a, g a = s.heap.get? a) : obsM n fa fn ex g = (hookM n fa fn ex).obs s := by
  have e : g = s.heap.get? := funext h
  rw [e] <;> rfl
/-- the function data of a def -/
def noFd : FuncData := PySem.W.fnOf "" "" { posonlyargs := [], args := [], vararg := none, kwonlyargs := [], kw_defaults := [], kwarg := none, defaults := [] } [] { kind := .function, names := [], isGenerator := false, isCoroutine := false } .none .none .none .none none .none .none
def fdK (K : KF) (p : Str × Option Str) : FuncData := match K.lookup (He.fAd K p) with
  | some ⟨_, _, .func fd, _⟩ => fd
  | _ => noFd
theorem fdK_of {K : KF} {p : Str × Option Str} {x qual : Str} {params : Arguments} {body : List Stmt} {scope : Scope} {dvs : List V} {kws : List (Str × V)} {fd : FuncData} (F : FunD K x qual params body scope dvs kws (He.fAd K p) fd) : FunD K x qual params body scope dvs kws (He.fAd K p) (fdK K p) := by
  obtain ⟨oc, od, dV, kV, doc, pm, an, cdv, ct, osl, e, lk, _⟩ := F.ex
  have q : fdK K p = fd := by
    unfold fdK
    rw [lk]
  rw [q]
  exact F
/-- an address where a function stands -/
abbrev fA (K : KF) (x : Str) : Addr := He.fAd K (x, none)
abbrev FD (K : KF) (x : Str) (st : Stmt) (dvs : List V) : Prop := FunD K x x (defArgs st) (defBody st) (defScope st) dvs [] (fA K x) (fdK K (x, none))
abbrev FM (K : KF) (C m q : Str) (st : Stmt) (dvs : List V) : Prop := FunD K m q (defArgs st) (defBody st) (defScope st) dvs [] (He.fAd K (C, some m)) (fdK K (C, some m))
theorem fd_of {fa : List He.Fa} {fn : List He.DefD} {K : KF} (c : He.SaysD fa fn K) (i : Nat) {d : He.DefD} (h : fn[i]? = some d) : FunD K d.name d.qual d.params d.body d.scope (d.dvs K) (d.kws K) (He.fAd K d.at_) (fdK K d.at_) := by
  obtain ⟨fd, F⟩ := c.def_ i h
  exact fdK_of F
/-- facts of an exception's class -/
structure XC (K : KF) (mg : Str → Option Value) (x : Str) : Prop where
  gm : mg x = some (.ref (He.ga K x))
  ec : PySem.W.excIn K (He.ga K x) He.veBase "ValueError.__new__" = true
  kp : PySem.W.keepIn K (.ref (He.ga K x)) = true
  sb : PySem.W.subIn K (.ref (He.ga K x)) (.type "BaseException") = some true
  ty : PySem.W.typeIn K (.ref (He.ga K x)) = some (.type "type")
theorem xc_of {K : KF} {h : Heap} {mg : Str → Option Value} {x : Str} (X : K.In h) (G : h.Ns mainGlobals mg) (c0 : (He.Fa.glo x).ok K = true) (c : (He.Fa.exc x).ok K = true) : XC K mg x := by
  obtain ⟨h1, h2⟩ := He.ba c
  obtain ⟨h3, h4⟩ := He.ba h2
  obtain ⟨h5, h6⟩ := He.ba h4
  exact ⟨He.glo_ok X G c0, h1, h3, of_decide_eq_true h5, of_decide_eq_true h6⟩
theorem XC.raises {K : KF} {mg : Str → Option Value} {x : Str} (c : XC K mg x) {X : Cx} (h : X.K = K := by rfl) : Raises X (.ref (He.ga K x)) := by
  subst h
  exact raises_own c.sb c.ty
/-- a tuple of the module -/
theorem tup_dp {K : KF} {x : Str} {vs : List He.Dv} {xs : List PyData} (h : He.tupB K x vs = true) (hv : ∀ G, DpAll K G (vs.map (He.Dv.v K)) xs) : ∀ G, Dp K G (.ref (He.ga K x)) (.tuple xs) := fun G => .tup (He.tupB_ok h G) (hv G)
/-! ### isinstance of a caught error -/
def rIsEx (K : KF) (cls : Value) (dd : Option Addr) (a : Addr) : List V → Hp → VK → Prop := fun xs H Q => ∃ D, cls = .ref D ∧ dd = none ∧ ExcC K D ∧ rIsE K D a xs H Q
theorem call_isEx {X : Cx} {a : Addr} {oe : Obj} {cls : Value} {dd : Option Addr} {pn : List (Addr × Obj)} (hz : Zc cls dd oe) (hf : ∃ vs, oe.data = .fields vs) : CallR (X.suite a ((a, oe) :: pn)) (.builtin "isinstance") (rIsEx X.K cls dd a) := by
  intro pins s σ H xs us Q I r h
  obtain ⟨D, rfl, rfl, C, h⟩ := h
  exact call_isE C hz hf pins s σ H xs us Q I r h
def excB (K : KF) (D : Addr) : Bool := decide (PySem.W.findIn K (.ref D) "__getattribute__" = some (some (.builtin "BaseException.__getattribute__"))) && (decide (PySem.W.findIn K (.ref D) "__getattr__" = some none) && (decide (PySem.W.subIn K (.ref D) (.type "BaseException") = some true) && (PySem.W.hasDictIn K D &&
  (decide (PySem.W.findIn K (.ref D) "__class__" = some (some (.builtin "object.__class__"))) && (decide (PySem.W.specialIn K (.builtin "object.__class__") "__get__" = some (some (.builtin "getset_descriptor.__get__"))) && (decide (PySem.W.takesIn K (.builtin "object.__class__") = some true) && decide (PySem.W.mroIn K D (.type "object") = some true)))))))
theorem excB_ok {K : KF} {D : Addr} (h : excB K D = true) : ExcC K D := by
  obtain ⟨h1, h⟩ := Bool.and_eq_true_iff.mp h
  obtain ⟨h2, h⟩ := Bool.and_eq_true_iff.mp h
  obtain ⟨h3, h⟩ := Bool.and_eq_true_iff.mp h
  obtain ⟨h4, h⟩ := Bool.and_eq_true_iff.mp h
  obtain ⟨h5, h⟩ := Bool.and_eq_true_iff.mp h
  obtain ⟨h6, h⟩ := Bool.and_eq_true_iff.mp h
  obtain ⟨h7, h8⟩ := Bool.and_eq_true_iff.mp h
  exact ⟨of_decide_eq_true h1, of_decide_eq_true h2, of_decide_eq_true h3, h4, of_decide_eq_true h5, of_decide_eq_true h6, of_decide_eq_true h7, of_decide_eq_true h8⟩
/-- what the classes say of one another -/
abbrev KA (K : KF) (x y : Str) (b : Bool) : Prop := PySem.W.kitOne K (.ref (He.ga K x)) (.ref (He.ga K y)) = some b
abbrev KV (K : KF) (x : Str) (y : String) (b : Bool) : Prop := PySem.W.kitOne K (.ref (He.ga K x)) (.type y) = some b
abbrev EM (K : KF) (x y : Str) (b : Bool) : Prop := PySem.W.exmOne K (.ref (He.ga K x)) (.ref (He.ga K y)) = some b
theorem wc_isE {K : KF} {Ω : Om} {R : DV → Om → Prop} {D C a : Addr} {dd : Option Addr} {b : Bool} (hD : ExcC K D) (hk : PySem.W.kitOne K (.ref D) (.ref C) = some b) (q : R (.d (.bool b)) Ω) : WC K (rIsEx K (.ref D) dd a) [.e (.own D) a (.ref D) dd, .v (.ref C)] Ω R := fun m G H vs Q c r k => by
  cases r with
  | cons r1 rs => cases rs with
    | cons r2 rs =>
      cases rs
      obtain ⟨rfl, _, rfl⟩ := r1
      cases r2
      exact ⟨D, rfl, rfl, hD, _, _, b, rfl, fun u hu => hu, hk, k _ _ _ _ (.d (.bool b)) _ c (Nxt.refl ..) (Nat.le_refl _) (Dp.bl _) q⟩
theorem wc_isEv {K : KF} {Ω : Om} {R : DV → Om → Prop} {D a : Addr} {dd : Option Addr} {n : String} {b : Bool} (hD : ExcC K D) (hk : PySem.W.kitOne K (.ref D) (.type n) = some b) (q : R (.d (.bool b)) Ω) : WC K (rIsEx K (.ref D) dd a) [.e (.own D) a (.ref D) dd, .v (.ty n)] Ω R := fun m G H vs Q c r k => by
  cases r with
  | cons r1 rs => cases rs with
    | cons r2 rs =>
      cases rs
      obtain ⟨rfl, _, rfl⟩ := r1
      cases r2
      exact ⟨D, rfl, rfl, hD, _, _, b, rfl, fun u hu => hu, hk, k _ _ _ _ (.d (.bool b)) _ c (Nxt.refl ..) (Nat.le_refl _) (Dp.bl _) q⟩
def tTryAs (K : KF) (tb : WX → TS) (ts : Addr → Value → Option Addr → TS) (c : Value) (i : Nat) (W : WX) : TS := fun D σ H => tb (wAs K c i ts W D) D σ H
def tTryOnly (K : KF) (tb : WX → TS) (ts : Addr → Value → Option Addr → TS) (c : Value) (W : WX) : TS := fun D σ H => tb (wOnly K c ts W D) D σ H
def tRaise (K : KF) (x : Str) (W : WX) : TS := fun _ σ H => W (.ref (He.ga K x)) none σ H
section
variable {K : KF} {W : WX} {Γ : Gm} {Ω : Om} {O : Outs}
theorem ws_try {tb : WX → TS} {ts : Addr → Value → Option Addr → TS} {c : Value} {i : Nat}
    (h : ∀ W' : WX, WS K W' (tb W') Γ Ω { O with er := fun Γ1 e Ω1 => ∃ b, PySem.W.exmOne K (clsOf e) c = some b ∧
      (b = true → ∀ a cls dd, cls = clsOf e → WS K W (ts a cls dd) (Γ1.set i (some (.e e a cls dd))) Ω1 { nx := fun Γ2 Ω2 => O.nx (Γ2.set i none) Ω2, rt := O.rt, bk := fun Γ2 Ω2 => O.bk (Γ2.set i none) Ω2, ct := fun Γ2 Ω2 => O.ct (Γ2.set i none) Ω2, er := O.er }) ∧
      (b = false → O.er Γ1 e Ω1) }) : WS K W (tTryAs K tb ts c i W) Γ Ω O := ws_tryAs h
theorem ws_tryO {tb : WX → TS} {ts : Addr → Value → Option Addr → TS} {c : Value}
    (h : ∀ W' : WX, WS K W' (tb W') Γ Ω { O with er := fun Γ1 e Ω1 => ∃ b, PySem.W.exmOne K (clsOf e) c = some b ∧ (b = true → ∀ a cls dd, cls = clsOf e → WS K W (ts a cls dd) Γ1 Ω1 O) ∧ (b = false → O.er Γ1 e Ω1) }) :
    WS K W (tTryOnly K tb ts c W) Γ Ω O := ws_tryOnly h
theorem ws_rs {x : Str} (q : O.er Γ (.own (He.ga K x)) Ω) : WS K W (tRaise K x W) Γ Ω O := ws_raise q
end
theorem ps_rs {X : Cx} {W : WX} {x m : Str} {j : Nat} {p p2 pos pos2 : Pos} (hc : X.calm = true) (tk : Takes X W) (T : XC X.K X.mg x) (hg : Gl X x) (hdb : (x == ("__debug__" : Str)) = false := by decide) :
    PS X (.Raise (some (.Call (.Name x p) [.Constant (.str m) j p2] [] pos)) none pos2) (tRaise X.K x W) := ps_raise hc tk (pmk_own PySem.F.excBase_ValueError T.ec T.gm T.kp (raises_own T.sb T.ty) hg hdb)
section
variable {X : Cx} {x n : Str} {i : Nat} {body suite : List Stmt} {b₀ : Stmt} {np pos pos' : Pos} {tb : WX → TS} {ts : Addr → Value → Option Addr → TS} {Wout : WX}
theorem ps_tryA (hs : X.stack = X.env :: X.outer) (hf : X.env.frame = some X.env.locals) (hN : X.N.Nodup) (hi : X.N[i]? = some n) (hln : X.env.kindOf n = some .local) (hg : Gl X x) (T : XC X.K X.mg x) (tk : Takes X Wout)
    (hb : ∀ (W : WX) (pn : List (Addr × Obj)) (xe : Value → Shared → Prop), Takes (X.tr pn xe) W → PassesOwn (model X.prog X.w) X.A X.env xe → PSs (X.tr pn xe) body (tb W))
    (hsu : ∀ (a : Addr) (oe : Obj) (cls : Value) (d : Option Addr) (pn : List (Addr × Obj)), Zc cls d oe → (∃ vs, oe.data = .fields vs) → PSs (X.suite a ((a, oe) :: pn)) (b₀ :: suite) (ts a cls d)) (hdb : (x == ("__debug__" : Str)) = false := by decide) :
    PS X (.Try body [.ExceptHandler (some (.Name x np)) (some n) (b₀ :: suite) pos'] [] [] pos) (tTryAs X.K tb ts (.ref (He.ga X.K x)) i Wout) := ps_try_as hs hf hN hi hln ⟨hg, hdb, Or.inl T.gm⟩ tk hb hsu
theorem ps_tryO (hs : X.stack = X.env :: X.outer) (hf : X.env.frame = some X.env.locals) (hg : Gl X x) (T : XC X.K X.mg x) (tk : Takes X Wout)
    (hb : ∀ (W : WX) (pn : List (Addr × Obj)) (xe : Value → Shared → Prop), Takes (X.tr pn xe) W → PassesOwn (model X.prog X.w) X.A X.env xe → PSs (X.tr pn xe) body (tb W))
    (hsu : ∀ (a : Addr) (oe : Obj) (cls : Value) (d : Option Addr) (pn : List (Addr × Obj)), Zc cls d oe → (∃ vs, oe.data = .fields vs) → PSs (X.suite a ((a, oe) :: pn)) (b₀ :: suite) (ts a cls d)) (hdb : (x == ("__debug__" : Str)) = false := by decide) :
    PS X (.Try body [.ExceptHandler (some (.Name x np)) none (b₀ :: suite) pos'] [] [] pos) (tTryOnly X.K tb ts (.ref (He.ga X.K x)) Wout) := ps_try_only hs hf ⟨hg, hdb, Or.inl T.gm⟩ tk hb hsu
end
end HL
namespace HL
open PySem PySem.Spec PyProof.Rows L2 Evl
theorem bT {b : Bool} {A B : Prop} (hb : b = true) (h : A) : (b = true → A) ∧ (b = false → B) := ⟨fun _ => h, fun e => by rw [hb] at e; cases e⟩
theorem bF {b : Bool} {A B : Prop} (hb : b = false) (h : B) : (b = true → A) ∧ (b = false → B) := ⟨fun e => (by rw [hb] at e; cases e), fun _ => h⟩
theorem ex_b {b : Bool} {B : Bool → Prop} (h : B b) : ∃ b', DV.d (.bool b) = .d (.bool b') ∧ B b' := ⟨b, rfl, h⟩
theorem ex_i {b : Int} {B : Int → Prop} (h : B b) : ∃ b', DV.d (.int b) = .d (.int b') ∧ B b' := ⟨b, rfl, h⟩
theorem ex_p {x y : DV} {B : DV → DV → Prop} (h : B x y) : ∃ a b, [x, y] = [a, b] ∧ B a b := ⟨x, y, rfl, h⟩
theorem ex_as {ds : List DV} {xs : List PyData} {B : List PyData → Prop} (e : asDs ds = some xs) (l : xs.length ≤ 100000) (h : B xs) : ∃ xs, asDs ds = some xs ∧ xs.length ≤ 100000 ∧ B xs := ⟨xs, e, l, h⟩
def isInt : PyData → Bool
  | .int _ => true
  | .bool _ => true
  | _ => false
def isBool : PyData → Bool
  | .bool _ => true
  | _ => false
def isStr : PyData → Bool
  | .str _ => true
  | _ => false
def isTuple : PyData → Bool
  | .tuple _ => true
  | _ => false
def isList : PyData → Bool
  | .list _ => true
  | _ => false
def known : PyData → Bool
  | .dict _ => false
  | _ => true
section
variable {K : KF} {Ω : Om} {R : DV → Om → Prop} {x : DV} {y : PyData}
theorem wc_isInt (hx : vw Ω x = some y) (hk : known y = true) (q : R (.d (.bool (isInt y))) Ω) : WC K (rIsi K) [x, .v (.ty "int")] Ω R := by
  cases y <;> first | exact wc_isi (z := true) hx rfl (by decide +kernel) q | exact wc_isi (z := false) hx rfl (by decide +kernel) q | exact absurd (show false = true from hk) (by decide)
theorem wc_isBool (hx : vw Ω x = some y) (hk : known y = true) (q : R (.d (.bool (isBool y))) Ω) : WC K (rIsi K) [x, .v (.ty "bool")] Ω R := by
  cases y <;> first | exact wc_isi (z := true) hx rfl (by decide +kernel) q | exact wc_isi (z := false) hx rfl (by decide +kernel) q | exact absurd (show false = true from hk) (by decide)
theorem wc_isStr (hx : vw Ω x = some y) (hk : known y = true) (q : R (.d (.bool (isStr y))) Ω) : WC K (rIsi K) [x, .v (.ty "str")] Ω R := by
  cases y <;> first | exact wc_isi (z := true) hx rfl (by decide +kernel) q | exact wc_isi (z := false) hx rfl (by decide +kernel) q | exact absurd (show false = true from hk) (by decide)
theorem wc_isTuple (hx : vw Ω x = some y) (hk : known y = true) (q : R (.d (.bool (isTuple y))) Ω) : WC K (rIsi K) [x, .v (.ty "tuple")] Ω R := by
  cases y <;> first | exact wc_isi (z := true) hx rfl (by decide +kernel) q | exact wc_isi (z := false) hx rfl (by decide +kernel) q | exact absurd (show false = true from hk) (by decide)
theorem wc_isList (hx : vw Ω x = some y) (hk : known y = true) (q : R (.d (.bool (isList y))) Ω) : WC K (rIsi K) [x, .v (.ty "list")] Ω R := by
  cases y <;> first | exact wc_isi (z := true) hx rfl (by decide +kernel) q | exact wc_isi (z := false) hx rfl (by decide +kernel) q | exact absurd (show false = true from hk) (by decide)
end
def dR (x : Rat) : PyData := .tuple [.int x.num, .int x.den]
theorem wr_ixR0 {K : KF} {Ω : Om} {R : DV → Om → Prop} {x : Rat} (q : R (.d (.int x.num)) Ω) : WR K (rIx K) (.d (dR x)) (.d (.int 0)) Ω R := wr_ixT rfl q
theorem wr_ixR1 {K : KF} {Ω : Om} {R : DV → Om → Prop} {x : Rat} (q : R (.d (.int x.den)) Ω) : WR K (rIx K) (.d (dR x)) (.d (.int 1)) Ω R := wr_ixT rfl q
theorem shaped_dR (x : Rat) : SeqAt.shaped (dR x) = true := rfl
theorem eqv_dR (x y : Rat) : PyData.eqv (dR x) (dR y) = decide (x = y) := by
  show (x.num == y.num && (((x.den : Int) == (y.den : Int)) && true)) = _
  rw [Bool.and_true]
  by_cases h : x = y
  · subst h; simp
  · rw [decide_eq_false h]
    by_cases h1 : x.num = y.num
    · have h2 : x.den ≠ y.den := fun e => h (Rat.ext h1 e)
      have : ((x.den : Int) == (y.den : Int)) = false := by rw [beq_eq_false_iff_ne]; omega
      rw [this, Bool.and_false]
    · have : (x.num == y.num) = false := by simpa using h1
      rw [this, Bool.false_and]
theorem wr_eqR {K : KF} {Ω : Om} {R : DV → Om → Prop} {x y : Rat} (q : R (.d (.bool (decide (x = y)))) Ω) : WR K (rEqD K) (.d (dR x)) (.d (dR y)) Ω R := wr_eq rfl rfl (shaped_dR x) (shaped_dR y) (by rw [eqv_dR]; exact q)
theorem wr_neR {K : KF} {Ω : Om} {R : DV → Om → Prop} {x y : Rat} (q : R (.d (.bool (!decide (x = y)))) Ω) : WR K (rNeD K) (.d (dR x)) (.d (dR y)) Ω R := wr_ne rfl rfl (shaped_dR x) (shaped_dR y) (by rw [eqv_dR]; exact q)
theorem eqv_int (a b : Int) : PyData.eqv (.int a) (.int b) = decide (a = b) := by
  show (a == b) = _
  exact (Bool.beq_eq_decide_eq a b)
theorem eqv_bool (a b : Bool) : PyData.eqv (.bool a) (.bool b) = decide (a = b) := by
  show (a == b) = _
  exact (Bool.beq_eq_decide_eq a b)
theorem wr_eqI {K : KF} {Ω : Om} {R : DV → Om → Prop} {x y : Int} (q : R (.d (.bool (decide (x = y)))) Ω) : WR K (rEqD K) (.d (.int x)) (.d (.int y)) Ω R := wr_eq rfl rfl rfl rfl (by rw [eqv_int]; exact q)
theorem wr_neI {K : KF} {Ω : Om} {R : DV → Om → Prop} {x y : Int} (q : R (.d (.bool (!decide (x = y)))) Ω) : WR K (rNeD K) (.d (.int x)) (.d (.int y)) Ω R := wr_ne rfl rfl rfl rfl (by rw [eqv_int]; exact q)
theorem wr_eqB {K : KF} {Ω : Om} {R : DV → Om → Prop} {x y : Bool} (q : R (.d (.bool (decide (x = y)))) Ω) : WR K (rEqD K) (.d (.bool x)) (.d (.bool y)) Ω R := wr_eq rfl rfl rfl rfl (by rw [eqv_bool]; exact q)
theorem wr_neB {K : KF} {Ω : Om} {R : DV → Om → Prop} {x y : Bool} (q : R (.d (.bool (!decide (x = y)))) Ω) : WR K (rNeD K) (.d (.bool x)) (.d (.bool y)) Ω R := wr_ne rfl rfl rfl rfl (by rw [eqv_bool]; exact q)
theorem ws_asgL {K : KF} {W : WX} {Γ : Gm} {Ω : Om} {O : Outs} {i : Nat} (q : O.nx (Γ.set i (some (.o Ω.length))) (Ω ++ [.lst []])) : WS K W (tAsg (tLst tNil) (gName i)) Γ Ω O :=
  ws_asg (we_lstO (wa_nil ⟨by decide, wg_name q⟩))
local macro_rules | `(tactic| walk_at "hl1") => `(tactic| first
  | with_reducible refine ws_seq ?_
  | with_reducible refine ws_asgL ?_
  | with_reducible refine ws_asg ?_
  | with_reducible refine ws_if ?_
  | with_reducible refine ws_ret ?_
  | with_reducible refine ws_drop ?_
  | with_reducible refine ws_par ?_
  | with_reducible refine we_int ?_
  | with_reducible refine we_bl ?_
  | with_reducible refine we_str ?_
  | with_reducible refine we_non ?_
  | with_reducible refine we_ty ?_
  | with_reducible refine we_ref ?_
  | with_reducible refine we_op ?_
  | with_reducible refine we_un ?_
  | with_reducible refine we_if ?_
  | with_reducible refine we_cb ?_
  | with_reducible refine we_call ?_
  | with_reducible refine we_callS ?_
  | with_reducible refine we_tup ?_
  | with_reducible refine we_lstD ?_
  | with_reducible refine we_chain ?_
  | with_reducible refine we_sl ?_
  | with_reducible refine wo_none ?_
  | with_reducible refine wo_some ?_
  | with_reducible refine wa_nil ?_
  | with_reducible refine wa_cons ?_
  | with_reducible refine wt_test ?_
  | with_reducible refine wt_B ?_
  | with_reducible refine wt_and ?_
  | with_reducible refine wt_or ?_
  | with_reducible refine wt_not ?_
  | with_reducible refine wt_yes ?_
  | with_reducible refine we_andV ?_
  | with_reducible refine we_orV ?_
  | with_reducible refine we_notV ?_
  | with_reducible refine wg_name ?_
  | with_reducible refine wgs_nil ?_
  | with_reducible refine wgs_cons ?_
  | with_reducible refine wr_sub ?_
  | with_reducible refine wr_addI ?_
  | with_reducible refine wr_lt ?_
  | with_reducible refine wr_le ?_
  | with_reducible refine wr_gt ?_
  | with_reducible refine wr_ge ?_
  | with_reducible refine wu_neg ?_
  | with_reducible refine wr_ixR0 ?_
  | with_reducible refine wr_eqR ?_
  | with_reducible refine wr_neR ?_
  | with_reducible refine wr_eqI ?_
  | with_reducible refine wr_neI ?_
  | with_reducible refine wr_eqB ?_
  | with_reducible refine wr_neB ?_
  | with_reducible refine wr_ixR1 ?_
  | ((with_reducible refine' wr_mul ?h1 ?_); (case h1 => first | exact .inr (by assumption) | exact .inl (.inl ⟨by decide, by decide⟩) | exact .inl (.inr ⟨by decide, by decide⟩) | assumption))
  | with_reducible refine wc_abs' ?_
  | with_reducible refine wc_max' ?_
  | with_reducible refine wc_min' ?_
  | with_reducible refine wc_intI' ?_
  | with_reducible refine wc_intB' ?_
  | with_reducible refine wsl_T ?_
  | with_reducible refine ex_b ?_
  | with_reducible refine ex_i ?_
  | with_reducible refine ex_p ?_
  | with_reducible refine ws_next ?_
  | with_reducible refine ws_rs ?_
  | with_reducible refine ws_retN ?_
  | with_reducible refine we_bm ?_
  | with_reducible refine we_bm0 ?_
  | ((with_reducible refine' we_var ?h1 ?_); (case h1 => rfl))
  | ((with_reducible refine' wg_tup ?h1 ?_); (case h1 => rfl))
  | ((with_reducible refine' wr_isN' ?h1 ?_); (case h1 => rfl))
  | ((with_reducible refine' wr_notN' ?h1 ?_); (case h1 => rfl))
  | ((with_reducible refine' wr_ixT ?h1 ?_); (case h1 => rfl))
  | ((with_reducible refine' wr_ixL ?h1 ?_); (case h1 => rfl))
  | ((with_reducible refine' wc_len' ?h1 ?_); (case h1 => rfl))
  | ((with_reducible refine' wc_isInt ?h1 ?h2 ?_); (case h1 => rfl); (case h2 => first | rfl | assumption))
  | ((with_reducible refine' wc_isBool ?h1 ?h2 ?_); (case h1 => rfl); (case h2 => first | rfl | assumption))
  | ((with_reducible refine' wc_isTuple ?h1 ?h2 ?_); (case h1 => rfl); (case h2 => first | rfl | assumption))
  | ((with_reducible refine' wc_isStr ?h1 ?h2 ?_); (case h1 => rfl); (case h2 => first | rfl | assumption))
  | ((with_reducible refine' wc_isList ?h1 ?h2 ?_); (case h1 => rfl); (case h2 => first | rfl | assumption))
  | ((with_reducible refine' ex_as ?h1 ?h2 ?_); (case h1 => rfl); (case h2 => exact Nat.le_of_ble_eq_true rfl)))
local macro_rules | `(tactic| walk_at "hl") => `(tactic| repeat walk_at "hl1")
/-! ### ratios are the rational numbers -/
theorem fmod_natAbs_lt {a b : Int} (h : b ≠ 0) : (a.fmod b).natAbs < b.natAbs := by
  have e := Int.mul_fdiv_add_fmod a b
  by_cases h0 : 0 ≤ b
  · have h1 := Int.fmod_nonneg_of_pos a (show 0 < b by omega)
    have h2 := Int.fmod_lt_of_pos a (show 0 < b by omega)
    omega
  · have h3 : (a.fmod b) = -((-a).fmod (-b)) := by
      rw [Int.fmod_eq_emod_of_nonneg (-a) (show 0 ≤ -b by omega)]
      have : a.fmod b = -((-a).fmod (-b)) := by
        have q := Int.neg_fmod_neg (a := a) (b := b)
        rw [q]; omega
      rw [this, Int.fmod_eq_emod_of_nonneg (-a) (show 0 ≤ -b by omega)]
    rw [h3, Int.fmod_eq_emod_of_nonneg (-a) (show 0 ≤ -b by omega)]
    have h1 := Int.emod_nonneg (-a) (show (-b) ≠ 0 by omega)
    have h2 := Int.emod_lt_of_pos (-a) (show 0 < -b by omega)
    omega
theorem gcd_fmod (a b : Int) : Int.gcd b (a.fmod b) = Int.gcd a b := by
  have e := Int.mul_fdiv_add_fmod a b
  have h : a.fmod b = a - b * a.fdiv b := by omega
  rw [h]
  apply Nat.dvd_antisymm
  · apply Int.dvd_gcd
    · have h1 : ((Int.gcd b (a - b * a.fdiv b) : Nat) : Int) ∣ b := Int.gcd_dvd_left ..
      have h2 : ((Int.gcd b (a - b * a.fdiv b) : Nat) : Int) ∣ (a - b * a.fdiv b) := Int.gcd_dvd_right ..
      have h3 := Int.dvd_add h2 (Int.dvd_mul_of_dvd_left (c := a.fdiv b) h1)
      have h4 : a - b * a.fdiv b + b * a.fdiv b = a := by omega
      rw [h4] at h3
      exact h3
    · exact Int.gcd_dvd_left ..
  · apply Int.dvd_gcd
    · exact Int.gcd_dvd_right ..
    · exact Int.dvd_sub (Int.gcd_dvd_left ..) (Int.dvd_mul_of_dvd_left (Int.gcd_dvd_right ..))
theorem abs_if (a : Int) : (if a < 0 then -a else a) = (a.natAbs : Int) := by split <;> omega
/-- by what both are divided: with the sign of the lower one -/
def byOf (a b : Int) : Int := if b < 0 then 0 - (Int.gcd a b : Int) else (Int.gcd a b : Int)
theorem gcd_pos {a b : Int} (h : b ≠ 0) : 0 < (Int.gcd a b : Int) := by
  have : Int.gcd a b ≠ 0 := fun e => h (Int.gcd_eq_zero_iff.mp e).2
  omega
theorem low_num {a b : Int} (h : b ≠ 0) : a.fdiv (byOf a b) = (Rat.divInt a b).num := by
  rw [Rat.num_divInt, Int.gcd_comm b a]
  have hg := gcd_pos (a := a) h
  obtain ⟨c, hc⟩ : ((Int.gcd a b : Nat) : Int) ∣ a := Int.gcd_dvd_left ..
  unfold byOf
  generalize (Int.gcd a b : Int) = g at *
  split
  · rename_i hb
    rw [Int.sign_eq_neg_one_of_neg hb, hc]
    have e1 : (g * c).fdiv (0 - g) = -c := by
      rw [show g * c = (0 - g) * (-c) by grind]
      exact Int.mul_fdiv_cancel_left _ (by omega)
    have e2 : -1 * (g * c) / g = -c := by
      rw [show -1 * (g * c) = g * (-c) by grind]
      exact Int.mul_ediv_cancel_left _ (by omega)
    rw [e1, e2]
  · rename_i hb
    rw [Int.sign_eq_one_of_pos (by omega), hc, Int.mul_fdiv_cancel_left _ (by omega), Int.one_mul, Int.mul_ediv_cancel_left _ (by omega)]
theorem low_den {a b : Int} (h : b ≠ 0) : b.fdiv (byOf a b) = ((Rat.divInt a b).den : Int) := by
  rw [Rat.den_divInt, if_neg h, Int.gcd_comm b a]
  have hg := gcd_pos (a := a) h
  obtain ⟨c, hc⟩ : ((Int.gcd a b : Nat) : Int) ∣ b := Int.gcd_dvd_right ..
  have e3 : ((b.natAbs / Int.gcd a b : Nat) : Int) = (b.natAbs : Int) / (Int.gcd a b : Int) := Int.natCast_ediv ..
  rw [e3]
  unfold byOf
  generalize (Int.gcd a b : Int) = g at *
  have hb0 : (b.natAbs : Int) = if b < 0 then -b else b := by split <;> omega
  rw [hb0]
  split
  · rw [hc]
    have e1 : (g * c).fdiv (0 - g) = -c := by
      rw [show g * c = (0 - g) * (-c) by grind]
      exact Int.mul_fdiv_cancel_left _ (by omega)
    have e2 : -(g * c) / g = -c := by
      rw [show -(g * c) = g * (-c) by grind]
      exact Int.mul_ediv_cancel_left _ (by omega)
    rw [e1, e2]
  · rw [hc, Int.mul_fdiv_cancel_left _ (by omega), Int.mul_ediv_cancel_left _ (by omega)]
theorem dR_eq {a b : Int} (h : b ≠ 0) : dR (Rat.divInt a b) = .tuple [.int (a.fdiv (byOf a b)), .int (b.fdiv (byOf a b))] := by
  rw [low_num h, low_den h]
  rfl
/-! ### sizes -/
structure Sz (n : Nat) (x : Rat) : Prop where
  num : x.num.natAbs < 2 ^ n
  den : x.den < 2 ^ n
theorem Sz.mono {n m : Nat} {x : Rat} (h : Sz n x) (l : n ≤ m) : Sz m x :=
  ⟨Nat.lt_of_lt_of_le h.num (Nat.pow_le_pow_right (by decide) l), Nat.lt_of_lt_of_le h.den (Nat.pow_le_pow_right (by decide) l)⟩
/-- both are small enough to be reckoned with -/
def Sz2 (x y : Rat) : Prop := ∃ n m, Sz n x ∧ Sz m y ∧ n + m ≤ 8900
theorem log2_lt {x n : Nat} (h : x < 2 ^ n) (hn : 0 < n) : x.log2 < n := PySem.Flt.log2_lt_of hn h
theorem mul_lt2 {a b n m : Nat} (ha : a < 2 ^ n) (hb : b < 2 ^ m) : a * b < 2 ^ (n + m) := by
  rw [Nat.pow_add]
  exact Nat.mul_lt_mul'' ha hb
theorem cmul {i j : Int} {n m : Nat} (ha : i.natAbs < 2 ^ n) (hb : j.natAbs < 2 ^ m) (h : n + m ≤ 900000) : CMulW i j :=
  wide_mul (a := n + 1) (b := m + 1) (Nat.lt_of_lt_of_le ha (Nat.pow_le_pow_right (by decide) (by omega))) (Nat.lt_of_lt_of_le hb (Nat.pow_le_pow_right (by decide) (by omega))) (by omega) (by omega) (by omega)
theorem gcd_lt {a b : Int} {n : Nat} (h : b ≠ 0) (hb : b.natAbs < 2 ^ n) : Int.gcd a b < 2 ^ n := by
  refine Nat.lt_of_le_of_lt ?_ hb
  have : Int.gcd a b ∣ b.natAbs := by
    have := Int.gcd_dvd_right a b
    exact Int.ofNat_dvd_left.mp this
  exact Nat.le_of_dvd (by omega) this
theorem byOf_abs {a b : Int} : (byOf a b).natAbs = Int.gcd a b := by
  unfold byOf
  split <;> omega
theorem byOf_ne {a b : Int} (h : b ≠ 0) : byOf a b ≠ 0 := by
  have := gcd_pos (a := a) h
  unfold byOf
  split <;> omega
theorem cdiv_by {a b : Int} {x : Int} {n : Nat} (h : b ≠ 0) (hb : b.natAbs < 2 ^ n) (hn : n ≤ 8990) : CDivX x (byOf a b) := by
  refine ⟨byOf_ne h, ?_⟩
  rw [byOf_abs]
  have h1 := gcd_lt (a := a) h hb
  exact Nat.lt_of_lt_of_le (log2_lt (n := n + 1) (Nat.lt_of_lt_of_le h1 (Nat.pow_le_pow_right (by decide) (by omega))) (by omega)) (by omega)
theorem rat_add (p q : Rat) : Rat.divInt (p.num * q.den + q.num * p.den) (p.den * q.den) = p + q := by
  rw [Rat.add_def', ← Int.natCast_mul, Rat.divInt_ofNat]
theorem rat_sub (p q : Rat) : Rat.divInt (p.num * q.den - q.num * p.den) (p.den * q.den) = p - q := by
  rw [Rat.sub_def', ← Int.natCast_mul, Rat.divInt_ofNat]
theorem rat_mul (p q : Rat) : Rat.divInt (p.num * q.num) (p.den * q.den) = p * q := by
  rw [Rat.mul_def', ← Int.natCast_mul, Rat.divInt_ofNat]
theorem rat_div (p q : Rat) : Rat.divInt (p.num * q.den) (p.den * q.num) = p / q := by
  rw [Rat.div_def]
  conv => rhs; rw [← Rat.num_divInt_den p, ← Rat.num_divInt_den q, Rat.inv_divInt, Rat.divInt_mul_divInt]
theorem den_pos (p : Rat) : 0 < (p.den : Int) := by have := p.den_pos; omega
theorem den_ne (p : Rat) : (p.den : Int) ≠ 0 := by have := p.den_pos; omega
theorem den_mul_ne (p q : Rat) : (p.den : Int) * (q.den : Int) ≠ 0 := Int.mul_ne_zero (den_ne p) (den_ne q)
theorem den_mul_lt {p q : Rat} {n m : Nat} (hp : Sz n p) (hq : Sz m q) : ((p.den : Int) * (q.den : Int)).natAbs < 2 ^ (n + m) := by
  rw [Int.natAbs_mul]
  exact mul_lt2 (by simpa using hp.den) (by simpa using hq.den)
structure Muls (p q : Rat) : Prop where
  nn : CMulW p.num q.num
  nd : CMulW p.num q.den
  dn : CMulW p.den q.num
  dd : CMulW p.den q.den
theorem muls {p q : Rat} {n m : Nat} (hp : Sz n p) (hq : Sz m q) (h : n + m ≤ 900000) : Muls p q :=
  ⟨cmul hp.num hq.num h, cmul hp.num (m := m) (by simpa using hq.den) h, cmul (n := n) (by simpa using hp.den) hq.num h, cmul (n := n) (m := m) (by simpa using hp.den) (by simpa using hq.den) h⟩
/-- what a product, a sum may have -/
theorem Sz2.symm {p q : Rat} (h : Sz2 p q) : Sz2 q p := let ⟨n, m, a, b, c⟩ := h; ⟨m, n, b, a, by omega⟩
theorem sz_of_divInt {a b : Int} {n : Nat} (hb : b ≠ 0) (ha : a.natAbs < 2 ^ n) (h : b.natAbs < 2 ^ n) : Sz n (Rat.divInt a b) := by
  constructor
  · rw [Rat.num_divInt]
    refine Nat.lt_of_le_of_lt ?_ ha
    have e : (b.sign * a / (b.gcd a : Int)).natAbs ≤ (b.sign * a).natAbs := by
      rw [Int.natAbs_ediv_of_dvd (Int.dvd_mul_of_dvd_right (Int.gcd_dvd_right ..))]
      exact Nat.div_le_self _ _
    refine Nat.le_trans e ?_
    rw [Int.natAbs_mul]
    have : b.sign.natAbs ≤ 1 := by
      rw [Int.natAbs_sign]
      split <;> omega
    calc b.sign.natAbs * a.natAbs ≤ 1 * a.natAbs := Nat.mul_le_mul_right _ this
      _ = a.natAbs := Nat.one_mul _
  · rw [Rat.den_divInt, if_neg hb]
    exact Nat.lt_of_le_of_lt (Nat.div_le_self _ _) h
theorem Sz.add {p q : Rat} {n m : Nat} (hp : Sz n p) (hq : Sz m q) : Sz (n + m + 1) (p + q) := by
  rw [← rat_add]
  refine sz_of_divInt (den_mul_ne p q) ?_ (Nat.lt_of_lt_of_le (den_mul_lt hp hq) (Nat.pow_le_pow_right (by decide) (by omega)))
  have h1 : (p.num * q.den).natAbs < 2 ^ (n + m) := by rw [Int.natAbs_mul]; exact mul_lt2 hp.num (by simpa using hq.den)
  have h2 : (q.num * p.den).natAbs < 2 ^ (n + m) := by rw [Int.natAbs_mul, Nat.mul_comm]; exact mul_lt2 (by simpa using hp.den) hq.num
  have h3 := Int.natAbs_add_le (p.num * q.den) (q.num * p.den)
  rw [Nat.pow_succ]
  omega
theorem Sz.neg {p : Rat} {n : Nat} (hp : Sz n p) : Sz n (-p) := ⟨by rw [Rat.neg_num, Int.natAbs_neg]; exact hp.num, by rw [Rat.neg_den]; exact hp.den⟩
theorem Sz.sub {p q : Rat} {n m : Nat} (hp : Sz n p) (hq : Sz m q) : Sz (n + m + 1) (p - q) := by
  rw [Rat.sub_eq_add_neg]
  exact hp.add hq.neg
theorem Sz.mul {p q : Rat} {n m : Nat} (hp : Sz n p) (hq : Sz m q) : Sz (n + m) (p * q) := by
  rw [← rat_mul]
  exact sz_of_divInt (den_mul_ne p q) (by rw [Int.natAbs_mul]; exact mul_lt2 hp.num hq.num) (den_mul_lt hp hq)
theorem Sz.inv {p : Rat} {n : Nat} (hp : Sz n p) (h1 : 0 < n) : Sz n p⁻¹ := by
  constructor
  · rw [Rat.num_inv, Int.natAbs_mul]
    have : p.num.sign.natAbs ≤ 1 := by
      rw [Int.natAbs_sign]
      split <;> omega
    refine Nat.lt_of_le_of_lt (Nat.mul_le_mul_right _ this) ?_
    rw [Nat.one_mul]
    simpa using hp.den
  · rw [Rat.den_inv]
    split
    · exact Nat.one_lt_two_pow (by omega)
    · exact hp.num
theorem Sz.div {p q : Rat} {n m : Nat} (hp : Sz n p) (hq : Sz m q) (h : 0 < m) : Sz (n + m) (p / q) := by
  rw [Rat.div_def]
  exact hp.mul (hq.inv h)
theorem Sz.int {a : Int} {n : Nat} (h : a.natAbs < 2 ^ n) (h0 : 0 < n) : Sz n (a : Rat) := ⟨by rw [Rat.num_intCast]; exact h, by rw [Rat.den_intCast]; exact Nat.one_lt_two_pow (by omega)⟩
/-! ### a pool of digits; the law's state: the pool at k, one's own things behind -/
def IsPool (c : OC) : Prop := ∃ a b d : Int, c = .lst [.d (.int a), .d (.int b), .d (.int d)] ∧ 0 ≤ a ∧ 0 ≤ b ∧ 0 ≤ d
theorem IsPool.flat {c : OC} (h : IsPool c) : flatO c := by
  obtain ⟨a, b, d, rfl, _⟩ := h
  intro x hx i
  simp only [List.mem_cons, List.not_mem_nil, or_false] at hx
  rcases hx with rfl | rfl | rfl <;> (intro z; cases z)
abbrev Drawn (k : Nat) (Ω : Om) (b : Int) (R : DV → Om → Prop) : Prop := ∀ (r : Int) (p : OC), 0 ≤ r → r < b → IsPool p → R (.d (.int r)) (Ω.set k p)
theorem get_app {α : Type} {l r : List α} {k : Nat} {x : α} (h : l[k]? = some x) : (l ++ r)[k]? = some x := by rw [List.getElem?_append_left (lt_of_get h)]; exact h
theorem get_set {α : Type} {l : List α} {k : Nat} {x : α} (h : k < l.length) : (l.set k x)[k]? = some x := by rw [List.getElem?_set, if_pos rfl, if_pos h]
/-- the changed pool, what was added behind left -/
theorem dr_pool {Ω : Om} {R : DV → Om → Prop} {d : DV} {k : Nat} {p : OC} {J : Om} (hk : k < Ω.length) (hp : IsPool p) (q : R d (Ω.set k p)) (io : ∀ i, d ≠ .o i) : Dr Ω R d (Ω.set k p ++ J) := by
  have el : (Ω.set k p).length = Ω.length := List.length_set
  refine .inr ⟨Ω.length, ⟨Nat.le_refl _, by simp, fun j c hj e => ?_⟩, idOk_flat io, ?_⟩
  · rw [List.getElem?_append_left (by rw [el]; exact hj), List.getElem?_set] at e
    by_cases ek : k = j
    · rw [if_pos ek, if_pos (by omega)] at e
      cases e
      exact .inr hp.flat
    · rw [if_neg ek] at e
      exact .inl e
  · have : (Ω.set k p ++ J).take Ω.length = Ω.set k p := by rw [← el]; exact take_app _ _
    rw [this]
    exact q
theorem wr_ix_ints {K : KF} {Ω : Om} {R : DV → Om → Prop} {xs : List PyData} {ns : List Int} {i : Int} (e : xs = ns.map PyData.int) (h0 : 0 ≤ i) (h1 : i < ns.length) (q : ∀ n ∈ ns, R (.d (.int n)) Ω) : WR K (rIx K) (.d (.list xs)) (.d (.int i)) Ω R := by
  subst e
  obtain ⟨j, rfl⟩ : ∃ j : Nat, i = (j : Int) := ⟨i.toNat, by omega⟩
  have hj : j < ns.length := by omega
  exact wr_ixL (atI_nat (j := j) (v := .int ns[j]) (by simp [hj])) (q _ (List.getElem_mem hj))
theorem wr_ix_any {K : KF} {Ω : Om} {R : DV → Om → Prop} {xs : List PyData} {i : Int} (h0 : 0 ≤ i) (h1 : i < xs.length) (q : ∀ y ∈ xs, R (.d y) Ω) : WR K (rIx K) (.d (.list xs)) (.d (.int i)) Ω R := by
  obtain ⟨j, rfl⟩ : ∃ j : Nat, i = (j : Int) := ⟨i.toNat, by omega⟩
  have hj : j < xs.length := by omega
  exact wr_ixL (atI_nat (j := j) (v := xs[j]) (by simp [hj])) (q _ (List.getElem_mem hj))
theorem natAbs_lt_pow {a : Int} {n : Nat} (h1 : a < (2 : Int) ^ n) (h2 : -(2 : Int) ^ n < a) : a.natAbs < 2 ^ n := by
  have e : ((2 ^ n : Nat) : Int) = (2 : Int) ^ n := by rw [Int.natCast_pow]; rfl
  omega
theorem mul_pos {a b : Rat} (h : 0 < a) (h2 : 0 < b) : 0 < a * b := Rat.mul_pos h h2
theorem rat_num_pos {x : Rat} (h : 0 < x) : 0 < x.num := by
  have := (Rat.lt_iff 0 x).mp h
  simpa using this
theorem rat_pos_num {x : Rat} (h : 0 < x.num) : 0 < x := by
  rw [Rat.lt_iff]
  simpa using h
theorem rng_get {α : Type} {n i : Nat} {f : Nat → α} {y : α} (h : ((List.range n).map f)[i]? = some y) : i < n ∧ y = f i := by
  rw [List.getElem?_map] at h
  have hi : i < n := by
    by_cases h1 : i < n
    · exact h1
    · rw [List.getElem?_eq_none (by rw [List.length_range]; omega)] at h
      cases h
  rw [List.getElem?_range hi] at h
  cases h
  exact ⟨hi, rfl⟩
theorem set_app {α : Type} {l r : List α} {k : Nat} {x y : α} (h : k < l.length) : (l.set k x ++ r).set k y = l.set k y ++ r := by
  rw [List.set_append_left _ _ (by rw [List.length_set]; exact h), List.set_set]
/-! ### balls, rows, walls -/
structure Bl where
  p : Rat
  s : Rat
  w : Int
def dB (b : Bl) : PyData := .tuple [dR b.p, dR b.s, .int b.w]
def dRow (l : List Bl) : PyData := .tuple (l.map dB)
abbrev Wl := Option (Rat × Rat)
def dW : Wl → PyData
  | none => .none
  | some (p, s) => .tuple [dR p, dR s]
def dWs (a b : Wl) : PyData := .tuple [dW a, dW b]
abbrev Sd (x : Rat) : Prop := Sz 4000 x
def mayS (p s q t : Rat) : Bool := if p = q then decide (s < t) else decide (p < q)
def mayB (a b : Bl) : Bool := mayS a.p a.s b.p b.s
/-- of neighbours -/
def Nb {α : Type} (f : α → α → Bool) : List α → Bool
  | a :: b :: r => f a b && Nb f (b :: r)
  | _ => true
theorem nb_snoc {α : Type} {f : α → α → Bool} : ∀ {l : List α} {a : α}, Nb f l = true → (∀ b, l.getLast? = some b → f b a = true) → Nb f (l ++ [a]) = true
  | [], _, _, _ => rfl
  | [b], a, _, h => by
    show (f b a && true) = true
    rw [Bool.and_true]
    exact h b rfl
  | b :: c :: r, a, h, h2 => by
    have h' : (f b c && Nb f (c :: r)) = true := h
    obtain ⟨h3, h4⟩ := Bool.and_eq_true_iff.mp h'
    show (f b c && Nb f (c :: r ++ [a])) = true
    rw [h3, nb_snoc h4 (fun d hd => h2 d (by rw [List.getLast?_cons_cons]; exact hd))]
    rfl
structure RowOk (l : List Bl) : Prop where
  nz : l ≠ []
  le : l.length ≤ 8
  w0 : ∀ b ∈ l, 1 ≤ b.w ∧ b.w ≤ 1000
  zp : ∀ b ∈ l, Sz 300 b.p ∧ Sz 300 b.s
  nb : Nb mayB l = true
  zs : ∀ b ∈ l, Sz 80 b.s
end HL
namespace HT
open PySem PyProof.Rows
section
variable {prog : Program} {w : World} {A : Around} {E : Value → Shared → Prop} {s : Shared}
theorem places_rev (n : Nat) : Builtin.Slice.slicePlaces ((n : Int) - 1) (-1) (-1) = n := by
  unfold Builtin.Slice.slicePlaces
  have h1 : ¬ ((-1 : Int) > 0) := by omega
  have h2 : (- -1 : Int) = 1 := by decide
  simp only [h1, if_false, h2, Int.ediv_one]
  split <;> omega
theorem sliceApplied_rev {sl : Addr} {vs : Value} {n : Nat} {Q : Int × Int × Nat → Shared → Prop} (hs : s.heap.IsSliceOf sl .none .none vs) (ps : IsPart vs (some (-1)))
    (h : Q ((n : Int) - 1, -1, n) s) : wpAny (model prog w) A (Builtin.Slice.sliceApplied (.ref sl) (pure (n : Int))) Q E s := by
  obtain ⟨os, hos, hcs, hds⟩ := id hs
  unfold Builtin.Slice.sliceApplied Builtin.Slice.sliceFields
  refine wpAny_bind (wpAny_bind (wpAny_field hos hds (x := .none) rfl (wpAny_bind (wpAny_field hos hds (x := .none) rfl (wpAny_bind (wpAny_field hos hds (x := vs) rfl (wpAny_pure ?_)))))))
  refine wpAny_bind (slicePart_ ps ?_)
  show wpAny _ _ (if ((-1 : Int) == 0) = true then _ else _) _ _ s
  rw [if_neg (by decide)]
  refine wpAny_bind (slicePart_none (wpAny_bind (slicePart_none (wpAny_bind (wpAny_pure ?_)))))
  show wpAny _ _ (match Builtin.Slice.sliceAdjust none none (-1) (n : Int) with | (lo, hi) => pure (lo, (-1 : Int), Builtin.Slice.slicePlaces lo hi (-1))) _ _ s
  have e : Builtin.Slice.sliceAdjust none none (-1) (n : Int) = ((n : Int) - 1, -1) := rfl
  rw [e]
  show wpAny _ _ (pure ((n : Int) - 1, (-1 : Int), Builtin.Slice.slicePlaces ((n : Int) - 1) (-1) (-1))) _ _ s
  rw [places_rev]
  exact wpAny_pure h
theorem pick_rev (xs : Array Value) : ((List.range xs.size).filterMap fun (k : Nat) => xs[(((xs.size : Int) - 1) + (k : Int) * (-1)).toNat]?).toArray = xs.toList.reverse.toArray := by
  have e : (fun (m : Nat) => xs[(((xs.size : Int) - 1) + (m : Int) * (-1)).toNat]?) = (fun x => xs[x]?) ∘ fun m => xs.size - 1 - m := by
    funext m
    have : (((xs.size : Int) - 1) + (m : Int) * (-1)).toNat = xs.size - 1 - m := by omega
    rw [this]
    rfl
  rw [e, ← List.filterMap_map, PySem.W.krv_range, List.filterMap_reverse, PySem.W.krv_all]
theorem getItem_tuple_rev {t sl : Addr} {items : Array Value} {vs : Value} {Q : Value → Shared → Prop} (ht : IsTup s.heap t items) (hs : s.heap.IsSliceOf sl .none .none vs) (ps : IsPart vs (some (-1)))
    (h : Q (.ref s.heap.objs.size) { s with heap := s.heap.push { cls := .type "tuple", data := .seq items.toList.reverse.toArray } })
    (hsz : items.size ≤ sizeLine) : wpAny (model prog w) A (getItem (.ref t) (.ref sl)) Q E s := by
  have htake : sizeOk (.seq items.toList.reverse.toArray) := by
    show items.toList.reverse.toArray.size ≤ sizeLine
    rw [List.size_toArray, List.length_reverse, Array.length_toList]
    exact hsz
  obtain ⟨os, hos, hcs, hds⟩ := id hs
  have hTs : s.TypeIs (.ref sl) "slice" := ⟨os, hos, hcs⟩
  unfold getItem
  try with_reducible refine wpAny_holding ?_
  first | refine wpAny_bind (wpAny_pure ?_) | skip
  refine wpAny_bind (wpAny_sequenceKey ht.typeIs (by decide) ?_)
  refine wpAny_bind (wpAny_callSpecial?_slot (name := Str.ofString "__getitem__") ht.typeIs PyProof.Rows.slot_tuple_getitem
    (wpAny_call_entry PyProof.Rows.slot_tuple_getitem ht.typeIs entry_tuple_getitem ?_ (args_tuple_getitem _ _)))
  show wpAny _ _ (Builtin.Tuple.tupleItemsOf (.ref t) >>= _) _ _ s
  refine wpAny_bind (tupleItemsOf_ ht ?_)
  refine wpAny_bind (wpAny_typeOf hTs ?_)
  rw [if_pos (by decide)]
  refine wpAny_bind (sliceApplied_rev hs ps ?_)
  have hno : ¬ ((((items.size : Int) - 1) == 0 && (-1 : Int) == 1 && items.size == items.size) = true) := by
    rw [show ((-1 : Int) == 1) = false from rfl, Bool.and_false, Bool.false_and]
    exact Bool.false_ne_true
  show wpAny _ _ (if (((items.size : Int) - 1) == 0 && (-1 : Int) == 1 && items.size == items.size) = true then _ else _) _ _ s
  rw [if_neg hno, pick_rev]
  first
    | exact wpAny_bind (m := Builtin.Tuple.tupleExact _) (wpAny_newObj_type (wpAny_pure ⟨_, rfl, wpAny_pure h⟩) htake)
    | exact wpAny_bind (m := Builtin.Tuple.tupleExact _) (wpAny_newObj_type (wpAny_bind (wpAny_pure (wpAny_pure ⟨_, rfl, wpAny_pure h⟩))) htake)
    | exact wpAny_bind (wpAny_bind (m := Builtin.Tuple.tupleExact _) (wpAny_newObj_type (wpAny_pure (wpAny_pure ⟨_, rfl, wpAny_pure h⟩)) htake))
    | exact wpAny_bind (wpAny_bind (m := Builtin.Tuple.tupleExact _) (wpAny_newObj_type (wpAny_pure ⟨_, rfl, wpAny_pure h⟩) htake))
end
end HT
namespace HL
open PySem PySem.Spec PyProof.Rows L2 Evl
/-! ### xs[::-1], of lists and tuples -/
def uRev (K : KF) : V → Hp → VK → Prop := fun x H Q => ∃ a xs, x = .ref a ∧ ((SqL K H a xs ∧ ∀ p, H p = none → Q (.ref p) (upd H p (.lst xs.reverse))) ∨ (SqT K H a xs ∧ ∀ p, H p = none → Q (.ref p) (upd H p (.tup xs.reverse))))
section
variable {X : Cx}
theorem pe_rev {e : Expr} {te : TE} {k : Nat} {p1 p2 p3 pos : Pos} (he : PE X e te) : PE X (.Subscript e (.Slice none none (some (.UnaryOp .USub (.Constant (.int 1) k p1) p2)) p3) pos) (tUn (uRev X.K) te) := by
  refine ⟨fun pins s σ H Q I h => ?_⟩
  refine Subscript_ (thn (he.run pins s σ H _ I h) fun v s1 ⟨x, H1, I1, r1, q1⟩ => ?_)
  obtain ⟨a, xs, ex, q⟩ := q1
  subst ex
  cases r1
  have hst : PO X (some (.UnaryOp .USub (.Constant (.int 1) k p1) p2)) (tPart (tUn (rU fun i => .int (-i)) (tC (.int 1)))) := po_some (pe_un un_neg pe_int)
  refine wpAny_Slice (thn (po_none.run pins s1 σ H1 (fun o H2 => o = none ∧ H2 = H1) I1 ⟨rfl, rfl⟩) fun vl s2 ⟨l, H2, I2, pl, el, e2⟩ => ?_)
  subst el e2
  refine thn (po_none.run pins s2 σ H2 (fun o H3 => o = none ∧ H3 = H2) I2 ⟨rfl, rfl⟩) fun vu s3 ⟨u, H3, I3, pu, eu, e3⟩ => ?_
  subst eu e3
  refine thn (hst.run pins s3 σ H3 (fun o H4 => o = some (-1) ∧ H4 = H3) I3 ⟨1, rfl, -1, rfl, rfl, rfl⟩) fun vs s4 ⟨o, H4, I4, ps, eo, e4⟩ => ?_
  subst eo e4
  have I5 : Inv X pins σ H4 { s4 with heap := s4.heap.push { cls := .type "slice", data := .fields #[vl, vu, vs] } } := I4.kept (t' := s4.toks) fun b ob q => Heap.get?_push_of_some _ q
  show wpAny (model X.prog X.w) X.A (subscriptTail e (.Slice none none (some (.UnaryOp .USub (.Constant (.int 1) k p1) p2)) p3) (.ref a) (.ref s4.heap.objs.size)) (EP X pins σ Q) X.xe { s4 with heap := s4.heap.push { cls := .type "slice", data := .fields #[vl, vu, vs] } }
  rcases q with ⟨hx, q⟩ | ⟨hx, q⟩
  · obtain ⟨its, r, ht, hz⟩ := I5.list hx
    have hlen := r.length
    refine tail_any (ops := [.ref a, .ref s4.heap.objs.size]) ht.isList.typeIs (PySem.slot_list_getitem.lookup) ?_ (by with_unfolding_all rfl)
    refine wpAny_getItem_list_slice ht.isList (Heap.IsSliceOf.new _ vl vu vs) pl pu ps (by decide) ?_ (by rw [List.size_toArray]; omega)
    rw [PySem.W.krv_pick]
    refine ⟨.ref _, _, I5.laid (t' := s4.toks) (o := .lst xs.reverse) (fun b ob q => Heap.get?_push_of_some _ q) (Nat.le_refl _) ?_, rfl, q _ (I5.hok.fresh (Nat.le_refl _))⟩
    exact ⟨by rw [List.length_reverse]; exact hz, _, 0, r.reverse, Heap.get?_push_size _ rfl⟩
  · obtain ⟨its, r, ht, hz⟩ := I5.tuple hx
    have hlen := r.length
    refine tail_any (ops := [.ref a, .ref s4.heap.objs.size]) ht.typeIs (PyProof.Rows.slot_tuple_getitem.lookup) ?_ (by with_unfolding_all rfl)
    cases pl
    cases pu
    refine HT.getItem_tuple_rev ht (Heap.IsSliceOf.new _ .none .none vs) ps ?_ (by rw [List.size_toArray]; omega)
    refine ⟨.ref _, _, I5.laid (t' := s4.toks) (o := .tup xs.reverse) (fun b ob q => Heap.get?_push_of_some _ q) (Nat.le_refl _) ?_, rfl, q _ (I5.hok.fresh (Nat.le_refl _))⟩
    exact ⟨by rw [List.length_reverse]; exact hz, _, r.reverse, IsTup.new _ _⟩
end
section
variable {K : KF} {Ω : Om} {R : DV → Om → Prop}
theorem dps_rev {K : KF} {G : Hp} : ∀ {vs : List V} {xs : List PyData}, DpAll K G vs xs → DpAll K G vs.reverse xs.reverse
  | _, _, .nil => .nil
  | _, _, .cons a b => by rw [List.reverse_cons, List.reverse_cons]; exact dps_app (dps_rev b) (.cons a .nil)
theorem wu_revL {d : DV} {xs : List PyData} (hx : lsL Ω d = some xs) (q : R (.d (.list xs.reverse)) Ω) : WU K (uRev K) d Ω R := fun m G H v Q c r k => by
  obtain ⟨a, vs, rfl, hs, rp⟩ := lsL_get c r hx
  refine ⟨a, vs, rfl, .inl ⟨hs, fun p hp => ?_⟩⟩
  obtain ⟨c2, n2⟩ := c.frz hp (.lst vs.reverse)
  exact k _ _ _ _ (.d (.list xs.reverse)) _ c2 n2 (Nat.le_refl _) (.lst (sq_of upd_same) (dps_ex n2.gg _ _ (dps_rev rp))) q
theorem wu_revT {xs : List PyData} (q : R (.d (.tuple xs.reverse)) Ω) : WU K (uRev K) (.d (.tuple xs)) Ω R := fun m G H v Q c r k => by
  obtain ⟨a, vs, rfl, hs, rp⟩ := lsT_get c r rfl
  refine ⟨a, vs, rfl, .inr ⟨ex_t c.ex hs, fun p hp => ?_⟩⟩
  obtain ⟨c2, n2⟩ := c.frz hp (.tup vs.reverse)
  exact k _ _ _ _ (.d (.tuple xs.reverse)) _ c2 n2 (Nat.le_refl _) (.tup (st_of upd_same) (dps_ex n2.gg _ _ (dps_rev rp))) q
end
/-! ### zip, enumerate -/
def zipD (xs ys : List PyData) : List DV := (xs.zip ys).map fun p => DV.d (.tuple [p.1, p.2])
def enumD (xs : List PyData) : List DV := (List.range xs.length).map fun i => DV.d (.tuple [.int (i : Nat), xs.getD i .none])
theorem zipD_get {xs ys : List PyData} {i : Nat} {y : DV} (h : (zipD xs ys)[i]? = some y) : ∃ a b, xs[i]? = some a ∧ ys[i]? = some b ∧ y = .d (.tuple [a, b]) := by
  unfold zipD at h
  rw [List.getElem?_map] at h
  cases hz : (xs.zip ys)[i]? with
  | none => rw [hz] at h; cases h
  | some p =>
    rw [hz] at h
    cases h
    obtain ⟨h1, h2⟩ := List.getElem?_zip_eq_some.mp hz
    exact ⟨_, _, h1, h2, rfl⟩
theorem dps_get {K : KF} {G : Hp} : ∀ {vs : List V} {xs : List PyData}, DpAll K G vs xs → ∀ {i : Nat} {x : PyData}, xs[i]? = some x → ∃ v, vs[i]? = some v ∧ Dp K G v x
  | _, _, .nil, i, x, e => by rw [List.getElem?_nil] at e; cases e
  | _, _, .cons a b, 0, x, e => by cases e; exact ⟨_, rfl, a⟩
  | _, _, .cons a b, i + 1, x, e => by rw [List.getElem?_cons_succ] at e ⊢; exact dps_get b e
section
variable {K : KF} {W : WX} {Γ : Gm} {Ω : Om} {X : Exc → Om → Prop} {Rc : List DV → (Om → Prop) → Om → Prop} {te : TE} {ta : TA}
theorem itok_zipL {m1 : Mp} {G1 : Hp} {n1 : Nat} {d e : DV} {xs ys : List PyData} {a b : Addr} (r : RV K m1 G1 n1 d (.ref a)) (r2 : RV K m1 G1 n1 e (.ref b)) :
    ItOk K (Itz K a b) (zipD xs ys) (fun Ω' => lsL Ω' d = some xs ∧ lsL Ω' e = some ys) m1 G1 n1 := fun m' G' Ω' H' c' n' l' st i => by
  obtain ⟨a', vs, ea, hs, rp⟩ := lsL_get c' (RV.mono n' l' r) st.1
  cases ea
  obtain ⟨b', ws, eb, hw, rq⟩ := lsL_get c' (RV.mono n' l' r2) st.2
  cases eb
  have el := dps_len rp
  have el2 := dps_len rq
  refine ⟨fun h => ⟨vs, ws, hs, hw, ?_⟩, fun y hy => ?_⟩
  · unfold zipD at h
    rw [List.length_map, List.length_zip] at h
    omega
  · obtain ⟨x1, y1, h1, h2, rfl⟩ := zipD_get hy
    obtain ⟨u, hu, ru⟩ := dps_get rp h1
    obtain ⟨z, hz, rz⟩ := dps_get rq h2
    refine ⟨⟨vs, ws, u, z, hs, hw, hu, hz⟩, fun v H'' ⟨T, x, y, e1, hT, e2, k1, k2⟩ => ?_⟩
    subst e1 e2
    have ex : u = x := Option.some.inj (hu.symm.trans (k1 vs hs))
    have ey : z = y := Option.some.inj (hz.symm.trans (k2 ws hw))
    subst ex ey
    obtain ⟨c2, n2⟩ := c'.frz hT (.tup [u, z])
    exact ⟨_, c2, n2.gg, .tup (st_of upd_same) (.cons (dp_ex n2.gg _ _ ru) (.cons (dp_ex n2.gg _ _ rz) .nil))⟩
theorem itok_zipT {m1 : Mp} {G1 : Hp} {n1 : Nat} {xs ys : List PyData} {a b : Addr} (r : RV K m1 G1 n1 (.d (.tuple xs)) (.ref a)) (r2 : RV K m1 G1 n1 (.d (.tuple ys)) (.ref b)) :
    ItOk K (RZ.ItzT K a b) (zipD xs ys) (fun _ => True) m1 G1 n1 := fun m' G' Ω' H' c' n' l' st i => by
  obtain ⟨a', vs, ea, hs, rp⟩ := lsT_get c' (RV.mono n' l' r) rfl
  cases ea
  obtain ⟨b', ws, eb, hw, rq⟩ := lsT_get c' (RV.mono n' l' r2) rfl
  cases eb
  have hs := ex_t c'.ex hs
  have hw := ex_t c'.ex hw
  have el := dps_len rp
  have el2 := dps_len rq
  refine ⟨fun h => ⟨vs, ws, hs, hw, ?_⟩, fun y hy => ?_⟩
  · unfold zipD at h
    rw [List.length_map, List.length_zip] at h
    omega
  · obtain ⟨x1, y1, h1, h2, rfl⟩ := zipD_get hy
    obtain ⟨u, hu, ru⟩ := dps_get rp h1
    obtain ⟨z, hz, rz⟩ := dps_get rq h2
    refine ⟨⟨vs, ws, u, z, hs, hw, hu, hz⟩, fun v H'' ⟨T, x, y, e1, hT, e2, k1, k2⟩ => ?_⟩
    subst e1 e2
    have ex : u = x := Option.some.inj (hu.symm.trans (k1 vs hs))
    have ey : z = y := Option.some.inj (hz.symm.trans (k2 ws hw))
    subst ex ey
    obtain ⟨c2, n2⟩ := c'.frz hT (.tup [u, z])
    exact ⟨_, c2, n2.gg, .tup (st_of upd_same) (.cons (dp_ex n2.gg _ _ ru) (.cons (dp_ex n2.gg _ _ rz) .nil))⟩
theorem itok_enum {m1 : Mp} {G1 : Hp} {n1 : Nat} {d : DV} {xs : List PyData} {a : Addr} (r : RV K m1 G1 n1 d (.ref a)) :
    ItOk K (Ite K a) (enumD xs) (fun Ω' => lsL Ω' d = some xs) m1 G1 n1 := fun m' G' Ω' H' c' n' l' st i => by
  obtain ⟨a', vs, ea, hs, rp⟩ := lsL_get c' (RV.mono n' l' r) st
  cases ea
  have el := dps_len rp
  refine ⟨fun h => ⟨vs, hs, ?_⟩, fun y hy => ?_⟩
  · unfold enumD at h
    rw [List.length_map, List.length_range] at h
    omega
  · obtain ⟨hi, rfl⟩ := rng_get hy
    have hg : xs[i]? = some (xs.getD i .none) := by rw [List.getD_eq_getElem?_getD, List.getElem?_eq_getElem hi]; rfl
    obtain ⟨u, hu, ru⟩ := dps_get rp hg
    refine ⟨⟨vs, u, hs, hu⟩, fun v H'' ⟨T, x, e1, hT, e2, k1⟩ => ?_⟩
    subst e1 e2
    have ex : u = x := Option.some.inj (hu.symm.trans (k1 vs hs))
    subst ex
    obtain ⟨c2, n2⟩ := c'.frz hT (.tup [.int (i : Nat), u])
    exact ⟨_, c2, n2.gg, .tup (st_of upd_same) (.cons (.int _) (.cons (dp_ex n2.gg _ _ ru) .nil))⟩
theorem wi_zipL (h : WA K W ta Γ Ω (fun ds Ω1 => ∃ d e xs ys, ds = [d, e] ∧ lsL Ω1 d = some xs ∧ lsL Ω1 e = some ys ∧ Rc (zipD xs ys) (fun Ω' => lsL Ω' d = some xs ∧ lsL Ω' e = some ys) Ω1) X) : WI K W (RZ.iZipA K ta) Γ Ω Rc X := fun m G H σ R c s x k =>
  h m G H σ _ c s (fun m1 G1 Ω1 H1 ds vs c1 n1 l1 r1 ⟨d, e, xs, ys, e1, e2, e3, q⟩ => by
    subst e1
    cases r1 with
    | cons ra rr =>
      cases rr with
      | cons rb rr =>
        cases rr
        obtain ⟨a, us, rfl, hs, rp⟩ := lsL_get c1 ra e2
        obtain ⟨b, ws, rfl, hw, rq⟩ := lsL_get c1 rb e3
        exact ⟨a, b, us, ws, rfl, .inl ⟨hs, hw, k m1 G1 Ω1 H1 _ _ _ c1 n1 l1 (itok_zipL ra rb) q⟩⟩) x
theorem wi_zipT (h : WA K W ta Γ Ω (fun ds Ω1 => ∃ xs ys, ds = [.d (.tuple xs), .d (.tuple ys)] ∧ Rc (zipD xs ys) (fun _ => True) Ω1) X) : WI K W (RZ.iZipA K ta) Γ Ω Rc X := fun m G H σ R c s x k =>
  h m G H σ _ c s (fun m1 G1 Ω1 H1 ds vs c1 n1 l1 r1 ⟨xs, ys, e1, q⟩ => by
    subst e1
    cases r1 with
    | cons ra rr =>
      cases rr with
      | cons rb rr =>
        cases rr
        obtain ⟨a, us, rfl, hs, rp⟩ := lsT_get c1 ra rfl
        obtain ⟨b, ws, rfl, hw, rq⟩ := lsT_get c1 rb rfl
        exact ⟨a, b, us, ws, rfl, .inr ⟨ex_t c1.ex hs, ex_t c1.ex hw, k m1 G1 Ω1 H1 _ _ _ c1 n1 l1 (itok_zipT ra rb) q⟩⟩) x
theorem wi_enumL (h : WA K W ta Γ Ω (fun ds Ω1 => ∃ d xs, ds = [d] ∧ lsL Ω1 d = some xs ∧ Rc (enumD xs) (fun Ω' => lsL Ω' d = some xs) Ω1) X) : WI K W (iEnum K ta) Γ Ω Rc X := fun m G H σ R c s x k =>
  h m G H σ _ c s (fun m1 G1 Ω1 H1 ds vs c1 n1 l1 r1 ⟨d, xs, e1, e2, q⟩ => by
    subst e1
    cases r1 with
    | cons ra rr =>
      cases rr
      obtain ⟨a, us, rfl, hs, rp⟩ := lsL_get c1 ra e2
      exact ⟨a, us, rfl, hs, k m1 G1 Ω1 H1 _ _ _ c1 n1 l1 (itok_enum ra) q⟩) x
end
/-! ### balls, read -/
section
variable {K : KF} {W : WX} {Γ : Gm} {Ω : Om} {R : DV → Om → Prop} {X : Exc → Om → Prop} {Rc : List DV → (Om → Prop) → Om → Prop} {te : TE} {ta : TA}
theorem wr_ixB0 {b : Bl} (q : R (.d (dR b.p)) Ω) : WR K (rIx K) (.d (dB b)) (.d (.int 0)) Ω R := wr_ixT rfl q
theorem wr_ixB1 {b : Bl} (q : R (.d (dR b.s)) Ω) : WR K (rIx K) (.d (dB b)) (.d (.int 1)) Ω R := wr_ixT rfl q
theorem wr_ixB2 {b : Bl} (q : R (.d (.int b.w)) Ω) : WR K (rIx K) (.d (dB b)) (.d (.int 2)) Ω R := wr_ixT rfl q
/-- a tuple, a list of data walked, the items told by F -/
theorem wi_T {α : Type} (F : α → PyData) (l : List α) (h : WE K W te Γ Ω (fun d Ω1 => d = .d (.tuple (l.map F)) ∧ Rc (l.map fun a => .d (F a)) (fun _ => True) Ω1) X) : WI K W (iSeq K te) Γ Ω Rc X :=
  wi_seqT (fun m G H σ Q c s k x => h m G H σ Q c s (fun m1 G1 Ω1 H1 d v c1 n1 l1 r1 ⟨e, q⟩ => k m1 G1 Ω1 H1 d v c1 n1 l1 r1 ⟨_, e, by rw [List.map_map]; exact q⟩) x)
theorem wi_L {α : Type} (F : α → PyData) (l : List α) (h : WE K W te Γ Ω (fun d Ω1 => d = .d (.list (l.map F)) ∧ Rc (l.map fun a => .d (F a)) (fun _ => True) Ω1) X) : WI K W (iSeq K te) Γ Ω Rc X :=
  wi_seqL (fun m G H σ Q c s k x => h m G H σ Q c s (fun m1 G1 Ω1 H1 d v c1 n1 l1 r1 ⟨e, q⟩ => k m1 G1 Ω1 H1 d v c1 n1 l1 r1 ⟨l.map fun a => .d (F a), by subst e; show some ((l.map F).map DV.d) = _; rw [List.map_map]; rfl, by
    refine Eq.mp ?_ q
    congr 1
    funext Ω'
    subst e
    refine (eq_true ?_).symm
    show some ((l.map F).map DV.d) = _
    rw [List.map_map]; rfl⟩) x)
end
/-! ### sums of ratios -/
def sumR : List Rat → Rat
  | [] => 0
  | a :: l => a + sumR l
theorem sumR_app : ∀ (l r : List Rat), sumR (l ++ r) = sumR l + sumR r
  | [], r => by show sumR r = 0 + sumR r; rw [Rat.zero_add]
  | a :: l, r => by show a + sumR (l ++ r) = a + sumR l + sumR r; rw [sumR_app l r, Rat.add_assoc]
theorem sumR_snoc (l : List Rat) (a : Rat) : sumR (l ++ [a]) = sumR l + a := by
  rw [sumR_app]
  show _ + (a + 0) = _
  rw [Rat.add_zero]
theorem sumR_rev : ∀ (l : List Rat), sumR l.reverse = sumR l
  | [] => rfl
  | a :: l => by rw [List.reverse_cons, sumR_snoc, sumR_rev l, Rat.add_comm]; rfl
theorem sz_zero {n : Nat} (h : 0 < n) : Sz n 0 := ⟨Nat.two_pow_pos n, Nat.one_lt_two_pow (by omega)⟩
theorem sumR_sz {n : Nat} : ∀ {l : List Rat}, (∀ q ∈ l, Sz n q) → Sz ((n + 1) * l.length + 1) (sumR l)
  | [], _ => sz_zero (by omega)
  | a :: l, h => by
    have h1 := h a (List.mem_cons_self ..)
    have h2 := sumR_sz (l := l) fun q hq => h q (List.mem_cons_of_mem _ hq)
    refine (h1.add h2).mono ?_
    rw [List.length_cons, Nat.mul_add]
    omega
theorem sumR_neg : ∀ (l : List Rat), sumR (l.map fun q => -q) = -sumR l
  | [] => rfl
  | a :: l => by
    show -a + sumR (l.map fun q => -q) = -(a + sumR l)
    rw [sumR_neg l]; grind
theorem sumR_nonneg : ∀ {l : List Rat}, (∀ q ∈ l, 0 ≤ q) → 0 ≤ sumR l
  | [], _ => Rat.le_refl
  | a :: l, h => by
    have h1 := h a (List.mem_cons_self ..)
    have h2 := sumR_nonneg (l := l) fun q hq => h q (List.mem_cons_of_mem _ hq)
    show 0 ≤ a + sumR l
    grind
theorem sumR_le : ∀ {l r : List Rat}, Paired (fun a b => a ≤ b) l r → sumR l ≤ sumR r
  | _, _, .nil => Rat.le_refl
  | _, _, .cons a b => by
    have h2 := sumR_le b
    show _ + _ ≤ _ + _
    grind
def wsum (l : List Bl) : Int := (l.map fun b => b.w).sum
theorem wsum_cast : ∀ (l : List Bl), sumR (l.map fun b => (b.w : Rat)) = (wsum l : Rat)
  | [] => rfl
  | a :: l => by
    show (a.w : Rat) + sumR (l.map fun b => (b.w : Rat)) = ((a.w + wsum l : Int) : Rat)
    rw [wsum_cast l, Rat.intCast_add]
def weighed (f : Bl → Rat) (l : List Bl) : Rat := sumR (l.map fun b => (b.w : Rat) * f b)
theorem weighed_ge {f : Bl → Rat} {c : Rat} : ∀ {l : List Bl}, (∀ b ∈ l, 0 ≤ b.w ∧ c ≤ f b) → c * (wsum l : Rat) ≤ weighed f l
  | [], _ => by show c * ((0 : Int) : Rat) ≤ 0; rw [Rat.intCast_zero, Rat.mul_zero]; exact Rat.le_refl
  | a :: l, h => by
    have h1 := h a (List.mem_cons_self ..)
    have h2 := weighed_ge (l := l) fun q hq => h q (List.mem_cons_of_mem _ hq)
    show c * ((a.w + wsum l : Int) : Rat) ≤ (a.w : Rat) * f a + weighed f l
    have h3 : (a.w : Rat) * c ≤ (a.w : Rat) * f a := Rat.mul_le_mul_of_nonneg_left h1.2 (Rat.intCast_nonneg.mpr h1.1)
    rw [Rat.intCast_add, Rat.mul_add]
    grind
theorem weighed_le {f : Bl → Rat} {c : Rat} : ∀ {l : List Bl}, (∀ b ∈ l, 0 ≤ b.w ∧ f b ≤ c) → weighed f l ≤ c * (wsum l : Rat)
  | [], _ => by show (0 : Rat) ≤ c * ((0 : Int) : Rat); rw [Rat.intCast_zero, Rat.mul_zero]; exact Rat.le_refl
  | a :: l, h => by
    have h1 := h a (List.mem_cons_self ..)
    have h2 := weighed_le (l := l) fun q hq => h q (List.mem_cons_of_mem _ hq)
    show (a.w : Rat) * f a + weighed f l ≤ c * ((a.w + wsum l : Int) : Rat)
    have h3 : (a.w : Rat) * f a ≤ (a.w : Rat) * c := Rat.mul_le_mul_of_nonneg_left h1.2 (Rat.intCast_nonneg.mpr h1.1)
    rw [Rat.intCast_add, Rat.mul_add]
    grind
theorem wsum_pos : ∀ {l : List Bl}, l ≠ [] → (∀ b ∈ l, 1 ≤ b.w) → 1 ≤ wsum l
  | [], h, _ => absurd rfl h
  | [a], _, h => by have := h a (List.mem_cons_self ..); show 1 ≤ a.w + 0; omega
  | a :: b :: l, _, h => by
    have h1 := h a (List.mem_cons_self ..)
    have h2 := wsum_pos (l := b :: l) (by simp) fun q hq => h q (List.mem_cons_of_mem _ hq)
    show 1 ≤ a.w + wsum (b :: l)
    omega
theorem wsum_le {m : Int} (h0 : 0 ≤ m) : ∀ {l : List Bl}, (∀ b ∈ l, b.w ≤ m) → wsum l ≤ m * l.length
  | [], _ => by show (0 : Int) ≤ m * (0 : Nat); omega
  | a :: l, h => by
    have h1 := h a (List.mem_cons_self ..)
    have h2 := wsum_le h0 (l := l) fun q hq => h q (List.mem_cons_of_mem _ hq)
    show a.w + wsum l ≤ m * ((l.length + 1 : Nat) : Int)
    rw [Int.natCast_add, Int.mul_add]
    simp only [Int.natCast_one, Int.mul_one]
    omega
/-- of neighbours, if the relation goes on: of the first and each -/
theorem nb_head {α : Type} {f : α → α → Bool} {g : α → α → Prop} (hf : ∀ a b, f a b = true → g a b) (ht : ∀ a b c, g a b → g b c → g a c) (hr : ∀ a, g a a) : ∀ {a : α} {l : List α}, Nb f (a :: l) = true → ∀ b ∈ a :: l, g a b
  | a, [], _, b, hb => by rw [List.mem_singleton.mp hb]; exact hr a
  | a, c :: l, h, b, hb => by
    obtain ⟨h1, h2⟩ := Bool.and_eq_true_iff.mp (show (f a c && Nb f (c :: l)) = true from h)
    rcases List.mem_cons.mp hb with rfl | hb
    · exact hr _
    · exact ht _ _ _ (hf _ _ h1) (nb_head hf ht hr h2 b hb)
theorem nb_last {α : Type} {f : α → α → Bool} {g : α → α → Prop} (hf : ∀ a b, f a b = true → g a b) (ht : ∀ a b c, g a b → g b c → g a c) (hr : ∀ a, g a a) : ∀ {l : List α} {z : α}, Nb f l = true → l.getLast? = some z → ∀ b ∈ l, g b z
  | [], _, _, _, b, hb => by cases hb
  | [a], z, _, hz, b, hb => by cases hz; rw [List.mem_singleton.mp hb]; exact hr _
  | a :: c :: l, z, h, hz, b, hb => by
    obtain ⟨h1, h2⟩ := Bool.and_eq_true_iff.mp (show (f a c && Nb f (c :: l)) = true from h)
    have ih := nb_last hf ht hr h2 (by rw [List.getLast?_cons_cons] at hz; exact hz)
    rcases List.mem_cons.mp hb with rfl | hb
    · exact ht _ _ _ (hf _ _ h1) (ih c (List.mem_cons_self ..))
    · exact ih b hb
theorem may_le {a b : Bl} (h : mayB a b = true) : a.p ≤ b.p := by
  unfold mayB mayS at h
  split at h
  · rename_i e; rw [e]; exact Rat.le_refl
  · exact Rat.le_of_lt (of_decide_eq_true h)
def negB (b : Bl) : Bl := ⟨-b.p, -b.s, b.w⟩
theorem dR_int (a : Int) : dR (a : Rat) = .tuple [.int a, .int 1] := rfl
theorem divInt_one (a : Int) : Rat.divInt a 1 = (a : Rat) := by
  rw [Rat.divInt_eq_div, Rat.intCast_one, Rat.div_def, Rat.inv_eq_of_mul_eq_one (a := 1) (b := 1) (by rw [Rat.mul_one]), Rat.mul_one]
theorem lmap_get {α β : Type} {l : List α} {f : α → β} {i : Nat} {y : β} (h : (l.map f)[i]? = some y) : ∃ a, y = f a ∧ l[i]? = some a ∧ a ∈ l ∧ i < l.length ∧ l.take (i + 1) = l.take i ++ [a] := by
  rw [List.getElem?_map] at h
  cases ea : l[i]? with
  | none => rw [ea] at h; cases h
  | some a =>
    rw [ea] at h
    cases h
    exact ⟨a, rfl, rfl, List.mem_of_getElem? ea, lt_of_get ea, by rw [List.take_add_one, ea]; rfl⟩
theorem weighed_snoc (f : Bl → Rat) (l : List Bl) (b : Bl) : weighed f (l ++ [b]) = weighed f l + (b.w : Rat) * f b := by
  unfold weighed
  rw [List.map_append, List.map_singleton, sumR_snoc]
theorem only1 {i : Nat} : Only (gName i) [i] := only_name (List.mem_singleton.mpr rfl)
theorem filter_yes {α : Type} (l : List α) : l.filter (fun _ => true) = l := List.filter_eq_self.mpr fun _ _ => rfl
/-- between its first and its last place -/
theorem mid_ge {l : List Bl} {a : Bl} (hn : Nb mayB l = true) (hw : ∀ b ∈ l, 1 ≤ b.w) (h : l.head? = some a) : a.p ≤ weighed (fun b => b.p) l / (wsum l : Rat) := by
  cases l with
  | nil => cases h
  | cons c r =>
    cases h
    have h1 := nb_head (f := mayB) (g := fun a b => a.p ≤ b.p) (fun a b h => may_le h) (fun a b c h1 h2 => Rat.le_trans h1 h2) (fun a => Rat.le_refl) hn
    have h2 := weighed_ge (f := fun b => b.p) (c := a.p) (l := a :: r) fun b hb => ⟨by have := hw b hb; omega, h1 b hb⟩
    have h3 := wsum_pos (l := a :: r) (by simp) hw
    have h4 : (0 : Rat) < (wsum (a :: r) : Rat) := Rat.intCast_pos.mpr (by omega)
    have h5 := Rat.mul_le_mul_of_nonneg_right h2 (Rat.le_of_lt (Rat.inv_pos.mpr h4))
    rw [Rat.mul_assoc, Rat.mul_inv_cancel _ (fun e => by rw [e] at h4; exact absurd h4 (Rat.lt_irrefl)), Rat.mul_one] at h5
    rw [Rat.div_def]
    exact h5
theorem mid_le {l : List Bl} {z : Bl} (hn : Nb mayB l = true) (hw : ∀ b ∈ l, 1 ≤ b.w) (h : l.getLast? = some z) : weighed (fun b => b.p) l / (wsum l : Rat) ≤ z.p := by
  have h0 : l ≠ [] := fun e => by rw [e] at h; cases h
  have h1 := nb_last (f := mayB) (g := fun a b => a.p ≤ b.p) (fun a b h => may_le h) (fun a b c h1 h2 => Rat.le_trans h1 h2) (fun a => Rat.le_refl) hn h
  have h2 := weighed_le (f := fun b => b.p) (c := z.p) (l := l) fun b hb => ⟨by have := hw b hb; omega, h1 b hb⟩
  have h3 := wsum_pos h0 hw
  have h4 : (0 : Rat) < (wsum l : Rat) := Rat.intCast_pos.mpr (by omega)
  have h5 := Rat.mul_le_mul_of_nonneg_right h2 (Rat.le_of_lt (Rat.inv_pos.mpr h4))
  rw [Rat.mul_assoc, Rat.mul_inv_cancel _ (fun e => by rw [e] at h4; exact absurd h4 (Rat.lt_irrefl)), Rat.mul_one] at h5
  rw [Rat.div_def]
  exact h5
theorem wsum_rev (l : List Bl) : wsum l.reverse = wsum l := by
  unfold wsum
  rw [List.map_reverse, List.sum_reverse]
theorem wsum_neg (l : List Bl) : wsum (l.map negB) = wsum l := by
  unfold wsum
  rw [List.map_map]
  rfl
theorem weighed_rev (f : Bl → Rat) (l : List Bl) : weighed f l.reverse = weighed f l := by
  unfold weighed
  rw [List.map_reverse, sumR_rev]
theorem push_neg (l : List Bl) : weighed (fun b => b.s) (l.map negB) = -weighed (fun b => b.s) l := by
  unfold weighed
  rw [← sumR_neg, List.map_map, List.map_map]
  congr 1
  refine List.map_congr_left fun b _ => ?_
  show (b.w : Rat) * -b.s = -((b.w : Rat) * b.s)
  grind
theorem energy_neg (l : List Bl) : weighed (fun b => b.s * b.s) (l.map negB) = weighed (fun b => b.s * b.s) l := by
  unfold weighed
  rw [List.map_map]
  congr 1
  refine List.map_congr_left fun b _ => ?_
  show (b.w : Rat) * (-b.s * -b.s) = (b.w : Rat) * (b.s * b.s)
  grind
theorem energy_nonneg {l : List Bl} (h : ∀ b ∈ l, 1 ≤ b.w) : 0 ≤ weighed (fun b => b.s * b.s) l := by
  refine sumR_nonneg fun q hq => ?_
  obtain ⟨b, hb, rfl⟩ := List.mem_map.mp hq
  have hw := h b hb
  refine Rat.mul_nonneg (Rat.intCast_nonneg.mpr (by omega)) ?_
  show 0 ≤ b.s * b.s
  rcases Rat.le_total (a := 0) (b := b.s) with h | h
  · exact Rat.mul_nonneg h h
  · have := Rat.mul_nonneg (a := -b.s) (b := -b.s) (by grind) (by grind)
    grind
theorem num_nonneg {q : Rat} (h : 0 ≤ q) : 0 ≤ q.num := Rat.num_nonneg.mpr h
section
variable {K : KF} {Γ : Gm} {Ω : Om} {S : Gm → Om → Prop} {gs : TGs}
theorem wg_tupR {q : Rat} (h : WGs K gs [.d (.int q.num), .d (.int q.den)] Γ Ω S) : WG K (gTup K 2 gs) (.d (dR q)) Γ Ω S := wg_tup (xs := [.int q.num, .int q.den]) rfl h
theorem wg_tupB {b : Bl} (h : WGs K gs [.d (dR b.p), .d (dR b.s), .d (.int b.w)] Γ Ω S) : WG K (gTup K 3 gs) (.d (dB b)) Γ Ω S := wg_tup (xs := [dR b.p, dR b.s, .int b.w]) rfl h
end
theorem wu_revRow {K : KF} {Ω : Om} {R : DV → Om → Prop} {l : List Bl} (q : R (.d (dRow l.reverse)) Ω) : WU K (uRev K) (.d (dRow l)) Ω R :=
  wu_revT (xs := l.map dB) (by rw [← List.map_reverse]; exact q)
/-! ### things that may be none of these -/
/-- numbers not too great, no dicts, to a depth -/
def Fit : Nat → PyData → Prop
  | _, .int a => a.natAbs < 2 ^ 4000
  | n + 1, .tuple xs => ∀ x ∈ xs, Fit n x
  | _, x => known x = true
theorem fit_known {n : Nat} {x : PyData} (h : Fit n x) : known x = true := by
  cases x with
  | dict d => cases n <;> exact h
  | _ => rfl
theorem fit_mem {n : Nat} {xs : List PyData} (h : Fit (n + 1) (.tuple xs)) {x : PyData} (hx : x ∈ xs) : Fit n x := h x hx
theorem isTuple_eq {x : PyData} (h : isTuple x = true) : ∃ xs, x = .tuple xs := by
  cases x with
  | tuple xs => exact ⟨xs, rfl⟩
  | _ => cases h
def isRatio : PyData → Bool
  | .tuple [.int a, .int b] => decide (0 < b) && decide (Int.gcd a b = 1)
  | _ => false
theorem isRatio_eq {x : PyData} (h : isRatio x = true) : ∃ q : Rat, x = dR q := by
  unfold isRatio at h
  split at h
  · rename_i a b
    obtain ⟨h1, h2⟩ := Bool.and_eq_true_iff.mp h
    have h1 := of_decide_eq_true h1
    have h2 := of_decide_eq_true h2
    refine ⟨Rat.divInt a b, ?_⟩
    have hb : b ≠ 0 := by omega
    rw [dR_eq hb]
    unfold byOf
    rw [if_neg (by omega), h2]
    simp
  · cases h
theorem isRatio_dR (q : Rat) : isRatio (dR q) = true := by
  show (decide (0 < (q.den : Int)) && decide (Int.gcd q.num q.den = 1)) = true
  rw [decide_eq_true (den_pos q), Bool.true_and]
  refine decide_eq_true ?_
  have := q.reduced
  unfold Nat.Coprime at this
  unfold Int.gcd
  simpa using this
theorem fit_dR {n : Nat} {q : Rat} (h : Fit (n + 1) (dR q)) : Sz 4000 q := by
  have h1 : Fit n (.int q.num) := fit_mem h (List.mem_cons_self ..)
  have h2 : Fit n (.int q.den) := fit_mem h (List.mem_cons_of_mem _ (List.mem_cons_self ..))
  have h1 : q.num.natAbs < 2 ^ 4000 := by cases n <;> exact h1
  have h2 : (q.den : Int).natAbs < 2 ^ 4000 := by cases n <;> exact h2
  exact ⟨h1, by simpa using h2⟩
theorem fit_ofR {n : Nat} {q : Rat} (h : Sz 4000 q) : Fit (n + 1) (dR q) := by
  intro x hx
  rcases List.mem_cons.mp hx with rfl | hx
  · cases n <;> exact h.num
  · rw [List.mem_singleton.mp hx]
    have : (q.den : Int).natAbs < 2 ^ 4000 := by have := h.den; simpa using this
    cases n <;> exact this
def ratOf : PyData → Rat
  | .tuple [.int a, .int b] => Rat.divInt a b
  | _ => 0
theorem ratOf_dR (q : Rat) : ratOf (dR q) = q := Rat.num_divInt_den q
def isWall : PyData → Bool
  | .none => true
  | .tuple [x, y] => isRatio x && isRatio y
  | _ => false
theorem isWall_eq {x : PyData} (h : isWall x = true) : ∃ w : Wl, x = dW w := by
  unfold isWall at h
  split at h
  · exact ⟨none, rfl⟩
  · obtain ⟨h1, h2⟩ := Bool.and_eq_true_iff.mp h
    obtain ⟨p, rfl⟩ := isRatio_eq h1
    obtain ⟨s, rfl⟩ := isRatio_eq h2
    exact ⟨some (p, s), rfl⟩
  · cases h
theorem isWall_dW (w : Wl) : isWall (dW w) = true := by
  cases w with
  | none => rfl
  | some w =>
    show (isRatio (dR w.1) && isRatio (dR w.2)) = true
    rw [isRatio_dR, isRatio_dR]; rfl
def isBall : PyData → Bool
  | .tuple [x, y, .int w] => isRatio x && (isRatio y && (decide (1 ≤ w) && decide (w ≤ 1000)))
  | _ => false
theorem isBall_eq {x : PyData} (h : isBall x = true) : ∃ b : Bl, x = dB b ∧ 1 ≤ b.w ∧ b.w ≤ 1000 := by
  unfold isBall at h
  split at h
  · obtain ⟨h1, h⟩ := Bool.and_eq_true_iff.mp h
    obtain ⟨h2, h⟩ := Bool.and_eq_true_iff.mp h
    obtain ⟨h3, h4⟩ := Bool.and_eq_true_iff.mp h
    obtain ⟨p, rfl⟩ := isRatio_eq h1
    obtain ⟨s, rfl⟩ := isRatio_eq h2
    exact ⟨⟨p, s, _⟩, rfl, of_decide_eq_true h3, of_decide_eq_true h4⟩
  · cases h
theorem isBall_dB {b : Bl} (h : 1 ≤ b.w ∧ b.w ≤ 1000) : isBall (dB b) = true := by
  show (isRatio (dR b.p) && (isRatio (dR b.s) && (decide (1 ≤ b.w) && decide (b.w ≤ 1000)))) = true
  rw [isRatio_dR, isRatio_dR, decide_eq_true h.1, decide_eq_true h.2]; rfl
def ballOf : PyData → Bl
  | .tuple [x, y, .int w] => ⟨ratOf x, ratOf y, w⟩
  | _ => ⟨0, 0, 0⟩
theorem ballOf_dB (b : Bl) : ballOf (dB b) = b := by
  show (⟨ratOf (dR b.p), ratOf (dR b.s), b.w⟩ : Bl) = b
  rw [ratOf_dR, ratOf_dR]
theorem balls_eq : ∀ {xs : List PyData}, xs.all isBall = true → xs = (xs.map ballOf).map dB ∧ ∀ b ∈ xs.map ballOf, 1 ≤ b.w ∧ b.w ≤ 1000
  | [], _ => ⟨rfl, fun _ h => by cases h⟩
  | x :: xs, h => by
    obtain ⟨h1, h2⟩ := Bool.and_eq_true_iff.mp (show (isBall x && xs.all isBall) = true from h)
    obtain ⟨e, hw⟩ := balls_eq h2
    obtain ⟨b, rfl, hb⟩ := isBall_eq h1
    refine ⟨?_, fun c hc => ?_⟩
    · rw [List.map_cons, List.map_cons, ← e, ballOf_dB]
    · rw [List.map_cons, ballOf_dB] at hc
      rcases List.mem_cons.mp hc with rfl | hc
      · exact hb
      · exact hw c hc
theorem balls_of {l : List Bl} (h : ∀ b ∈ l, 1 ≤ b.w ∧ b.w ≤ 1000) : (l.map dB).all isBall = true ∧ (l.map dB).map ballOf = l := by
  refine ⟨?_, ?_⟩
  · rw [List.all_map, List.all_eq_true]
    exact fun b hb => isBall_dB (h b hb)
  · rw [List.map_map]
    have : (ballOf ∘ dB) = id := funext ballOf_dB
    rw [this, List.map_id]
def withinS (p s q t : Rat) : Bool := decide (p = q ∧ s = t) || mayS p s q t
def lowOk : Wl → List Bl → Bool
  | some (p, s), c :: _ => withinS p s c.p c.s
  | _, _ => true
def highOk : Wl → List Bl → Bool
  | some (p, s), l => match l.getLast? with
    | some c => withinS c.p c.s p s
    | none => true
  | _, _ => true
def apart : Wl → Wl → Bool
  | some (p, _), some (q, _) => decide (p < q)
  | _, _ => true
def wallsGood : PyData → Bool
  | .tuple [x, y] => isWall x && (isWall y && (match x, y with
    | .tuple [p, _], .tuple [q, _] => decide (ratOf p < ratOf q)
    | _, _ => true))
  | _ => false
theorem wallsGood_dWs (a b : Wl) : wallsGood (dWs a b) = apart a b := by
  show (isWall (dW a) && (isWall (dW b) && _)) = _
  rw [isWall_dW, isWall_dW, Bool.true_and, Bool.true_and]
  cases a with
  | none => cases b <;> rfl
  | some a =>
    cases b with
    | none => rfl
    | some b =>
      show decide (ratOf (dR a.1) < ratOf (dR b.1)) = decide (a.1 < b.1)
      rw [ratOf_dR, ratOf_dR]
/-- a row, between walls, of balls -/
def isRow (a b : Wl) : PyData → Bool
  | .tuple xs => (decide (1 ≤ xs.length) && decide (xs.length ≤ 8)) && (xs.all isBall && (Nb mayB (xs.map ballOf) && (lowOk a (xs.map ballOf) && highOk b (xs.map ballOf))))
  | _ => false
theorem isRow_dRow {a b : Wl} {l : List Bl} (h : RowOk l) : isRow a b (dRow l) = (lowOk a l && highOk b l) := by
  obtain ⟨h1, h2⟩ := balls_of h.w0
  have hl : 1 ≤ l.length := by have := h.nz; cases l with | nil => exact absurd rfl this | cons a r => simp
  show ((decide (1 ≤ (l.map dB).length) && decide ((l.map dB).length ≤ 8)) && ((l.map dB).all isBall && (Nb mayB ((l.map dB).map ballOf) && (lowOk a ((l.map dB).map ballOf) && highOk b ((l.map dB).map ballOf))))) = _
  rw [h1, h2, h.nb, List.length_map, decide_eq_true hl, decide_eq_true h.le]
  rfl
def WSz (n : Nat) : Wl → Prop
  | some (p, s) => Sz n p ∧ Sz n s
  | none => True
theorem WSz.mono {n m : Nat} {w : Wl} (h : WSz n w) (l : n ≤ m) : WSz m w := by
  cases w with
  | none => trivial
  | some w => exact ⟨h.1.mono l, h.2.mono l⟩
theorem fit_dW {n : Nat} {w : Wl} (h : WSz 4000 w) : Fit (n + 2) (dW w) := by
  cases w with
  | none => rfl
  | some w =>
    intro x hx
    rcases List.mem_cons.mp hx with rfl | hx
    · exact fit_ofR h.1
    · rw [List.mem_singleton.mp hx]; exact fit_ofR h.2
theorem fit_dW' {n : Nat} {w : Wl} (h : Fit (n + 2) (dW w)) : WSz 4000 w := by
  cases w with
  | none => trivial
  | some w => exact ⟨fit_dR (n := n) (fit_mem h (List.mem_cons_self ..)), fit_dR (n := n) (fit_mem h (List.mem_cons_of_mem _ (List.mem_cons_self ..)))⟩
theorem fit_dWs {n : Nat} {a b : Wl} (h : WSz 4000 a) (h2 : WSz 4000 b) : Fit (n + 3) (dWs a b) := by
  intro x hx
  rcases List.mem_cons.mp hx with rfl | hx
  · exact fit_dW h
  · rw [List.mem_singleton.mp hx]; exact fit_dW h2
theorem fit_dB {n : Nat} {b : Bl} (h : Sz 4000 b.p) (h2 : Sz 4000 b.s) (h3 : b.w.natAbs < 2 ^ 4000) : Fit (n + 2) (dB b) := by
  intro x hx
  rcases List.mem_cons.mp hx with rfl | hx
  · exact fit_ofR h
  · rcases List.mem_cons.mp hx with rfl | hx
    · exact fit_ofR h2
    · rw [List.mem_singleton.mp hx]; exact h3
theorem fit_dB' {n : Nat} {b : Bl} (h : Fit (n + 2) (dB b)) : Sz 4000 b.p ∧ Sz 4000 b.s :=
  ⟨fit_dR (n := n) (fit_mem h (List.mem_cons_self ..)), fit_dR (n := n) (fit_mem h (List.mem_cons_of_mem _ (List.mem_cons_self ..)))⟩
theorem nat_pow_lt {a : Int} {k n : Nat} (h : a.natAbs < 2 ^ k) (l : k ≤ n) : a.natAbs < 2 ^ n := Nat.lt_of_lt_of_le h (Nat.pow_le_pow_right (by decide) l)
theorem fit_dRow {n : Nat} {l : List Bl} (h : RowOk l) : Fit (n + 3) (dRow l) := by
  intro x hx
  obtain ⟨b, hb, rfl⟩ := List.mem_map.mp hx
  obtain ⟨h1, h2⟩ := h.zp b hb
  have hw := h.w0 b hb
  exact fit_dB (h1.mono (by decide)) (h2.mono (by decide)) (nat_pow_lt (k := 10) (by omega) (by decide))
theorem nb_zip {α : Type} {f : α → α → Bool} : ∀ (l : List α), ((l.zip l.tail).map fun p => f p.1 p.2).all id = Nb f l
  | [] => rfl
  | [a] => rfl
  | a :: b :: l => by
    have := nb_zip (f := f) (b :: l)
    show (f a b && (((b :: l).zip l).map fun p => f p.1 p.2).all id) = (f a b && Nb f (b :: l))
    rw [← this]; rfl
theorem cut_tail {α : Type} (xs : List α) : cutG xs (some 1) none = xs.tail := by
  cases xs with
  | nil => rfl
  | cons a l =>
    unfold cutG
    rw [show HT.sIx (a :: l).length 0 (some 1) = 1 from (HT.sIx_nat _ _ 1).trans (by simp)]
    show ((a :: l).drop 1).take ((a :: l).length - 1) = l
    simp
theorem zipD_map {α : Type} (f : α → PyData) (l r : List α) : zipD (l.map f) (r.map f) = (l.zip r).map fun p => DV.d (.tuple [f p.1, f p.2]) := by
  unfold zipD
  rw [List.zip_map, List.map_map]
  rfl
section
variable {K : KF} {W : WX} {Γ : Gm} {Ω : Om} {R : DV → Om → Prop} {X : Exc → Om → Prop} {S : Gm → Om → Prop} {gs : TGs}
theorem we_nought (q0 : He.tupB K "NOUGHT" [.int 0, .int 1] = true) (q : R (.d (dR 0)) Ω) : WE K W (tC (.ref (He.ga K "NOUGHT"))) Γ Ω R X := we_g (tup_dp q0 fun G => .cons (.int 0) (.cons (.int 1) .nil)) q
theorem cutG_map {α β : Type} (f : α → β) (l : List α) (lo hi : Option Int) : cutG (l.map f) lo hi = (cutG l lo hi).map f := by
  unfold cutG
  rw [List.length_map, List.map_take, List.map_drop]
theorem wsl_Row {l : List Bl} {lo hi : Option Int} (q : R (.d (dRow (cutG l lo hi))) Ω) : WSl K (rSlS K) (.d (dRow l)) lo hi Ω R :=
  wsl_T (xs := l.map dB) (by rw [cutG_map]; exact q)
theorem wr_ixRow {l : List Bl} {i : Int} {b : Bl} (h : atI l i = some b) (q : R (.d (dB b)) Ω) : WR K (rIx K) (.d (dRow l)) (.d (.int i)) Ω R :=
  wr_ixT (xs := l.map dB) (y := dB b) (by rw [atI_map, h]; rfl) q
theorem at_first {α : Type} {l : List α} {a : α} (h : l.head? = some a) : atI l 0 = some a := by
  cases l with
  | nil => cases h
  | cons c r => cases h; exact atI_nat (j := 0) rfl
theorem at_last {α : Type} {l : List α} {a : α} (h : l.getLast? = some a) : atI l (-1) = some a := by
  have h0 : l ≠ [] := fun e => by rw [e] at h; cases h
  have e : l = l.dropLast ++ [a] := (List.dropLast_concat_getLast h0).symm.trans (by rw [show l.getLast h0 = a from Option.some.inj ((List.getLast?_eq_getLast h0).symm.trans h)])
  rw [e]
  exact atI_last _ _
theorem wr_ixW0 {a b : Wl} (q : R (.d (dW a)) Ω) : WR K (rIx K) (.d (dWs a b)) (.d (.int 0)) Ω R := wr_ixT rfl q
theorem wr_ixW1 {a b : Wl} (q : R (.d (dW b)) Ω) : WR K (rIx K) (.d (dWs a b)) (.d (.int 1)) Ω R := wr_ixT rfl q
theorem plain_dW (w : Wl) : plainV (.d (dW w)) = true := by cases w <;> rfl
theorem isNo_dW (w : Wl) : isNo (.d (dW w)) = w.isNone := by cases w <;> rfl
theorem wr_isNW {w : Wl} (q : R (.d (.bool w.isNone)) Ω) : WR K oIsN (.d (dW w)) (.d .none) Ω R := wr_isN' (plain_dW w) (by rw [isNo_dW]; exact q)
theorem wr_notNW {w : Wl} (q : R (.d (.bool (!w.isNone))) Ω) : WR K oNotN (.d (dW w)) (.d .none) Ω R := wr_notN' (plain_dW w) (by rw [isNo_dW]; exact q)
theorem wg_tupW {a b : Wl} (h : WGs K gs [.d (dW a), .d (dW b)] Γ Ω S) : WG K (gTup K 2 gs) (.d (dWs a b)) Γ Ω S := wg_tup (xs := [dW a, dW b]) rfl h
theorem wr_ixw0 {p s : Rat} (q : R (.d (dR p)) Ω) : WR K (rIx K) (.d (dW (some (p, s)))) (.d (.int 0)) Ω R := wr_ixT rfl q
theorem wr_ixw1 {p s : Rat} (q : R (.d (dR s)) Ω) : WR K (rIx K) (.d (dW (some (p, s)))) (.d (.int 1)) Ω R := wr_ixT rfl q
theorem only2 {i j : Nat} : Only (gTup K 2 (gCons (gName i) (gCons (gName j) gNil))) [i, j] :=
  only_tup (onlys_cons mono_name (only_name (List.mem_cons_self ..)) (onlys_cons mono_name (only_name (List.mem_cons_of_mem _ (List.mem_cons_self ..))) onlys_nil))
theorem only3 {i j k : Nat} : Only (gTup K 3 (gCons (gName i) (gCons (gName j) (gCons (gName k) gNil)))) [i, j, k] :=
  only_tup (onlys_cons mono_name (only_name (List.mem_cons_self ..)) (onlys_cons mono_name (only_name (List.mem_cons_of_mem _ (List.mem_cons_self ..))) (onlys_cons mono_name (only_name (List.mem_cons_of_mem _ (List.mem_cons_of_mem _ (List.mem_cons_self ..)))) onlys_nil)))
end
section
variable {K : KF} {Γ : Gm} {Ω : Om} {S : Gm → Om → Prop} {gs : TGs}
theorem wg_tup2 {a b : PyData} (h : WGs K gs [.d a, .d b] Γ Ω S) : WG K (gTup K 2 gs) (.d (.tuple [a, b])) Γ Ω S := wg_tup rfl h
theorem wg_tup3 {a b c : PyData} (h : WGs K gs [.d a, .d b, .d c] Γ Ω S) : WG K (gTup K 3 gs) (.d (.tuple [a, b, c])) Γ Ω S := wg_tup rfl h
theorem wg_tup4 {a b c d : PyData} (h : WGs K gs [.d a, .d b, .d c, .d d] Γ Ω S) : WG K (gTup K 4 gs) (.d (.tuple [a, b, c, d])) Γ Ω S := wg_tup rfl h
end
/-! ### data that can be compared, and what comparing tells -/
def Shp (n : Nat) (d : PyData) : Prop := d.canLay0 = true ∧ d.depth ≤ n
theorem shaped_of {d : PyData} (h : Shp 64 d) : SeqAt.shaped d = true := Bool.and_eq_true_iff.mpr ⟨h.1, decide_eq_true h.2⟩
theorem Shp.mono {n m : Nat} {d : PyData} (h : Shp n d) (l : n ≤ m) : Shp m d := ⟨h.1, Nat.le_trans h.2 l⟩
theorem shp_int {n : Nat} {a : Int} : Shp n (.int a) := ⟨rfl, Nat.zero_le _⟩
theorem shp_bool {n : Nat} {a : Bool} : Shp n (.bool a) := ⟨rfl, Nat.zero_le _⟩
theorem shp_none {n : Nat} : Shp n .none := ⟨rfl, Nat.zero_le _⟩
theorem shp_all {n : Nat} : ∀ {xs : List PyData}, (∀ x ∈ xs, Shp n x) → PyData.canLayAll0 xs = true ∧ PyData.depthAll xs ≤ n
  | [], _ => ⟨rfl, Nat.zero_le _⟩
  | x :: xs, h => by
    have h1 := h x (List.mem_cons_self ..)
    have h2 := shp_all (xs := xs) fun y hy => h y (List.mem_cons_of_mem _ hy)
    refine ⟨?_, ?_⟩
    · show (x.canLay0 && PyData.canLayAll0 xs) = true
      rw [h1.1, h2.1]; rfl
    · show max x.depth (PyData.depthAll xs) ≤ n
      have := h1.2
      have := h2.2
      omega
theorem shp_tup {n : Nat} {xs : List PyData} (h : ∀ x ∈ xs, Shp n x) : Shp (n + 1) (.tuple xs) := by
  obtain ⟨h1, h2⟩ := shp_all h
  exact ⟨h1, Nat.succ_le_succ h2⟩
theorem shp_list {n : Nat} {xs : List PyData} (h : ∀ x ∈ xs, Shp n x) : Shp (n + 1) (.list xs) := by
  obtain ⟨h1, h2⟩ := shp_all h
  exact ⟨h1, Nat.succ_le_succ h2⟩
theorem shp_nil {n : Nat} : ∀ x ∈ ([] : List PyData), Shp n x := fun _ h => by cases h
theorem shp_cons {n : Nat} {a : PyData} {l : List PyData} (h : Shp n a) (t : ∀ x ∈ l, Shp n x) : ∀ x ∈ a :: l, Shp n x := fun x hx => by
  rcases List.mem_cons.mp hx with rfl | hx
  · exact h
  · exact t x hx
theorem shp_map {α : Type} {n : Nat} {f : α → PyData} {l : List α} (h : ∀ a, Shp n (f a)) : ∀ x ∈ l.map f, Shp n x := fun x hx => by
  obtain ⟨a, _, rfl⟩ := List.mem_map.mp hx
  exact h a
theorem shp_dR {n : Nat} (q : Rat) : Shp (n + 1) (dR q) := shp_tup (shp_cons shp_int (shp_cons shp_int shp_nil))
theorem shp_dB {n : Nat} (b : Bl) : Shp (n + 2) (dB b) := shp_tup (shp_cons (shp_dR _) (shp_cons (shp_dR _) (shp_cons shp_int shp_nil)))
theorem shp_dRow {n : Nat} (l : List Bl) : Shp (n + 3) (dRow l) := shp_tup (shp_map fun b => shp_dB b)
theorem shp_dW {n : Nat} (w : Wl) : Shp (n + 2) (dW w) := by
  cases w with
  | none => exact shp_none
  | some w => exact shp_tup (shp_cons (shp_dR _) (shp_cons (shp_dR _) shp_nil))
theorem shp_dWs {n : Nat} (a b : Wl) : Shp (n + 3) (dWs a b) := shp_tup (shp_cons (shp_dW _) (shp_cons (shp_dW _) shp_nil))
/-- told apart by == as they are -/
def EqvI {α : Type} [DecidableEq α] (f : α → PyData) : Prop := ∀ a b, PyData.eqv (f a) (f b) = decide (a = b)
theorem eqvAll_map {α : Type} [DecidableEq α] {f : α → PyData} (h : EqvI f) : ∀ (l m : List α), PyData.eqvAll (l.map f) (m.map f) = decide (l = m)
  | [], [] => rfl
  | [], _ :: _ => rfl
  | _ :: _, [] => rfl
  | a :: l, b :: m => by
    show (PyData.eqv (f a) (f b) && PyData.eqvAll (l.map f) (m.map f)) = _
    rw [h, eqvAll_map h l m]
    by_cases h1 : a = b <;> by_cases h2 : l = m <;> simp [h1, h2]
theorem eqv_list {α : Type} [DecidableEq α] {f : α → PyData} (h : EqvI f) : EqvI fun l : List α => .list (l.map f) := fun l m => eqvAll_map h l m
theorem eqv_tup {α : Type} [DecidableEq α] {f : α → PyData} (h : EqvI f) : EqvI fun l : List α => .tuple (l.map f) := fun l m => eqvAll_map h l m
theorem eqvI_dR : EqvI dR := eqv_dR
theorem eqvI_int : EqvI PyData.int := eqv_int
instance : DecidableEq Bl := fun a b => decidable_of_iff (a.p = b.p ∧ a.s = b.s ∧ a.w = b.w) ⟨fun h => by cases a; cases b; simp at h; simp [h], fun h => by subst h; exact ⟨rfl, rfl, rfl⟩⟩
theorem eqvI_dB : EqvI dB := fun a b => by
  show (PyData.eqv (dR a.p) (dR b.p) && (PyData.eqv (dR a.s) (dR b.s) && (PyData.eqv (.int a.w) (.int b.w) && true))) = _
  rw [eqv_dR, eqv_dR, eqv_int]
  obtain ⟨p, s, w⟩ := a
  obtain ⟨q, t, v⟩ := b
  by_cases h1 : p = q <;> by_cases h2 : s = t <;> by_cases h3 : w = v <;> simp [h1, h2, h3]
theorem eqvI_dRow : EqvI dRow := eqv_tup eqvI_dB
theorem eqvI_dW : EqvI dW := fun a b => by
  cases a with
  | none => cases b <;> rfl
  | some a =>
    cases b with
    | none => rfl
    | some b =>
      show (PyData.eqv (dR a.1) (dR b.1) && (PyData.eqv (dR a.2) (dR b.2) && true)) = _
      rw [eqv_dR, eqv_dR]
      obtain ⟨p, s⟩ := a
      obtain ⟨q, t⟩ := b
      by_cases h1 : p = q <;> by_cases h2 : s = t <;> simp [h1, h2]
section
variable {K : KF} {Ω : Om} {R : DV → Om → Prop}
theorem wr_eqE {α : Type} [DecidableEq α] (f : α → PyData) (hi : EqvI f) (hs : ∀ a, Shp 64 (f a)) {x y : α} (q : R (.d (.bool (decide (x = y)))) Ω) : WR K (rEqD K) (.d (f x)) (.d (f y)) Ω R :=
  wr_eq rfl rfl (shaped_of (hs x)) (shaped_of (hs y)) (by rw [hi]; exact q)
theorem wr_neE {α : Type} [DecidableEq α] (f : α → PyData) (hi : EqvI f) (hs : ∀ a, Shp 64 (f a)) {x y : α} (q : R (.d (.bool (!decide (x = y)))) Ω) : WR K (rNeD K) (.d (f x)) (.d (f y)) Ω R :=
  wr_ne rfl rfl (shaped_of (hs x)) (shaped_of (hs y)) (by rw [hi]; exact q)
end
section
variable {K : KF} {Ω : Om} {R : DV → Om → Prop} {α : Type} [DecidableEq α]
theorem wr_eqL (f : α → PyData) (hi : EqvI f) (hs : ∀ a, Shp 63 (f a)) {l m : List α} (q : R (.d (.bool (decide (l = m)))) Ω) : WR K (rEqD K) (.d (.list (l.map f))) (.d (.list (m.map f))) Ω R :=
  wr_eqE (fun l : List α => .list (l.map f)) (eqv_list hi) (fun l => shp_list (shp_map hs)) q
theorem wr_neL (f : α → PyData) (hi : EqvI f) (hs : ∀ a, Shp 63 (f a)) {l m : List α} (q : R (.d (.bool (!decide (l = m)))) Ω) : WR K (rNeD K) (.d (.list (l.map f))) (.d (.list (m.map f))) Ω R :=
  wr_neE (fun l : List α => .list (l.map f)) (eqv_list hi) (fun l => shp_list (shp_map hs)) q
theorem wr_eqRow {l m : List Bl} (q : R (.d (.bool (decide (l = m)))) Ω) : WR K (rEqD K) (.d (dRow l)) (.d (dRow m)) Ω R := wr_eqE dRow eqvI_dRow shp_dRow q
theorem wr_neRow {l m : List Bl} (q : R (.d (.bool (!decide (l = m)))) Ω) : WR K (rNeD K) (.d (dRow l)) (.d (dRow m)) Ω R := wr_neE dRow eqvI_dRow shp_dRow q
end
/-! ### framed: all speeds more by one -/
def addB (u : Rat) (b : Bl) : Bl := ⟨b.p, b.s + u, b.w⟩
def addW (u : Rat) : Wl → Wl
  | none => none
  | some (p, s) => some (p, s + u)
theorem mayS_add (p s q t u : Rat) : mayS p (s + u) q (t + u) = mayS p s q t := by
  unfold mayS
  have : decide (s + u < t + u) = decide (s < t) := decide_eq_decide.mpr ⟨fun h => by grind, fun h => by grind⟩
  rw [this]
theorem withinS_add (p s q t u : Rat) : withinS p (s + u) q (t + u) = withinS p s q t := by
  unfold withinS
  rw [mayS_add]
  have : decide (p = q ∧ s + u = t + u) = decide (p = q ∧ s = t) := decide_eq_decide.mpr ⟨fun h => ⟨h.1, by grind⟩, fun h => ⟨h.1, by grind⟩⟩
  rw [this]
theorem nb_map {α β : Type} {f : α → α → Bool} {g : β → β → Bool} {h : α → β} (e : ∀ a b, g (h a) (h b) = f a b) : ∀ l : List α, Nb g (l.map h) = Nb f l
  | [] => rfl
  | [_] => rfl
  | a :: b :: l => by
    show (g (h a) (h b) && Nb g ((b :: l).map h)) = (f a b && Nb f (b :: l))
    rw [e, nb_map e (b :: l)]
theorem nb_add (u : Rat) (l : List Bl) : Nb mayB (l.map (addB u)) = Nb mayB l := nb_map (f := mayB) (g := mayB) (h := addB u) (fun a b => mayS_add a.p a.s b.p b.s u) l
theorem low_add (u : Rat) (w : Wl) (l : List Bl) : lowOk (addW u w) (l.map (addB u)) = lowOk w l := by
  cases w with
  | none => rfl
  | some w =>
    cases l with
    | nil => rfl
    | cons c r => exact withinS_add ..
theorem high_add (u : Rat) (w : Wl) (l : List Bl) : highOk (addW u w) (l.map (addB u)) = highOk w l := by
  cases w with
  | none => rfl
  | some w =>
    show (match (l.map (addB u)).getLast? with | some c => withinS c.p c.s w.1 (w.2 + u) | none => true) = (match l.getLast? with | some c => withinS c.p c.s w.1 w.2 | none => true)
    rw [List.getLast?_map]
    cases l.getLast? with
    | none => rfl
    | some c => exact withinS_add ..
theorem addB_add (u v : Rat) (b : Bl) : addB v (addB u b) = addB (u + v) b := by unfold addB; simp only [Rat.add_assoc]
theorem addW_add (u v : Rat) (w : Wl) : addW v (addW u w) = addW (u + v) w := by
  cases w with
  | none => rfl
  | some w => show some (w.1, w.2 + u + v) = some (w.1, w.2 + (u + v)); rw [Rat.add_assoc]
theorem addB_zero (b : Bl) : addB 0 b = b := by unfold addB; rw [Rat.add_zero]
theorem addW_zero (w : Wl) : addW 0 w = w := by
  cases w with
  | none => rfl
  | some w => show some (w.1, w.2 + 0) = some w; rw [Rat.add_zero]
theorem push_add (u : Rat) (l : List Bl) : weighed (fun b => b.s) (l.map (addB u)) = weighed (fun b => b.s) l + (wsum l : Rat) * u := by
  unfold weighed
  induction l with
  | nil => show (0 : Rat) = 0 + ((0 : Int) : Rat) * u; rw [Rat.intCast_zero, Rat.zero_mul, Rat.add_zero]
  | cons a l ih =>
    show (a.w : Rat) * (a.s + u) + sumR ((l.map (addB u)).map _) = (a.w : Rat) * a.s + sumR (l.map _) + ((a.w + wsum l : Int) : Rat) * u
    rw [ih, Rat.intCast_add]
    grind
theorem middle_add (u : Rat) (l : List Bl) : weighed (fun b => b.p) (l.map (addB u)) = weighed (fun b => b.p) l := by
  unfold weighed
  rw [List.map_map]; rfl
theorem wsum_add (u : Rat) (l : List Bl) : wsum (l.map (addB u)) = wsum l := by
  unfold wsum
  rw [List.map_map]; rfl
theorem energy_add (u : Rat) (l : List Bl) : weighed (fun b => b.s * b.s) (l.map (addB u)) = weighed (fun b => b.s * b.s) l + u * (weighed (fun b => b.s) l + (weighed (fun b => b.s) l + (wsum l : Rat) * u)) := by
  unfold weighed
  induction l with
  | nil => show (0 : Rat) = 0 + u * (0 + (0 + ((0 : Int) : Rat) * u)); rw [Rat.intCast_zero, Rat.zero_mul, Rat.add_zero, Rat.add_zero, Rat.mul_zero, Rat.add_zero]
  | cons a l ih =>
    show (a.w : Rat) * ((a.s + u) * (a.s + u)) + sumR ((l.map (addB u)).map _) = (a.w : Rat) * (a.s * a.s) + sumR (l.map _) + u * ((a.w : Rat) * a.s + sumR (l.map _) + ((a.w : Rat) * a.s + sumR (l.map _) + ((a.w + wsum l : Int) : Rat) * u))
    rw [ih, Rat.intCast_add]
    grind
/-- a row and its walls -/
def dRW (x : List Bl × Wl × Wl) : PyData := .tuple [dRow x.1, dWs x.2.1 x.2.2]
theorem eqvI_dWs : EqvI fun x : Wl × Wl => dWs x.1 x.2 := fun a b => by
  show (PyData.eqv (dW a.1) (dW b.1) && (PyData.eqv (dW a.2) (dW b.2) && true)) = _
  rw [eqvI_dW, eqvI_dW]
  obtain ⟨p, s⟩ := a
  obtain ⟨q, t⟩ := b
  by_cases h1 : p = q <;> by_cases h2 : s = t <;> simp [h1, h2]
theorem eqvI_dRW : EqvI dRW := fun a b => by
  show (PyData.eqv (dRow a.1) (dRow b.1) && (PyData.eqv (dWs a.2.1 a.2.2) (dWs b.2.1 b.2.2) && true)) = _
  rw [eqvI_dRow, eqvI_dWs a.2 b.2]
  obtain ⟨p, s⟩ := a
  obtain ⟨q, t⟩ := b
  by_cases h1 : p = q <;> by_cases h2 : s = t <;> simp [h1, h2]
theorem shp_dRW (x : List Bl × Wl × Wl) : Shp 64 (dRW x) := shp_tup (shp_cons (shp_dRow _) (shp_cons (shp_dWs _ _) shp_nil))
section
variable {K : KF} {Γ : Gm} {Ω : Om} {R : DV → Om → Prop} {S : Gm → Om → Prop} {gs : TGs}
theorem wr_neRW {x y : List Bl × Wl × Wl} (q : R (.d (.bool (!decide (x = y)))) Ω) : WR K (rNeD K) (.d (dRW x)) (.d (dRW y)) Ω R := wr_neE dRW eqvI_dRW shp_dRW q
theorem wr_eqRW {x y : List Bl × Wl × Wl} (q : R (.d (.bool (decide (x = y)))) Ω) : WR K (rEqD K) (.d (dRW x)) (.d (dRW y)) Ω R := wr_eqE dRW eqvI_dRW shp_dRW q
theorem wr_ixRW0 {x : List Bl × Wl × Wl} (q : R (.d (dRow x.1)) Ω) : WR K (rIx K) (.d (dRW x)) (.d (.int 0)) Ω R := wr_ixT rfl q
theorem wr_ixRW1 {x : List Bl × Wl × Wl} (q : R (.d (dWs x.2.1 x.2.2)) Ω) : WR K (rIx K) (.d (dRW x)) (.d (.int 1)) Ω R := wr_ixT rfl q
theorem wg_tupRW {x : List Bl × Wl × Wl} (h : WGs K gs [.d (dRow x.1), .d (dWs x.2.1 x.2.2)] Γ Ω S) : WG K (gTup K 2 gs) (.d (dRW x)) Γ Ω S := wg_tup (xs := [dRow x.1, dWs x.2.1 x.2.2]) rfl h
end
theorem cut_from2 {α : Type} {a b : α} {r : List α} : cutG (a :: b :: r) (some 2) none = r := by
  unfold cutG
  rw [show HT.sIx (a :: b :: r).length 0 (some 2) = 2 from (HT.sIx_nat _ _ 2).trans (by simp)]
  show ((a :: b :: r).drop 2).take ((a :: b :: r).length - 2) = r
  simp
/-- a row whose speeds may be greater -/
theorem isRow_of {a b : Wl} {l : List Bl} (hz : l ≠ []) (hl : l.length ≤ 8) (hw : ∀ b ∈ l, 1 ≤ b.w ∧ b.w ≤ 1000) (hn : Nb mayB l = true) : isRow a b (dRow l) = (lowOk a l && highOk b l) := by
  obtain ⟨h1, h2⟩ := balls_of hw
  have hl1 : 1 ≤ l.length := by cases l with | nil => exact absurd rfl hz | cons a r => simp
  show ((decide (1 ≤ (l.map dB).length) && decide ((l.map dB).length ≤ 8)) && ((l.map dB).all isBall && (Nb mayB ((l.map dB).map ballOf) && (lowOk a ((l.map dB).map ballOf) && highOk b ((l.map dB).map ballOf))))) = _
  rw [h1, h2, hn, List.length_map, decide_eq_true hl1, decide_eq_true hl]
  rfl
theorem fit_row {n : Nat} {l : List Bl} (h : ∀ b ∈ l, Sz 4000 b.p ∧ Sz 4000 b.s ∧ 1 ≤ b.w ∧ b.w ≤ 1000) : Fit (n + 3) (dRow l) := by
  intro x hx
  obtain ⟨b, hb, rfl⟩ := List.mem_map.mp hx
  obtain ⟨h1, h2, h3, h4⟩ := h b hb
  exact fit_dB h1 h2 (nat_pow_lt (k := 10) (by omega) (by decide))
/-! ### what is no row, no walls; cuts at a place -/
def NotRow (y : PyData) : Prop := ∀ a b, isRow a b y = false
theorem notRow_bad {xs : List PyData} {x : PyData} (hx : x ∈ xs) (h : isBall x = false) : NotRow (.tuple xs) := fun a b => by
  have : xs.all isBall = false := by
    cases e : xs.all isBall with
    | false => rfl
    | true => rw [List.all_eq_true.mp e x hx] at h; cases h
  show ((decide (1 ≤ xs.length) && decide (xs.length ≤ 8)) && (xs.all isBall && _)) = false
  rw [this, Bool.false_and, Bool.and_false]
theorem notRow_long {xs : List PyData} (h : 8 < xs.length) : NotRow (.tuple xs) := fun a b => by
  show ((decide (1 ≤ xs.length) && decide (xs.length ≤ 8)) && _) = false
  rw [decide_eq_false (show ¬ xs.length ≤ 8 by omega), Bool.and_false, Bool.false_and]
theorem notRow_nb {l : List Bl} (hw : ∀ b ∈ l, 1 ≤ b.w ∧ b.w ≤ 1000) (h : Nb mayB l = false) : NotRow (dRow l) := fun a b => by
  obtain ⟨h1, h2⟩ := balls_of hw
  show ((decide (1 ≤ (l.map dB).length) && decide ((l.map dB).length ≤ 8)) && ((l.map dB).all isBall && (Nb mayB ((l.map dB).map ballOf) && _))) = false
  rw [h1, h2, h, Bool.false_and, Bool.and_false, Bool.and_false]
theorem cut_to {α : Type} {xs : List α} {j : Nat} (h : j ≤ xs.length) : cutG xs none (some (j : Int)) = xs.take j := by
  unfold cutG
  rw [HT.sIx_nat, Nat.min_eq_left h]
  rfl
theorem cut_from {α : Type} {xs : List α} {j : Nat} (h : j ≤ xs.length) : cutG xs (some (j : Int)) none = xs.drop j := by
  unfold cutG
  rw [HT.sIx_nat, Nat.min_eq_left h]
  show (xs.drop j).take (xs.length - j) = _
  rw [List.take_of_length_le (by rw [List.length_drop]; omega)]
theorem nb_mid {α : Type} {f : α → α → Bool} {a b : α} (h : f a b = false) : ∀ l r : List α, Nb f (l ++ a :: b :: r) = false
  | [], r => by show (f a b && Nb f (b :: r)) = false; rw [h, Bool.false_and]
  | [c], r => by show (f c a && (f a b && Nb f (b :: r))) = false; rw [h, Bool.false_and, Bool.and_false]
  | c :: d :: l, r => by
    show (f c d && Nb f (d :: l ++ a :: b :: r)) = false
    rw [nb_mid h (d :: l) r, Bool.and_false]
section
variable {K : KF} {Ω : Om} {R : DV → Om → Prop}
theorem wr_repT {xs : List PyData} {k : Int} (h : xs ≠ []) (h2 : 2 ≤ k) (h3 : k ≤ 1000) (hl : xs.length ≤ 1000) (q : R (.d (.tuple (List.replicate k.toNat xs).flatten)) Ω) : WR K (rRepT K) (.d (.tuple xs)) (.d (.int k)) Ω R := fun m G H v w Q c r1 r2 k' => by
  cases r2
  obtain ⟨a, vs, rfl, hs, rp⟩ := lsT_get c r1 rfl
  have el := dps_len rp
  refine ⟨a, k, vs, rfl, rfl, ex_t c.ex hs, fun e => h ((dps_nil rp).mp e), h2, h3, by omega, fun p hp => ?_⟩
  obtain ⟨c2, n2⟩ := c.frz hp (.tup (List.replicate k.toNat vs).flatten)
  have rep : ∀ n : Nat, DpAll K _ (List.replicate n vs).flatten (List.replicate n xs).flatten := fun n => by
    induction n with
    | zero => exact .nil
    | succ n ih => rw [List.replicate_succ, List.replicate_succ, List.flatten_cons, List.flatten_cons]; exact dps_app (dps_ex n2.gg _ _ rp) ih
  exact k' _ _ _ _ (.d (.tuple (List.replicate k.toNat xs).flatten)) _ c2 n2 (Nat.le_refl _) (.tup (st_of upd_same) (rep _)) q
end
/-- a list display, list(..) that is changed later -/
def tLstO (ta : TA) : TE := tLst ta
def rListO (K : KF) : List V → Hp → VK → Prop := rListQ K
section
variable {K : KF} {W : WX} {Γ : Gm} {Ω : Om} {R : DV → Om → Prop} {X : Exc → Om → Prop} {tl : TA}
theorem we_lstO' (h : WA K W tl Γ Ω (fun ds Ω1 => ds.length ≤ 100000 ∧ R (.o Ω1.length) (Ω1 ++ [.lst ds])) X) : WE K W (tLstO tl) Γ Ω R X := we_lstO h
theorem wc_listO'' {x : DV} {xs : List PyData} (hx : ls Ω x = some xs) (q : R (.o Ω.length) (Ω ++ [.lst (xs.map DV.d)])) : WC K (rListO K) [x] Ω R := wc_listO' hx q
theorem ex_len {ds : List DV} {B : Prop} (e : ds.length ≤ 100000) (h : B) : ds.length ≤ 100000 ∧ B := ⟨e, h⟩
end
theorem set_last {α : Type} (l : List α) (a b : α) : (l ++ [a]).set l.length b = l ++ [b] := by
  rw [List.set_append_right _ _ (Nat.le_refl _), Nat.sub_self]; rfl
theorem get_last {α : Type} (l : List α) (a : α) : (l ++ [a])[l.length]? = some a := by simp
theorem lsL_last (Ω : Om) (ds : List DV) : lsL (Ω ++ [.lst ds]) (.o Ω.length) = asDs ds := by
  show (sqO (Ω ++ [OC.lst ds])[Ω.length]?).bind asDs = _
  rw [get_last]; rfl
theorem ls_last (Ω : Om) (ds : List DV) : ls (Ω ++ [.lst ds]) (.o Ω.length) = asDs ds := by
  show (sqO (Ω ++ [OC.lst ds])[Ω.length]?).bind asDs = _
  rw [get_last]; rfl
theorem sq_last (Ω : Om) (ds : List DV) : sq (Ω ++ [.lst ds]) (.o Ω.length) = some ds := by
  show sqO (Ω ++ [OC.lst ds])[Ω.length]? = _
  rw [get_last]; rfl
theorem sqLs_last (Ω : Om) (ds : List DV) : sqLs (Ω ++ [.lst ds]) (.o Ω.length) = some ds := by
  show sqO (Ω ++ [OC.lst ds])[Ω.length]? = _
  rw [get_last]; rfl
theorem wm_appL {K : KF} {Ω : Om} {R : DV → Om → Prop} {ds : List DV} {y : DV} (hl : ds.length < 100000) (q : R (.d .none) (Ω ++ [.lst (ds ++ [y])])) : WM K rAppend (.o Ω.length) [y] (Ω ++ [.lst ds]) R :=
  wm_append (get_last Ω (.lst ds)) hl (by rw [set_last]; exact q)
section
variable {K : KF} {W : WX} {Γ : Gm} {Ω : Om} {X : Exc → Om → Prop} {Rc : List DV → (Om → Prop) → Om → Prop} {te : TE}
theorem wi_Ld (h : WE K W te Γ Ω (fun d Ω1 => ∃ xs, d = .d (.list xs) ∧ Rc (xs.map DV.d) (fun _ => True) Ω1) X) : WI K W (iSeq K te) Γ Ω Rc X := fun m G H σ R c s x k =>
  h m G H σ _ c s (fun m1 G1 Ω1 H1 d v c1 n1 l1 r1 ⟨xs, e, q⟩ => by
    subst e
    obtain ⟨a, vs, rfl, hs, rp⟩ := lsL_get c1 r1 rfl
    exact ⟨a, rfl, .inl ⟨⟨vs, hs⟩, k m1 G1 Ω1 H1 _ (xs.map DV.d) _ c1 n1 l1 (fun m' G' Ω' H' c' n' l' st => itok_list r1 m' G' Ω' H' c' n' l' rfl) q⟩⟩) x
end
/-- of all items of a list -/
theorem all_nil {α : Type} {P : α → Prop} : ∀ x ∈ ([] : List α), P x := fun _ h => by cases h
theorem all_cons {α : Type} {P : α → Prop} {a : α} {l : List α} (h : P a) (t : ∀ x ∈ l, P x) : ∀ x ∈ a :: l, P x := fun x hx => by
  rcases List.mem_cons.mp hx with rfl | hx
  · exact h
  · exact t x hx
theorem all_app {α : Type} {P : α → Prop} {l r : List α} (h : ∀ x ∈ l, P x) (t : ∀ x ∈ r, P x) : ∀ x ∈ l ++ r, P x := fun x hx => by
  rcases List.mem_append.mp hx with hx | hx
  · exact h x hx
  · exact t x hx
theorem fit_tup {n : Nat} {xs : List PyData} (h : ∀ x ∈ xs, Fit n x) : Fit (n + 1) (.tuple xs) := h
theorem fit_int {n k : Nat} {a : Int} (h : a.natAbs < 2 ^ k) (l : k ≤ 4000) : Fit n (.int a) := by
  have := nat_pow_lt h l
  cases n <;> exact this
theorem fit_none {n : Nat} : Fit n .none := by cases n <;> rfl
theorem fit_bool {n : Nat} {b : Bool} : Fit n (.bool b) := by cases n <;> rfl
theorem fit_str {n : Nat} {b : Str} : Fit n (.str b) := by cases n <;> rfl
theorem fit_list {n : Nat} {b : List PyData} : Fit n (.list b) := by cases n <;> rfl
theorem wsl_B {K : KF} {Ω : Om} {R : DV → Om → Prop} {b : Bl} {lo hi : Option Int} (q : R (.d (.tuple (cutG [dR b.p, dR b.s, .int b.w] lo hi))) Ω) : WSl K (rSlS K) (.d (dB b)) lo hi Ω R := wsl_T (xs := [dR b.p, dR b.s, .int b.w]) q
theorem cut_one {α : Type} (xs : List α) : cutG xs none (some 1) = xs.take 1 := by
  cases xs with
  | nil => rfl
  | cons a l => exact cut_to (j := 1) (by simp)
theorem cut_but {α : Type} (xs : List α) : cutG xs none (some (-1)) = xs.dropLast := by
  unfold cutG
  show (xs.drop 0).take (HT.sIx xs.length xs.length (some (-1)) - 0) = _
  have e : HT.sIx xs.length xs.length (some (-1)) = xs.length - 1 := by
    show (if (-1 : Int) < 0 then ((-1 : Int) + (xs.length : Int)).toNat else min (-1 : Int).toNat xs.length) = _
    rw [if_pos (by decide)]
    omega
  rw [e, List.drop_zero, Nat.sub_zero]
  exact List.dropLast_eq_take.symm
theorem we_varFL {K : KF} {W : WX} {Γ : Gm} {Ω : Om} {R : DV → Om → Prop} {X : Exc → Om → Prop} {i : Nat} {ds : List DV} {xs : List PyData} (h : Γ[i]? = some (some (.o Ω.length))) (hx : asDs ds = some xs) (q : R (.d (.list xs)) (Ω ++ [.gone])) : WE K W (tVar i) Γ (Ω ++ [.lst ds]) R X :=
  we_varF h (by rw [get_last]; exact hx) (by rw [set_last]; exact q)
/-! ### [x] * k; comprehensions that draw -/
section
variable {K : KF} {Ω : Om} {R : DV → Om → Prop}
theorem wr_rep {i : Nat} {ds : List DV} {xs : List PyData} {k : Int} (hx : Ω[i]? = some (.lst ds)) (hd : asDs ds = some xs) (h1 : -(2 ^ 63) ≤ k) (h2 : k < 2 ^ 63) (hl : xs.length * k.toNat ≤ 100000) (q : R (.d (.list (List.replicate k.toNat xs).flatten)) Ω) : WR K rRep (.o i) (.d (.int k)) Ω R := fun m G H v w Q c r1 r2 k' => by
  obtain ⟨hi, rfl⟩ := r1
  cases r2
  obtain ⟨q1, ws, hw, rp⟩ := c.fr i _ hx (by intro z; cases z)
  rw [asDs_eq hd] at rp
  have ra := dps_of rp
  have el := dps_len ra
  refine ⟨m i, k, ws, rfl, rfl, hw, h1, h2, sz_of (by rw [el]; exact hl), fun p hp => ?_⟩
  obtain ⟨c2, n2⟩ := c.frz hp (.lst (List.replicate k.toNat ws).flatten)
  have rep : ∀ n : Nat, DpAll K _ (List.replicate n ws).flatten (List.replicate n xs).flatten := fun n => by
    induction n with
    | zero => exact .nil
    | succ n ih => rw [List.replicate_succ, List.replicate_succ, List.flatten_cons, List.flatten_cons]; exact dps_app (dps_ex n2.gg _ _ ra) ih
  exact k' _ _ _ _ (.d (.list (List.replicate k.toNat xs).flatten)) _ c2 n2 (Nat.le_refl _) (.lst (sq_of upd_same) (rep _)) q
theorem flat_one {α : Type} (n : Nat) (x : α) : (List.replicate n [x]).flatten = List.replicate n x := by
  induction n with
  | zero => rfl
  | succ n ih => rw [List.replicate_succ, List.replicate_succ, List.flatten_cons, ih]; rfl
theorem wr_rep1 {x : PyData} {k : Int} (h1 : -(2 ^ 63) ≤ k) (h2 : k.toNat ≤ 100000) (q : R (.d (.list (List.replicate k.toNat x))) (Ω ++ [.lst [.d x]])) : WR K rRep (.o Ω.length) (.d (.int k)) (Ω ++ [.lst [.d x]]) R :=
  wr_rep (xs := [x]) (get_last _ _) rfl h1 (by omega) (by simpa using h2) (by rw [flat_one]; exact q)
end
section
variable {K : KF} {W : WX} {Γ : Gm} {Ω : Om} {R : DV → Om → Prop} {X : Exc → Om → Prop} {wi : TI} {g : TG} {te : TE} {vs : List Nat}
theorem we_lcK {k : Nat} (og : Only g vs) (hk : k < Ω.length) (h : WI K W wi Γ Ω (fun ys stay Ω1 => ∃ (p1 : OC) (Q : Nat → List PyData → Prop), Ω1 = Ω.set k p1 ∧ IsPool p1 ∧ ys.length ≤ 100000 ∧ (∀ p' ds, IsPool p' → stay (Ω.set k p' ++ [.lst ds])) ∧ Q 0 [] ∧
      (∀ i y acc p', ys[i]? = some y → IsPool p' → acc.length = i → Q i acc → WG K g y (wipeG Γ vs) (Ω.set k p' ++ [.lst (acc.map DV.d)]) (fun Γ2 Ω2 => Ω2 = Ω.set k p' ++ [.lst (acc.map DV.d)] ∧
        WE K (fun _ _ _ _ => False) te Γ2 (Ω.set k p' ++ [.lst (acc.map DV.d)]) (fun x Ω4 => ∃ y p'', x = .d y ∧ Ω4 = Ω.set k p'' ++ [.lst (acc.map DV.d)] ∧ IsPool p'' ∧ Q (i + 1) (acc ++ [y])) NoX)) ∧
      ∀ acc p', IsPool p' → acc.length = ys.length → Q ys.length acc → R (.d (.list acc)) (Ω.set k p')) X) : WE K W (tLc wi g tYes te vs) Γ Ω R X := by
  refine we_frz (we_lc og fun m G H σ R' c s x kk => h m G H σ R' c s x fun m1 G1 Ω1 H1 J ys stay c1 n1 l1 it ⟨p1, Q, e1, ip1, hl, st, q0, step, fin⟩ => ?_)
  subst e1
  have hlen : ∀ p : OC, (Ω.set k p).length = Ω.length := fun p => List.length_set
  refine kk m1 G1 _ H1 J ys stay c1 n1 l1 it ⟨fun i acc Ω' => ∃ xs p', acc = xs.map DV.d ∧ Ω' = Ω.set k p' ++ [.lst acc] ∧ IsPool p' ∧ xs.length = i ∧ Q i xs, ⟨[], p1, rfl, rfl, ip1, rfl, q0⟩, ?_, ?_, ?_⟩
  · rintro i acc Ω' - ⟨xs, p', rfl, rfl, ip, -, -⟩
    exact ⟨st _ _ ip, by simp [hlen]⟩
  · rintro i y acc Ω' hy ⟨xs, p', rfl, rfl, ip, hi, hq⟩
    have hi2 := lt_of_get hy
    intro m2 G2 H2 σ2 v Q2 c2 s2 r2 k2
    refine step i y xs p' hy ip hi hq m2 G2 H2 σ2 v Q2 c2 s2 r2 fun m3 G3 Ω3 H3 Γ3 σ3 c3 n3 l3 s3 ⟨eo, hw⟩ => k2 m3 G3 Ω3 H3 Γ3 σ3 c3 n3 l3 s3 ?_
    subst eo
    refine wt_yes ⟨fun _ => ?_, fun e => by cases e⟩
    intro m6 G6 H6 σ6 Q6 c6 s6 k6 x6
    refine hw m6 G6 H6 σ6 Q6 c6 s6 (fun m7 G7 Ω7 H7 d v c7 n7 l7 r7 ⟨z, p'', ex, eo7, ip'', hq'⟩ => k6 m7 G7 Ω7 H7 d v c7 n7 l7 r7 ?_) x6
    subst ex eo7
    rw [hlen]
    refine ⟨by rw [← hlen p'', get_last], by rw [List.length_map]; omega, xs ++ [z], p'', by simp, ?_, ip'', by simp [hi], hq'⟩
    rw [← hlen p'', set_last]
  · rintro acc Ω' ⟨xs, p', rfl, rfl, ip, hi, hq⟩
    rw [hlen]
    refine ⟨Ω.length, xs.map DV.d, xs, rfl, by rw [← hlen p', get_last], asDs_data _, ⟨Nat.le_refl _, by simp, fun j c hj e => ?_⟩, ?_⟩
    · rw [List.getElem?_append_left (by rw [hlen]; exact hj), List.getElem?_set] at e
      by_cases ek : k = j
      · rw [if_pos ek, if_pos (by omega)] at e
        cases e
        exact .inr ip.flat
      · rw [if_neg ek] at e
        exact .inl e
    · rw [← hlen p', take_app]
      exact fin xs p' ip hi hq
end
/-! ### branches that join: the item's row --JOIN makes the walk stop ahead of each `if` with something behind -/
def tSeqI (a b : TS) : TS := tSeq a b
section
variable {K : KF} {W : WX} {Γ : Gm} {Ω : Om} {O : Outs} {ts tt t1 t2 : TS}
theorem ws_mono {O' : Outs} (h : WS K W ts Γ Ω O') (nx : ∀ Γ1 Ω1, O'.nx Γ1 Ω1 → O.nx Γ1 Ω1) (e1 : O'.rt = O.rt) (e2 : O'.bk = O.bk) (e3 : O'.ct = O.ct) (e4 : O'.er = O.er) : WS K W ts Γ Ω O := fun m G H σ D c s k1 k2 k3 k4 z =>
  h m G H σ D c s (fun m1 G1 Ω1 H1 Γ1 σ1 c1 n1 l1 s1 hM => k1 m1 G1 Ω1 H1 Γ1 σ1 c1 n1 l1 s1 (nx _ _ hM)) (by rw [e1]; exact k2) (by rw [e2]; exact k3) (by rw [e3]; exact k4) (by rw [e4]; exact z)
theorem ws_cut (M : Gm → Om → Prop) (h2 : ∀ Γ1 Ω1, M Γ1 Ω1 → WS K W tt Γ1 Ω1 O) (h1 : WS K W ts Γ Ω { nx := M, rt := O.rt, bk := O.bk, ct := O.ct, er := O.er }) : WS K W (tSeqI ts tt) Γ Ω O :=
  ws_seq (ws_mono h1 h2 rfl rfl rfl rfl)
theorem ws_go (h : WS K W (tSeq ts tt) Γ Ω O) : WS K W (tSeqI ts tt) Γ Ω O := h
end
/-! ### isinstance of a caught error, a tuple of classes -/
def rIsET (K : KF) (cls : Value) (dd : Option Addr) (a : Addr) : List V → Hp → VK → Prop := fun xs H Q => ∃ D, cls = .ref D ∧ dd = none ∧ ExcC K D ∧ ∃ (tp : Addr) (cs : List V) (us : List Value) (b : Bool), xs = [.ref a, .ref tp] ∧ H tp = some (.tup cs) ∧ Paired ClsV cs us ∧ PySem.W.kitAny K (.ref D) us = some b ∧ Q (.bl b) H
theorem call_isET {X : Cx} {a : Addr} {oe : Obj} {cls : Value} {dd : Option Addr} {pn : List (Addr × Obj)} (hz : Zc cls dd oe) (hf : ∃ vs, oe.data = .fields vs) : CallR (X.suite a ((a, oe) :: pn)) (.builtin "isinstance") (rIsET X.K cls dd a) := by
  intro pins s σ H xs us Q I r h
  obtain ⟨D, rfl, rfl, C, tp, cs, ws, b, rfl, hT, k, e, q⟩ := h
  obtain ⟨u1, u2, rfl, r1, r2⟩ := vals2 r
  cases (show u1 = Value.ref a from r1)
  cases (show u2 = Value.ref tp from r2)
  obtain ⟨hget, _⟩ := I.pin (a, oe) (List.mem_append.mpr (.inl List.mem_cons_self))
  obtain ⟨vs, hv⟩ := hf
  have J : PySem.W.InstAt s.heap a oe D none := by
    obtain ⟨oc, od, oda, osl⟩ := oe
    obtain ⟨h1, h2⟩ := hz
    dsimp only at h1 h2 hv
    subst h1 h2 hv
    exact ⟨hget, rfl, rfl, trivial⟩
  obtain ⟨_, its, rv, o, h1, h2, n, h3⟩ := (show ObjOk X.prog X.w H s.heap tp (.tup cs) from I.hok tp _ hT)
  have e3 := ClsV.all k rv
  subst e3
  obtain ⟨oc, od, dt, sl⟩ := o
  simp only at h2 h3
  subst h2 h3
  exact PySem.W.kia_tup (PySem.W.handS_kitx_exc C.hg C.hk C.hs C.hd C.ha C.hn C.ht C.hm) I.kIn J h1 e (fun z => nomatch z) fun tk => ⟨.bl b, H, I.kept (t' := tk) fun _ _ z => z, rfl, q⟩
def tCs : List V → TA
  | [] => tNil
  | v :: vs => tCons (tC v) (tCs vs)
theorem tCs_run {σ : L2.St} {H : Hp} : ∀ (vs : List V) {Q : List V → Hp → Prop}, Q vs H → tCs vs σ H Q
  | [], _, q => q
  | v :: vs, Q, q => tCs_run (σ := σ) (H := H) vs (Q := fun xs H2 => Q (v :: xs) H2) q
def tIsET (K : KF) (cls : Value) (dd : Option Addr) (a : Addr) (te : TE) (cs : List Addr) : TE := tCB (rIsET K cls dd a) (tCons te (tCons (tTup (tCs (cs.map V.ref))) tNil))
theorem we_isET {K : KF} {W : WX} {Γ : Gm} {Ω : Om} {R : DV → Om → Prop} {X : Exc → Om → Prop} {i : Nat} {D a : Addr} {dd : Option Addr} {cs : List Addr} {b : Bool} (hG : Γ[i]? = some (some (.e (.own D) a (.ref D) dd))) (hD : ExcC K D)
    (hl : cs.length ≤ 100000) (hk : PySem.W.kitAny K (.ref D) (cs.map Value.ref) = some b) (q : R (.d (.bool b)) Ω) : WE K W (tIsET K (.ref D) dd a (tVar i) cs) Γ Ω R X := fun m G H σ Q c s k x => by
  obtain ⟨v, e, rv⟩ := s.at_ i _ hG
  obtain ⟨rfl, _, rfl⟩ := rv
  refine ⟨_, e, ?_⟩
  refine tCs_run (cs.map V.ref) ⟨sz_of (by rw [List.length_map]; exact hl), fun p hp => ?_⟩
  obtain ⟨c2, n2⟩ := c.frz hp (.tup (cs.map V.ref))
  have pr : ∀ cs : List Addr, Paired ClsV (cs.map V.ref) (cs.map Value.ref) := fun cs => by
    induction cs with
    | nil => exact .nil
    | cons a l ih => exact .cons (.own a) ih
  exact ⟨D, rfl, rfl, hD, p, _, _, b, rfl, upd_same, pr cs, hk, k _ _ _ _ (.d (.bool b)) _ c2 n2 (Nat.le_refl _) (Dp.bl _) q⟩
theorem cut2' {α : Type} {a b : α} {r : List α} : cutG (a :: b :: r) none (some 2) = [a, b] := by
  unfold cutG
  rw [show HT.sIx (a :: b :: r).length (a :: b :: r).length (some 2) = 2 from (HT.sIx_nat _ _ 2).trans (by simp)]
  rfl
/-! ### walls at the end balls -/
theorem bound_low {b : Bl} {s g : Rat} (hg : 0 ≤ g) (h : g = 0 → ¬ b.s < s) : lowOk (some (b.p - g, s)) [b] = true := by
  show (decide (b.p - g = b.p ∧ s = b.s) || mayS (b.p - g) s b.p b.s) = true
  by_cases h0 : g = 0
  · have e : b.p - g = b.p := by grind
    rcases Rat.le_total (a := s) (b := b.s) with h1 | h1
    · by_cases h2 : s = b.s
      · rw [decide_eq_true ⟨e, h2⟩]; rfl
      · have : mayS (b.p - g) s b.p b.s = true := by
          unfold mayS
          rw [if_pos e]
          exact decide_eq_true (by grind)
        rw [this, Bool.or_true]
    · have h2 : s = b.s := by have := h h0; grind
      rw [decide_eq_true ⟨e, h2⟩]; rfl
  · have : mayS (b.p - g) s b.p b.s = true := by
      unfold mayS
      rw [if_neg (by grind)]
      exact decide_eq_true (by grind)
    rw [this, Bool.or_true]
theorem bound_high {b : Bl} {s g : Rat} (hg : 0 ≤ g) (h : g = 0 → ¬ s < b.s) : highOk (some (b.p + g, s)) [b] = true := by
  show (decide (b.p = b.p + g ∧ b.s = s) || mayS b.p b.s (b.p + g) s) = true
  by_cases h0 : g = 0
  · have e : b.p = b.p + g := by grind
    by_cases h2 : b.s = s
    · rw [decide_eq_true ⟨e, h2⟩]; rfl
    · have : mayS b.p b.s (b.p + g) s = true := by
        unfold mayS
        rw [if_pos e]
        exact decide_eq_true (by have := h h0; grind)
      rw [this, Bool.or_true]
  · have : mayS b.p b.s (b.p + g) s = true := by
      unfold mayS
      rw [if_neg (by grind)]
      exact decide_eq_true (by grind)
    rw [this, Bool.or_true]
/-! ### insert, extend on own lists -/
def rInsertS : V → List V → Hp → VK → Prop := fun x vs H Q =>
  ∃ (l : Addr) (xs : List V) (i : Int) (y : V), x = .ref l ∧ vs = [.int i, y] ∧ H l = some (.lst xs) ∧
    xs.length < sizeLine ∧ 0 ≤ i ∧ i < 2 ^ 63 ∧ Q .non (upd H l (.lst (xs.take i.toNat ++ [y] ++ xs.drop i.toNat)))
theorem mt_insertS {X : Cx} : MtR X "list.insert" rInsertS := mt_insert
section
variable {K : KF} {W : WX} {Γ : Gm} {Ω : Om} {R : DV → Om → Prop} {X : Exc → Om → Prop} {wi : TI} {g : TG} {tt : TT} {te : TE} {vs : List Nat}
theorem wm_insert {i : Nat} {j : Int} {y : DV} {ds : List DV} (hx : Ω[i]? = some (.lst ds)) (hl : ds.length < 100000) (h0 : 0 ≤ j) (h1 : j < 2 ^ 63)
    (q : R (.d .none) (Ω.set i (.lst (ds.take j.toNat ++ [y] ++ ds.drop j.toNat)))) : WM K rInsertS (.o i) [.d (.int j), y] Ω R := fun m G H v vs Q c r1 r2 k => by
  obtain ⟨hi, rfl⟩ := r1
  cases r2 with
  | cons rj rr =>
    cases rj
    cases rr with
    | cons ry rn =>
      cases rn
      obtain ⟨q1, ws, hw, rp⟩ := c.fr i _ hx (by intro z; cases z)
      refine ⟨m i, ws, j, _, rfl, rfl, hw, sz_lt (by rw [← Paired.length rp]; exact hl), h0, h1, ?_⟩
      have c2 := c.write (y := .lst (ds.take j.toNat ++ [y] ++ ds.drop j.toNat)) (o := .lst (ws.take j.toNat ++ [_] ++ ws.drop j.toNat)) hx (by intro z; cases z)
        ⟨_, upd_same, Paired.app (Paired.app (Paired.takeP _ rp) (.cons ry .nil)) (Paired.dropP _ rp)⟩
      exact k _ _ _ _ (.d .none) _ c2 (Nxt.refl ..) (by rw [List.length_set]; exact Nat.le_refl _) Dp.non q
/-- y put first into the newest own list -/
theorem wm_insL {ds : List DV} {y : DV} (hl : ds.length < 100000) (q : R (.d .none) (Ω ++ [.lst (y :: ds)])) : WM K rInsertS (.o Ω.length) [.d (.int 0), y] (Ω ++ [.lst ds]) R :=
  wm_insert (get_last _ _) hl (by decide) (by decide) (by rw [set_last]; exact q)
/-- [F(a) for a in ..if p(a)], a list that is changed later -/
theorem we_lcO {α : Type} (og : Only g vs) (h : WI K W wi Γ Ω (fun ys stay Ω1 => ∃ (l : List α) (f : α → DV) (p : α → Bool) (F : α → PyData), ys = l.map f ∧ l.length ≤ 100000 ∧ Ω1 = Ω ∧ (∀ ds, stay (Ω ++ [.lst ds])) ∧
      (∀ a Ω', a ∈ l → (∃ ds, Ω' = Ω ++ [.lst ds]) → WG K g (f a) (wipeG Γ vs) Ω' (fun Γ2 Ω2 => WT K (fun _ _ _ _ => False) tt Γ2 Ω2 (fun b Ω3 => b = p a ∧ Ω3 = Ω' ∧ (b = true → WE K (fun _ _ _ _ => False) te Γ2 Ω' (fun x Ω4 => x = .d (F a) ∧ Ω4 = Ω') NoX)) NoX)) ∧
      R (.o Ω.length) (Ω ++ [.lst (((l.filter p).map F).map DV.d)])) X) : WE K W (tLc wi g tt te vs) Γ Ω R X := by
  refine (we_lc og fun m G H σ R' c s x k => h m G H σ R' c s x fun m1 G1 Ω1 H1 J ys stay c1 n1 l1 it ⟨l, f, p, F, e1, hl, e2, st, el, q⟩ => ?_)
  subst e1 e2
  have ln : ∀ i, ((((l.take i).filter p).map F).length ≤ i) := fun i => by
    rw [List.length_map]
    refine Nat.le_trans (List.length_filter_le _ _) ?_
    rw [List.length_take]; omega
  refine k m1 G1 Ω1 H1 J _ stay c1 n1 l1 it ⟨fun i acc Ω' => acc = (((l.take i).filter p).map F).map DV.d ∧ Ω' = Ω1 ++ [.lst acc], ⟨rfl, rfl⟩, fun i acc Ω' hi hp => ?_, fun i y acc Ω' hy hp => ?_, fun acc Ω' hp => ?_⟩
  · obtain ⟨rfl, rfl⟩ := hp
    exact ⟨st _, by simp⟩
  · obtain ⟨ha, rfl⟩ := hp
    rw [List.getElem?_map] at hy
    cases ea : l[i]? with
    | none => rw [ea] at hy; cases hy
    | some a =>
      rw [ea] at hy
      cases hy
      have hi := lt_of_get ea
      have em : a ∈ l := List.mem_iff_getElem?.mpr ⟨i, ea⟩
      have et : l.take (i + 1) = l.take i ++ [a] := by rw [List.take_add_one, ea]; rfl
      intro m2 G2 H2 σ2 v Q2 c2 s2 r2 k2
      refine el a _ em ⟨acc, rfl⟩ m2 G2 H2 σ2 v Q2 c2 s2 r2 fun m3 G3 Ω3 H3 Γ3 σ3 c3 n3 l3 s3 h3 => k2 m3 G3 Ω3 H3 Γ3 σ3 c3 n3 l3 s3 fun m4 G4 H4 σ4 Q4 c4 s4 k4 x4 => ?_
      refine h3 m4 G4 H4 σ4 Q4 c4 s4 (fun m5 G5 Ω5 H5 b c5 n5 l5 ⟨eb, eo, hb⟩ => k4 m5 G5 Ω5 H5 b c5 n5 l5 ⟨fun hbt => ?_, fun hbf => ?_⟩) x4
      · subst eo
        intro m6 G6 H6 σ6 Q6 c6 s6 k6 x6
        refine hb hbt m6 G6 H6 σ6 Q6 c6 s6 (fun m7 G7 Ω7 H7 d v c7 n7 l7 r7 ⟨ex, eo7⟩ => k6 m7 G7 Ω7 H7 d v c7 n7 l7 r7 ?_) x6
        subst eo7 ex
        refine ⟨by simp, ?_, ?_, ?_⟩
        · rw [ha, List.length_map]
          have := ln i
          omega
        · rw [ha, et, List.filter_append, List.filter_cons, if_pos (by rw [← eb]; exact hbt)]
          simp
        · simp
      · subst eo
        refine ⟨?_, rfl⟩
        rw [ha, et, List.filter_append, List.filter_cons, if_neg (by rw [← eb, hbf]; exact Bool.false_ne_true)]
        simp
  · obtain ⟨ha, rfl⟩ := hp
    rw [List.length_map, List.take_length] at ha
    rw [ha]
    exact q
end
/-! ### broad balls -/
structure Bb where
  p : Rat
  s : Rat
  w : Int
  d : Rat
deriving DecidableEq
def dBb (b : Bb) : PyData := .tuple [dR b.p, dR b.s, .int b.w, dR b.d]
def dBroad (l : List Bb) : PyData := .tuple (l.map dBb)
def thickF : Rat → List Bl → List Rat → List Bb
  | a, b :: l, w :: ws => ⟨b.p + a, b.s, b.w, w⟩ :: thickF (a + w) l ws
  | _, _, _ => []
def thinF : Rat → List Bb → List Bl
  | a, b :: l => ⟨b.p - a, b.s, b.w⟩ :: thinF (a + b.d) l
  | _, [] => []
theorem thin_thick : ∀ (a : Rat) (l : List Bl) (ws : List Rat), l.length = ws.length → thinF a (thickF a l ws) = l
  | a, b :: l, w :: ws, h => by
    show (⟨b.p + a - a, b.s, b.w⟩ : Bl) :: thinF (a + w) (thickF (a + w) l ws) = _
    rw [thin_thick (a + w) l ws (by simpa using h)]
    have : b.p + a - a = b.p := by grind
    rw [this]
  | a, [], [], _ => rfl
  | a, [], w :: ws, h => by cases h
  | a, b :: l, [], h => by cases h
theorem thick_d : ∀ (a : Rat) (l : List Bl) (ws : List Rat), l.length = ws.length → (thickF a l ws).map Bb.d = ws
  | a, b :: l, w :: ws, h => by
    show w :: (thickF (a + w) l ws).map Bb.d = _
    rw [thick_d (a + w) l ws (by simpa using h)]
  | a, [], [], _ => rfl
  | a, [], w :: ws, h => by cases h
  | a, b :: l, [], h => by cases h
theorem thick_len : ∀ (a : Rat) (l : List Bl) (ws : List Rat), l.length = ws.length → (thickF a l ws).length = l.length := fun a l ws h => by
  have := congrArg List.length (thick_d a l ws h)
  rw [List.length_map] at this
  omega
theorem thin_snoc : ∀ (a : Rat) (l : List Bb) (b : Bb), thinF a (l ++ [b]) = thinF a l ++ [⟨b.p - (a + sumR (l.map Bb.d)), b.s, b.w⟩]
  | a, [], b => by
    show [_] = [_]
    have : a + sumR [] = a := by show a + 0 = a; grind
    rw [List.map_nil, this]
  | a, c :: l, b => by
    show _ :: thinF (a + c.d) (l ++ [b]) = _ :: (thinF (a + c.d) l ++ _)
    rw [thin_snoc]
    have : a + c.d + sumR (l.map Bb.d) = a + sumR ((c :: l).map Bb.d) := by show _ = a + (c.d + sumR (l.map Bb.d)); grind
    rw [this]
theorem thick_snoc : ∀ (a : Rat) (l : List Bl) (ws : List Rat) (b : Bl) (w : Rat), l.length = ws.length → thickF a (l ++ [b]) (ws ++ [w]) = thickF a l ws ++ [⟨b.p + (a + sumR ws), b.s, b.w, w⟩]
  | a, [], [], b, w, _ => by
    show [_] = [_]
    have : a + sumR [] = a := by show a + 0 = a; grind
    rw [this]
  | a, c :: l, v :: ws, b, w, h => by
    show _ :: thickF (a + v) (l ++ [b]) (ws ++ [w]) = _ :: (thickF (a + v) l ws ++ _)
    rw [thick_snoc _ _ _ _ _ (by simpa using h)]
    have : a + v + sumR ws = a + sumR (v :: ws) := by show _ = a + (v + sumR ws); grind
    rw [this]
  | a, [], v :: ws, _, _, h => by cases h
  | a, b :: l, [], _, _, h => by cases h
theorem thin_len : ∀ (a : Rat) (l : List Bb), (thinF a l).length = l.length
  | _, [] => rfl
  | a, b :: l => by show (thinF (a + b.d) l).length + 1 = l.length + 1; rw [thin_len]
section
variable {K : KF} {W : WX} {Γ : Gm} {Ω : Om} {R : DV → Om → Prop} {S : Gm → Om → Prop} {gs : TGs}
theorem wr_ixD0 {b : Bb} (q : R (.d (dR b.p)) Ω) : WR K (rIx K) (.d (dBb b)) (.d (.int 0)) Ω R := wr_ixT rfl q
theorem wr_ixD1 {b : Bb} (q : R (.d (dR b.s)) Ω) : WR K (rIx K) (.d (dBb b)) (.d (.int 1)) Ω R := wr_ixT rfl q
theorem wr_ixD2 {b : Bb} (q : R (.d (.int b.w)) Ω) : WR K (rIx K) (.d (dBb b)) (.d (.int 2)) Ω R := wr_ixT rfl q
theorem wr_ixD3 {b : Bb} (q : R (.d (dR b.d)) Ω) : WR K (rIx K) (.d (dBb b)) (.d (.int 3)) Ω R := wr_ixT rfl q
theorem wg_tupD {b : Bb} (h : WGs K gs [.d (dR b.p), .d (dR b.s), .d (.int b.w), .d (dR b.d)] Γ Ω S) : WG K (gTup K 4 gs) (.d (dBb b)) Γ Ω S := wg_tup (xs := [dR b.p, dR b.s, .int b.w, dR b.d]) rfl h
end
theorem eqvI_dBb : EqvI dBb := fun a b => by
  show (PyData.eqv (dR a.p) (dR b.p) && (PyData.eqv (dR a.s) (dR b.s) && (PyData.eqv (.int a.w) (.int b.w) && (PyData.eqv (dR a.d) (dR b.d) && true)))) = _
  rw [eqv_dR, eqv_dR, eqv_int, eqv_dR]
  obtain ⟨p, s, w, d⟩ := a
  obtain ⟨q, t, v, e⟩ := b
  by_cases h1 : p = q <;> by_cases h2 : s = t <;> by_cases h3 : w = v <;> by_cases h4 : d = e <;> simp [h1, h2, h3, h4]
theorem shp_dBb {n : Nat} (b : Bb) : Shp (n + 2) (dBb b) := shp_tup (shp_cons (shp_dR _) (shp_cons (shp_dR _) (shp_cons shp_int (shp_cons (shp_dR _) shp_nil))))
theorem eqvI_dBroad : EqvI dBroad := eqv_tup eqvI_dBb
theorem shp_dBroad (l : List Bb) : Shp 64 (dBroad l) := (shp_tup (n := 2) (shp_map fun b => shp_dBb (n := 0) b)).mono (by decide)
def brdB : PyData → Bool
  | .tuple [p, _, _, d] => isRatio p && isRatio d
  | _ => false
def widB : PyData → Bool
  | .tuple [_, _, _, .tuple [.int a, _]] => decide (0 ≤ a)
  | _ => false
def areBroad : PyData → Bool
  | .tuple xs => (decide (1 ≤ xs.length) && decide (xs.length ≤ 8)) && (xs.all brdB && xs.all widB)
  | _ => false
theorem len4 {α : Type} {xs : List α} (h : xs.length = 4) : ∃ a b c d, xs = [a, b, c, d] := by
  match xs, h with
  | [a, b, c, d], _ => exact ⟨a, b, c, d, rfl⟩
theorem brd_eq {y : PyData} (h : brdB y = true) : ∃ (p d : Rat) (s w : PyData), y = .tuple [dR p, s, w, dR d] := by
  unfold brdB at h
  split at h
  · obtain ⟨h1, h2⟩ := Bool.and_eq_true_iff.mp h
    obtain ⟨p, rfl⟩ := isRatio_eq h1
    obtain ⟨d, rfl⟩ := isRatio_eq h2
    exact ⟨p, d, _, _, rfl⟩
  · cases h
theorem areBroad_dBroad (l : List Bb) : areBroad (dBroad l) = ((decide (1 ≤ l.length) && decide (l.length ≤ 8)) && l.all fun b => decide (0 ≤ b.d.num)) := by
  show ((decide (1 ≤ (l.map dBb).length) && decide ((l.map dBb).length ≤ 8)) && ((l.map dBb).all brdB && (l.map dBb).all widB)) = _
  rw [List.length_map, List.all_map, List.all_map]
  have e1 : l.all (brdB ∘ dBb) = true := List.all_eq_true.mpr fun b _ => by
    show (isRatio (dR b.p) && isRatio (dR b.d)) = true
    rw [isRatio_dR, isRatio_dR]; rfl
  rw [e1, Bool.true_and]
  rfl
/-! ### is True, is False -/
def rIsBl : R2 := fun x y H Q => ∃ a b : Bool, x = .bl a ∧ y = .bl b ∧
  Q (.bl (decide (a = b))) H
def rIsnBl : R2 := fun x y H Q => ∃ a b : Bool, x = .bl a ∧ y = .bl b ∧
  Q (.bl (!decide (a = b))) H
theorem op_isB {X : Cx} : OpR X (compareOp .Is) rIsBl := op_is_bl
theorem op_isnB {X : Cx} : OpR X (compareOp .IsNot) rIsnBl := op_isnot_bl
theorem wr_isB {K : KF} {Ω : Om} {R : DV → Om → Prop} {a b : Bool} (q : R (.d (.bool (decide (a = b)))) Ω) : WR K rIsBl (.d (.bool a)) (.d (.bool b)) Ω R := fun m G H v w Q c r1 r2 k => by
  cases r1
  cases r2
  exact ⟨a, b, rfl, rfl, k _ _ _ _ (.d (.bool (decide (a = b)))) _ c (Nxt.refl ..) (Nat.le_refl _) (Dp.bl _) q⟩
theorem wr_isnB {K : KF} {Ω : Om} {R : DV → Om → Prop} {a b : Bool} (q : R (.d (.bool (!decide (a = b)))) Ω) : WR K rIsnBl (.d (.bool a)) (.d (.bool b)) Ω R := fun m G H v w Q c r1 r2 k => by
  cases r1
  cases r2
  exact ⟨a, b, rfl, rfl, k _ _ _ _ (.d (.bool (!decide (a = b)))) _ c (Nxt.refl ..) (Nat.le_refl _) (Dp.bl _) q⟩
--TAC
local macro_rules | `(tactic| walk_at "hl1") => `(tactic| first
  | with_reducible refine wu_revT ?_
  | with_reducible refine wr_ixB0 ?_
  | with_reducible refine wr_isB ?_
  | with_reducible refine wr_isnB ?_
  | with_reducible refine wr_ixD0 ?_
  | with_reducible refine wr_ixD1 ?_
  | with_reducible refine wr_ixD2 ?_
  | with_reducible refine wr_ixD3 ?_
  | with_reducible refine wg_tupD ?_
  | with_reducible refine we_lstO' ?_
  | with_reducible refine wsl_B ?_
  | ((with_reducible refine' wc_listD' ?h1 ?_); (case h1 => rfl))
  | ((with_reducible refine' ex_len ?h1 ?_); (case h1 => exact Nat.le_of_ble_eq_true rfl))
  | with_reducible refine wr_ixRW0 ?_
  | with_reducible refine wr_ixRW1 ?_
  | with_reducible refine wg_tupRW ?_
  | with_reducible refine wg_tup2 ?_
  | with_reducible refine wg_tup3 ?_
  | with_reducible refine wg_tup4 ?_
  | ((with_reducible refine' we_nought ?h1 ?_); (case h1 => assumption))
  | with_reducible refine wsl_Row ?_
  | with_reducible refine wr_ixW0 ?_
  | with_reducible refine wr_ixW1 ?_
  | with_reducible refine wr_isNW ?_
  | with_reducible refine wr_notNW ?_
  | with_reducible refine wg_tupW ?_
  | with_reducible refine wr_ixw0 ?_
  | with_reducible refine wr_ixw1 ?_
  | with_reducible refine wu_revRow ?_
  | with_reducible refine wg_tupR ?_
  | with_reducible refine wg_tupB ?_
  | with_reducible refine wr_ixB1 ?_
  | with_reducible refine wr_ixB2 ?_
  | with_reducible refine we_un ?_)
--END TAC
end HL
namespace HL
open PySem PySem.Spec PyProof.Rows L2 Evl RZ
/-! zip of two sequences of either kind (tuple: true), enumerate of a tuple -/
section
variable {pg : Program} {wd : World} {Ar : Around} {Er : Value → Shared → Prop} {st : Shared}
def ItB (t : Bool) (h : Heap) (i l : Addr) (k : Nat) : Prop := match t with | true => h.IsTupleIter i l k | false => h.IsListIter i l k
def SqB (t : Bool) (h : Heap) (l : Addr) (xs : Array Value) : Prop := match t with | true => h.IsTuple l xs | false => h.IsList l xs
theorem ItB.but {t : Bool} {h h' : Heap} {a b l : Addr} {i : Nat} (x : ItB t h a l i) (e : Heap.ExtBut b h h') (n : a ≠ b) : ItB t h' a l i := by
  cases t
  · exact Heap.IsListIter.extBut x e n
  · exact Heap.IsTupleIter.extBut x e n
theorem SqB.but {t : Bool} {h h' : Heap} {a b : Addr} {xs : Array Value} (x : SqB t h a xs) (e : Heap.ExtBut b h h') (n : a ≠ b) : SqB t h' a xs := by
  cases t
  · exact Heap.IsList.extBut x e n
  · exact Heap.IsTuple.extBut x e n
theorem ItB.to {t : Bool} {h h' : Heap} {a l : Addr} {i : Nat} (x : ItB t h a l i) (e : ∀ o, h.get? a = some o → h'.get? a = some o) : ItB t h' a l i := by
  cases t
  · exact Heap.IsListIter.at x e
  · exact Heap.IsTupleIter.at x e
theorem ItB.obj {t : Bool} {h : Heap} {a l : Addr} {i : Nat} (x : ItB t h a l i) : ∃ o, h.get? a = some o ∧ ∀ v, o.data ≠ .cell v := by
  cases t
  · obtain ⟨o, e, _, d⟩ := x; exact ⟨o, e, fun v q => by rw [d] at q; cases q⟩
  · obtain ⟨o, e, _, d⟩ := x; exact ⟨o, e, fun v q => by rw [d] at q; cases q⟩
theorem ItB.lt {t : Bool} {h : Heap} {a l : Addr} {i : Nat} (x : ItB t h a l i) : a < h.objs.size := let ⟨_, e, _⟩ := x.obj; Heap.lt_size e
theorem nextB {t : Bool} {a l : Addr} {i : Nat} {us : Array Value} {u : Value} {Q : Value → Shared → Prop} (x : ItB t st.heap a l i) (y : SqB t st.heap l us) (e : us[i]? = some u)
    (k : ∀ h', ItB t h' a l (i + 1) → Heap.SameBut a st.heap h' → Q u { st with heap := h' }) : wpAny (model pg wd) Ar (Builtin.SmallTypes.nextOf (.ref a)) Q Er st := by
  cases t
  · exact wpAny_nextOf_list_item x y e k
  · exact nextOf_tuple_item x y e k
theorem nextB_end {t : Bool} {a l : Addr} {i : Nat} {us : Array Value} {Q : Value → Shared → Prop} (hh : Ar.handled = none) (x : ItB t st.heap a l i) (y : SqB t st.heap l us) (e : us[i]? = none)
    (k : ∀ h' d, Heap.ExtBut a st.heap h' → (∃ o, h'.get? d = some o ∧ o.cls = .type "StopIteration") → Er (.ref d) { st with heap := h' }) : wpAny (model pg wd) Ar (Builtin.SmallTypes.nextOf (.ref a)) Q Er st := by
  cases t
  · exact wpAny_nextOf_list_end hh x y e k
  · exact nextOf_tuple_end hh x y e k
/-- the zip's parts as they lie -/
structure ZipAt (t t' : Bool) (h : Heap) (z p q i j l m : Addr) (n : Nat) : Prop where
  zz : IsZip h z p q .none
  pp : IsPair h p (.ref i) (.ref j)
  qq : ∃ a b, IsPair h q a b
  ii : ItB t h i l n
  jj : ItB t' h j m n
abbrev Kept4 (z q i j : Addr) (h h' : Heap) : Prop := ∀ c o, c ≠ z → c ≠ q → c ≠ i → c ≠ j → h.get? c = some o → h'.get? c = some o
theorem zipB_item {z p q i j l m : Addr} {n : Nat} {t t' : Bool} {us vs : Array Value} {u v : Value} {Q : Value → Shared → Prop} (D : ZipApart z p q i j l m) (Z : ZipAt t t' st.heap z p q i j l m n)
    (hl : SqB t st.heap l us) (hm : SqB t' st.heap m vs) (eu : us[n]? = some u) (ev : vs[n]? = some v)
    (k : ∀ h', IsZip h' z p q (rawInt st.heap.objs.size) → IsPair h' q u v → ItB t h' i l (n + 1) → ItB t' h' j m (n + 1) → IsPair h' st.heap.objs.size u v → h'.objs.size = st.heap.objs.size + 1 →
      Kept4 z q i j st.heap h' → Q (.ref st.heap.objs.size) { st with heap := h' }) :
    wpAny (model pg wd) Ar (Builtin.«zip.__next__» ⟨[.ref z], []⟩) (fun f s' => ∃ x, f = .done (.ret x) ∧ Q x s') Er st := by
  obtain ⟨zz, pp, ⟨a, b, qq⟩, ii, jj⟩ := Z
  refine wpAny_bind (m := field (.ref z) 2) (wpAny_field zz rfl (x := .bool false) rfl (wpAny_bind (m := field (.ref z) 3) (wpAny_field zz rfl (x := .ref p) rfl (wpAny_bind (wpAny_seqItems pp rfl ?_)))))
  refine wpAny_bind (m := Builtin.SmallTypes.ownedTupleIsFree (.ref z)) (wpAny_bind (m := field (.ref z) 0) (wpAny_field zz rfl (x := .none) rfl (wpAny_pure ?_)))
  simp only [if_true]
  refine wpAny_bind (wpAny_rule (wpAny_bind (wpAny_field zz rfl (x := .ref q) rfl (wpAny_bind (wpAny_setField_rec zz (by simp) fun h1 z1 s1 => ?_)))))
  have z1 : IsZip h1 z p q .ellipsis := z1
  refine wpAny_bind ?_
  simp only [List.zipIdx_cons, List.zipIdx_nil, List.forIn_cons, List.forIn_nil]
  refine wpAny_bind (wpAny_bind (wpAny_onRaise (wpAny_bind (m := Builtin.SmallTypes.nextOf (.ref i)) (nextB (ii.but s1.extBut D.i1z) (hl.but s1.extBut D.l1z) eu fun h2 i2 s2 => wpAny_pure ?_))))
  have q2 : IsPair h2 q a b := s2.extBut _ _ D.TOi1 (s1.extBut _ _ D.TOz qq)
  refine wpAny_bind (wpAny_seqItems q2 rfl (wpAny_bind (wpAny_updateSeq_pair q2 fun h3 q3 s3 => wpAny_bind (wpAny_letGo (wpAny_pure ?_)))))
  have q3 : IsPair h3 q u b := q3
  have up3 : ∀ {c}, c ≠ z → c ≠ i → c ≠ q → Heap.ExtBut c h3 h3 := fun _ _ _ _ _ _ e => e
  refine wpAny_bind (wpAny_bind (wpAny_onRaise (wpAny_bind (m := Builtin.SmallTypes.nextOf (.ref j)) (nextB (((jj.but s1.extBut D.i2z).but s2.extBut D.i12.symm).but s3.extBut D.TOi2.symm)
    (((hm.but s1.extBut D.l2z).but s2.extBut D.l2i1).but s3.extBut D.l2TO) ev fun h4 j4 s4 => wpAny_pure ?_))))
  have q4 : IsPair h4 q u b := s4.extBut _ _ D.TOi2 q3
  refine wpAny_bind (wpAny_seqItems q4 rfl (wpAny_bind (wpAny_updateSeq_pair q4 fun h5 q5 s5 => wpAny_bind (wpAny_letGo (wpAny_pure (wpAny_pure ?_))))))
  have q5 : IsPair h5 q u v := q5
  refine wpAny_bind (wpAny_seqItems q5 rfl (wpAny_bind (wpAny_newTuple ?_)))
  have ez : h5.objs.size = st.heap.objs.size := s5.1.trans (s4.1.trans (s3.1.trans (s2.1.trans s1.1)))
  have z5 : IsZip h5 z p q .ellipsis := s5.extBut _ _ D.TOz.symm (s4.extBut _ _ D.i2z.symm (s3.extBut _ _ D.TOz.symm (s2.extBut _ _ D.i1z.symm z1)))
  have k5 : Kept4 z q i j st.heap h5 := fun c o n1 n2 n3 n4 e => s5.extBut _ _ n2 (s4.extBut _ _ n4 (s3.extBut _ _ n2 (s2.extBut _ _ n3 (s1.extBut _ _ n1 e))))
  have i5 : ItB t h5 i l (n + 1) := ((i2.but s3.extBut D.TOi1.symm).but s4.extBut D.i12).but s5.extBut D.TOi1.symm
  have j5 : ItB t' h5 j m (n + 1) := j4.but s5.extBut D.TOi2.symm
  have lz : z < h5.objs.size := Heap.lt_size z5
  have z6 : IsZip (h5.push { cls := .type "tuple", data := .seq #[u, v] }) z p q .ellipsis := Heap.get?_push_of_some _ z5
  refine wpAny_bind (m := Builtin.SmallTypes.ownedTupleHandOut (.ref z) (.ref h5.objs.size)) (wpAny_bind (wpAny_setField_rec z6 (by simp) fun h7 z7 s7 => ?_))
  have z7 : IsZip h7 z p q (rawInt h5.objs.size) := z7
  refine wpAny_setField_rec z7 (by simp) fun h8 z8 s8 => wpAny_pure ⟨_, rfl, ?_⟩
  have z8 : IsZip h8 z p q (rawInt h5.objs.size) := z8
  have up : ∀ c o, c ≠ z → h5.get? c = some o → h8.get? c = some o := fun c o n1 e => s8.extBut _ _ n1 (s7.extBut _ _ n1 (Heap.get?_push_of_some _ e))
  have T8 : IsPair h8 h5.objs.size u v := s8.extBut _ _ (Nat.ne_of_gt lz) (s7.extBut _ _ (Nat.ne_of_gt lz) (Heap.get?_push_size _ rfl))
  have e8 : h8.objs.size = h5.objs.size + 1 := by rw [s8.1, s7.1, Heap.size_push]
  rw [ez] at z8 T8 e8
  show Q (.ref h5.objs.size) _
  rw [ez]
  exact k h8 z8 (up _ _ D.TOz q5) (i5.to fun o e => up _ o D.i1z e) (j5.to fun o e => up _ o D.i2z e) T8 e8 fun c o n1 n2 n3 n4 e => up c o n1 (k5 c o n1 n2 n3 n4 e)
theorem zipB_end {z p q i j l m : Addr} {n : Nat} {t t' : Bool} {us vs : Array Value} {Q : Fin → Shared → Prop} (hh : Ar.handled = none) (D : ZipApart z p q i j l m) (Z : ZipAt t t' st.heap z p q i j l m n)
    (hl : SqB t st.heap l us) (hm : SqB t' st.heap m vs) (en : us[n]? = none ∨ vs[n]? = none)
    (k : ∀ h' d, Kept4 z q i j st.heap h' → (∃ o, h'.get? d = some o ∧ o.cls = .type "StopIteration") → Er (.ref d) { st with heap := h' }) :
    wpAny (model pg wd) Ar (Builtin.«zip.__next__» ⟨[.ref z], []⟩) Q Er st := by
  obtain ⟨zz, pp, ⟨a, b, qq⟩, ii, jj⟩ := Z
  refine wpAny_bind (m := field (.ref z) 2) (wpAny_field zz rfl (x := .bool false) rfl (wpAny_bind (m := field (.ref z) 3) (wpAny_field zz rfl (x := .ref p) rfl (wpAny_bind (wpAny_seqItems pp rfl ?_)))))
  refine wpAny_bind (m := Builtin.SmallTypes.ownedTupleIsFree (.ref z)) (wpAny_bind (m := field (.ref z) 0) (wpAny_field zz rfl (x := .none) rfl (wpAny_pure ?_)))
  simp only [if_true]
  refine wpAny_bind (wpAny_rule (wpAny_bind (wpAny_field zz rfl (x := .ref q) rfl (wpAny_bind (wpAny_setField_rec zz (by simp) fun h1 z1 s1 => ?_)))))
  have z1 : IsZip h1 z p q .ellipsis := z1
  refine wpAny_bind ?_
  simp only [List.zipIdx_cons, List.zipIdx_nil, List.forIn_cons, List.forIn_nil]
  have i1 := ii.but s1.extBut D.i1z
  have l1 := hl.but s1.extBut D.l1z
  refine wpAny_bind (wpAny_bind (wpAny_onRaise ?_))
  cases eu : us[n]? with
  | none =>
    refine wpAny_bind (m := Builtin.SmallTypes.nextOf (.ref i)) (nextB_end hh i1 l1 eu fun h2 d s2 ⟨od, hd, cd⟩ => ?_)
    have z2 : IsZip h2 z p q .ellipsis := s2 _ _ D.i1z.symm z1
    have nd : d ≠ z := fun e => by subst e; rw [z2] at hd; cases hd; simp at cd
    exact wpAny_setField_rec z2 (by simp) fun h3 _ s3 => k h3 d (fun c o n1 _ n3 _ e => s3.extBut _ _ n1 (s2 _ _ n3 (s1.extBut _ _ n1 e))) ⟨od, s3.extBut _ _ nd hd, cd⟩
  | some u =>
    have ev : vs[n]? = none := en.resolve_left (fun e => by rw [eu] at e; cases e)
    refine wpAny_bind (m := Builtin.SmallTypes.nextOf (.ref i)) (nextB i1 l1 eu fun h2 i2 s2 => wpAny_pure ?_)
    have q2 : IsPair h2 q a b := s2.extBut _ _ D.TOi1 (s1.extBut _ _ D.TOz qq)
    refine wpAny_bind (wpAny_seqItems q2 rfl (wpAny_bind (wpAny_updateSeq_pair q2 fun h3 q3 s3 => wpAny_bind (wpAny_letGo (wpAny_pure ?_)))))
    refine wpAny_bind (wpAny_bind (wpAny_onRaise (wpAny_bind (m := Builtin.SmallTypes.nextOf (.ref j)) (nextB_end hh (((jj.but s1.extBut D.i2z).but s2.extBut D.i12.symm).but s3.extBut D.TOi2.symm)
      (((hm.but s1.extBut D.l2z).but s2.extBut D.l2i1).but s3.extBut D.l2TO) ev fun h4 d s4 ⟨od, hd, cd⟩ => ?_))))
    have z4 : IsZip h4 z p q .ellipsis := s4 _ _ D.i2z.symm (s3.extBut _ _ D.TOz.symm (s2.extBut _ _ D.i1z.symm z1))
    have nd : d ≠ z := fun e => by subst e; rw [z4] at hd; cases hd; simp at cd
    exact wpAny_setField_rec z4 (by simp) fun h5 _ s5 => k h5 d (fun c o n1 n2 n3 n4 e => s5.extBut _ _ n1 (s4 _ _ n4 (s3.extBut _ _ n2 (s2.extBut _ _ n3 (s1.extBut _ _ n1 e))))) ⟨od, s5.extBut _ _ nd hd, cd⟩
theorem nextZ {z p q i j l m : Addr} {n : Nat} {t t' : Bool} {us vs : Array Value} {u v : Value} {Q : Option Value → Shared → Prop} (D : ZipApart z p q i j l m) (Z : ZipAt t t' st.heap z p q i j l m n)
    (hl : SqB t st.heap l us) (hm : SqB t' st.heap m vs) (eu : us[n]? = some u) (ev : vs[n]? = some v)
    (k : ∀ h', IsZip h' z p q (rawInt st.heap.objs.size) → IsPair h' q u v → ItB t h' i l (n + 1) → ItB t' h' j m (n + 1) → IsPair h' st.heap.objs.size u v → h'.objs.size = st.heap.objs.size + 1 →
      Kept4 z q i j st.heap h' → Q (some (.ref st.heap.objs.size)) { st with heap := h' }) : wpAny (model pg wd) Ar (pyNext (.ref z)) Q Er st := by
  have tz : st.TypeIs (.ref z) "zip" := ⟨_, Z.zz, rfl⟩
  unfold pyNext
  exact wpAny_bind (wpAny_attempt (wpAny_callSpecial?_slot (name := Str.ofString "__next__") tz F.slot_zip_next (wpAny_call_entry F.slot_zip_next tz F.entry_zip_next
    (zipB_item D Z hl hm eu ev fun h' a1 a2 a3 a4 a5 a6 a7 => wpAny_pure (k h' a1 a2 a3 a4 a5 a6 a7)) (F.args_zip_next_1 _))))
theorem nextZ_end {z p q i j l m : Addr} {n : Nat} {t t' : Bool} {us vs : Array Value} {Q : Option Value → Shared → Prop} (hh : Ar.handled = none) (D : ZipApart z p q i j l m) (Z : ZipAt t t' st.heap z p q i j l m n)
    (hl : SqB t st.heap l us) (hm : SqB t' st.heap m vs) (en : us[n]? = none ∨ vs[n]? = none) (k : ∀ h', Kept4 z q i j st.heap h' → Q none { st with heap := h' }) :
    wpAny (model pg wd) Ar (pyNext (.ref z)) Q Er st := by
  have tz : st.TypeIs (.ref z) "zip" := ⟨_, Z.zz, rfl⟩
  unfold pyNext
  refine wpAny_bind (wpAny_attempt (wpAny_callSpecial?_slot (name := Str.ofString "__next__") tz F.slot_zip_next (wpAny_call_entry F.slot_zip_next tz F.entry_zip_next
    (zipB_end hh D Z hl hm en fun h' d kp ⟨o, ho, co⟩ => ?_) (F.args_zip_next_1 _))))
  exact wpAny_bind (wpAny_isInstance (T := "StopIteration") (b := true) ⟨o, ho, co⟩ isSubtype_stop (wpAny_pure (k _ kp)))
def itN (t : Bool) : String := match t with | true => "tuple_iterator" | false => "list_iterator"
abbrev zb1 (t : Bool) (h : Heap) (l : Addr) : Heap := h.push { cls := .type (itN t), data := .fields #[.ref l, .int 0 0] }
abbrev zb2 (t t' : Bool) (h : Heap) (l m : Addr) : Heap := (zb1 t h l).push { cls := .type (itN t'), data := .fields #[.ref m, .int 0 0] }
abbrev zb3 (t t' : Bool) (h : Heap) (l m : Addr) : Heap := (zb2 t t' h l m).push { cls := .type "tuple", data := .seq #[.ref h.objs.size, .ref (zb1 t h l).objs.size] }
abbrev zb4 (t t' : Bool) (h : Heap) (l m : Addr) : Heap := (zb3 t t' h l m).push { cls := .type "tuple", data := .seq #[.none, .none] }
abbrev zb5 (t t' : Bool) (h : Heap) (l m : Addr) : Heap := (zb4 t t' h l m).push { cls := .type "zip", data := .fields #[.none, .bool false, .bool false, .ref (zb2 t t' h l m).objs.size, .ref (zb3 t t' h l m).objs.size] }
theorem meets_zipB (t t' : Bool) (l m : Addr) (us vs : Array Value) : Meets (Builtin.«zip.__new__» ⟨[.type "zip", .ref l, .ref m], []⟩)
    (fun _ R s => SqB t s.heap l us ∧ SqB t' s.heap m vs ∧ R (.ok (.ret (.ref (zb4 t t' s.heap l m).objs.size))) { s with heap := zb5 t t' s.heap l m }) := by
  cases t <;> cases t'
  · exact meets_zip_new l m us vs
  · refine .of_wp fun pg wd A R s h => ?_
    obtain ⟨hp, g, d, tk, os⟩ := s
    obtain ⟨x, y, h⟩ := h
    have sub := sub_zip
    have x : Heap.IsList (Shared.heap ⟨hp, g, d, tk, os⟩) l us := x
    have y' : Heap.IsTuple (Shared.heap ⟨hp.push { cls := .type "list_iterator", data := .fields #[.ref l, .int 0 0] }, g, d, tk, os⟩) m vs := Heap.IsTuple.push y _
    wp_walk using wpAny_pyIter_list x, wpAny_pyIter_tuple y'
    exact ⟨_, rfl, h⟩
  · refine .of_wp fun pg wd A R s h => ?_
    obtain ⟨hp, g, d, tk, os⟩ := s
    obtain ⟨x, y, h⟩ := h
    have sub := sub_zip
    have x : Heap.IsTuple (Shared.heap ⟨hp, g, d, tk, os⟩) l us := x
    have y' : Heap.IsList (Shared.heap ⟨hp.push { cls := .type "tuple_iterator", data := .fields #[.ref l, .int 0 0] }, g, d, tk, os⟩) m vs := Heap.IsList.push y _
    wp_walk using wpAny_pyIter_tuple x, wpAny_pyIter_list y'
    exact ⟨_, rfl, h⟩
  · exact meets_zipT_new l m us vs
theorem itB_new {t : Bool} {h : Heap} {a l : Addr} (e : h.get? a = some { cls := .type (itN t), data := .fields #[.ref l, .int 0 0] }) : ItB t h a l 0 := by
  cases t
  · exact ⟨_, e, rfl, rfl⟩
  · exact ⟨_, e, rfl, rfl⟩
theorem call_zipB {t t' : Bool} {l m : Addr} {us vs : Array Value} {Q : Value → Shared → Prop} (x : SqB t st.heap l us) (y : SqB t' st.heap m vs)
    (k : ∀ h', ZipAt t t' h' (st.heap.objs.size + 4) (st.heap.objs.size + 2) (st.heap.objs.size + 3) st.heap.objs.size (st.heap.objs.size + 1) l m 0 → h'.objs.size = st.heap.objs.size + 5 →
      (∀ c o, st.heap.get? c = some o → h'.get? c = some o) → Q (.ref (st.heap.objs.size + 4)) { st with heap := h' }) :
    wpAny (model pg wd) Ar (call (.type "zip") [.ref l, .ref m]) Q Er st := by
  refine callType_new F.called_zip (by decide) (F.typeCall_zip_2 _ _) (F.newCall_zip_2 _ _) (fun o => F.args_object_init_3 o _ _) F.entry_zip_new (meets_zipB t t' l m us vs) ⟨x, y, ?_⟩
  have e1 : (zb1 t st.heap l).objs.size = st.heap.objs.size + 1 := Heap.size_push ..
  have e2 : (zb2 t t' st.heap l m).objs.size = st.heap.objs.size + 2 := by rw [Heap.size_push, e1]
  have e3 : (zb3 t t' st.heap l m).objs.size = st.heap.objs.size + 3 := by rw [Heap.size_push, e2]
  have e4 : (zb4 t t' st.heap l m).objs.size = st.heap.objs.size + 4 := by rw [Heap.size_push, e3]
  have e5 : (zb5 t t' st.heap l m).objs.size = st.heap.objs.size + 5 := by rw [Heap.size_push, e4]
  have up : ∀ {h : Heap} {o' : Obj} c o, h.get? c = some o → (h.push o').get? c = some o := fun c o e => Heap.get?_push_of_some _ e
  have f5 : (zb5 t t' st.heap l m).get? (zb4 t t' st.heap l m).objs.size = some _ := Heap.get?_push_size _ rfl
  have f4 : (zb5 t t' st.heap l m).get? (zb3 t t' st.heap l m).objs.size = some _ := up _ _ (Heap.get?_push_size _ rfl)
  have f3 : (zb5 t t' st.heap l m).get? (zb2 t t' st.heap l m).objs.size = some _ := up _ _ (up _ _ (Heap.get?_push_size _ rfl))
  have f2 : (zb5 t t' st.heap l m).get? (zb1 t st.heap l).objs.size = some _ := up _ _ (up _ _ (up _ _ (Heap.get?_push_size _ rfl)))
  have f1 : (zb5 t t' st.heap l m).get? st.heap.objs.size = some _ := up _ _ (up _ _ (up _ _ (up _ _ (Heap.get?_push_size _ rfl))))
  show _ ∧ _
  rw [e2, e3, e4] at f5
  rw [e1, e2] at f3
  rw [e3] at f4
  rw [e1] at f2
  rw [e4]
  exact ⟨⟨_, f5, rfl⟩, k _ ⟨f5, f3, ⟨_, _, f4⟩, itB_new f1, itB_new f2⟩ e5 fun c o e => up _ _ (up _ _ (up _ _ (up _ _ (up _ _ e))))⟩
end
/-! the turn -/
def SqH (t : Bool) (K : PySem.W.Frag) (H : Hp) (a : Addr) (xs : List V) : Prop := match t with | true => SqT K H a xs | false => SqL K H a xs
def ItM (t t' : Bool) (K : PySem.W.Frag) (a b : Addr) : It :=
  ⟨fun i H => ∃ (xs ys : List V) (x y : V), SqH t K H a xs ∧ SqH t' K H b ys ∧ xs[i]? = some x ∧ ys[i]? = some y,
   fun i H v H' => ∃ T x y, v = .ref T ∧ H T = none ∧ H' = upd H T (.tup [x, y]) ∧ (∀ xs, SqH t K H a xs → xs[i]? = some x) ∧ ∀ ys, SqH t' K H b ys → ys[i]? = some y,
   fun i H => ∃ xs ys : List V, SqH t K H a xs ∧ SqH t' K H b ys ∧ (xs.length ≤ i ∨ ys.length ≤ i)⟩
theorem sqB_of {X : Cx} {pins : List (Addr × Obj)} {s : Shared} {σ : L2.St} {H : Hp} {t : Bool} {a : Addr} {xs : List V} (I : Inv X pins σ H s) (h : SqH t X.K H a xs) : ∃ its : List Value, Vals xs its ∧ SqB t s.heap a its.toArray ∧ a < s.heap.objs.size := by
  cases t
  · obtain ⟨its, rv, p, _⟩ := I.list h
    exact ⟨its, rv, p.isList, p.lt⟩
  · obtain ⟨its, rv, p, _⟩ := I.tuple h
    obtain ⟨o, ho, _⟩ := id p
    exact ⟨its, rv, p, Heap.lt_size ho⟩
theorem sqH_inj {X : Cx} {pins : List (Addr × Obj)} {s : Shared} {σ : L2.St} {H : Hp} {t : Bool} {a : Addr} {xs ys : List V} (I : Inv X pins σ H s) (h : SqH t X.K H a xs) (g : SqH t X.K H a ys) : xs = ys := by
  cases t
  · exact I.list_inj h g
  · exact I.tuple_inj h g
theorem five {c z p q i j : Addr} (h : c ∈ [z, p, q, i, j]) : c = z ∨ c = p ∨ c = q ∨ c = i ∨ c = j := by simpa using h
theorem turnM {P : Program} {w : World} {K : PySem.W.Frag} {elts : List Expr} {kk : Nat} {tpos : Pos} {a b z p q i1 i2 : Addr} {t t' : Bool} (D : ZipApart z p q i1 i2 a b) :
    Turn P w K (.Tuple elts kk tpos) (ItM t t' K a b) [z, p, q, i1, i2] z (fun i h => ZipAt t t' h z p q i1 i2 a b i) where
  mem := by simp
  obj := fun i h Z c hc => by
    obtain ⟨x, y, hq⟩ := Z.qq
    rcases five hc with e | e | e | e | e <;> rw [e]
    · exact ⟨_, Z.zz, fun v q => nomatch q⟩
    · exact ⟨_, Z.pp, fun v q => nomatch q⟩
    · exact ⟨_, hq, fun v q => nomatch q⟩
    · exact Z.ii.obj
    · exact Z.jj.obj
  keep := fun i h h' Z k => by
    obtain ⟨x, y, hq⟩ := Z.qq
    exact ⟨k z (by simp) _ Z.zz, k p (by simp) _ Z.pp, ⟨x, y, k q (by simp) _ hq⟩, Z.ii.to fun o e => k i1 (by simp) o e, Z.jj.to fun o e => k i2 (by simp) o e⟩
  item := by
    intro X hP hw hK hc i pins s σ H E I hf Z hg
    subst hP hw hK
    obtain ⟨xs, ys, x, y, hx, hy, ex, ey⟩ := hg
    obtain ⟨us, ru, bu, _⟩ := sqB_of I hx
    obtain ⟨vs, rv, bv, _⟩ := sqB_of I hy
    obtain ⟨u, eu, r1⟩ := ru.get ex
    obtain ⟨v, ev, r2⟩ := rv.get ey
    have lz : z < s.heap.objs.size := Heap.lt_size Z.zz
    refine nextZ D Z bu bv (u := u) (v := v) (by simpa using eu) (by simpa using ev) fun h' z' q' i' j' T' _ kp => ⟨_, rfl, wpAny_letOwnedTupleGo_zip (s := { s with heap := h' }) z' fun h2 z2 sb => ?_⟩
    have T2 : h2.get? s.heap.objs.size = some { cls := .type "tuple", data := .seq #[u, v] } := (sb.2 _ (Nat.ne_of_gt lz)).trans T'
    have I1 : Inv X pins σ (upd H s.heap.objs.size (.tup [x, y])) { s with heap := h2 } :=
      I.turnedNew (t' := s.toks) (ch := [z, p, q, i1, i2]) (fun c o nb e => (sb.2 c fun e' => nb (by simp [e'])).trans (kp c o (fun e' => nb (by simp [e'])) (fun e' => nb (by simp [e'])) (fun e' => nb (by simp [e'])) (fun e' => nb (by simp [e'])) e)) hf (Nat.le_refl _)
        ⟨by show 2 ≤ sizeLine; decide, [u, v], .cons r1 (.cons r2 .nil), ⟨_, T2, rfl, _, rfl⟩⟩
    refine ⟨.ref s.heap.objs.size, _, I1, rfl, ⟨_, x, y, rfl, I.hok.fresh (Nat.le_refl _), rfl, fun l hl => by rw [sqH_inj I hl hx]; exact ex, fun l hl => by rw [sqH_inj I hl hy]; exact ey⟩,
      ⟨z2, (sb.2 _ D.TIz).trans (kp _ _ D.TIz D.TITO D.TIi1 D.TIi2 Z.pp), ⟨u, v, (sb.2 _ D.TOz).trans q'⟩, i'.to fun o e => (sb.2 _ D.i1z).trans e, j'.to fun o e => (sb.2 _ D.i2z).trans e⟩, fun c hm => ?_⟩
    obtain ⟨o, ho, _⟩ : ∃ o, s.heap.get? c = some o ∧ True := by
      obtain ⟨x, y, hq⟩ := Z.qq
      rcases five hm with e | e | e | e | e <;> rw [e]
      · exact ⟨_, Z.zz, trivial⟩
      · exact ⟨_, Z.pp, trivial⟩
      · exact ⟨_, hq, trivial⟩
      · obtain ⟨o, h, _⟩ := Z.ii.obj; exact ⟨o, h, trivial⟩
      · obtain ⟨o, h, _⟩ := Z.jj.obj; exact ⟨o, h, trivial⟩
    rw [upd_ne (Nat.ne_of_lt (Heap.lt_size ho))]
    exact (hf c hm).1
  done := by
    intro X hP hw hK hc i pins s σ H E I hf Z hg
    subst hP hw hK
    obtain ⟨xs, ys, hx, hy, en⟩ := hg
    obtain ⟨us, ru, bu, _⟩ := sqB_of I hx
    obtain ⟨vs, rv, bv, _⟩ := sqB_of I hy
    have l1 := ru.length
    have l2 := rv.length
    refine nextZ_end (I.ok.hd hc) D Z bu bv (en.imp (fun h => by simp; omega) (fun h => by simp; omega)) fun h' kp => ⟨rfl, I.turnedL (t' := s.toks) (ch := [z, p, q, i1, i2]) (fun c o nb e => ?_) hf⟩
    exact kp c o (fun e' => nb (by simp [e'])) (fun e' => nb (by simp [e'])) (fun e' => nb (by simp [e'])) (fun e' => nb (by simp [e'])) e
  self := fun A i s Q E Z h => wpAny_pyIter_zip Z.zz h
def iZipM (K : PySem.W.Frag) (ta : TA) : TI := fun σ H R => ta σ H fun vs H1 => ∃ (a b : Addr) (t t' : Bool) (xs ys : List V), vs = [.ref a, .ref b] ∧ SqH t K H1 a xs ∧ SqH t' K H1 b ys ∧ R (ItM t t' K a b) H1
theorem pi_zipM {X : Cx} {e e2 : Expr} {ta : TA} {p pos tpos : Pos} {elts : List Expr} {kk : Nat} (hg : Gl X "zip") (hm : X.mg "zip" = none) (ha : PA X [e, e2] ta)
    (hs : starEach [e, e2] X.env = (false, eval e X.env) :: starEach [e2] X.env := by rfl) (hpl : (backTo pos (starEach [e2] X.env)).any (·.1) = false := by rfl) :
    PI X (.Tuple elts kk tpos) (.Call (.Name "zip" p) [e, e2] [] pos) (iZipM X.K ta) := by
  refine ⟨fun pins s σ H R I h => Call_ (ld_blt I hg hm PyProof.Rows.boot_zip (PyProof.Rows.callWith_type1 (thn (ha.run pos pins s σ H _ I h) fun us s1 ⟨vs, H1, I1, r1, a, b, t, t', xs, ys, ex, hx, hy, q⟩ => ?_) hs hpl))⟩
  subst ex
  cases r1 with
  | cons r rr =>
    cases rr with
    | cons r' rr =>
      cases rr
      cases r
      cases r'
      obtain ⟨_, _, bu, la⟩ := sqB_of I1 hx
      obtain ⟨_, _, bv, lb⟩ := sqB_of I1 hy
      refine call_zipB bu bv fun h' Z _ kp => wpAny_pyIter_zip Z.zz ⟨s1.heap.objs.size + 4, [s1.heap.objs.size + 4, s1.heap.objs.size + 2, s1.heap.objs.size + 3, s1.heap.objs.size, s1.heap.objs.size + 1], _, _, H1, rfl, I1.kept (t' := s1.toks) kp, turnM (PySem.W.ktu_apart s1.heap.objs.size a b la lb), Z, fun c hc => ?_, q⟩
      have le : s1.heap.objs.size ≤ c := by rcases five hc with e | e | e | e | e <;> rw [e] <;> first | exact Nat.le_refl _ | exact Nat.le_add_right _ _
      exact I1.fpOk le (I1.hok.fresh le)
section
variable {K : KF} {W : WX} {Γ : Gm} {Ω : Om} {X : Exc → Om → Prop} {Rc : List DV → (Om → Prop) → Om → Prop} {te : TE} {ta : TA}
/-- what stands at d, tuple or list, told by t -/
def lsB (t : Bool) (Ω : Om) (d : DV) : Option (List PyData) := match t with | true => lsT d | false => lsL Ω d
theorem lsB_get {K : KF} {m : Mp} {G H : Hp} {Ω : Om} {t : Bool} {d : DV} {xs : List PyData} {v : V} (c : Core K m G Ω H) (r : RV K m G Ω.length d v) (h : lsB t Ω d = some xs) : ∃ a vs, v = .ref a ∧ SqH t K H a vs ∧ DpAll K G vs xs := by
  cases t
  · exact lsL_get c r h
  · obtain ⟨a, vs, e, hs, rp⟩ := lsT_get c r h
    exact ⟨a, vs, e, ex_t c.ex hs, rp⟩
theorem itok_zipM {m1 : Mp} {G1 : Hp} {n1 : Nat} {t t' : Bool} {d e : DV} {xs ys : List PyData} {a b : Addr} (r : RV K m1 G1 n1 d (.ref a)) (r2 : RV K m1 G1 n1 e (.ref b)) :
    ItOk K (ItM t t' K a b) (zipD xs ys) (fun Ω' => lsB t Ω' d = some xs ∧ lsB t' Ω' e = some ys) m1 G1 n1 := fun m' G' Ω' H' c' n' l' st i => by
  obtain ⟨a', vs, ea, hs, rp⟩ := lsB_get c' (RV.mono n' l' r) st.1
  cases ea
  obtain ⟨b', ws, eb, hw, rq⟩ := lsB_get c' (RV.mono n' l' r2) st.2
  cases eb
  have el := dps_len rp
  have el2 := dps_len rq
  refine ⟨fun h => ⟨vs, ws, hs, hw, ?_⟩, fun y hy => ?_⟩
  · unfold zipD at h
    rw [List.length_map, List.length_zip] at h
    omega
  · obtain ⟨x1, y1, h1, h2, rfl⟩ := zipD_get hy
    obtain ⟨u, hu, ru⟩ := dps_get rp h1
    obtain ⟨z, hz, rz⟩ := dps_get rq h2
    refine ⟨⟨vs, ws, u, z, hs, hw, hu, hz⟩, fun v H'' ⟨T, x, y, e1, hT, e2, k1, k2⟩ => ?_⟩
    subst e1 e2
    have ex : u = x := Option.some.inj (hu.symm.trans (k1 vs hs))
    have ey : z = y := Option.some.inj (hz.symm.trans (k2 ws hw))
    subst ex ey
    obtain ⟨c2, n2⟩ := c'.frz hT (.tup [u, z])
    exact ⟨_, c2, n2.gg, .tup (st_of upd_same) (.cons (dp_ex n2.gg _ _ ru) (.cons (dp_ex n2.gg _ _ rz) .nil))⟩
theorem wi_zipM (t t' : Bool) (h : WA K W ta Γ Ω (fun ds Ω1 => ∃ d e xs ys, ds = [d, e] ∧ lsB t Ω1 d = some xs ∧ lsB t' Ω1 e = some ys ∧ Rc (zipD xs ys) (fun Ω' => lsB t Ω' d = some xs ∧ lsB t' Ω' e = some ys) Ω1) X) : WI K W (iZipM K ta) Γ Ω Rc X := fun m G H σ R c s x k =>
  h m G H σ _ c s (fun m1 G1 Ω1 H1 ds vs c1 n1 l1 r1 ⟨d, e, xs, ys, e1, e2, e3, q⟩ => by
    subst e1
    cases r1 with
    | cons ra rr =>
      cases rr with
      | cons rb rr =>
        cases rr
        obtain ⟨a, us, rfl, hs, rp⟩ := lsB_get c1 ra e2
        obtain ⟨b, ws, rfl, hw, rq⟩ := lsB_get c1 rb e3
        exact ⟨a, b, t, t', us, ws, rfl, hs, hw, k m1 G1 Ω1 H1 _ _ _ c1 n1 l1 (itok_zipM ra rb) q⟩) x
end
end HL
namespace HL
open PySem PySem.Spec PyProof.Rows L2 Evl
theorem walk_ofW {l : PySem.W.OpenLaw} {n k : Nat} {q : Program} {loose : List Str} {XP : (Str → Option Value) → Heap → Prop} {YP : World → Heap → Prop} {d : DefRec} {CX : World → CXT} {x : Str}
    (hn : l.most = some n) (hn2 : n ≤ sizeLine) (hdf : d.params.defaults = []) (hr : Room k callerA)
    (F : ∀ (w : World) (mg : Str → Option Value) (fa : Addr) (h : Heap), YP w h → h.Ns mainGlobals mg → mg d.name = some (.ref fa) →
      ∃ (K : PySem.W.Frag) (fd : FuncData) (sp : Sp), K.In h ∧ (∀ (s : Shared) (u : Value), BindsTo s fd ⟨[u], []⟩ [(x, u)]) ∧
        (∀ (H : Hp) (a : Addr) (ns : List Int), ns.length ≤ n → L2.Only H → SqL K H a (ns.map V.int) → sp [.ref a] H (fun v _ => v = .bl true) fun _ _ _ => False) ∧
        ∀ base : Heap, K.In base → base.Ns mainGlobals mg → FnOk l.prog w K mg base (CX w) k fa fd [x] sp)
    (hCX : ∀ (w : World) (H : Hp) (s : Shared) (e : Value) (s' : Shared), CX w [] H s (fun _ _ _ => False) e s' → False) :
    PySem.W.WalkO q loose XP YP l.row.toRowW d [] (fun f vs => PySem.call f vs) := by
  refine Att.attach_call hn hdf fun w s₀ s₁ mg mb fa o pm cd doc a vs ns G Y ho hd hcd hmg hobj hints hlen hg => ?_
  obtain ⟨K, fd, sp, KX, hb, hsp, hF⟩ := F w mg fa _ Y G.T.g hmg
  exact law_call KX G.T.g G.T.b G.T.builtins G.T.nolimit hg hobj hints (Nat.le_trans hlen hn2) hr hF hb (fun H hO hS => hsp H a ns hlen hO hS) fun H e s' => hCX w H s₁ e s'
theorem cx_no {P : Program} {w : World} {H : Hp} {s : Shared} {e : Value} {s' : Shared} (h : L2.CX P w [] H s (fun _ _ _ => False) e s') : False := by
  obtain ⟨_, _, _, _, _, _, _, _, _, _, _, _, z⟩ := h
  exact z
theorem dps_of_ints {K : KF} {G : Hp} : ∀ ns : List Int, DpAll K G (ns.map V.int) (ns.map PyData.int)
  | [] => .nil
  | n :: ns => .cons (.int n) (dps_of_ints ns)
theorem law_start {K : KF} {spec : Spec} {H : Hp} {a : Addr} {ns : List Int} (hS : SqL K H a (ns.map V.int)) (h : spec [.d (.list (ns.map PyData.int))] [] (fun d _ => d = .d (.bool true)) (fun _ _ => False)) :
    FS K spec [.ref a] H (fun v _ => v = .bl true) fun _ _ _ => False := by
  refine ⟨fun _ => 0, H, [], [.d (.list (ns.map PyData.int))], _, _, ⟨Ex.refl H, fun i c e => by simp at e, fun i j ci cj e => by simp at e⟩, .cons (Dp.lst hS (dps_of_ints ns)) .nil, h, fun m' G' Ω' H' d v _ _ _ r q => ?_, fun _ _ _ _ _ _ _ _ _ _ _ z => z⟩
  subst q
  cases r
  rfl
end HL
namespace HL
open PySem PySem.Spec PyProof.Rows L2 Evl RZ
local macro_rules | `(tactic| walk_at "hl1") => `(tactic| first
  | with_reducible refine ws_seq ?_
  | with_reducible refine ws_asgL ?_
  | with_reducible refine ws_asg ?_
  | with_reducible refine ws_if ?_
  | with_reducible refine ws_ret ?_
  | with_reducible refine ws_drop ?_
  | with_reducible refine ws_par ?_
  | with_reducible refine we_int ?_
  | with_reducible refine we_bl ?_
  | with_reducible refine we_str ?_
  | with_reducible refine we_non ?_
  | with_reducible refine we_ty ?_
  | with_reducible refine we_ref ?_
  | with_reducible refine we_op ?_
  | with_reducible refine we_un ?_
  | with_reducible refine we_if ?_
  | with_reducible refine we_cb ?_
  | with_reducible refine we_call ?_
  | with_reducible refine we_callS ?_
  | with_reducible refine we_tup ?_
  | with_reducible refine we_lstD ?_
  | with_reducible refine we_chain ?_
  | with_reducible refine we_sl ?_
  | with_reducible refine wo_none ?_
  | with_reducible refine wo_some ?_
  | with_reducible refine wa_nil ?_
  | with_reducible refine wa_cons ?_
  | with_reducible refine wt_test ?_
  | with_reducible refine wt_B ?_
  | with_reducible refine wt_and ?_
  | with_reducible refine wt_or ?_
  | with_reducible refine wt_not ?_
  | with_reducible refine wt_yes ?_
  | with_reducible refine we_andV ?_
  | with_reducible refine we_orV ?_
  | with_reducible refine we_notV ?_
  | with_reducible refine wg_name ?_
  | with_reducible refine wgs_nil ?_
  | with_reducible refine wgs_cons ?_
  | with_reducible refine wr_sub ?_
  | with_reducible refine wr_addI ?_
  | with_reducible refine wr_lt ?_
  | with_reducible refine wr_le ?_
  | with_reducible refine wr_gt ?_
  | with_reducible refine wr_ge ?_
  | with_reducible refine wu_neg ?_
  | with_reducible refine wr_ixR0 ?_
  | with_reducible refine wr_eqR ?_
  | with_reducible refine wr_neR ?_
  | with_reducible refine wr_eqI ?_
  | with_reducible refine wr_neI ?_
  | with_reducible refine wr_eqB ?_
  | with_reducible refine wr_neB ?_
  | with_reducible refine wr_ixR1 ?_
  | ((with_reducible refine' wr_mul ?h1 ?_); (case h1 => first | exact .inr (by assumption) | exact .inl (.inl ⟨by decide, by decide⟩) | exact .inl (.inr ⟨by decide, by decide⟩) | assumption))
  | with_reducible refine wc_abs' ?_
  | with_reducible refine wc_max' ?_
  | with_reducible refine wc_min' ?_
  | with_reducible refine wc_intI' ?_
  | with_reducible refine wc_intB' ?_
  | with_reducible refine wsl_T ?_
  | with_reducible refine ex_b ?_
  | with_reducible refine ex_i ?_
  | with_reducible refine ex_p ?_
  | with_reducible refine ws_next ?_
  | with_reducible refine ws_rs ?_
  | with_reducible refine ws_retN ?_
  | with_reducible refine we_bm ?_
  | with_reducible refine we_bm0 ?_
  | ((with_reducible refine' we_var ?h1 ?_); (case h1 => rfl))
  | ((with_reducible refine' wg_tup ?h1 ?_); (case h1 => rfl))
  | ((with_reducible refine' wr_isN' ?h1 ?_); (case h1 => rfl))
  | ((with_reducible refine' wr_notN' ?h1 ?_); (case h1 => rfl))
  | ((with_reducible refine' wr_ixT ?h1 ?_); (case h1 => rfl))
  | ((with_reducible refine' wr_ixL ?h1 ?_); (case h1 => rfl))
  | ((with_reducible refine' wc_len' ?h1 ?_); (case h1 => rfl))
  | ((with_reducible refine' wc_isInt ?h1 ?h2 ?_); (case h1 => rfl); (case h2 => first | rfl | assumption))
  | ((with_reducible refine' wc_isBool ?h1 ?h2 ?_); (case h1 => rfl); (case h2 => first | rfl | assumption))
  | ((with_reducible refine' wc_isTuple ?h1 ?h2 ?_); (case h1 => rfl); (case h2 => first | rfl | assumption))
  | ((with_reducible refine' wc_isStr ?h1 ?h2 ?_); (case h1 => rfl); (case h2 => first | rfl | assumption))
  | ((with_reducible refine' wc_isList ?h1 ?h2 ?_); (case h1 => rfl); (case h2 => first | rfl | assumption))
  | ((with_reducible refine' ex_as ?h1 ?h2 ?_); (case h1 => rfl); (case h2 => exact Nat.le_of_ble_eq_true rfl)))
local macro_rules | `(tactic| walk_at "hl") => `(tactic| repeat walk_at "hl1")
local macro_rules | `(tactic| walk_at "hl1") => `(tactic| first
  | with_reducible refine wu_revT ?_
  | with_reducible refine wr_ixB0 ?_
  | with_reducible refine wr_isB ?_
  | with_reducible refine wr_isnB ?_
  | with_reducible refine wr_ixD0 ?_
  | with_reducible refine wr_ixD1 ?_
  | with_reducible refine wr_ixD2 ?_
  | with_reducible refine wr_ixD3 ?_
  | with_reducible refine wg_tupD ?_
  | with_reducible refine we_lstO' ?_
  | with_reducible refine wsl_B ?_
  | ((with_reducible refine' wc_listD' ?h1 ?_); (case h1 => rfl))
  | ((with_reducible refine' ex_len ?h1 ?_); (case h1 => exact Nat.le_of_ble_eq_true rfl))
  | with_reducible refine wr_ixRW0 ?_
  | with_reducible refine wr_ixRW1 ?_
  | with_reducible refine wg_tupRW ?_
  | with_reducible refine wg_tup2 ?_
  | with_reducible refine wg_tup3 ?_
  | with_reducible refine wg_tup4 ?_
  | ((with_reducible refine' we_nought ?h1 ?_); (case h1 => assumption))
  | with_reducible refine wsl_Row ?_
  | with_reducible refine wr_ixW0 ?_
  | with_reducible refine wr_ixW1 ?_
  | with_reducible refine wr_isNW ?_
  | with_reducible refine wr_notNW ?_
  | with_reducible refine wg_tupW ?_
  | with_reducible refine wr_ixw0 ?_
  | with_reducible refine wr_ixw1 ?_
  | with_reducible refine wu_revRow ?_
  | with_reducible refine wg_tupR ?_
  | with_reducible refine wg_tupB ?_
  | with_reducible refine wr_ixB1 ?_
  | with_reducible refine wr_ixB2 ?_
  | with_reducible refine we_un ?_)
/-- any whole number -/
def sp_law_cell (K : KF) : Spec := fun ds Ω R X => ∃ (s : DV) (ns : List Int) (k : Int), ds = [s, .d (.int k)] ∧ lsL Ω s = some (ns.map PyData.int) ∧ 0 ≤ k ∧ k ≤ 1000 ∧ ∀ v : Int, R (.d (.int v)) Ω
def t_law_cell (K : KF) (W : WX) : TS :=
  (tSeq (tIfS (tTest (tOp oLt (tVar 1) (tCB (rLenQ K) (tCons (tVar 0) tNil)))) (tRet (tOp (rIx K) (tVar 0) (tVar 1))) tNext)
    (tRet (tC (.int 0))))
theorem lsL_sq {Ω : Om} {s : DV} {xs : List PyData} (h : lsL Ω s = some xs) : sq Ω s = some (xs.map DV.d) := by
  cases s with
  | o i =>
    have h : (sqO Ω[i]?).bind asDs = some xs := h
    show sqO Ω[i]? = _
    cases e : sqO Ω[i]? with
    | none => rw [e] at h; cases h
    | some ds => rw [e] at h; rw [asDs_eq (ds := ds) (xs := xs) h]
  | d y => cases y <;> cases h <;> rfl
  | v y => cases h
  | e _ _ _ _ => cases h
theorem w_law_cell {K : KF} (W : WX) (ds : List DV) (Ω : Om) (R : DV → Om → Prop) (X : Exc → Om → Prop) (h : sp_law_cell K ds Ω R X) : WS K W (t_law_cell K W) (startG 2 ds) Ω (fnO Ω R X) := by
  obtain ⟨s, ns, k, rfl, hs, h0, h1, q⟩ := h
  show WS K W (t_law_cell K W) [some s, some (.d (.int k))] Ω _
  unfold t_law_cell
  walk_at "hl"
  refine wc_len' (lsL_sq hs) ?_
  walk_at "hl"
  refine ⟨fun h => ?_, fun h => ?_⟩
  · have hk := of_decide_eq_true h
    simp only [List.length_map] at hk
    walk_at "hl"
    obtain ⟨j, rfl⟩ : ∃ j : Nat, k = (j : Int) := ⟨k.toNat, by omega⟩
    have hj : j < ns.length := by omega
    refine wr_ix (lsL_sq hs) (atI_nat (j := j) (v := .d (.int ns[j])) (by simp [hj])) ?_
    exact dr_same (q _)
  · walk_at "hl"
    exact dr_same (q _)
theorem sp_len_law_cell {K : KF} (ds : List DV) (Ω : Om) (R : DV → Om → Prop) (X : Exc → Om → Prop) (h : sp_law_cell K ds Ω R X) : ds.length = 2 := by
  unfold sp_law_cell at h
  first
    | (obtain ⟨rfl, _⟩ := h; rfl)
    | (obtain ⟨_, rfl, _⟩ := h; rfl)
    | (obtain ⟨_, _, rfl, _⟩ := h; rfl)
    | (obtain ⟨_, _, _, rfl, _⟩ := h; rfl)
    | (obtain ⟨_, _, _, _, rfl, _⟩ := h; rfl)
    | (obtain ⟨_, _, _, _, _, rfl, _⟩ := h; rfl)
    | (obtain ⟨_, _, _, _, _, _, rfl, _⟩ := h; rfl)
    | (obtain ⟨_, _, _, _, _, _, _, rfl, _⟩ := h; rfl)
    | (obtain ⟨_, _, _, _, _, _, _, _, rfl, _⟩ := h; rfl)
def sp_law_low (K : KF) : Spec := fun ds Ω R X => ∃ a b : Int, ds = [.d (.int a), .d (.int b)] ∧ b ≠ 0 ∧ (∃ k, b.natAbs < 2 ^ k ∧ k ≤ 8990) ∧ R (.d (dR (Rat.divInt a b))) Ω
def t_law_low (K : KF) (W : WX) : TS :=
  (tSeq (tPar 2 3 (tCons (tCB rAbsI (tCons (tVar 0) tNil)) (tCons (tCB rAbsI (tCons (tVar 1) tNil)) tNil)))
    (tSeq (tWhile (tTest (tOp (rNeD K) (tVar 3) (tC (.int 0)))) (tPar 2 3 (tCons (tVar 3) (tCons (tOp oMod (tVar 2) (tVar 3)) tNil))))
    (tSeq (tIfS (tTest (tOp oLt (tVar 1) (tC (.int 0)))) (tAsg (tOp oSub (tC (.int 0)) (tVar 2)) (gName 2)) tNext)
    (tRet (tTup (tCons (tOp oFdiv (tVar 0) (tVar 2)) (tCons (tOp oFdiv (tVar 1) (tVar 2)) tNil)))))))
theorem w_law_low {K : KF} (W : WX) (ds : List DV) (Ω : Om) (R : DV → Om → Prop) (X : Exc → Om → Prop) (h : sp_law_low K ds Ω R X) : WS K W (t_law_low K W) (startG 4 ds) Ω (fnO Ω R X) := by
  obtain ⟨a, b, rfl, hb, ⟨k, hk, hk2⟩, q⟩ := h
  show WS K W (t_law_low K W) [some (.d (.int a)), some (.d (.int b)), none, none] Ω _
  unfold t_law_low
  rw [dR_eq hb] at q
  walk_at "hl"
  rw [abs_if, abs_if]
  refine ws_while (fun n Γ Ω1 => ∃ c d : Int, Γ = [some (.d (.int a)), some (.d (.int b)), some (.d (.int c)), some (.d (.int d))] ∧ Ω1 = Ω ∧ Int.gcd c d = Int.gcd a b ∧ 0 ≤ c ∧ 0 ≤ d ∧ d.natAbs = n) b.natAbs ⟨a.natAbs, b.natAbs, rfl, rfl, by simp [Int.gcd], by omega, by omega, rfl⟩ ?_
  rintro n Γ Ω1 - ⟨c, d, rfl, rfl, hg, h0, h1, rfl⟩
  walk_at "hl"
  refine ⟨fun hd => ?_, fun hd => ?_⟩
  · have hd : 0 < d := by
      have hd : d ≠ 0 := by simpa using hd
      omega
    walk_at "hl"
    refine wr_mod (by omega) ?_
    walk_at "hl"
    exact ⟨_, fmod_natAbs_lt (a := c) (show d ≠ 0 by omega), d, _, rfl, rfl, (gcd_fmod c d).trans hg, h1, Int.fmod_nonneg_of_pos c hd, rfl⟩
  · have hd : d = 0 := by simpa using hd
    subst hd
    have hc : c = (Int.gcd a b : Int) := by rw [← hg, Int.gcd_zero_right]; omega
    subst hc
    walk_at "hl"
    refine ⟨fun h => ?_, fun h => ?_⟩
    · walk_at "hl"
      have e : (0 - ((Int.gcd a b : Nat) : Int)) = byOf a b := by
        unfold byOf
        rw [if_pos (of_decide_eq_true h)]
      rw [e]
      refine wr_fdiv (cdiv_by hb hk hk2) ?_
      walk_at "hl"
      refine wr_fdiv (cdiv_by hb hk hk2) ?_
      walk_at "hl"
      exact dr_same q
    · walk_at "hl"
      have e : ((Int.gcd a b : Nat) : Int) = byOf a b := by
        unfold byOf
        rw [if_neg (of_decide_eq_false h)]
      rw [e]
      refine wr_fdiv (cdiv_by hb hk hk2) ?_
      walk_at "hl"
      refine wr_fdiv (cdiv_by hb hk hk2) ?_
      walk_at "hl"
      exact dr_same q
theorem sp_len_law_low {K : KF} (ds : List DV) (Ω : Om) (R : DV → Om → Prop) (X : Exc → Om → Prop) (h : sp_law_low K ds Ω R X) : ds.length = 2 := by
  unfold sp_law_low at h
  first
    | (obtain ⟨rfl, _⟩ := h; rfl)
    | (obtain ⟨_, rfl, _⟩ := h; rfl)
    | (obtain ⟨_, _, rfl, _⟩ := h; rfl)
    | (obtain ⟨_, _, _, rfl, _⟩ := h; rfl)
    | (obtain ⟨_, _, _, _, rfl, _⟩ := h; rfl)
    | (obtain ⟨_, _, _, _, _, rfl, _⟩ := h; rfl)
    | (obtain ⟨_, _, _, _, _, _, rfl, _⟩ := h; rfl)
    | (obtain ⟨_, _, _, _, _, _, _, rfl, _⟩ := h; rfl)
    | (obtain ⟨_, _, _, _, _, _, _, _, rfl, _⟩ := h; rfl)
def sp_law_add (K : KF) : Spec := fun ds Ω R X => ∃ p q : Rat, ds = [.d (dR p), .d (dR q)] ∧ Sz2 p q ∧ R (.d (dR (p + q))) Ω
def t_law_add (K : KF) (W : WX) : TS :=
  (tRet (tCall (FS K (sp_law_low K)) [] E0 (tCons (tOp (rAddX K) (tOp oMul (tOp (rIx K) (tVar 0) (tC (.int 0))) (tOp (rIx K) (tVar 1) (tC (.int 1)))) (tOp oMul (tOp (rIx K) (tVar 1) (tC (.int 0))) (tOp (rIx K) (tVar 0) (tC (.int 1))))) (tCons (tOp oMul (tOp (rIx K) (tVar 0) (tC (.int 1))) (tOp (rIx K) (tVar 1) (tC (.int 1)))) tNil))))
theorem w_law_add {K : KF} (W : WX) (ds : List DV) (Ω : Om) (R : DV → Om → Prop) (X : Exc → Om → Prop) (h : sp_law_add K ds Ω R X) : WS K W (t_law_add K W) (startG 2 ds) Ω (fnO Ω R X) := by
  obtain ⟨p, q, rfl, ⟨n, m, hp, hq, hz⟩, k⟩ := h
  show WS K W (t_law_add K W) [some (.d (dR p)), some (.d (dR q))] Ω _
  unfold t_law_add
  obtain ⟨nn, nd, dn, dd⟩ := muls hp hq (by omega)
  obtain ⟨nn', nd', dn', dd'⟩ := muls hq hp (by omega)
  walk_at "hl"
  refine ⟨_, _, rfl, den_mul_ne p q, ⟨n + m, den_mul_lt hp hq, by omega⟩, ?_⟩
  walk_at "hl"
  rw [rat_add]
  exact dr_same k
theorem sp_len_law_add {K : KF} (ds : List DV) (Ω : Om) (R : DV → Om → Prop) (X : Exc → Om → Prop) (h : sp_law_add K ds Ω R X) : ds.length = 2 := by
  unfold sp_law_add at h
  first
    | (obtain ⟨rfl, _⟩ := h; rfl)
    | (obtain ⟨_, rfl, _⟩ := h; rfl)
    | (obtain ⟨_, _, rfl, _⟩ := h; rfl)
    | (obtain ⟨_, _, _, rfl, _⟩ := h; rfl)
    | (obtain ⟨_, _, _, _, rfl, _⟩ := h; rfl)
    | (obtain ⟨_, _, _, _, _, rfl, _⟩ := h; rfl)
    | (obtain ⟨_, _, _, _, _, _, rfl, _⟩ := h; rfl)
    | (obtain ⟨_, _, _, _, _, _, _, rfl, _⟩ := h; rfl)
    | (obtain ⟨_, _, _, _, _, _, _, _, rfl, _⟩ := h; rfl)
def sp_law_off (K : KF) : Spec := fun ds Ω R X => ∃ p q : Rat, ds = [.d (dR p), .d (dR q)] ∧ Sz2 p q ∧ R (.d (dR (p - q))) Ω
def t_law_off (K : KF) (W : WX) : TS :=
  (tRet (tCall (FS K (sp_law_low K)) [] E0 (tCons (tOp oSub (tOp oMul (tOp (rIx K) (tVar 0) (tC (.int 0))) (tOp (rIx K) (tVar 1) (tC (.int 1)))) (tOp oMul (tOp (rIx K) (tVar 1) (tC (.int 0))) (tOp (rIx K) (tVar 0) (tC (.int 1))))) (tCons (tOp oMul (tOp (rIx K) (tVar 0) (tC (.int 1))) (tOp (rIx K) (tVar 1) (tC (.int 1)))) tNil))))
theorem w_law_off {K : KF} (W : WX) (ds : List DV) (Ω : Om) (R : DV → Om → Prop) (X : Exc → Om → Prop) (h : sp_law_off K ds Ω R X) : WS K W (t_law_off K W) (startG 2 ds) Ω (fnO Ω R X) := by
  obtain ⟨p, q, rfl, ⟨n, m, hp, hq, hz⟩, k⟩ := h
  show WS K W (t_law_off K W) [some (.d (dR p)), some (.d (dR q))] Ω _
  unfold t_law_off
  obtain ⟨nn, nd, dn, dd⟩ := muls hp hq (by omega)
  obtain ⟨nn', nd', dn', dd'⟩ := muls hq hp (by omega)
  walk_at "hl"
  refine ⟨_, _, rfl, den_mul_ne p q, ⟨n + m, den_mul_lt hp hq, by omega⟩, ?_⟩
  walk_at "hl"
  rw [rat_sub]
  exact dr_same k
theorem sp_len_law_off {K : KF} (ds : List DV) (Ω : Om) (R : DV → Om → Prop) (X : Exc → Om → Prop) (h : sp_law_off K ds Ω R X) : ds.length = 2 := by
  unfold sp_law_off at h
  first
    | (obtain ⟨rfl, _⟩ := h; rfl)
    | (obtain ⟨_, rfl, _⟩ := h; rfl)
    | (obtain ⟨_, _, rfl, _⟩ := h; rfl)
    | (obtain ⟨_, _, _, rfl, _⟩ := h; rfl)
    | (obtain ⟨_, _, _, _, rfl, _⟩ := h; rfl)
    | (obtain ⟨_, _, _, _, _, rfl, _⟩ := h; rfl)
    | (obtain ⟨_, _, _, _, _, _, rfl, _⟩ := h; rfl)
    | (obtain ⟨_, _, _, _, _, _, _, rfl, _⟩ := h; rfl)
    | (obtain ⟨_, _, _, _, _, _, _, _, rfl, _⟩ := h; rfl)
def mvN (x : Rat) : Wl → Wl
  | none => none
  | some (p, s) => some (p - x, s)
def sp_law_thin (K : KF) : Spec := fun ds Ω R X => ∃ (l : List Bb) (a b : Wl), ds = [.d (dBroad l), .d (dWs a b)] ∧ l.length ≤ 20 ∧ (∀ b ∈ l, Sz 1000 b.p ∧ Sz 40 b.d) ∧ (∀ p s, b = some (p, s) → Sz 1500 p) ∧
  R (.d (dRW (thinF 0 l, a, mvN (sumR (l.map Bb.d)) b))) Ω
def t_law_thin (K : KF) (W : WX) : TS :=
  (tSeq (tAsg (tTup (tCons (tC (.int 0)) (tCons (tC (.int 1)) tNil))) (gName 2))
    (tSeq (tAsg (tLst tNil) (gName 3))
    (tSeq (tFor (iSeq K (tVar 0)) (gTup K 4 (gCons (gName 4) (gCons (gName 5) (gCons (gName 6) (gCons (gName 7) gNil))))) (tSeq (tDrop (tBM K "list" rAppend (tVar 3) (tCons (tTup (tCons (tCall (FS K (sp_law_off K)) [] E0 (tCons (tVar 4) (tCons (tVar 2) tNil))) (tCons (tVar 5) (tCons (tVar 6) tNil)))) tNil)))
    (tAsg (tCall (FS K (sp_law_add K)) [] E0 (tCons (tVar 2) (tCons (tVar 7) tNil))) (gName 2))))
    (tSeq (tAsg (tOp (rIx K) (tVar 1) (tC (.int 1))) (gName 8))
    (tSeq (tIfS (tTest (tOp oNotN (tVar 8) (tC .non))) (tAsg (tTup (tCons (tCall (FS K (sp_law_off K)) [] E0 (tCons (tOp (rIx K) (tVar 8) (tC (.int 0))) (tCons (tVar 2) tNil))) (tCons (tOp (rIx K) (tVar 8) (tC (.int 1))) tNil))) (gName 8)) tNext)
    (tRet (tTup (tCons (tCB (rTupQ K) (tCons (tVar 3) tNil)) (tCons (tTup (tCons (tOp (rIx K) (tVar 1) (tC (.int 0))) (tCons (tVar 8) tNil))) tNil)))))))))
theorem w_law_thin {K : KF} (W : WX) (ds : List DV) (Ω : Om) (R : DV → Om → Prop) (X : Exc → Om → Prop) (h : sp_law_thin K ds Ω R X) : WS K W (t_law_thin K W) (startG 9 ds) Ω (fnO Ω R X) := by
  obtain ⟨l, a, b, rfl, l20, zl, zb, q⟩ := h
  show WS K W (t_law_thin K W) [some (.d (dBroad l)), some (.d (dWs a b)), none, none, none, none, none, none, none] Ω _
  unfold t_law_thin
  walk_at "hl"
  refine ws_for (wi_T dBb l ?_)
  walk_at "hl"
  refine ⟨rfl, ?_⟩
  have zt : ∀ i, Sz (41 * ((l.take i).map Bb.d).length + 1) (sumR ((l.take i).map Bb.d)) := fun i => sumR_sz fun w hw => by
    obtain ⟨b, hb, rfl⟩ := List.mem_map.mp hw
    exact (zl b (List.mem_of_mem_take hb)).2
  have zi : ∀ i, Sz 821 (sumR ((l.take i).map Bb.d)) := fun i => (zt i).mono (by rw [List.length_map, List.length_take]; omega)
  refine ⟨fun i Γ Ω1 => ∃ c4 c5 c6 c7, Γ = [some (.d (dBroad l)), some (.d (dWs a b)), some (.d (dR (sumR ((l.take i).map Bb.d)))), some (.o Ω.length), c4, c5, c6, c7, none] ∧ Ω1 = Ω ++ [.lst (((thinF 0 (l.take i)).map dB).map DV.d)],
    ⟨_, _, _, _, rfl, rfl⟩, ?_, ?_, ?_⟩
  · rintro i Γ Ω1 - ⟨c4, c5, c6, c7, rfl, rfl⟩
    exact ⟨trivial, by simp⟩
  · rintro i y Γ Ω1 hy ⟨c4, c5, c6, c7, rfl, rfl⟩
    obtain ⟨c, rfl, gc, mc, ic, tc⟩ := lmap_get hy
    walk_at "hl"
    refine ⟨⟨_, sq_last _ _, rfl⟩, ?_⟩
    walk_at "hl"
    refine ⟨c.p, _, rfl, ⟨1000, 821, (zl c mc).1, zi i, by omega⟩, ?_⟩
    walk_at "hl"
    refine wm_appL (by simp [thin_len]; omega) ?_
    walk_at "hl"
    refine ⟨_, c.d, rfl, ⟨821, 40, zi i, (zl c mc).2, by omega⟩, ?_⟩
    walk_at "hl"
    refine ⟨some (.d (dR c.p)), some (.d (dR c.s)), some (.d (.int c.w)), some (.d (dR c.d)), ?_, ?_⟩
    · rw [tc, List.map_append, List.map_singleton, sumR_snoc]; rfl
    · rw [tc, thin_snoc, Rat.zero_add]
      simp [dB]
  · rintro Γ Ω1 ⟨c4, c5, c6, c7, rfl, rfl⟩
    have e : l.take (l.map fun b => DV.d (dBb b)).length = l := by rw [List.length_map, List.take_length]
    have zl := zi l.length
    rw [List.take_length] at zl
    rw [e]
    have zl : Sz 821 (sumR (l.map Bb.d)) := zl
    walk_at "hl"
    cases b with
    | none =>
      refine bF rfl ?_
      walk_at "hl"
      refine wc_tup' (xs := (thinF 0 l).map dB) (by rw [ls_last]; exact asDs_data _) ?_
      walk_at "hl"
      exact dr_app q (fun i h => by cases h)
    | some b =>
      refine bT rfl ?_
      walk_at "hl"
      refine ⟨b.1, _, rfl, ⟨1500, 821, zb b.1 b.2 rfl, zl, by omega⟩, ?_⟩
      walk_at "hl"
      refine wc_tup' (xs := (thinF 0 l).map dB) (by rw [ls_last]; exact asDs_data _) ?_
      walk_at "hl"
      exact dr_app q (fun i h => by cases h)
theorem sp_len_law_thin {K : KF} (ds : List DV) (Ω : Om) (R : DV → Om → Prop) (X : Exc → Om → Prop) (h : sp_law_thin K ds Ω R X) : ds.length = 2 := by
  unfold sp_law_thin at h
  first
    | (obtain ⟨rfl, _⟩ := h; rfl)
    | (obtain ⟨_, rfl, _⟩ := h; rfl)
    | (obtain ⟨_, _, rfl, _⟩ := h; rfl)
    | (obtain ⟨_, _, _, rfl, _⟩ := h; rfl)
    | (obtain ⟨_, _, _, _, rfl, _⟩ := h; rfl)
    | (obtain ⟨_, _, _, _, _, rfl, _⟩ := h; rfl)
    | (obtain ⟨_, _, _, _, _, _, rfl, _⟩ := h; rfl)
    | (obtain ⟨_, _, _, _, _, _, _, rfl, _⟩ := h; rfl)
    | (obtain ⟨_, _, _, _, _, _, _, _, rfl, _⟩ := h; rfl)
def sp_divisor_of (K : KF) : Spec := fun ds Ω R X => ∃ a b : Int, ds = [.d (.int a), .d (.int b)] ∧ R (.d (.int (Int.gcd a b))) Ω
def t_divisor_of (K : KF) (W : WX) : TS :=
  (tSeq (tWhile (tTest (tOp (rNeD K) (tVar 1) (tC (.int 0)))) (tPar 0 1 (tCons (tVar 1) (tCons (tOp oMod (tVar 0) (tVar 1)) tNil))))
    (tRet (tCB rAbsI (tCons (tVar 0) tNil))))
theorem w_divisor_of {K : KF} (W : WX) (ds : List DV) (Ω : Om) (R : DV → Om → Prop) (X : Exc → Om → Prop) (h : sp_divisor_of K ds Ω R X) : WS K W (t_divisor_of K W) (startG 2 ds) Ω (fnO Ω R X) := by
  obtain ⟨a, b, rfl, q⟩ := h
  show WS K W (t_divisor_of K W) [some (.d (.int a)), some (.d (.int b))] Ω _
  unfold t_divisor_of
  refine ws_seq (ws_while (fun n Γ Ω1 => ∃ c d : Int, Γ = [some (.d (.int c)), some (.d (.int d))] ∧ Ω1 = Ω ∧ Int.gcd c d = Int.gcd a b ∧ d.natAbs = n) b.natAbs ⟨a, b, rfl, rfl, rfl, rfl⟩ ?_)
  rintro n Γ Ω1 - ⟨c, d, rfl, rfl, hg, rfl⟩
  walk_at "hl"
  refine ⟨fun hb => ?_, fun hb => ?_⟩
  · have hd : d ≠ 0 := by
      intro e
      subst e
      simp at hb
    walk_at "hl"
    refine wr_mod hd ?_
    walk_at "hl"
    exact ⟨_, fmod_natAbs_lt hd, d, _, rfl, rfl, (gcd_fmod c d).trans hg, rfl⟩
  · have hd : d = 0 := by
      simpa using hb
    subst hd
    walk_at "hl"
    rw [abs_if, ← Int.gcd_zero_right c, hg]
    exact dr_same q
theorem sp_len_divisor_of {K : KF} (ds : List DV) (Ω : Om) (R : DV → Om → Prop) (X : Exc → Om → Prop) (h : sp_divisor_of K ds Ω R X) : ds.length = 2 := by
  unfold sp_divisor_of at h
  first
    | (obtain ⟨rfl, _⟩ := h; rfl)
    | (obtain ⟨_, rfl, _⟩ := h; rfl)
    | (obtain ⟨_, _, rfl, _⟩ := h; rfl)
    | (obtain ⟨_, _, _, rfl, _⟩ := h; rfl)
    | (obtain ⟨_, _, _, _, rfl, _⟩ := h; rfl)
    | (obtain ⟨_, _, _, _, _, rfl, _⟩ := h; rfl)
    | (obtain ⟨_, _, _, _, _, _, rfl, _⟩ := h; rfl)
    | (obtain ⟨_, _, _, _, _, _, _, rfl, _⟩ := h; rfl)
    | (obtain ⟨_, _, _, _, _, _, _, _, rfl, _⟩ := h; rfl)
def wholeB : PyData → Bool
  | .int _ => true
  | _ => false
def sp_is_whole (K : KF) : Spec := fun ds Ω R X => ∃ x, ds = [.d x] ∧ known x = true ∧ R (.d (.bool (wholeB x))) Ω
def t_is_whole (K : KF) (W : WX) : TS :=
  (tRet (tAndV (tCB (rIsi K) (tCons (tVar 0) (tCons (tC (.ty "int")) tNil))) (tNotV (tCB (rIsi K) (tCons (tVar 0) (tCons (tC (.ty "bool")) tNil))))))
theorem w_is_whole {K : KF} (W : WX) (ds : List DV) (Ω : Om) (R : DV → Om → Prop) (X : Exc → Om → Prop) (h : sp_is_whole K ds Ω R X) : WS K W (t_is_whole K W) (startG 1 ds) Ω (fnO Ω R X) := by
  obtain ⟨x, rfl, hn, q⟩ := h
  show WS K W (t_is_whole K W) [some (.d x)] Ω _
  unfold t_is_whole
  walk_at "hl"
  refine ⟨fun h => ?_, fun h => ?_⟩
  · walk_at "hl"
    have e : (!isBool x) = wholeB x := by cases x <;> first | rfl | cases h
    rw [e]
    exact dr_same q
  · have e : false = wholeB x := by cases x <;> first | rfl | cases h
    rw [e]
    exact dr_same q
theorem sp_len_is_whole {K : KF} (ds : List DV) (Ω : Om) (R : DV → Om → Prop) (X : Exc → Om → Prop) (h : sp_is_whole K ds Ω R X) : ds.length = 1 := by
  unfold sp_is_whole at h
  first
    | (obtain ⟨rfl, _⟩ := h; rfl)
    | (obtain ⟨_, rfl, _⟩ := h; rfl)
    | (obtain ⟨_, _, rfl, _⟩ := h; rfl)
    | (obtain ⟨_, _, _, rfl, _⟩ := h; rfl)
    | (obtain ⟨_, _, _, _, rfl, _⟩ := h; rfl)
    | (obtain ⟨_, _, _, _, _, rfl, _⟩ := h; rfl)
    | (obtain ⟨_, _, _, _, _, _, rfl, _⟩ := h; rfl)
    | (obtain ⟨_, _, _, _, _, _, _, rfl, _⟩ := h; rfl)
    | (obtain ⟨_, _, _, _, _, _, _, _, rfl, _⟩ := h; rfl)
def sp_is_ratio (K : KF) : Spec := fun ds Ω R X => ∃ x n, ds = [.d x] ∧ Fit (n + 1) x ∧ R (.d (.bool (isRatio x))) Ω
def t_is_ratio (K : KF) (W : WX) : TS :=
  (tSeq (tIfS (tOr (tNot (tB (tCB (rIsi K) (tCons (tVar 0) (tCons (tC (.ty "tuple")) tNil))))) (tOr (tTest (tOp (rNeD K) (tCB (rLenQ K) (tCons (tVar 0) tNil)) (tC (.int 2)))) (tOr (tNot (tB (tCall (FS K (sp_is_whole K)) [] E0 (tCons (tOp (rIx K) (tVar 0) (tC (.int 0))) tNil)))) (tNot (tB (tCall (FS K (sp_is_whole K)) [] E0 (tCons (tOp (rIx K) (tVar 0) (tC (.int 1))) tNil))))))) (tRet (tC (.bl false))) tNext)
    (tRet (tAndV (tOp oGt (tOp (rIx K) (tVar 0) (tC (.int 1))) (tC (.int 0))) (tOp (rEqD K) (tCall (FS K (sp_divisor_of K)) [] E0 (tCons (tOp (rIx K) (tVar 0) (tC (.int 0))) (tCons (tOp (rIx K) (tVar 0) (tC (.int 1))) tNil))) (tC (.int 1))))))
theorem w_is_ratio {K : KF} (W : WX) (ds : List DV) (Ω : Om) (R : DV → Om → Prop) (X : Exc → Om → Prop) (h : sp_is_ratio K ds Ω R X) : WS K W (t_is_ratio K W) (startG 1 ds) Ω (fnO Ω R X) := by
  obtain ⟨x, n, rfl, hf, q⟩ := h
  show WS K W (t_is_ratio K W) [some (.d x)] Ω _
  unfold t_is_ratio
  have kx : known x = true := fit_known hf
  walk_at "hl"
  cases hx : isTuple x with
  | false =>
    have e : isRatio x = false := by cases x <;> first | rfl | cases hx
    rw [e] at q
    refine bT rfl (bT rfl ?_)
    walk_at "hl"
    exact dr_same q
  | true =>
    obtain ⟨xs, rfl⟩ := isTuple_eq hx
    refine bF rfl ?_
    walk_at "hl"
    have no : isRatio (.tuple xs) = false → ∀ {O : Outs} (_ : O.rt = (fnO Ω R X).rt := by rfl), WS K W (tRet (tC (.bl false))) [some (.d (.tuple xs))] Ω O := fun e O eo => by
      rw [e] at q
      walk_at "hl"
      rw [eo]
      exact dr_same q
    match xs, hf, q, @no with
    | [], hf, q, no => exact bT rfl (bT rfl (no rfl))
    | [a], hf, q, no => exact bT rfl (bT rfl (no (by cases a <;> rfl)))
    | a :: b :: c :: r, hf, q, no =>
      exact bT (by
        have : ((((a :: b :: c :: r).map DV.d).length : Nat) : Int) ≠ 2 := by simp; omega
        rw [decide_eq_false this]; rfl) (bT rfl (no (by cases a <;> (try rfl); cases b <;> rfl)))
    | [a, b], hf, q, no =>
      have ka := fit_known (fit_mem hf (List.mem_cons_self ..))
      have kb := fit_known (fit_mem hf (List.mem_cons_of_mem _ (List.mem_cons_self ..)))
      refine bF rfl ?_
      walk_at "hl"
      refine ⟨_, rfl, ka, ?_⟩
      walk_at "hl"
      cases ha : wholeB a with
      | false => exact bT rfl (bT rfl (no (by cases a <;> first | rfl | cases ha)))
      | true =>
        refine bF rfl ?_
        walk_at "hl"
        refine ⟨_, rfl, kb, ?_⟩
        walk_at "hl"
        cases hb : wholeB b with
        | false => exact bT rfl (no (by cases a <;> (try rfl); cases b <;> first | rfl | cases hb))
        | true =>
          refine bF rfl ?_
          cases a <;> cases ha
          cases b <;> cases hb
          rename_i i j
          have e : isRatio (.tuple [.int i, .int j]) = (decide (0 < j) && decide (Int.gcd i j = 1)) := rfl
          rw [e] at q
          walk_at "hl"
          refine ⟨fun h => ?_, fun h => ?_⟩
          · rw [h] at q
            walk_at "hl"
            refine ⟨i, j, rfl, ?_⟩
            walk_at "hl"
            have e2 : decide ((Int.gcd i j : Int) = 1) = decide (Int.gcd i j = 1) := decide_eq_decide.mpr ⟨fun h => by omega, fun h => by omega⟩
            rw [e2]
            exact dr_same q
          · rw [h] at q
            exact dr_same q
theorem sp_len_is_ratio {K : KF} (ds : List DV) (Ω : Om) (R : DV → Om → Prop) (X : Exc → Om → Prop) (h : sp_is_ratio K ds Ω R X) : ds.length = 1 := by
  unfold sp_is_ratio at h
  first
    | (obtain ⟨rfl, _⟩ := h; rfl)
    | (obtain ⟨_, rfl, _⟩ := h; rfl)
    | (obtain ⟨_, _, rfl, _⟩ := h; rfl)
    | (obtain ⟨_, _, _, rfl, _⟩ := h; rfl)
    | (obtain ⟨_, _, _, _, rfl, _⟩ := h; rfl)
    | (obtain ⟨_, _, _, _, _, rfl, _⟩ := h; rfl)
    | (obtain ⟨_, _, _, _, _, _, rfl, _⟩ := h; rfl)
    | (obtain ⟨_, _, _, _, _, _, _, rfl, _⟩ := h; rfl)
    | (obtain ⟨_, _, _, _, _, _, _, _, rfl, _⟩ := h; rfl)
def tupOf (n : Int) : PyData → Bool
  | .tuple xs => decide ((xs.length : Int) = n)
  | _ => false
def sp_is_tuple_of (K : KF) : Spec := fun ds Ω R X => ∃ (x : PyData) (n : Int), ds = [.d x, .d (.int n)] ∧ known x = true ∧ R (.d (.bool (tupOf n x))) Ω
def t_is_tuple_of (K : KF) (W : WX) : TS :=
  (tRet (tAndV (tCB (rIsi K) (tCons (tVar 0) (tCons (tC (.ty "tuple")) tNil))) (tOp (rEqD K) (tCB (rLenQ K) (tCons (tVar 0) tNil)) (tVar 1))))
theorem w_is_tuple_of {K : KF} (W : WX) (ds : List DV) (Ω : Om) (R : DV → Om → Prop) (X : Exc → Om → Prop) (h : sp_is_tuple_of K ds Ω R X) : WS K W (t_is_tuple_of K W) (startG 2 ds) Ω (fnO Ω R X) := by
  obtain ⟨x, n, rfl, kx, q⟩ := h
  show WS K W (t_is_tuple_of K W) [some (.d x), some (.d (.int n))] Ω _
  unfold t_is_tuple_of
  walk_at "hl"
  cases hx : isTuple x with
  | false =>
    have e : tupOf n x = false := by cases x <;> first | rfl | cases hx
    rw [e] at q
    exact bF rfl (dr_same q)
  | true =>
    obtain ⟨xs, rfl⟩ := isTuple_eq hx
    refine bT rfl ?_
    walk_at "hl"
    have e : tupOf n (.tuple xs) = decide (((xs.map DV.d).length : Int) = n) := by rw [List.length_map]; rfl
    rw [e] at q
    exact dr_same q
theorem tupOf_eq {n : Int} {x : PyData} (h : tupOf n x = true) : ∃ xs : List PyData, x = .tuple xs ∧ (xs.length : Int) = n := by
  cases x with
  | tuple xs => exact ⟨xs, rfl, of_decide_eq_true h⟩
  | _ => cases h
theorem len2 {α : Type} {xs : List α} (h : (xs.length : Int) = 2) : ∃ a b, xs = [a, b] := by
  match xs, h with
  | [a, b], _ => exact ⟨a, b, rfl⟩
  | [], h => simp at h
  | [a], h => simp at h
  | a :: b :: c :: r, h => simp at h; omega
theorem len3 {α : Type} {xs : List α} (h : (xs.length : Int) = 3) : ∃ a b c, xs = [a, b, c] := by
  match xs, h with
  | [a, b, c], _ => exact ⟨a, b, c, rfl⟩
  | [], h => simp at h
  | [a], h => simp at h
  | [a, b], h => simp at h
  | a :: b :: c :: d :: r, h => simp at h; omega
theorem sp_len_is_tuple_of {K : KF} (ds : List DV) (Ω : Om) (R : DV → Om → Prop) (X : Exc → Om → Prop) (h : sp_is_tuple_of K ds Ω R X) : ds.length = 2 := by
  unfold sp_is_tuple_of at h
  first
    | (obtain ⟨rfl, _⟩ := h; rfl)
    | (obtain ⟨_, rfl, _⟩ := h; rfl)
    | (obtain ⟨_, _, rfl, _⟩ := h; rfl)
    | (obtain ⟨_, _, _, rfl, _⟩ := h; rfl)
    | (obtain ⟨_, _, _, _, rfl, _⟩ := h; rfl)
    | (obtain ⟨_, _, _, _, _, rfl, _⟩ := h; rfl)
    | (obtain ⟨_, _, _, _, _, _, rfl, _⟩ := h; rfl)
    | (obtain ⟨_, _, _, _, _, _, _, rfl, _⟩ := h; rfl)
    | (obtain ⟨_, _, _, _, _, _, _, _, rfl, _⟩ := h; rfl)
def sp_is_ball (K : KF) : Spec := fun ds Ω R X => ∃ x n, ds = [.d x] ∧ Fit (n + 2) x ∧ R (.d (.bool (isBall x))) Ω
def t_is_ball (K : KF) (W : WX) : TS :=
  (tSeq (tIfS (tOr (tNot (tB (tCall (FS K (sp_is_tuple_of K)) [] E0 (tCons (tVar 0) (tCons (tC (.int 3)) tNil))))) (tOr (tNot (tB (tCall (FS K (sp_is_ratio K)) [] E0 (tCons (tOp (rIx K) (tVar 0) (tC (.int (0)))) tNil)))) (tNot (tB (tCall (FS K (sp_is_ratio K)) [] E0 (tCons (tOp (rIx K) (tVar 0) (tC (.int (1)))) tNil)))))) (tRet (tC (.bl false))) tNext)
    (tRet (tAndV (tCall (FS K (sp_is_whole K)) [] E0 (tCons (tOp (rIx K) (tVar 0) (tC (.int (2)))) tNil)) (tChain oLe oLe (tC (.int 1)) (tOp (rIx K) (tVar 0) (tC (.int (2)))) (tC (.int (1000)))))))
theorem w_is_ball {K : KF} (W : WX) (ds : List DV) (Ω : Om) (R : DV → Om → Prop) (X : Exc → Om → Prop) (h : sp_is_ball K ds Ω R X) : WS K W (t_is_ball K W) (startG 1 ds) Ω (fnO Ω R X) := by
  obtain ⟨x, n, rfl, hf, q⟩ := h
  show WS K W (t_is_ball K W) [some (.d x)] Ω _
  unfold t_is_ball
  have kx : known x = true := fit_known hf
  have no : isBall x = false → ∀ {O : Outs} (_ : O.rt = (fnO Ω R X).rt := by rfl), WS K W (tRet (tC (.bl false))) [some (.d x)] Ω O := fun e O eo => by
    rw [e] at q
    walk_at "hl"
    rw [eo]
    exact dr_same q
  walk_at "hl"
  refine ⟨_, 3, rfl, kx, ?_⟩
  walk_at "hl"
  cases ht : tupOf 3 x with
  | false =>
    refine bT rfl (bT rfl (no ?_))
    cases x with
    | tuple xs =>
      match xs, ht with
      | [], _ => rfl
      | [a], _ => rfl
      | [a, b], _ => rfl
      | [a, b, c], h => cases h
      | a :: b :: c :: d :: r, _ => cases c <;> rfl
    | _ => rfl
  | true =>
    obtain ⟨xs, rfl, hl⟩ := tupOf_eq ht
    obtain ⟨a, b, c, rfl⟩ := len3 hl
    have fa : Fit (n + 1) a := fit_mem hf (List.mem_cons_self ..)
    have fb : Fit (n + 1) b := fit_mem hf (List.mem_cons_of_mem _ (List.mem_cons_self ..))
    have fc : Fit (n + 1) c := fit_mem hf (List.mem_cons_of_mem _ (List.mem_cons_of_mem _ (List.mem_cons_self ..)))
    refine bF rfl ?_
    walk_at "hl"
    refine ⟨_, n, rfl, fa, ?_⟩
    walk_at "hl"
    cases ha : isRatio a with
    | false => exact bT rfl (bT rfl (no (by cases c <;> first | rfl | (show (isRatio a && _) = false; rw [ha]; rfl))))
    | true =>
      refine bF rfl ?_
      walk_at "hl"
      refine ⟨_, n, rfl, fb, ?_⟩
      walk_at "hl"
      cases hb : isRatio b with
      | false => exact bT rfl (no (by cases c <;> first | rfl | (show (isRatio a && (isRatio b && _)) = false; rw [ha, hb]; rfl)))
      | true =>
        refine bF rfl ?_
        walk_at "hl"
        refine ⟨_, rfl, fit_known fc, ?_⟩
        walk_at "hl"
        cases hc : wholeB c with
        | false =>
          have e : isBall (.tuple [a, b, c]) = false := by cases c <;> first | rfl | cases hc
          rw [e] at q
          exact bF rfl (dr_same q)
        | true =>
          refine bT rfl ?_
          cases c <;> cases hc
          rename_i w
          have e : isBall (.tuple [a, b, .int w]) = (isRatio a && (isRatio b && (decide (1 ≤ w) && decide (w ≤ 1000)))) := rfl
          rw [e, ha, hb, Bool.true_and, Bool.true_and] at q
          walk_at "hl"
          refine ⟨fun h => ?_, fun h => ?_⟩
          · rw [h, Bool.true_and] at q
            walk_at "hl"
            exact dr_same q
          · rw [h, Bool.false_and] at q
            exact dr_same q
theorem sp_len_is_ball {K : KF} (ds : List DV) (Ω : Om) (R : DV → Om → Prop) (X : Exc → Om → Prop) (h : sp_is_ball K ds Ω R X) : ds.length = 1 := by
  unfold sp_is_ball at h
  first
    | (obtain ⟨rfl, _⟩ := h; rfl)
    | (obtain ⟨_, rfl, _⟩ := h; rfl)
    | (obtain ⟨_, _, rfl, _⟩ := h; rfl)
    | (obtain ⟨_, _, _, rfl, _⟩ := h; rfl)
    | (obtain ⟨_, _, _, _, rfl, _⟩ := h; rfl)
    | (obtain ⟨_, _, _, _, _, rfl, _⟩ := h; rfl)
    | (obtain ⟨_, _, _, _, _, _, rfl, _⟩ := h; rfl)
    | (obtain ⟨_, _, _, _, _, _, _, rfl, _⟩ := h; rfl)
    | (obtain ⟨_, _, _, _, _, _, _, _, rfl, _⟩ := h; rfl)
def sp_less (K : KF) : Spec := fun ds Ω R X => ∃ p q : Rat, ds = [.d (dR p), .d (dR q)] ∧ (∃ n m, Sz n p ∧ Sz m q ∧ n + m ≤ 900000) ∧ R (.d (.bool (decide (p < q)))) Ω
def t_less (K : KF) (W : WX) : TS :=
  (tRet (tOp oLt (tOp oMul (tOp (rIx K) (tVar 0) (tC (.int 0))) (tOp (rIx K) (tVar 1) (tC (.int 1)))) (tOp oMul (tOp (rIx K) (tVar 1) (tC (.int 0))) (tOp (rIx K) (tVar 0) (tC (.int 1))))))
theorem w_less {K : KF} (W : WX) (ds : List DV) (Ω : Om) (R : DV → Om → Prop) (X : Exc → Om → Prop) (h : sp_less K ds Ω R X) : WS K W (t_less K W) (startG 2 ds) Ω (fnO Ω R X) := by
  obtain ⟨p, q, rfl, ⟨n, m, hp, hq, hz⟩, k⟩ := h
  show WS K W (t_less K W) [some (.d (dR p)), some (.d (dR q))] Ω _
  unfold t_less
  obtain ⟨nn, nd, dn, dd⟩ := muls hp hq (by omega)
  obtain ⟨nn', nd', dn', dd'⟩ := muls hq hp (by omega)
  walk_at "hl"
  have e : decide (p.num * q.den < q.num * p.den) = decide (p < q) := decide_eq_decide.mpr (Rat.lt_iff p q).symm
  rw [e]
  exact dr_same k
theorem sp_len_less {K : KF} (ds : List DV) (Ω : Om) (R : DV → Om → Prop) (X : Exc → Om → Prop) (h : sp_less K ds Ω R X) : ds.length = 2 := by
  unfold sp_less at h
  first
    | (obtain ⟨rfl, _⟩ := h; rfl)
    | (obtain ⟨_, rfl, _⟩ := h; rfl)
    | (obtain ⟨_, _, rfl, _⟩ := h; rfl)
    | (obtain ⟨_, _, _, rfl, _⟩ := h; rfl)
    | (obtain ⟨_, _, _, _, rfl, _⟩ := h; rfl)
    | (obtain ⟨_, _, _, _, _, rfl, _⟩ := h; rfl)
    | (obtain ⟨_, _, _, _, _, _, rfl, _⟩ := h; rfl)
    | (obtain ⟨_, _, _, _, _, _, _, rfl, _⟩ := h; rfl)
    | (obtain ⟨_, _, _, _, _, _, _, _, rfl, _⟩ := h; rfl)
/-- a ball or a wall that stands so -/
def Stands (x : PyData) (p s : Rat) : Prop := x = dW (some (p, s)) ∨ ∃ w, x = dB ⟨p, s, w⟩
def sp_may_stand (K : KF) : Spec := fun ds Ω R X => ∃ x y p s q t, ds = [.d x, .d y] ∧ Stands x p s ∧ Stands y q t ∧ (∃ n, Sz n p ∧ Sz n s ∧ Sz n q ∧ Sz n t ∧ n ≤ 400000) ∧ R (.d (.bool (mayS p s q t))) Ω
def t_may_stand (K : KF) (W : WX) : TS :=
  (tSeq (tIfS (tTest (tOp (rEqD K) (tOp (rIx K) (tVar 0) (tC (.int (0)))) (tOp (rIx K) (tVar 1) (tC (.int (0)))))) (tRet (tCall (FS K (sp_less K)) [] E0 (tCons (tOp (rIx K) (tVar 0) (tC (.int (1)))) (tCons (tOp (rIx K) (tVar 1) (tC (.int (1)))) tNil)))) tNext)
    (tRet (tCall (FS K (sp_less K)) [] E0 (tCons (tOp (rIx K) (tVar 0) (tC (.int (0)))) (tCons (tOp (rIx K) (tVar 1) (tC (.int (0)))) tNil)))))
theorem w_may_stand {K : KF} (W : WX) (ds : List DV) (Ω : Om) (R : DV → Om → Prop) (X : Exc → Om → Prop) (h : sp_may_stand K ds Ω R X) : WS K W (t_may_stand K W) (startG 2 ds) Ω (fnO Ω R X) := by
  obtain ⟨x, y, p, s, q, t, rfl, hx, hy, ⟨n, zp, zs, zq, zt, hz⟩, k⟩ := h
  show WS K W (t_may_stand K W) [some (.d x), some (.d y)] Ω _
  unfold t_may_stand
  rcases hx with rfl | ⟨w, rfl⟩ <;> rcases hy with rfl | ⟨v, rfl⟩ <;>
  · walk_at "hl"
    refine ⟨fun h => ?_, fun h => ?_⟩
    · have h := of_decide_eq_true h
      have e : mayS p s q t = decide (s < t) := if_pos h
      rw [e] at k
      walk_at "hl"
      exact ⟨_, _, rfl, ⟨_, _, zs, zt, by omega⟩, dr_same k⟩
    · have h := of_decide_eq_false h
      have e : mayS p s q t = decide (p < q) := if_neg h
      rw [e] at k
      walk_at "hl"
      exact ⟨_, _, rfl, ⟨_, _, zp, zq, by omega⟩, dr_same k⟩
theorem sp_len_may_stand {K : KF} (ds : List DV) (Ω : Om) (R : DV → Om → Prop) (X : Exc → Om → Prop) (h : sp_may_stand K ds Ω R X) : ds.length = 2 := by
  unfold sp_may_stand at h
  first
    | (obtain ⟨rfl, _⟩ := h; rfl)
    | (obtain ⟨_, rfl, _⟩ := h; rfl)
    | (obtain ⟨_, _, rfl, _⟩ := h; rfl)
    | (obtain ⟨_, _, _, rfl, _⟩ := h; rfl)
    | (obtain ⟨_, _, _, _, rfl, _⟩ := h; rfl)
    | (obtain ⟨_, _, _, _, _, rfl, _⟩ := h; rfl)
    | (obtain ⟨_, _, _, _, _, _, rfl, _⟩ := h; rfl)
    | (obtain ⟨_, _, _, _, _, _, _, rfl, _⟩ := h; rfl)
    | (obtain ⟨_, _, _, _, _, _, _, _, rfl, _⟩ := h; rfl)
def sp_is_within (K : KF) : Spec := fun ds Ω R X => ∃ x y p s q t, ds = [.d x, .d y] ∧ Stands x p s ∧ Stands y q t ∧ (∃ n, Sz n p ∧ Sz n s ∧ Sz n q ∧ Sz n t ∧ n ≤ 400000) ∧ R (.d (.bool (withinS p s q t))) Ω
def t_is_within (K : KF) (W : WX) : TS :=
  (tRet (tOrV (tOp (rEqD K) (tSl (rSlS K) (tVar 0) tNoPart (tPart (tC (.int (2))))) (tSl (rSlS K) (tVar 1) tNoPart (tPart (tC (.int (2)))))) (tCall (FS K (sp_may_stand K)) [] E0 (tCons (tVar 0) (tCons (tVar 1) tNil)))))
theorem cut2 {α : Type} {a b : α} {r : List α} : cutG (a :: b :: r) none (some 2) = [a, b] := by
  unfold cutG
  rw [show HT.sIx (a :: b :: r).length (a :: b :: r).length (some 2) = 2 from (HT.sIx_nat _ _ 2).trans (by simp)]
  rfl
theorem eqv_two (p s q t : Rat) : PyData.eqv (.tuple [dR p, dR s]) (.tuple [dR q, dR t]) = decide (p = q ∧ s = t) := by
  show (PyData.eqv (dR p) (dR q) && (PyData.eqv (dR s) (dR t) && true)) = _
  rw [eqv_dR, eqv_dR, Bool.and_true]
  by_cases h1 : p = q <;> by_cases h2 : s = t <;> simp [h1, h2]
theorem w_is_within {K : KF} (W : WX) (ds : List DV) (Ω : Om) (R : DV → Om → Prop) (X : Exc → Om → Prop) (h : sp_is_within K ds Ω R X) : WS K W (t_is_within K W) (startG 2 ds) Ω (fnO Ω R X) := by
  obtain ⟨x, y, p, s, q, t, rfl, hx, hy, hz, k⟩ := h
  obtain ⟨r, ex⟩ : ∃ r, x = .tuple (dR p :: dR s :: r) := by rcases hx with rfl | ⟨w, rfl⟩ <;> exact ⟨_, rfl⟩
  obtain ⟨r', ey⟩ : ∃ r, y = .tuple (dR q :: dR t :: r) := by rcases hy with rfl | ⟨w, rfl⟩ <;> exact ⟨_, rfl⟩
  rw [ex] at hx ⊢
  rw [ey] at hy ⊢
  show WS K W (t_is_within K W) [some (.d (.tuple (dR p :: dR s :: r))), some (.d (.tuple (dR q :: dR t :: r')))] Ω _
  unfold t_is_within
  walk_at "hl"
  rw [cut2, cut2]
  refine wr_eq rfl rfl rfl rfl ?_
  rw [eqv_two]
  unfold withinS at k
  walk_at "hl"
  refine ⟨fun h => ?_, fun h => ?_⟩
  · rw [h] at k
    exact dr_same k
  · rw [h, Bool.false_or] at k
    walk_at "hl"
    exact ⟨_, _, p, s, q, t, rfl, hx, hy, hz, dr_same k⟩
theorem sp_len_is_within {K : KF} (ds : List DV) (Ω : Om) (R : DV → Om → Prop) (X : Exc → Om → Prop) (h : sp_is_within K ds Ω R X) : ds.length = 2 := by
  unfold sp_is_within at h
  first
    | (obtain ⟨rfl, _⟩ := h; rfl)
    | (obtain ⟨_, rfl, _⟩ := h; rfl)
    | (obtain ⟨_, _, rfl, _⟩ := h; rfl)
    | (obtain ⟨_, _, _, rfl, _⟩ := h; rfl)
    | (obtain ⟨_, _, _, _, rfl, _⟩ := h; rfl)
    | (obtain ⟨_, _, _, _, _, rfl, _⟩ := h; rfl)
    | (obtain ⟨_, _, _, _, _, _, rfl, _⟩ := h; rfl)
    | (obtain ⟨_, _, _, _, _, _, _, rfl, _⟩ := h; rfl)
    | (obtain ⟨_, _, _, _, _, _, _, _, rfl, _⟩ := h; rfl)
def sp_is_row (K : KF) : Spec := fun ds Ω R X => ∃ (a b : Wl) (x : PyData) (n : Nat), ds = [.d (dWs a b), .d x] ∧ WSz 4000 a ∧ WSz 4000 b ∧ Fit (n + 3) x ∧ R (.d (.bool (isRow a b x))) Ω
def t_is_row (K : KF) (W : WX) : TS :=
  (tSeq (tIfS (tOr (tNot (tB (tCB (rIsi K) (tCons (tVar 1) (tCons (tC (.ty "tuple")) tNil))))) (tNot (tTest (tChain oLe oLe (tC (.int 1)) (tCB (rLenQ K) (tCons (tVar 1) tNil)) (tC (.int (8))))))) (tRet (tC (.bl false))) tNext)
    (tSeq (tIfS (tNot (tB (tCB (rAll K) (tCons (tLc (iSeq K (tVar 1)) (gName 2) tYes (tCall (FS K (sp_is_ball K)) [] E0 (tCons (tVar 2) tNil)) [2]) tNil)))) (tRet (tC (.bl false))) tNext)
    (tSeq (tIfS (tNot (tB (tCB (rAll K) (tCons (tLc (iZipA K (tCons (tVar 1) (tCons (tSl (rSlS K) (tVar 1) (tPart (tC (.int 1))) tNoPart) tNil))) (gTup K 2 (gCons (gName 3) (gCons (gName 4) gNil))) tYes (tCall (FS K (sp_may_stand K)) [] E0 (tCons (tVar 3) (tCons (tVar 4) tNil))) [3, 4]) tNil)))) (tRet (tC (.bl false))) tNext)
    (tSeq (tIfS (tAnd (tTest (tOp oNotN (tOp (rIx K) (tVar 0) (tC (.int (0)))) (tC .non))) (tNot (tB (tCall (FS K (sp_is_within K)) [] E0 (tCons (tOp (rIx K) (tVar 0) (tC (.int (0)))) (tCons (tOp (rIx K) (tVar 1) (tC (.int 0))) tNil)))))) (tRet (tC (.bl false))) tNext)
    (tRet (tOrV (tOp oIsN (tOp (rIx K) (tVar 0) (tC (.int (1)))) (tC .non)) (tCall (FS K (sp_is_within K)) [] E0 (tCons (tOp (rIx K) (tVar 1) (tUn uNeg (tC (.int 1)))) (tCons (tOp (rIx K) (tVar 0) (tC (.int (1)))) tNil)))))))))
theorem w_is_row {K : KF} (W : WX) (ds : List DV) (Ω : Om) (R : DV → Om → Prop) (X : Exc → Om → Prop) (h : sp_is_row K ds Ω R X) : WS K W (t_is_row K W) (startG 5 ds) Ω (fnO Ω R X) := by
  obtain ⟨a, b, x, n, rfl, za, zb, hf, q⟩ := h
  show WS K W (t_is_row K W) [some (.d (dWs a b)), some (.d x), none, none, none] Ω _
  unfold t_is_row
  have kx : known x = true := fit_known hf
  have no : isRow a b x = false → ∀ {O : Outs} (_ : O.rt = (fnO Ω R X).rt := by rfl), WS K W (tRet (tC (.bl false))) [some (.d (dWs a b)), some (.d x), none, none, none] Ω O := fun e O eo => by
    rw [e] at q
    walk_at "hl"
    rw [eo]
    exact dr_same q
  walk_at "hl"
  cases hx : isTuple x with
  | false => exact bT rfl (bT rfl (no (by cases x <;> first | rfl | cases hx)))
  | true =>
    obtain ⟨xs, rfl⟩ := isTuple_eq hx
    refine bF rfl ?_
    walk_at "hl"
    rw [List.length_map]
    have er : isRow a b (.tuple xs) = ((decide (1 ≤ xs.length) && decide (xs.length ≤ 8)) && (xs.all isBall && (Nb mayB (xs.map ballOf) && (lowOk a (xs.map ballOf) && highOk b (xs.map ballOf))))) := rfl
    refine ⟨fun h1 => ?ya, fun h1 => ?na⟩
    case na =>
      walk_at "hl"
      refine bT rfl (no ?_)
      have h1 := of_decide_eq_false h1
      rw [er, decide_eq_false (show ¬ 1 ≤ xs.length by omega)]; rfl
    walk_at "hl"
    refine ⟨fun h2 => no ?_, fun h2 => ?_⟩
    · have h3 : decide (xs.length ≤ 8) = false := decide_eq_false fun e => by
        have : decide ((xs.length : Int) ≤ 8) = true := decide_eq_true (by omega)
        rw [this] at h2
        cases h2
      rw [er, h3, Bool.and_false, Bool.false_and]
    have h1 := of_decide_eq_true h1
    have h2 : xs.length ≤ 8 := by
      have : decide ((xs.length : Int) ≤ 8) = true := by revert h2; cases decide ((xs.length : Int) ≤ 8) <;> simp
      have := of_decide_eq_true this
      omega
    rw [decide_eq_true (show 1 ≤ xs.length by omega), decide_eq_true h2, Bool.and_self, Bool.true_and] at er
    walk_at "hl"
    refine we_lcP (α := PyData) only1 (wi_T id xs ?_)
    walk_at "hl"
    refine ⟨by rw [List.map_id], xs, _, fun _ => true, fun y => .bool (isBall y), rfl, by omega, rfl, fun _ => trivial, ?_, ?_⟩
    · rintro y Ω' hy -
      walk_at "hl"
      refine ⟨rfl, rfl, fun _ => ?_⟩
      walk_at "hl"
      exact ⟨_, n, rfl, fit_mem hf hy, rfl, rfl⟩
    rw [filter_yes]
    walk_at "hl"
    refine wc_all (bs := xs.map isBall) (by rw [List.map_map]; rfl) ?_
    have ea : (xs.map isBall).all id = xs.all isBall := by rw [List.all_map]; rfl
    rw [ea]
    walk_at "hl"
    cases hb : xs.all isBall with
    | false => exact bT rfl (no (by rw [er, hb]; rfl))
    | true =>
      refine bF rfl ?_
      obtain ⟨el, hw⟩ := balls_eq hb
      obtain ⟨l, hl⟩ : ∃ l, l = xs.map ballOf := ⟨_, rfl⟩
      rw [← hl] at el hw er
      rw [hb, Bool.true_and] at er
      clear hl
      subst el
      rw [List.length_map] at h1 h2
      have hz : ∀ b ∈ l, Sz 4000 b.p ∧ Sz 4000 b.s := fun b hb => fit_dB' (n := n) (fit_mem hf (List.mem_map.mpr ⟨b, hb, rfl⟩))
      walk_at "hl"
      refine we_lcP (α := Bl × Bl) only2 (wi_zipT ?_)
      walk_at "hl"
      rw [cut_tail, ← List.map_tail]
      refine ⟨_, _, rfl, l.zip l.tail, fun p => .d (.tuple [dB p.1, dB p.2]), fun _ => true, fun p => .bool (mayB p.1 p.2), zipD_map .., ?_, rfl, fun _ => trivial, ?_, ?_⟩
      · rw [List.length_zip]
        omega
      · rintro ⟨c, d⟩ Ω' hy -
        have hc := hz c (List.of_mem_zip hy).1
        have hd := hz d (List.mem_of_mem_tail (List.of_mem_zip hy).2)
        walk_at "hl"
        refine ⟨rfl, rfl, fun _ => ?_⟩
        walk_at "hl"
        exact ⟨_, _, _, _, _, _, rfl, .inr ⟨_, rfl⟩, .inr ⟨_, rfl⟩, ⟨4000, hc.1, hc.2, hd.1, hd.2, by decide⟩, rfl, rfl⟩
      rw [filter_yes]
      walk_at "hl"
      refine wc_all (bs := (l.zip l.tail).map fun p => mayB p.1 p.2) (by rw [List.map_map]; rfl) ?_
      rw [nb_zip]
      walk_at "hl"
      cases hn : Nb mayB l with
      | false => exact bT rfl (no (by rw [er, hn]; rfl))
      | true =>
        refine bF rfl ?_
        rw [hn, Bool.true_and] at er
        obtain ⟨c, r, ec⟩ : ∃ c r, l = c :: r := by
          cases l with
          | nil => simp at h1
          | cons c r => exact ⟨c, r, rfl⟩
        obtain ⟨z, hzl⟩ : ∃ z, l.getLast? = some z := by rw [ec]; exact ⟨_, List.getLast?_eq_getLast (by simp)⟩
        have hc := hz c (by rw [ec]; exact List.mem_cons_self ..)
        have hzz := hz z (List.mem_of_getLast? hzl)
        have fin : lowOk a l = true → ∀ g2 g3 g4, WS K W (tRet (tOrV (tOp oIsN (tOp (rIx K) (tVar 0) (tC (.int (1)))) (tC .non)) (tCall (FS K (sp_is_within K)) [] E0 (tCons (tOp (rIx K) (tVar 1) (tUn uNeg (tC (.int 1)))) (tCons (tOp (rIx K) (tVar 0) (tC (.int (1)))) tNil)))))
            [some (.d (dWs a b)), some (.d (.tuple (l.map dB))), g2, g3, g4] Ω (fnO Ω R X) := fun hlo g2 g3 g4 => by
          rw [hlo, Bool.true_and] at er
          rw [er] at q
          walk_at "hl"
          cases b with
          | none => exact bT rfl (dr_same q)
          | some b =>
            refine bF rfl ?_
            walk_at "hl"
            refine wr_ixRow (at_last hzl) ?_
            walk_at "hl"
            have e : highOk (some b) l = withinS z.p z.s b.1 b.2 := by show (match l.getLast? with | some c => _ | none => _) = _; rw [hzl]
            rw [e] at q
            exact ⟨_, _, _, _, _, _, rfl, .inr ⟨_, rfl⟩, .inl rfl, ⟨4000, hzz.1, hzz.2, zb.1, zb.2, by decide⟩, dr_same q⟩
        generalize hT : (tRet (tOrV (tOp oIsN (tOp (rIx K) (tVar 0) (tC (.int (1)))) (tC .non)) (tCall (FS K (sp_is_within K)) [] E0 (tCons (tOp (rIx K) (tVar 1) (tUn uNeg (tC (.int 1)))) (tCons (tOp (rIx K) (tVar 0) (tC (.int (1)))) tNil))))) = tail at *
        walk_at "hl"
        cases a with
        | none => exact bF rfl (bF rfl (ws_next (fin rfl _ _ _)))
        | some a =>
          refine bT rfl ?_
          walk_at "hl"
          refine wr_ixRow (b := c) (by rw [ec]; exact atI_nat (j := 0) rfl) ?_
          walk_at "hl"
          have e : lowOk (some a) l = withinS a.1 a.2 c.p c.s := by rw [ec]; rfl
          refine ⟨_, _, _, _, _, _, rfl, .inl rfl, .inr ⟨_, rfl⟩, ⟨4000, za.1, za.2, hc.1, hc.2, by decide⟩, ?_⟩
          walk_at "hl"
          cases hlo : withinS a.1 a.2 c.p c.s with
          | false => exact bT rfl (no (by rw [er, e, hlo]; rfl))
          | true => exact bF rfl (ws_next (fin (by rw [e, hlo]) _ _ _))
theorem sp_len_is_row {K : KF} (ds : List DV) (Ω : Om) (R : DV → Om → Prop) (X : Exc → Om → Prop) (h : sp_is_row K ds Ω R X) : ds.length = 2 := by
  unfold sp_is_row at h
  first
    | (obtain ⟨rfl, _⟩ := h; rfl)
    | (obtain ⟨_, rfl, _⟩ := h; rfl)
    | (obtain ⟨_, _, rfl, _⟩ := h; rfl)
    | (obtain ⟨_, _, _, rfl, _⟩ := h; rfl)
    | (obtain ⟨_, _, _, _, rfl, _⟩ := h; rfl)
    | (obtain ⟨_, _, _, _, _, rfl, _⟩ := h; rfl)
    | (obtain ⟨_, _, _, _, _, _, rfl, _⟩ := h; rfl)
    | (obtain ⟨_, _, _, _, _, _, _, rfl, _⟩ := h; rfl)
    | (obtain ⟨_, _, _, _, _, _, _, _, rfl, _⟩ := h; rfl)
def sp_is_wall (K : KF) : Spec := fun ds Ω R X => ∃ x n, ds = [.d x] ∧ Fit (n + 2) x ∧ R (.d (.bool (isWall x))) Ω
def t_is_wall (K : KF) (W : WX) : TS :=
  (tSeq (tIfS (tTest (tOp oIsN (tVar 0) (tC .non))) (tRet (tC (.bl true))) tNext)
    (tRet (tAndV (tCall (FS K (sp_is_tuple_of K)) [] E0 (tCons (tVar 0) (tCons (tC (.int 2)) tNil))) (tAndV (tCall (FS K (sp_is_ratio K)) [] E0 (tCons (tOp (rIx K) (tVar 0) (tC (.int (0)))) tNil)) (tCall (FS K (sp_is_ratio K)) [] E0 (tCons (tOp (rIx K) (tVar 0) (tC (.int (1)))) tNil))))))
theorem w_is_wall {K : KF} (W : WX) (ds : List DV) (Ω : Om) (R : DV → Om → Prop) (X : Exc → Om → Prop) (h : sp_is_wall K ds Ω R X) : WS K W (t_is_wall K W) (startG 1 ds) Ω (fnO Ω R X) := by
  obtain ⟨x, n, rfl, hf, q⟩ := h
  show WS K W (t_is_wall K W) [some (.d x)] Ω _
  unfold t_is_wall
  have kx : known x = true := fit_known hf
  cases hn : isNo (.d x) with
  | true =>
    have e : x = .none := by cases x <;> first | rfl | cases hn
    subst e
    walk_at "hl"
    refine bT rfl ?_
    walk_at "hl"
    exact dr_same q
  | false =>
    have pv : plainV (.d x) = true := by cases x <;> first | rfl | cases kx
    walk_at "hl"
    refine bF hn ?_
    walk_at "hl"
    refine ⟨_, 2, rfl, kx, ?_⟩
    walk_at "hl"
    cases ht : tupOf 2 x with
    | false =>
      have e : isWall x = false := by
        cases x with
        | none => cases hn
        | tuple xs =>
          match xs, ht with
          | [], _ => rfl
          | [a], _ => rfl
          | [a, b], h => cases h
          | a :: b :: c :: r, _ => rfl
        | _ => rfl
      rw [e] at q
      exact bF rfl (dr_same q)
    | true =>
      obtain ⟨xs, rfl, hl⟩ := tupOf_eq ht
      obtain ⟨a, b, rfl⟩ := len2 hl
      refine bT rfl ?_
      walk_at "hl"
      refine ⟨_, n, rfl, fit_mem hf (List.mem_cons_self ..), ?_⟩
      walk_at "hl"
      have e : isWall (.tuple [a, b]) = (isRatio a && isRatio b) := rfl
      rw [e] at q
      refine ⟨fun h => ?_, fun h => ?_⟩
      · rw [h] at q
        walk_at "hl"
        exact ⟨_, n, rfl, fit_mem hf (List.mem_cons_of_mem _ (List.mem_cons_self ..)), dr_same q⟩
      · rw [h] at q
        exact dr_same q
theorem sp_len_is_wall {K : KF} (ds : List DV) (Ω : Om) (R : DV → Om → Prop) (X : Exc → Om → Prop) (h : sp_is_wall K ds Ω R X) : ds.length = 1 := by
  unfold sp_is_wall at h
  first
    | (obtain ⟨rfl, _⟩ := h; rfl)
    | (obtain ⟨_, rfl, _⟩ := h; rfl)
    | (obtain ⟨_, _, rfl, _⟩ := h; rfl)
    | (obtain ⟨_, _, _, rfl, _⟩ := h; rfl)
    | (obtain ⟨_, _, _, _, rfl, _⟩ := h; rfl)
    | (obtain ⟨_, _, _, _, _, rfl, _⟩ := h; rfl)
    | (obtain ⟨_, _, _, _, _, _, rfl, _⟩ := h; rfl)
    | (obtain ⟨_, _, _, _, _, _, _, rfl, _⟩ := h; rfl)
    | (obtain ⟨_, _, _, _, _, _, _, _, rfl, _⟩ := h; rfl)
def sp_walls_good (K : KF) : Spec := fun ds Ω R X => ∃ x n, ds = [.d x] ∧ Fit (n + 3) x ∧ R (.d (.bool (wallsGood x))) Ω
def t_walls_good (K : KF) (W : WX) : TS :=
  (tSeq (tIfS (tOr (tNot (tB (tCall (FS K (sp_is_tuple_of K)) [] E0 (tCons (tVar 0) (tCons (tC (.int 2)) tNil))))) (tOr (tNot (tB (tCall (FS K (sp_is_wall K)) [] E0 (tCons (tOp (rIx K) (tVar 0) (tC (.int (0)))) tNil)))) (tNot (tB (tCall (FS K (sp_is_wall K)) [] E0 (tCons (tOp (rIx K) (tVar 0) (tC (.int (1)))) tNil)))))) (tRet (tC (.bl false))) tNext)
    (tSeq (tIfS (tOr (tTest (tOp oIsN (tOp (rIx K) (tVar 0) (tC (.int (0)))) (tC .non))) (tTest (tOp oIsN (tOp (rIx K) (tVar 0) (tC (.int (1)))) (tC .non)))) (tRet (tC (.bl true))) tNext)
    (tRet (tCall (FS K (sp_less K)) [] E0 (tCons (tOp (rIx K) (tOp (rIx K) (tVar 0) (tC (.int (0)))) (tC (.int (0)))) (tCons (tOp (rIx K) (tOp (rIx K) (tVar 0) (tC (.int (1)))) (tC (.int (0)))) tNil))))))
theorem w_walls_good {K : KF} (W : WX) (ds : List DV) (Ω : Om) (R : DV → Om → Prop) (X : Exc → Om → Prop) (h : sp_walls_good K ds Ω R X) : WS K W (t_walls_good K W) (startG 1 ds) Ω (fnO Ω R X) := by
  obtain ⟨x, n, rfl, hf, q⟩ := h
  show WS K W (t_walls_good K W) [some (.d x)] Ω _
  unfold t_walls_good
  have kx : known x = true := fit_known hf
  have no : wallsGood x = false → ∀ {O : Outs} (_ : O.rt = (fnO Ω R X).rt := by rfl), WS K W (tRet (tC (.bl false))) [some (.d x)] Ω O := fun e O eo => by
    rw [e] at q
    walk_at "hl"
    rw [eo]
    exact dr_same q
  walk_at "hl"
  refine ⟨_, 2, rfl, kx, ?_⟩
  walk_at "hl"
  cases ht : tupOf 2 x with
  | false =>
    refine bT rfl (bT rfl (no ?_))
    cases x with
    | tuple xs =>
      match xs, ht with
      | [], _ => rfl
      | [a], _ => rfl
      | [a, b], h => cases h
      | a :: b :: c :: r, _ => rfl
    | _ => rfl
  | true =>
    obtain ⟨xs, rfl, hl⟩ := tupOf_eq ht
    obtain ⟨a, b, rfl⟩ := len2 hl
    have fa : Fit (n + 2) a := fit_mem hf (List.mem_cons_self ..)
    have fb : Fit (n + 2) b := fit_mem hf (List.mem_cons_of_mem _ (List.mem_cons_self ..))
    refine bF rfl ?_
    walk_at "hl"
    refine ⟨_, n, rfl, fa, ?_⟩
    walk_at "hl"
    cases ha : isWall a with
    | false => exact bT rfl (bT rfl (no (by show (isWall a && _) = false; rw [ha]; rfl)))
    | true =>
      refine bF rfl ?_
      walk_at "hl"
      refine ⟨_, n, rfl, fb, ?_⟩
      walk_at "hl"
      cases hb : isWall b with
      | false => exact bT rfl (no (by show (isWall a && (isWall b && _)) = false; rw [ha, hb]; rfl))
      | true =>
        refine bF rfl ?_
        obtain ⟨v, rfl⟩ := isWall_eq ha
        obtain ⟨w, rfl⟩ := isWall_eq hb
        rw [show PyData.tuple [dW v, dW w] = dWs v w from rfl, wallsGood_dWs] at q
        have zv := fit_dW' fa
        have zw := fit_dW' fb
        show WS K W _ [some (.d (dWs v w))] Ω _
        walk_at "hl"
        cases v with
        | none =>
          refine bT rfl (bT rfl ?_)
          walk_at "hl"
          exact dr_same q
        | some v =>
          refine bF rfl ?_
          walk_at "hl"
          cases w with
          | none =>
            refine bT rfl ?_
            walk_at "hl"
            exact dr_same q
          | some w =>
            refine bF rfl ?_
            walk_at "hl"
            exact ⟨_, _, rfl, ⟨_, _, zv.1, zw.1, by decide⟩, dr_same q⟩
theorem sp_len_walls_good {K : KF} (ds : List DV) (Ω : Om) (R : DV → Om → Prop) (X : Exc → Om → Prop) (h : sp_walls_good K ds Ω R X) : ds.length = 1 := by
  unfold sp_walls_good at h
  first
    | (obtain ⟨rfl, _⟩ := h; rfl)
    | (obtain ⟨_, rfl, _⟩ := h; rfl)
    | (obtain ⟨_, _, rfl, _⟩ := h; rfl)
    | (obtain ⟨_, _, _, rfl, _⟩ := h; rfl)
    | (obtain ⟨_, _, _, _, rfl, _⟩ := h; rfl)
    | (obtain ⟨_, _, _, _, _, rfl, _⟩ := h; rfl)
    | (obtain ⟨_, _, _, _, _, _, rfl, _⟩ := h; rfl)
    | (obtain ⟨_, _, _, _, _, _, _, rfl, _⟩ := h; rfl)
    | (obtain ⟨_, _, _, _, _, _, _, _, rfl, _⟩ := h; rfl)
def sp_law_is (K : KF) : Spec := fun ds Ω R X => ∃ (a b : Wl) (l : List Bb), ds = [.d (dWs a b), .d (dBroad l)] ∧ l.length ≤ 8 ∧ WSz 1000 a ∧ WSz 1000 b ∧ (∀ b ∈ l, Sz 1000 b.p ∧ Sz 1000 b.s ∧ b.w.natAbs < 2 ^ 4000 ∧ Sz 40 b.d) ∧ R (.d (.bool (apart a (mvN (sumR (l.map Bb.d)) b) && isRow a (mvN (sumR (l.map Bb.d)) b) (dRow (thinF 0 l))))) Ω
def t_law_is (K : KF) (W : WX) : TS :=
  (tSeq (tAsg (tCall (FS K (sp_law_thin K)) [] E0 (tCons (tVar 1) (tCons (tVar 0) tNil))) (gTup K 2 (gCons (gName 2) (gCons (gName 3) gNil))))
    (tRet (tAndV (tCall (FS K (sp_walls_good K)) [] E0 (tCons (tVar 3) tNil)) (tCall (FS K (sp_is_row K)) [] E0 (tCons (tVar 3) (tCons (tVar 2) tNil))))))
theorem thin_szs' {n m k N : Nat} : ∀ {a : Rat} {l : List Bb}, (∀ b ∈ l, Sz n b.p ∧ Sz m b.d) → Sz k a → (m + 1) * l.length + k + n + 1 ≤ N → ∀ b ∈ thinF a l, Sz N b.p ∧ ∃ c ∈ l, b.s = c.s ∧ b.w = c.w
  | a, b :: l, hl, ha, h, c, hc => by
    rw [List.length_cons, Nat.mul_add] at h
    rcases List.mem_cons.mp (show c ∈ (⟨b.p - a, b.s, b.w⟩ : Bl) :: thinF (a + b.d) l from hc) with rfl | hc
    · exact ⟨((hl b (List.mem_cons_self ..)).1.sub ha).mono (by omega), b, List.mem_cons_self .., rfl, rfl⟩
    · obtain ⟨h1, d, hd, h2⟩ := thin_szs' (N := N) (fun b hb => hl b (List.mem_cons_of_mem _ hb)) (ha.add (hl b (List.mem_cons_self ..)).2) (by omega) c hc
      exact ⟨h1, d, List.mem_cons_of_mem _ hd, h2⟩
  | a, [], _, _, _, c, hc => by cases hc
theorem w_law_is {K : KF} (W : WX) (ds : List DV) (Ω : Om) (R : DV → Om → Prop) (X : Exc → Om → Prop) (h : sp_law_is K ds Ω R X) : WS K W (t_law_is K W) (startG 4 ds) Ω (fnO Ω R X) := by
  obtain ⟨a, b, l, rfl, l8, za, zb, zl, q⟩ := h
  show WS K W (t_law_is K W) [some (.d (dWs a b)), some (.d (dBroad l)), none, none] Ω _
  unfold t_law_is
  have zs : Sz 400 (sumR (l.map Bb.d)) := (sumR_sz (n := 40) fun w hw => by
    obtain ⟨b, hb, rfl⟩ := List.mem_map.mp hw
    exact (zl b hb).2.2.2).mono (by rw [List.length_map]; omega)
  have zm : WSz 4000 (mvN (sumR (l.map Bb.d)) b) := by
    cases b with
    | none => exact trivial
    | some b => exact ⟨(zb.1.sub zs).mono (by omega), zb.2.mono (by omega)⟩
  have za := za.mono (show 1000 ≤ 4000 by decide)
  have zr : ∀ b ∈ thinF 0 l, Sz 4000 b.p ∧ Sz 4000 b.s ∧ b.w.natAbs < 2 ^ 4000 := fun b hb => by
    obtain ⟨h1, c, hc, h2, h3⟩ := thin_szs' (N := 4000) (fun b hb => ⟨(zl b hb).1, (zl b hb).2.2.2⟩) (sz_zero (n := 1) (by decide)) (by omega) b hb
    rw [h2, h3]
    exact ⟨h1, (zl c hc).2.1.mono (by decide), (zl c hc).2.2.1⟩
  have fr : Fit 3 (dRow (thinF 0 l)) := fit_tup fun x hx => by
    obtain ⟨b, hb, rfl⟩ := List.mem_map.mp hx
    exact fit_dB (zr b hb).1 (zr b hb).2.1 (zr b hb).2.2
  walk_at "hl"
  refine ⟨l, a, b, rfl, by omega, fun b hb => ⟨(zl b hb).1.mono (by decide), (zl b hb).2.2.2⟩, fun p s e => by subst e; exact zb.1.mono (by decide), ?_⟩
  walk_at "hl"
  refine ⟨_, 0, rfl, fit_dWs za zm, ?_⟩
  rw [wallsGood_dWs]
  walk_at "hl"
  cases ha : apart a (mvN (sumR (l.map Bb.d)) b) with
  | false =>
    rw [ha, Bool.false_and] at q
    exact bF rfl (dr_same q)
  | true =>
    rw [ha, Bool.true_and] at q
    refine bT rfl ?_
    walk_at "hl"
    exact ⟨a, _, _, 0, rfl, za, zm, fr, dr_same q⟩
theorem sp_len_law_is {K : KF} (ds : List DV) (Ω : Om) (R : DV → Om → Prop) (X : Exc → Om → Prop) (h : sp_law_is K ds Ω R X) : ds.length = 2 := by
  unfold sp_law_is at h
  first
    | (obtain ⟨rfl, _⟩ := h; rfl)
    | (obtain ⟨_, rfl, _⟩ := h; rfl)
    | (obtain ⟨_, _, rfl, _⟩ := h; rfl)
    | (obtain ⟨_, _, _, rfl, _⟩ := h; rfl)
    | (obtain ⟨_, _, _, _, rfl, _⟩ := h; rfl)
    | (obtain ⟨_, _, _, _, _, rfl, _⟩ := h; rfl)
    | (obtain ⟨_, _, _, _, _, _, rfl, _⟩ := h; rfl)
    | (obtain ⟨_, _, _, _, _, _, _, rfl, _⟩ := h; rfl)
    | (obtain ⟨_, _, _, _, _, _, _, _, rfl, _⟩ := h; rfl)
/-- a pool of one's own -/
def sp_law_left (K : KF) : Spec := fun ds Ω R X => ∃ c : Int, ds = [.d (.int c)] ∧ ∀ p, IsPool p → R (.o Ω.length) (Ω ++ [p])
def t_law_left (K : KF) (W : WX) : TS :=
  (tRet (tLst (tCons (tCB rMaxI (tCons (tC (.int 0)) (tCons (tOp oSub (tVar 0) (tOp oPow (tC (.int 10)) (tC (.int 18)))) tNil))) (tCons (tOp oMod (tVar 0) (tOp oPow (tC (.int 10)) (tC (.int 18)))) (tCons (tC (.int 0)) tNil)))))
theorem w_law_left {K : KF} (W : WX) (ds : List DV) (Ω : Om) (R : DV → Om → Prop) (X : Exc → Om → Prop) (h : sp_law_left K ds Ω R X) : WS K W (t_law_left K W) (startG 1 ds) Ω (fnO Ω R X) := by
  obtain ⟨c, rfl, q⟩ := h
  show WS K W (t_law_left K W) [some (.d (.int c))] Ω _
  unfold t_law_left
  refine ws_ret (we_lstO ?_)
  walk_at "hl"
  refine wr_pow ⟨by decide, by decide, by decide⟩ ?_
  walk_at "hl"
  refine wr_pow ⟨by decide, by decide, by decide⟩ ?_
  refine wr_modP (by decide) ?_
  walk_at "hl"
  refine dr_same (q _ ?_)
  exact ⟨_, _, _, rfl, by split <;> omega, Int.emod_nonneg _ (by decide), by omega⟩
theorem sp_len_law_left {K : KF} (ds : List DV) (Ω : Om) (R : DV → Om → Prop) (X : Exc → Om → Prop) (h : sp_law_left K ds Ω R X) : ds.length = 1 := by
  unfold sp_law_left at h
  first
    | (obtain ⟨rfl, _⟩ := h; rfl)
    | (obtain ⟨_, rfl, _⟩ := h; rfl)
    | (obtain ⟨_, _, rfl, _⟩ := h; rfl)
    | (obtain ⟨_, _, _, rfl, _⟩ := h; rfl)
    | (obtain ⟨_, _, _, _, rfl, _⟩ := h; rfl)
    | (obtain ⟨_, _, _, _, _, rfl, _⟩ := h; rfl)
    | (obtain ⟨_, _, _, _, _, _, rfl, _⟩ := h; rfl)
    | (obtain ⟨_, _, _, _, _, _, _, rfl, _⟩ := h; rfl)
    | (obtain ⟨_, _, _, _, _, _, _, _, rfl, _⟩ := h; rfl)
def sp_law_by (K : KF) : Spec := fun ds Ω R X => ∃ p q : Rat, ds = [.d (dR p), .d (dR q)] ∧ Sz2 p q ∧ R (.d (dR (p * q))) Ω
def t_law_by (K : KF) (W : WX) : TS :=
  (tRet (tCall (FS K (sp_law_low K)) [] E0 (tCons (tOp oMul (tOp (rIx K) (tVar 0) (tC (.int 0))) (tOp (rIx K) (tVar 1) (tC (.int 0)))) (tCons (tOp oMul (tOp (rIx K) (tVar 0) (tC (.int 1))) (tOp (rIx K) (tVar 1) (tC (.int 1)))) tNil))))
theorem w_law_by {K : KF} (W : WX) (ds : List DV) (Ω : Om) (R : DV → Om → Prop) (X : Exc → Om → Prop) (h : sp_law_by K ds Ω R X) : WS K W (t_law_by K W) (startG 2 ds) Ω (fnO Ω R X) := by
  obtain ⟨p, q, rfl, ⟨n, m, hp, hq, hz⟩, k⟩ := h
  show WS K W (t_law_by K W) [some (.d (dR p)), some (.d (dR q))] Ω _
  unfold t_law_by
  obtain ⟨nn, nd, dn, dd⟩ := muls hp hq (by omega)
  obtain ⟨nn', nd', dn', dd'⟩ := muls hq hp (by omega)
  walk_at "hl"
  refine ⟨_, _, rfl, den_mul_ne p q, ⟨n + m, den_mul_lt hp hq, by omega⟩, ?_⟩
  walk_at "hl"
  rw [rat_mul]
  exact dr_same k
theorem sp_len_law_by {K : KF} (ds : List DV) (Ω : Om) (R : DV → Om → Prop) (X : Exc → Om → Prop) (h : sp_law_by K ds Ω R X) : ds.length = 2 := by
  unfold sp_law_by at h
  first
    | (obtain ⟨rfl, _⟩ := h; rfl)
    | (obtain ⟨_, rfl, _⟩ := h; rfl)
    | (obtain ⟨_, _, rfl, _⟩ := h; rfl)
    | (obtain ⟨_, _, _, rfl, _⟩ := h; rfl)
    | (obtain ⟨_, _, _, _, rfl, _⟩ := h; rfl)
    | (obtain ⟨_, _, _, _, _, rfl, _⟩ := h; rfl)
    | (obtain ⟨_, _, _, _, _, _, rfl, _⟩ := h; rfl)
    | (obtain ⟨_, _, _, _, _, _, _, rfl, _⟩ := h; rfl)
    | (obtain ⟨_, _, _, _, _, _, _, _, rfl, _⟩ := h; rfl)
def nineL (b : Bb) : List Bb := (List.range 9).map fun (k : Nat) => ⟨b.p + ((0 + (k : Int) : Int) : Rat) * (b.d + 1), 0, b.w, b.d⟩
def sp_law_nine (K : KF) : Spec := fun ds Ω R X => ∃ (b : Bb) (l : List Bb), ds = [.d (dBroad (b :: l))] ∧ Sz 1000 b.p ∧ Sz 40 b.d ∧ R (.d (dBroad (nineL b))) Ω
def t_law_nine (K : KF) (W : WX) : TS :=
  (tSeq (tAsg (tOp (rIx K) (tVar 0) (tC (.int 0))) (gTup K 4 (gCons (gName 1) (gCons (gName 2) (gCons (gName 3) (gCons (gName 4) gNil))))))
    (tSeq (tAsg (tCall (FS K (sp_law_add K)) [] E0 (tCons (tVar 4) (tCons (tTup (tCons (tC (.int 1)) (tCons (tC (.int 1)) tNil))) tNil))) (gName 5))
    (tRet (tCB (rTupQ K) (tCons (tLc (iRng1 (tCons (tC (.int 9)) tNil)) (gName 6) tYes (tTup (tCons (tCall (FS K (sp_law_add K)) [] E0 (tCons (tVar 1) (tCons (tCall (FS K (sp_law_by K)) [] E0 (tCons (tTup (tCons (tVar 6) (tCons (tC (.int 1)) tNil))) (tCons (tVar 5) tNil))) tNil))) (tCons (tTup (tCons (tC (.int 0)) (tCons (tC (.int 1)) tNil))) (tCons (tVar 3) (tCons (tVar 4) tNil))))) [6]) tNil)))))
theorem w_law_nine {K : KF} (W : WX) (ds : List DV) (Ω : Om) (R : DV → Om → Prop) (X : Exc → Om → Prop) (h : sp_law_nine K ds Ω R X) : WS K W (t_law_nine K W) (startG 7 ds) Ω (fnO Ω R X) := by
  obtain ⟨b, l, rfl, zp, zd, q⟩ := h
  show WS K W (t_law_nine K W) [some (.d (dBroad (b :: l))), none, none, none, none, none, none] Ω _
  unfold t_law_nine
  walk_at "hl"
  refine wr_ixT (y := dBb b) (atI_nat (j := 0) rfl) ?_
  walk_at "hl"
  have z1 : Sz 1 (1 : Rat) := ⟨by decide, by decide⟩
  refine ⟨b.d, 1, rfl, ⟨40, 1, zd, z1, by omega⟩, ?_⟩
  walk_at "hl"
  refine we_lcP (α := Nat) only1 (wi_rng1 ?_)
  walk_at "hl"
  refine ⟨9, rfl, by decide, by decide, List.range 9, _, fun _ => true, fun (k : Nat) => dBb ⟨b.p + ((0 + (k : Int) : Int) : Rat) * (b.d + 1), 0, b.w, b.d⟩, rfl, by simp, rfl, fun _ => trivial, ?_, ?_⟩
  · rintro k Ω' hk -
    have hk := List.mem_range.mp hk
    have zk : Sz 4 ((0 + (k : Int) : Int) : Rat) := .int (by omega) (by decide)
    walk_at "hl"
    refine ⟨rfl, rfl, fun _ => ?_⟩
    walk_at "hl"
    refine ⟨((0 + (k : Int) : Int) : Rat), _, rfl, ⟨4, 42, zk, zd.add z1, by omega⟩, ?_⟩
    walk_at "hl"
    refine ⟨b.p, _, rfl, ⟨1000, 46, zp, zk.mul (zd.add z1), by omega⟩, ?_⟩
    walk_at "hl"
    exact ⟨rfl, rfl⟩
  rw [filter_yes]
  walk_at "hl"
  refine wc_tup' (xs := (nineL b).map dBb) (by unfold nineL; rw [List.map_map]; rfl) ?_
  exact dr_same q
theorem sp_len_law_nine {K : KF} (ds : List DV) (Ω : Om) (R : DV → Om → Prop) (X : Exc → Om → Prop) (h : sp_law_nine K ds Ω R X) : ds.length = 1 := by
  unfold sp_law_nine at h
  first
    | (obtain ⟨rfl, _⟩ := h; rfl)
    | (obtain ⟨_, rfl, _⟩ := h; rfl)
    | (obtain ⟨_, _, rfl, _⟩ := h; rfl)
    | (obtain ⟨_, _, _, rfl, _⟩ := h; rfl)
    | (obtain ⟨_, _, _, _, rfl, _⟩ := h; rfl)
    | (obtain ⟨_, _, _, _, _, rfl, _⟩ := h; rfl)
    | (obtain ⟨_, _, _, _, _, _, rfl, _⟩ := h; rfl)
    | (obtain ⟨_, _, _, _, _, _, _, rfl, _⟩ := h; rfl)
    | (obtain ⟨_, _, _, _, _, _, _, _, rfl, _⟩ := h; rfl)
/-- any number from 0 on, below the base -/
def sp_law_next (K : KF) : Spec := fun ds Ω R X => ∃ (k : Nat) (p : OC) (b : Int), ds = [.o k, .d (.int b)] ∧ Ω[k]? = some p ∧ IsPool p ∧ 0 < b ∧ b ≤ 10 ^ 30 ∧ Drawn k Ω b R
def t_law_next (K : KF) (W : WX) : TS :=
  (tSeq (tIfS (tTest (tOp oGt (tOp (rIx K) (tVar 0) (tC (.int 0))) (tC (.int 0)))) (tSeq (tAsg (tOp oMod (tOp (rIx K) (tVar 0) (tC (.int 0))) (tVar 1)) (gName 2))
    (tSeq (tAsg (tOp oFdiv (tOp (rIx K) (tVar 0) (tC (.int 0))) (tVar 1)) (gSub (tVar 0) (tC (.int 0)) rSetL))
    (tRet (tVar 2)))) tNext)
    (tSeq (tAsg (tOp (rAddX K) (tOp (rIx K) (tVar 0) (tC (.int 2))) (tC (.int 1))) (gSub (tVar 0) (tC (.int 2)) rSetL))
    (tSeq (tAsg (tOp oMod (tOp (rAddX K) (tOp (rIx K) (tVar 0) (tC (.int 1))) (tOp oMul (tC (.int 7919)) (tOp (rIx K) (tVar 0) (tC (.int 2))))) (tC (.int 1000000007))) (gName 3))
    (tSeq (tAsg (tOp oMod (tOp oMul (tOp (rAddX K) (tVar 3) (tC (.int 11))) (tOp (rAddX K) (tVar 3) (tC (.int 48271)))) (tC (.int 998244353))) (gName 4))
    (tRet (tOp oMod (tOp oFdiv (tOp oMod (tOp oMul (tVar 4) (tVar 4)) (tC (.int 2147483647))) (tC (.int 8))) (tVar 1)))))))
theorem small_log {b : Int} (h0 : 0 < b) (h : b ≤ 10 ^ 30) : b.natAbs.log2 < 9000 :=
  Nat.lt_of_lt_of_le (log2_lt (n := 100) (by omega) (by decide)) (by decide)
theorem w_law_next {K : KF} (W : WX) (ds : List DV) (Ω : Om) (R : DV → Om → Prop) (X : Exc → Om → Prop) (h : sp_law_next K ds Ω R X) : WS K W (t_law_next K W) (startG 5 ds) Ω (fnO Ω R X) := by
  obtain ⟨k, p, b, rfl, hp, ⟨a0, a1, a2, rfl, h0, h1, h2⟩, hb, hb2, q⟩ := h
  have hk := lt_of_get hp
  have hs : sq Ω (.o k) = some [.d (.int a0), .d (.int a1), .d (.int a2)] := by show sqO Ω[k]? = _; rw [hp]; rfl
  show WS K W (t_law_next K W) [some (.o k), some (.d (.int b)), none, none, none] Ω _
  unfold t_law_next
  walk_at "hl"
  refine wr_ix hs rfl ?_
  walk_at "hl"
  refine ⟨fun h => ?_, fun h => ?_⟩
  · have ha := of_decide_eq_true h
    walk_at "hl"
    refine wr_ix hs rfl ?_
    walk_at "hl"
    refine wr_modP hb ?_
    walk_at "hl"
    refine wr_ix hs rfl ?_
    walk_at "hl"
    refine wr_fdivP hb (small_log hb hb2) ?_
    refine wg_subL (W := W) ?_ trivial
    walk_at "hl"
    refine ⟨k, _, 0, 0, rfl, rfl, hp, rfl, ?_⟩
    walk_at "hl"
    exact dr_same (q _ _ (Int.emod_nonneg _ (by omega)) (Int.emod_lt_of_pos _ hb) ⟨_, _, _, rfl, Int.ediv_nonneg h0 (by omega), h1, h2⟩)
  · walk_at "hl"
    refine wr_ix hs rfl ?_
    walk_at "hl"
    refine wg_subL (W := W) ?_ trivial
    walk_at "hl"
    refine ⟨k, _, 2, 2, rfl, rfl, hp, rfl, ?_⟩
    have hs' : sq (Ω.set k (.lst [.d (.int a0), .d (.int a1), .d (.int (a2 + 1))])) (.o k) = some [.d (.int a0), .d (.int a1), .d (.int (a2 + 1))] := by
      show sqO _ = _
      rw [get_set hk]
      rfl
    walk_at "hl"
    refine wr_ix hs' rfl ?_
    walk_at "hl"
    refine wr_ix hs' rfl ?_
    walk_at "hl"
    refine wr_modP (by decide) ?_
    have m0 := Int.emod_nonneg (a1 + 7919 * (a2 + 1)) (show (1000000007 : Int) ≠ 0 by decide)
    have m1 := Int.emod_lt_of_pos (a1 + 7919 * (a2 + 1)) (show (0 : Int) < 1000000007 by decide)
    generalize (a1 + 7919 * (a2 + 1)) % 1000000007 = mixed at *
    walk_at "hl"
    refine wr_mul (.inl (.inl ⟨by omega, by omega⟩)) ?_
    walk_at "hl"
    refine wr_modP (by decide) ?_
    have s0 := Int.emod_nonneg ((mixed + 11) * (mixed + 48271)) (show (998244353 : Int) ≠ 0 by decide)
    have s1 := Int.emod_lt_of_pos ((mixed + 11) * (mixed + 48271)) (show (0 : Int) < 998244353 by decide)
    generalize (mixed + 11) * (mixed + 48271) % 998244353 = stir at *
    walk_at "hl"
    refine wr_mul (.inl (.inl ⟨by omega, by omega⟩)) ?_
    walk_at "hl"
    refine wr_modP (by decide) ?_
    walk_at "hl"
    refine wr_fdivP (by decide) (by decide +kernel) ?_
    walk_at "hl"
    refine wr_modP hb ?_
    exact dr_same (q _ _ (Int.emod_nonneg _ (by omega)) (Int.emod_lt_of_pos _ hb) ⟨_, _, _, rfl, h0, h1, by omega⟩)
theorem dn {K : KF} {Ω J : Om} {k : Nat} {p : OC} {b : Int} {R : DV → Om → Prop} {X : Exc → Om → Prop} (hk : k < Ω.length) (ip : IsPool p) (h0 : 0 < b) (h1 : b ≤ 10 ^ 30) (q : ∀ (r : Int) (p' : OC), 0 ≤ r → r < b → IsPool p' → R (.d (.int r)) (Ω.set k p' ++ J)) :
    sp_law_next K [.o k, .d (.int b)] (Ω.set k p ++ J) R X := ⟨k, p, b, rfl, get_app (get_set hk), ip, h0, h1, fun r p' r0 r1 ip' => by rw [set_app hk]; exact q r p' r0 r1 ip'⟩
theorem dn0 {K : KF} {Ω : Om} {k : Nat} {p : OC} {b : Int} {R : DV → Om → Prop} {X : Exc → Om → Prop} (hk : k < Ω.length) (ip : IsPool p) (h0 : 0 < b) (h1 : b ≤ 10 ^ 30) (q : ∀ (r : Int) (p' : OC), 0 ≤ r → r < b → IsPool p' → R (.d (.int r)) (Ω.set k p')) :
    sp_law_next K [.o k, .d (.int b)] (Ω.set k p) R X := ⟨k, p, b, rfl, get_set hk, ip, h0, h1, fun r p' r0 r1 ip' => by rw [List.set_set]; exact q r p' r0 r1 ip'⟩
theorem sp_len_law_next {K : KF} (ds : List DV) (Ω : Om) (R : DV → Om → Prop) (X : Exc → Om → Prop) (h : sp_law_next K ds Ω R X) : ds.length = 2 := by
  unfold sp_law_next at h
  first
    | (obtain ⟨rfl, _⟩ := h; rfl)
    | (obtain ⟨_, rfl, _⟩ := h; rfl)
    | (obtain ⟨_, _, rfl, _⟩ := h; rfl)
    | (obtain ⟨_, _, _, rfl, _⟩ := h; rfl)
    | (obtain ⟨_, _, _, _, rfl, _⟩ := h; rfl)
    | (obtain ⟨_, _, _, _, _, rfl, _⟩ := h; rfl)
    | (obtain ⟨_, _, _, _, _, _, rfl, _⟩ := h; rfl)
    | (obtain ⟨_, _, _, _, _, _, _, rfl, _⟩ := h; rfl)
    | (obtain ⟨_, _, _, _, _, _, _, _, rfl, _⟩ := h; rfl)
def sp_law_odd (K : KF) : Spec := fun ds Ω R X => ∃ (k : Nat) (p : OC) (l : List Bb), ds = [.o k, .d (dBroad l)] ∧ Ω[k]? = some p ∧ IsPool p ∧ l ≠ [] ∧ l.length ≤ 8 ∧ (∀ b ∈ l, Sz 1000 b.p ∧ Sz 1000 b.s ∧ b.w.natAbs < 2 ^ 4000 ∧ Sz 40 b.d) ∧
  ∀ (y : PyData) (p' : OC), Fit 3 y → (areBroad y = false ∨ ∃ l' : List Bb, y = dBroad l' ∧ (∃ b ∈ l', ¬ (1 ≤ b.w ∧ b.w ≤ 1000)) ∧ (∀ b ∈ l', Sz 1000 b.p ∧ Sz 1000 b.s ∧ b.w.natAbs < 2 ^ 4000 ∧ Sz 40 b.d)) → IsPool p' → R (.d y) (Ω.set k p')
def t_law_odd (K : KF) (W : WX) : TS :=
  (tSeq (tAsg (tCall (FS K (sp_law_next K)) [] E0 (tCons (tVar 0) (tCons (tCB (rLenQ K) (tCons (tVar 1) tNil)) tNil))) (gName 2))
    (tSeq (tAsg (tOp (rIx K) (tVar 1) (tVar 2)) (gTup K 4 (gCons (gName 3) (gCons (gName 4) (gCons (gName 5) (gCons (gName 6) gNil))))))
    (tSeq (tAsg (tLst (tCons (tTup (tCons (tVar 3) (tCons (tVar 4) (tCons (tVar 5) (tCons (tTup (tCons (tUn uNeg (tC (.int 1))) (tCons (tC (.int 2)) tNil))) tNil))))) (tCons (tTup (tCons (tVar 3) (tCons (tVar 4) (tCons (tVar 5) (tCons (tC (.int 1)) tNil))))) (tCons (tTup (tCons (tVar 3) (tCons (tVar 4) (tCons (tVar 5) tNil)))) tNil)))) (gName 7))
    (tSeq (tAsg (tOp (rAddX K) (tVar 7) (tLst (tCons (tLst (tCons (tVar 3) (tCons (tVar 4) (tCons (tVar 5) (tCons (tVar 6) tNil))))) (tCons (tTup (tCons (tVar 3) (tCons (tVar 4) (tCons (tVar 5) (tCons (tTup (tCons (tC (.int 2)) (tCons (tC (.int 4)) tNil))) tNil))))) (tCons (tC .non) tNil))))) (gName 7))
    (tSeq (tAsg (tOp (rAddX K) (tVar 7) (tLst (tCons (tTup (tCons (tVar 3) (tCons (tVar 4) (tCons (tVar 5) (tCons (tC .non) tNil))))) (tCons (tTup (tCons (tVar 3) (tCons (tVar 4) (tCons (tC (.int 0)) (tCons (tVar 6) tNil))))) tNil)))) (gName 7))
    (tSeq (tAsg (tOp (rAddX K) (tVar 7) (tLst (tCons (tTup (tCons (tVar 3) (tCons (tVar 4) (tCons (tC (.int 1001)) (tCons (tVar 6) tNil))))) (tCons (tTup (tCons (tTup (tCons (tC (.int 1)) (tCons (tC (.int 0)) tNil))) (tCons (tVar 4) (tCons (tVar 5) (tCons (tVar 6) tNil))))) (tCons (tTup (tCons (tVar 3) (tCons (tVar 4) (tCons (tVar 5) (tCons (tVar 6) (tCons (tVar 6) tNil)))))) tNil))))) (gName 7))
    (tSeq (tAsg (tCall (FS K (sp_law_next K)) [] E0 (tCons (tVar 0) (tCons (tC (.int 15)) tNil))) (gName 8))
    (tSeq (tIfS (tTest (tOp oLt (tVar 8) (tC (.int 11)))) (tRet (tOp (rAddX K) (tOp (rAddX K) (tSl (rSlS K) (tVar 1) tNoPart (tPart (tVar 2))) (tTup (tCons (tOp (rIx K) (tVar 7) (tVar 8)) tNil))) (tSl (rSlS K) (tVar 1) (tPart (tOp (rAddX K) (tVar 2) (tC (.int 1)))) tNoPart))) tNext)
    (tRet (tOp (rIx K) (tLst (tCons (tCB (rListQ K) (tCons (tVar 1) tNil)) (tCons (tTup tNil) (tCons (tC .non) (tCons (tOp (rAddX K) (tOp (rAddX K) (tVar 1) (tVar 1)) (tOp (rRepT K) (tSl (rSlS K) (tVar 1) tNoPart (tPart (tC (.int 1)))) (tC (.int 9)))) tNil))))) (tOp oSub (tVar 8) (tC (.int 11)))))))))))))
theorem broad_bad {l r : List PyData} {x : PyData} (h : (brdB x && widB x) = false) : areBroad (.tuple (l ++ [x] ++ r)) = false := by
  show ((decide (1 ≤ (l ++ [x] ++ r).length) && decide ((l ++ [x] ++ r).length ≤ 8)) && ((l ++ [x] ++ r).all brdB && (l ++ [x] ++ r).all widB)) = false
  simp only [List.all_append, List.all_cons, List.all_nil]
  revert h
  cases brdB x <;> cases widB x <;> simp
theorem areBroad_long {xs : List PyData} (h : 8 < xs.length) : areBroad (.tuple xs) = false := by
  show ((decide (1 ≤ xs.length) && decide (xs.length ≤ 8)) && _) = false
  rw [decide_eq_false (show ¬ xs.length ≤ 8 by omega), Bool.and_false, Bool.false_and]
theorem w_law_odd {K : KF} (W : WX) (ds : List DV) (Ω : Om) (R : DV → Om → Prop) (X : Exc → Om → Prop) (h : sp_law_odd K ds Ω R X) : WS K W (t_law_odd K W) (startG 9 ds) Ω (fnO Ω R X) := by
  obtain ⟨k, p, l, rfl, hp, ip, hne, l8, zl, q⟩ := h
  have hk := lt_of_get hp
  show WS K W (t_law_odd K W) [some (.o k), some (.d (dBroad l)), none, none, none, none, none, none, none] Ω _
  unfold t_law_odd
  have l1 : 1 ≤ l.length := by cases l with | nil => exact absurd rfl hne | cons c r => simp
  walk_at "hl"
  rw [List.length_map, List.length_map]
  refine ⟨k, p, _, rfl, hp, ip, by omega, by omega, fun at_ p1 a0 a1 ip => ?_⟩
  obtain ⟨j, rfl⟩ : ∃ j : Nat, at_ = j := ⟨at_.toNat, by omega⟩
  have hj : j < l.length := by omega
  obtain ⟨c, hcj⟩ : ∃ c, l[j]? = some c := ⟨_, List.getElem?_eq_getElem hj⟩
  have mc := List.mem_of_getElem? hcj
  obtain ⟨zp, zs, zw, zd⟩ := zl c mc
  have fp : ∀ {n}, Fit (n + 1) (dR c.p) := fit_ofR (zp.mono (by decide))
  have fs : ∀ {n}, Fit (n + 1) (dR c.s) := fit_ofR (zs.mono (by decide))
  have fd : ∀ {n}, Fit (n + 1) (dR c.d) := fit_ofR (zd.mono (by decide))
  have fw : ∀ {n}, Fit n (.int c.w) := fit_int zw (by decide)
  have fB : ∀ {n} (b : Bb), (Sz 1000 b.p ∧ Sz 1000 b.s ∧ b.w.natAbs < 2 ^ 4000 ∧ Sz 40 b.d) → Fit (n + 2) (dBb b) := fun b h => fit_tup (all_cons (fit_ofR (h.1.mono (by decide))) (all_cons (fit_ofR (h.2.1.mono (by decide))) (all_cons (fit_int h.2.2.1 (by decide)) (all_cons (fit_ofR (h.2.2.2.mono (by decide))) all_nil))))
  have fl : ∀ x ∈ l.map dBb, Fit 2 x := fun x hx => by
    obtain ⟨b, hb, rfl⟩ := List.mem_map.mp hx
    exact fB b (zl b hb)
  walk_at "hl"
  refine wr_ixT (y := dBb c) (atI_nat (by rw [List.getElem?_map, hcj]; rfl)) ?_
  walk_at "hl"
  refine wr_addL rfl rfl (Nat.le_of_ble_eq_true rfl) ?_
  walk_at "hl"
  refine wr_addL rfl rfl (Nat.le_of_ble_eq_true rfl) ?_
  walk_at "hl"
  refine wr_addL rfl rfl (Nat.le_of_ble_eq_true rfl) ?_
  walk_at "hl"
  refine dn0 hk ip (by decide) (by decide) fun way p1 w0 w1 ip => ?_
  walk_at "hl"
  refine ⟨fun hw => ?_, fun hw => ?_⟩
  · have hw := of_decide_eq_true hw
    walk_at "hl"
    refine wsl_T ?_
    walk_at "hl"
    refine wr_ix_any w0 (by simp; omega) fun x hx => ?_
    walk_at "hl"
    rw [cut_to (by simp; omega)]
    refine wr_addT (by simp; omega) ?_
    walk_at "hl"
    refine wsl_T ?_
    walk_at "hl"
    have e1 : ((j : Int) + 1) = ((j + 1 : Nat) : Int) := by omega
    rw [e1, cut_from (by simp; omega)]
    refine wr_addT (by simp; omega) ?_
    have el : ∀ x : Bb, (l.map dBb).take j ++ [dBb x] ++ (l.map dBb).drop (j + 1) = (l.set j x).map dBb := fun x => by
      rw [List.map_set, List.set_eq_take_append_cons_drop, if_pos (by simp; omega)]; simp
    have bad : (brdB x && widB x) = false → Fit 2 x → R (.d (.tuple ((l.map dBb).take j ++ [x] ++ (l.map dBb).drop (j + 1)))) (Ω.set k p1) := fun h f =>
      q _ p1 (fit_tup (all_app (all_app (fun y hy => fl y (List.mem_of_mem_take hy)) (all_cons f all_nil)) fun y hy => fl y (List.mem_of_mem_drop hy))) (.inl (broad_bad h)) ip
    have wt : ∀ w : Int, w.natAbs < 2 ^ 4000 → ¬ (1 ≤ w ∧ w ≤ 1000) → x = dBb ⟨c.p, c.s, w, c.d⟩ → R (.d (.tuple ((l.map dBb).take j ++ [x] ++ (l.map dBb).drop (j + 1)))) (Ω.set k p1) := fun w hw hn e => by
      subst e
      have za : ∀ b ∈ l.set j ⟨c.p, c.s, w, c.d⟩, Sz 1000 b.p ∧ Sz 1000 b.s ∧ b.w.natAbs < 2 ^ 4000 ∧ Sz 40 b.d := fun b hb => by
        rcases List.mem_or_eq_of_mem_set hb with hb | rfl
        · exact zl b hb
        · exact ⟨zp, zs, hw, zd⟩
      rw [el]
      refine q _ p1 (fit_tup fun y hy => ?_) (.inr ⟨_, rfl, ⟨_, List.mem_set (by omega) _, hn⟩, za⟩) ip
      obtain ⟨b, hb, rfl⟩ := List.mem_map.mp hy
      exact fB b (za b hb)
    refine dr_same ?_
    have rp := isRatio_dR c.p
    have rd := isRatio_dR c.d
    rcases List.mem_cons.mp hx with rfl | hx
    · refine bad (by rw [show widB _ = false from rfl, Bool.and_false]) (fit_tup (all_cons fp (all_cons fs (all_cons fw (all_cons (fit_tup (all_cons (fit_int (k := 2) (by decide) (by decide)) (all_cons (fit_int (k := 2) (by decide) (by decide)) all_nil))) all_nil)))))
    rcases List.mem_cons.mp hx with rfl | hx
    · refine bad (by rw [show widB _ = false from rfl, Bool.and_false]) (fit_tup (all_cons fp (all_cons fs (all_cons fw (all_cons (fit_int (k := 2) (by decide) (by decide)) all_nil)))))
    rcases List.mem_cons.mp hx with rfl | hx
    · refine bad rfl (fit_tup (all_cons fp (all_cons fs (all_cons fw all_nil))))
    rcases List.mem_cons.mp hx with rfl | hx
    · refine bad rfl fit_list
    rcases List.mem_cons.mp hx with rfl | hx
    · refine bad (by rw [show brdB (.tuple [dR c.p, dR c.s, .int c.w, .tuple [.int 2, .int 4]]) = (isRatio (dR c.p) && isRatio (.tuple [.int 2, .int 4])) from rfl, show isRatio (.tuple [.int 2, .int 4]) = false from rfl, Bool.and_false]; rfl) (fit_tup (all_cons fp (all_cons fs (all_cons fw (all_cons (fit_tup (all_cons (fit_int (k := 3) (by decide) (by decide)) (all_cons (fit_int (k := 3) (by decide) (by decide)) all_nil))) all_nil)))))
    rcases List.mem_cons.mp hx with rfl | hx
    · exact bad rfl fit_none
    rcases List.mem_cons.mp hx with rfl | hx
    · refine bad (by rw [show widB _ = false from rfl, Bool.and_false]) (fit_tup (all_cons fp (all_cons fs (all_cons fw (all_cons fit_none all_nil)))))
    rcases List.mem_cons.mp hx with rfl | hx
    · exact wt 0 (by decide) (by decide) rfl
    rcases List.mem_cons.mp hx with rfl | hx
    · exact wt 1001 (nat_pow_lt (k := 10) (by decide) (by decide)) (by decide) rfl
    rcases List.mem_cons.mp hx with rfl | hx
    · refine bad rfl (fit_tup (all_cons (fit_tup (all_cons (fit_int (k := 3) (by decide) (by decide)) (all_cons (fit_int (k := 3) (by decide) (by decide)) all_nil))) (all_cons fs (all_cons fw (all_cons fd all_nil)))))
    rcases List.mem_cons.mp hx with rfl | hx
    · refine bad rfl (fit_tup (all_cons fp (all_cons fs (all_cons fw (all_cons fd (all_cons fd all_nil))))))
    · cases hx
  · have hw := of_decide_eq_false hw
    walk_at "hl"
    refine wr_addT (by simp; omega) ?_
    walk_at "hl"
    refine wsl_T ?_
    rw [cut_one]
    walk_at "hl"
    refine wr_repT (by cases l with | nil => exact absurd rfl hne | cons a r => simp) (by decide) (by decide) (by simp; omega) ?_
    walk_at "hl"
    refine wr_addT (by simp; omega) ?_
    walk_at "hl"
    refine wr_ix_any (by omega) (by simp; omega) fun x hx => dr_same ?_
    rcases List.mem_cons.mp hx with rfl | hx
    · exact q _ p1 fit_list (.inl rfl) ip
    rcases List.mem_cons.mp hx with rfl | hx
    · exact q _ p1 (fit_tup all_nil) (.inl rfl) ip
    rcases List.mem_cons.mp hx with rfl | hx
    · exact q _ p1 fit_none (.inl rfl) ip
    rcases List.mem_cons.mp hx with rfl | hx
    · refine q _ p1 (fit_tup (all_app (all_app fl fl) fun y hy => ?_)) (.inl ?_) ip
      · obtain ⟨z, hz, hy⟩ := List.mem_flatten.mp hy
        rw [(List.mem_replicate.mp hz).2] at hy
        exact fl y (List.mem_of_mem_take hy)
      · obtain ⟨c, r, rfl⟩ := List.exists_cons_of_ne_nil hne
        exact areBroad_long (by simp; omega)
    · cases hx
theorem sp_len_law_odd {K : KF} (ds : List DV) (Ω : Om) (R : DV → Om → Prop) (X : Exc → Om → Prop) (h : sp_law_odd K ds Ω R X) : ds.length = 2 := by
  unfold sp_law_odd at h
  first
    | (obtain ⟨rfl, _⟩ := h; rfl)
    | (obtain ⟨_, rfl, _⟩ := h; rfl)
    | (obtain ⟨_, _, rfl, _⟩ := h; rfl)
    | (obtain ⟨_, _, _, rfl, _⟩ := h; rfl)
    | (obtain ⟨_, _, _, _, rfl, _⟩ := h; rfl)
    | (obtain ⟨_, _, _, _, _, rfl, _⟩ := h; rfl)
    | (obtain ⟨_, _, _, _, _, _, rfl, _⟩ := h; rfl)
    | (obtain ⟨_, _, _, _, _, _, _, rfl, _⟩ := h; rfl)
    | (obtain ⟨_, _, _, _, _, _, _, _, rfl, _⟩ := h; rfl)
def sp_law_pushed (K : KF) : Spec := fun ds Ω R X => ∃ (k : Nat) (p : OC) (l : List Bb) (a b : Wl), ds = [.o k, .d (dBroad l), .d (dWs a b)] ∧ Ω[k]? = some p ∧ IsPool p ∧ l ≠ [] ∧ l.length ≤ 20 ∧ (∀ b ∈ l, Sz 900 b.p) ∧ WSz 900 b ∧
  ∀ (l' : List Bb) (b' : Wl) (p' : OC), l'.length = l.length → l'.map Bb.d = l.map Bb.d → (∀ c ∈ l', Sz 1000 c.p ∧ ∃ e ∈ l, c.s = e.s ∧ c.w = e.w ∧ c.d = e.d) → WSz 1000 b' → IsPool p' → R (.d (.tuple [dBroad l', dWs a b'])) (Ω.set k p')
def t_law_pushed (K : KF) (W : WX) : TS :=
  (tSeq (tAsg (tCall (FS K (sp_law_low K)) [] E0 (tCons (tOp oSub (tCall (FS K (sp_law_next K)) [] E0 (tCons (tVar 0) (tCons (tC (.int 13)) tNil))) (tC (.int 6))) (tCons (tOp (rIx K) (tLst (tCons (tC (.int 1)) (tCons (tC (.int 2)) (tCons (tC (.int 6)) tNil)))) (tCall (FS K (sp_law_next K)) [] E0 (tCons (tVar 0) (tCons (tC (.int 3)) tNil)))) tNil))) (gName 3))
    (tSeq (tAsg (tCall (FS K (sp_law_next K)) [] E0 (tCons (tVar 0) (tCons (tCB (rLenQ K) (tCons (tVar 1) tNil)) tNil))) (gName 4))
    (tSeqI (tIfS (tAnd (tTest (tOp oNotN (tOp (rIx K) (tVar 2) (tC (.int 1))) (tC .non))) (tTest (tOp (rEqD K) (tCall (FS K (sp_law_next K)) [] E0 (tCons (tVar 0) (tCons (tC (.int 3)) tNil))) (tC (.int 0))))) (tRet (tTup (tCons (tVar 1) (tCons (tTup (tCons (tOp (rIx K) (tVar 2) (tC (.int 0))) (tCons (tTup (tCons (tCall (FS K (sp_law_add K)) [] E0 (tCons (tOp (rIx K) (tOp (rIx K) (tVar 2) (tC (.int 1))) (tC (.int 0))) (tCons (tVar 3) tNil))) (tCons (tOp (rIx K) (tOp (rIx K) (tVar 2) (tC (.int 1))) (tC (.int 1))) tNil))) tNil))) tNil)))) tNext)
    (tSeq (tAsg (tOp (rIx K) (tVar 1) (tVar 4)) (gName 5))
    (tRet (tTup (tCons (tOp (rAddX K) (tOp (rAddX K) (tSl (rSlS K) (tVar 1) tNoPart (tPart (tVar 4))) (tTup (tCons (tOp (rAddX K) (tTup (tCons (tCall (FS K (sp_law_add K)) [] E0 (tCons (tOp (rIx K) (tVar 5) (tC (.int 0))) (tCons (tVar 3) tNil))) tNil)) (tSl (rSlS K) (tVar 5) (tPart (tC (.int 1))) tNoPart)) tNil))) (tSl (rSlS K) (tVar 1) (tPart (tOp (rAddX K) (tVar 4) (tC (.int 1)))) tNoPart)) (tCons (tVar 2) tNil))))))))
theorem w_law_pushed {K : KF} (W : WX) (ds : List DV) (Ω : Om) (R : DV → Om → Prop) (X : Exc → Om → Prop) (h : sp_law_pushed K ds Ω R X) : WS K W (t_law_pushed K W) (startG 6 ds) Ω (fnO Ω R X) := by
  obtain ⟨k, p, l, a, b, rfl, hp, ip, hne, l20, zl, zb, q⟩ := h
  have hk := lt_of_get hp
  show WS K W (t_law_pushed K W) [some (.o k), some (.d (dBroad l)), some (.d (dWs a b)), none, none, none] Ω _
  unfold t_law_pushed
  generalize hT : tSeq (tAsg (tOp (rIx K) (tVar 1) (tVar 4)) (gName 5)) _ = tl
  have l1 : 1 ≤ l.length := by cases l with | nil => exact absurd rfl hne | cons c r => simp
  walk_at "hl"
  refine ⟨k, p, 13, rfl, hp, ip, by decide, by decide, fun r p1 r0 r1 ip => ?_⟩
  walk_at "hl"
  refine dn0 hk ip (by decide) (by decide) fun r' p1 r0' r1' ip => ?_
  refine wr_ix_ints (ns := [1, 2, 6]) rfl r0' (by simpa using r1') fun c hc => ?_
  have hc : 1 ≤ c ∧ c ≤ 6 := by simp at hc; omega
  walk_at "hl"
  refine ⟨r - 6, c, rfl, by omega, ⟨3, by omega, by decide⟩, ?_⟩
  have zby : Sz 4 (Rat.divInt (r - 6) c) := sz_of_divInt (by omega) (by omega) (by omega)
  generalize Rat.divInt (r - 6) c = by_ at zby ⊢
  walk_at "hl"
  rw [List.length_map, List.length_map]
  refine dn0 hk ip (by omega) (by omega) fun at_ p1 a0 a1 ip => ?_
  obtain ⟨j, rfl⟩ : ∃ j : Nat, at_ = j := ⟨at_.toNat, by omega⟩
  have hj : j < l.length := by omega
  obtain ⟨c, hcj⟩ : ∃ c, l[j]? = some c := ⟨_, List.getElem?_eq_getElem hj⟩
  have mc := List.mem_of_getElem? hcj
  have fin : ∀ p1, IsPool p1 → WS K W tl
      [some (.o k), some (.d (dBroad l)), some (.d (dWs a b)), some (.d (dR by_)), some (.d (.int (j : Int))), none] (Ω.set k p1) (fnO Ω R X) := fun p1 ip => by
    rw [← hT]
    walk_at "hl"
    refine wr_ixT (y := dBb c) (atI_nat (by rw [List.getElem?_map, hcj]; rfl)) ?_
    walk_at "hl"
    refine wsl_T ?_
    walk_at "hl"
    refine ⟨c.p, by_, rfl, ⟨900, 4, zl c mc, zby, by omega⟩, ?_⟩
    walk_at "hl"
    refine wsl_T (xs := [dR c.p, dR c.s, .int c.w, dR c.d]) ?_
    rw [cut_tail]
    walk_at "hl"
    refine wr_addT (by simp) ?_
    walk_at "hl"
    refine wr_addT (by rw [cut_to (by simp; omega)]; simp; omega) ?_
    walk_at "hl"
    refine wsl_T ?_
    walk_at "hl"
    have e1 : ((j : Int) + 1) = ((j + 1 : Nat) : Int) := by omega
    rw [e1, cut_to (by simp; omega), cut_from (by simp; omega)]
    refine wr_addT (by simp; omega) ?_
    walk_at "hl"
    have el : ∀ x : Bb, (l.map dBb).take j ++ [dBb x] ++ (l.map dBb).drop (j + 1) = (l.set j x).map dBb := fun x => by
      rw [List.map_set, List.set_eq_take_append_cons_drop, if_pos (by simp; omega)]; simp
    have e2 : (l.map dBb).take j ++ [.tuple ([dR (c.p + by_)] ++ [dR c.p, dR c.s, .int c.w, dR c.d].tail)] ++ (l.map dBb).drop (j + 1) = (l.set j ⟨c.p + by_, c.s, c.w, c.d⟩).map dBb := el ⟨c.p + by_, c.s, c.w, c.d⟩
    rw [e2]
    refine dr_same (q (l.set j ⟨c.p + by_, c.s, c.w, c.d⟩) b p1 (by simp) ?_ ?_ (zb.mono (by decide)) ip)
    · rw [List.map_set]
      exact set_self (by rw [List.getElem?_map, hcj]; rfl)
    · intro e he
      rcases List.mem_or_eq_of_mem_set he with he | rfl
      · exact ⟨(zl e he).mono (by decide), e, he, rfl, rfl, rfl⟩
      · exact ⟨((zl c mc).add zby).mono (by decide), c, mc, rfl, rfl, rfl⟩
  walk_at "hl"
  refine ws_go ?_
  walk_at "hl"
  cases b with
  | none =>
    refine bF rfl (bF rfl ?_)
    walk_at "hl"
    exact fin p1 ip
  | some b =>
    refine bT rfl ?_
    walk_at "hl"
    refine dn0 hk ip (by decide) (by decide) fun r2 p1 r20 r21 ip => ?_
    walk_at "hl"
    refine ⟨fun _ => ?_, fun _ => ?_⟩
    · walk_at "hl"
      refine ⟨b.1, by_, rfl, ⟨900, 4, zb.1, zby, by omega⟩, ?_⟩
      walk_at "hl"
      exact dr_same (q l (some (b.1 + by_, b.2)) p1 rfl rfl (fun e he => ⟨(zl e he).mono (by decide), e, he, rfl, rfl, rfl⟩) ⟨(zb.1.add zby).mono (by decide), zb.2.mono (by decide)⟩ ip)
    · walk_at "hl"
      exact fin p1 ip
theorem sp_len_law_pushed {K : KF} (ds : List DV) (Ω : Om) (R : DV → Om → Prop) (X : Exc → Om → Prop) (h : sp_law_pushed K ds Ω R X) : ds.length = 3 := by
  unfold sp_law_pushed at h
  first
    | (obtain ⟨rfl, _⟩ := h; rfl)
    | (obtain ⟨_, rfl, _⟩ := h; rfl)
    | (obtain ⟨_, _, rfl, _⟩ := h; rfl)
    | (obtain ⟨_, _, _, rfl, _⟩ := h; rfl)
    | (obtain ⟨_, _, _, _, rfl, _⟩ := h; rfl)
    | (obtain ⟨_, _, _, _, _, rfl, _⟩ := h; rfl)
    | (obtain ⟨_, _, _, _, _, _, rfl, _⟩ := h; rfl)
    | (obtain ⟨_, _, _, _, _, _, _, rfl, _⟩ := h; rfl)
    | (obtain ⟨_, _, _, _, _, _, _, _, rfl, _⟩ := h; rfl)
def sp_law_below (K : KF) : Spec := fun ds Ω R X => ∃ p q : Rat, ds = [.d (dR p), .d (dR q)] ∧ (∃ n m, Sz n p ∧ Sz m q ∧ n + m ≤ 900000) ∧ R (.d (.bool (decide (p < q)))) Ω
def t_law_below (K : KF) (W : WX) : TS :=
  (tRet (tOp oLt (tOp oMul (tOp (rIx K) (tVar 0) (tC (.int 0))) (tOp (rIx K) (tVar 1) (tC (.int 1)))) (tOp oMul (tOp (rIx K) (tVar 1) (tC (.int 0))) (tOp (rIx K) (tVar 0) (tC (.int 1))))))
theorem w_law_below {K : KF} (W : WX) (ds : List DV) (Ω : Om) (R : DV → Om → Prop) (X : Exc → Om → Prop) (h : sp_law_below K ds Ω R X) : WS K W (t_law_below K W) (startG 2 ds) Ω (fnO Ω R X) := by
  obtain ⟨p, q, rfl, ⟨n, m, hp, hq, hz⟩, k⟩ := h
  show WS K W (t_law_below K W) [some (.d (dR p)), some (.d (dR q))] Ω _
  unfold t_law_below
  obtain ⟨nn, nd, dn, dd⟩ := muls hp hq (by omega)
  obtain ⟨nn', nd', dn', dd'⟩ := muls hq hp (by omega)
  walk_at "hl"
  have e : decide (p.num * q.den < q.num * p.den) = decide (p < q) := decide_eq_decide.mpr (Rat.lt_iff p q).symm
  rw [e]
  exact dr_same k
theorem sp_len_law_below {K : KF} (ds : List DV) (Ω : Om) (R : DV → Om → Prop) (X : Exc → Om → Prop) (h : sp_law_below K ds Ω R X) : ds.length = 2 := by
  unfold sp_law_below at h
  first
    | (obtain ⟨rfl, _⟩ := h; rfl)
    | (obtain ⟨_, rfl, _⟩ := h; rfl)
    | (obtain ⟨_, _, rfl, _⟩ := h; rfl)
    | (obtain ⟨_, _, _, rfl, _⟩ := h; rfl)
    | (obtain ⟨_, _, _, _, rfl, _⟩ := h; rfl)
    | (obtain ⟨_, _, _, _, _, rfl, _⟩ := h; rfl)
    | (obtain ⟨_, _, _, _, _, _, rfl, _⟩ := h; rfl)
    | (obtain ⟨_, _, _, _, _, _, _, rfl, _⟩ := h; rfl)
    | (obtain ⟨_, _, _, _, _, _, _, _, rfl, _⟩ := h; rfl)
/-- a gap, or none -/
def sp_law_gap (K : KF) : Spec := fun ds Ω R X => ∃ (k : Nat) (p : OC), ds = [.o k] ∧ Ω[k]? = some p ∧ IsPool p ∧ ∀ (x : Rat) (p' : OC), Sz 4 x → 0 ≤ x → IsPool p' → R (.d (dR x)) (Ω.set k p')
def t_law_gap (K : KF) (W : WX) : TS :=
  (tSeq (tIfS (tTest (tOp (rEqD K) (tCall (FS K (sp_law_next K)) [] E0 (tCons (tVar 0) (tCons (tC (.int 6)) tNil))) (tC (.int 0)))) (tRet (tTup (tCons (tC (.int 0)) (tCons (tC (.int 1)) tNil)))) tNext)
    (tRet (tCall (FS K (sp_law_low K)) [] E0 (tCons (tOp (rAddX K) (tC (.int 1)) (tCall (FS K (sp_law_next K)) [] E0 (tCons (tVar 0) (tCons (tC (.int 12)) tNil)))) (tCons (tOp (rIx K) (tLst (tCons (tC (.int 1)) (tCons (tC (.int 2)) (tCons (tC (.int 3)) (tCons (tC (.int 6)) tNil))))) (tCall (FS K (sp_law_next K)) [] E0 (tCons (tVar 0) (tCons (tC (.int 4)) tNil)))) tNil)))))
theorem w_law_gap {K : KF} (W : WX) (ds : List DV) (Ω : Om) (R : DV → Om → Prop) (X : Exc → Om → Prop) (h : sp_law_gap K ds Ω R X) : WS K W (t_law_gap K W) (startG 1 ds) Ω (fnO Ω R X) := by
  obtain ⟨k, p, rfl, hp, ip, q⟩ := h
  have hk := lt_of_get hp
  show WS K W (t_law_gap K W) [some (.o k)] Ω _
  unfold t_law_gap
  walk_at "hl"
  refine ⟨k, p, 6, rfl, hp, ip, by decide, by decide, fun a p1 a0 a1 ip => ?_⟩
  walk_at "hl"
  refine ⟨fun _ => ?_, fun _ => ?_⟩
  · walk_at "hl"
    exact dr_same (q 0 p1 (sz_zero (by decide)) Rat.le_refl ip)
  walk_at "hl"
  refine dn0 hk ip (by decide) (by decide) fun a p1 a0 a1 ip => ?_
  walk_at "hl"
  refine dn0 hk ip (by decide) (by decide) fun r p1 r0 r1 ip => ?_
  refine wr_ix_ints (ns := [1, 2, 3, 6]) rfl r0 (by simpa using r1) fun b hb => ?_
  have hb : 1 ≤ b ∧ b ≤ 6 := by simp at hb; omega
  walk_at "hl"
  refine ⟨1 + a, b, rfl, by omega, ⟨4, by omega, by decide⟩, ?_⟩
  refine dr_same (q _ p1 (sz_of_divInt (by omega) (by omega) (by omega)) ?_ ip)
  rw [Rat.divInt_eq_div, Rat.div_def]
  exact Rat.le_of_lt (Rat.mul_pos (Rat.intCast_pos.mpr (by omega)) (Rat.inv_pos.mpr (Rat.intCast_pos.mpr (by omega))))
theorem dg {K : KF} {Ω J : Om} {k : Nat} {p : OC} {R : DV → Om → Prop} {X : Exc → Om → Prop} (hk : k < Ω.length) (ip : IsPool p) (q : ∀ (x : Rat) (p' : OC), Sz 4 x → 0 ≤ x → IsPool p' → R (.d (dR x)) (Ω.set k p' ++ J)) :
    sp_law_gap K [.o k] (Ω.set k p ++ J) R X := ⟨k, p, rfl, get_app (get_set hk), ip, fun x p' hx h0 ip' => by rw [set_app hk]; exact q x p' hx h0 ip'⟩
theorem dg0 {K : KF} {Ω : Om} {k : Nat} {p : OC} {R : DV → Om → Prop} {X : Exc → Om → Prop} (hk : k < Ω.length) (ip : IsPool p) (q : ∀ (x : Rat) (p' : OC), Sz 4 x → 0 ≤ x → IsPool p' → R (.d (dR x)) (Ω.set k p')) :
    sp_law_gap K [.o k] (Ω.set k p) R X := ⟨k, p, rfl, get_set hk, ip, fun x p' hx h0 ip' => by rw [List.set_set]; exact q x p' hx h0 ip'⟩
theorem sp_len_law_gap {K : KF} (ds : List DV) (Ω : Om) (R : DV → Om → Prop) (X : Exc → Om → Prop) (h : sp_law_gap K ds Ω R X) : ds.length = 1 := by
  unfold sp_law_gap at h
  first
    | (obtain ⟨rfl, _⟩ := h; rfl)
    | (obtain ⟨_, rfl, _⟩ := h; rfl)
    | (obtain ⟨_, _, rfl, _⟩ := h; rfl)
    | (obtain ⟨_, _, _, rfl, _⟩ := h; rfl)
    | (obtain ⟨_, _, _, _, rfl, _⟩ := h; rfl)
    | (obtain ⟨_, _, _, _, _, rfl, _⟩ := h; rfl)
    | (obtain ⟨_, _, _, _, _, _, rfl, _⟩ := h; rfl)
    | (obtain ⟨_, _, _, _, _, _, _, rfl, _⟩ := h; rfl)
    | (obtain ⟨_, _, _, _, _, _, _, _, rfl, _⟩ := h; rfl)
/-- a small speed -/
def sp_law_speed (K : KF) : Spec := fun ds Ω R X => ∃ (k : Nat) (p : OC), ds = [.o k] ∧ Ω[k]? = some p ∧ IsPool p ∧ ∀ (x : Rat) (p' : OC), Sz 4 x → IsPool p' → R (.d (dR x)) (Ω.set k p')
def t_law_speed (K : KF) (W : WX) : TS :=
  (tRet (tCall (FS K (sp_law_low K)) [] E0 (tCons (tOp oSub (tCall (FS K (sp_law_next K)) [] E0 (tCons (tVar 0) (tCons (tC (.int 13)) tNil))) (tC (.int 6))) (tCons (tOp (rIx K) (tLst (tCons (tC (.int 1)) (tCons (tC (.int 1)) (tCons (tC (.int 2)) (tCons (tC (.int 3)) tNil))))) (tCall (FS K (sp_law_next K)) [] E0 (tCons (tVar 0) (tCons (tC (.int 4)) tNil)))) tNil))))
theorem w_law_speed {K : KF} (W : WX) (ds : List DV) (Ω : Om) (R : DV → Om → Prop) (X : Exc → Om → Prop) (h : sp_law_speed K ds Ω R X) : WS K W (t_law_speed K W) (startG 1 ds) Ω (fnO Ω R X) := by
  obtain ⟨k, p, rfl, hp, ip, q⟩ := h
  have hk := lt_of_get hp
  show WS K W (t_law_speed K W) [some (.o k)] Ω _
  unfold t_law_speed
  walk_at "hl"
  refine ⟨k, p, 13, rfl, hp, ip, by decide, by decide, fun a p1 a0 a1 ip => ?_⟩
  walk_at "hl"
  refine dn0 hk ip (by decide) (by decide) fun r p1 r0 r1 ip => ?_
  refine wr_ix_ints (ns := [1, 1, 2, 3]) rfl r0 (by simpa using r1) fun b hb => ?_
  have hb : 1 ≤ b ∧ b ≤ 3 := by simp at hb; omega
  walk_at "hl"
  refine ⟨a - 6, b, rfl, by omega, ⟨4, by omega, by decide⟩, ?_⟩
  exact dr_same (q _ p1 (sz_of_divInt (by omega) (by omega) (by omega)) ip)
theorem dsp {K : KF} {Ω J : Om} {k : Nat} {p : OC} {R : DV → Om → Prop} {X : Exc → Om → Prop} (hk : k < Ω.length) (ip : IsPool p) (q : ∀ (x : Rat) (p' : OC), Sz 4 x → IsPool p' → R (.d (dR x)) (Ω.set k p' ++ J)) :
    sp_law_speed K [.o k] (Ω.set k p ++ J) R X := ⟨k, p, rfl, get_app (get_set hk), ip, fun x p' hx ip' => by rw [set_app hk]; exact q x p' hx ip'⟩
theorem dsp0 {K : KF} {Ω : Om} {k : Nat} {p : OC} {R : DV → Om → Prop} {X : Exc → Om → Prop} (hk : k < Ω.length) (ip : IsPool p) (q : ∀ (x : Rat) (p' : OC), Sz 4 x → IsPool p' → R (.d (dR x)) (Ω.set k p')) :
    sp_law_speed K [.o k] (Ω.set k p) R X := ⟨k, p, rfl, get_set hk, ip, fun x p' hx ip' => by rw [List.set_set]; exact q x p' hx ip'⟩
theorem sp_len_law_speed {K : KF} (ds : List DV) (Ω : Om) (R : DV → Om → Prop) (X : Exc → Om → Prop) (h : sp_law_speed K ds Ω R X) : ds.length = 1 := by
  unfold sp_law_speed at h
  first
    | (obtain ⟨rfl, _⟩ := h; rfl)
    | (obtain ⟨_, rfl, _⟩ := h; rfl)
    | (obtain ⟨_, _, rfl, _⟩ := h; rfl)
    | (obtain ⟨_, _, _, rfl, _⟩ := h; rfl)
    | (obtain ⟨_, _, _, _, rfl, _⟩ := h; rfl)
    | (obtain ⟨_, _, _, _, _, rfl, _⟩ := h; rfl)
    | (obtain ⟨_, _, _, _, _, _, rfl, _⟩ := h; rfl)
    | (obtain ⟨_, _, _, _, _, _, _, rfl, _⟩ := h; rfl)
    | (obtain ⟨_, _, _, _, _, _, _, _, rfl, _⟩ := h; rfl)
/-- a wall left (side -1) or right (side 1) of a ball -/
def sp_law_bound (K : KF) : Spec := fun ds Ω R X => ∃ (k : Nat) (p : OC) (b : Bl) (side : Int), ds = [.o k, .d (dB b), .d (.int side)] ∧ Ω[k]? = some p ∧ IsPool p ∧ Sz 300 b.p ∧ Sz 80 b.s ∧ (side = -1 ∨ side = 1) ∧
  ∀ (w : Wl) (p' : OC), (∀ q s, w = some (q, s) → Sz 310 q ∧ Sz 80 s) → (side = -1 → lowOk w [b] = true) → (side = 1 → highOk w [b] = true) → IsPool p' → R (.d (dW w)) (Ω.set k p')
def t_law_bound (K : KF) (W : WX) : TS :=
  (tSeqI (tIfS (tTest (tOp (rEqD K) (tCall (FS K (sp_law_next K)) [] E0 (tCons (tVar 0) (tCons (tC (.int 4)) tNil))) (tC (.int 0)))) (tRet (tC .non)) tNext)
    (tSeq (tAsg (tCall (FS K (sp_law_gap K)) [] E0 (tCons (tVar 0) tNil)) (gName 3))
    (tSeq (tAsg (tOp (rIx K) (tLst (tCons (tTup (tCons (tC (.int 0)) (tCons (tC (.int 1)) tNil))) (tCons (tTup (tCons (tC (.int 0)) (tCons (tC (.int 1)) tNil))) (tCons (tCall (FS K (sp_law_speed K)) [] E0 (tCons (tVar 0) tNil)) tNil)))) (tCall (FS K (sp_law_next K)) [] E0 (tCons (tVar 0) (tCons (tC (.int 3)) tNil)))) (gName 4))
    (tSeqI (tIfS (tAnd (tTest (tOp (rEqD K) (tVar 3) (tTup (tCons (tC (.int 0)) (tCons (tC (.int 1)) tNil))))) (tB (tCall (FS K (sp_law_below K)) [] E0 (tCons (tCall (FS K (sp_law_by K)) [] E0 (tCons (tTup (tCons (tVar 2) (tCons (tC (.int 1)) tNil))) (tCons (tVar 4) tNil))) (tCons (tCall (FS K (sp_law_by K)) [] E0 (tCons (tTup (tCons (tVar 2) (tCons (tC (.int 1)) tNil))) (tCons (tOp (rIx K) (tVar 1) (tC (.int 1))) tNil))) tNil))))) (tAsg (tOp (rIx K) (tVar 1) (tC (.int 1))) (gName 4)) tNext)
    (tRet (tTup (tCons (tCall (FS K (sp_law_add K)) [] E0 (tCons (tOp (rIx K) (tVar 1) (tC (.int 0))) (tCons (tCall (FS K (sp_law_by K)) [] E0 (tCons (tTup (tCons (tVar 2) (tCons (tC (.int 1)) tNil))) (tCons (tVar 3) tNil))) tNil))) (tCons (tVar 4) tNil))))))))
theorem w_law_bound {K : KF} (W : WX) (ds : List DV) (Ω : Om) (R : DV → Om → Prop) (X : Exc → Om → Prop) (h : sp_law_bound K ds Ω R X) : WS K W (t_law_bound K W) (startG 5 ds) Ω (fnO Ω R X) := by
  obtain ⟨k, p, b, side, rfl, hp, ip, zp, zs, hside, q⟩ := h
  have hk := lt_of_get hp
  show WS K W (t_law_bound K W) [some (.o k), some (.d (dB b)), some (.d (.int side)), none, none] Ω _
  unfold t_law_bound
  have zside : Sz 1 (side : Rat) := by rcases hside with rfl | rfl <;> exact ⟨by decide, by decide⟩
  refine ws_go ?_
  walk_at "hl"
  refine ⟨k, p, 4, rfl, hp, ip, by decide, by decide, fun way p1 w0 w1 ip => ?_⟩
  walk_at "hl"
  refine ⟨fun hw => ?_, fun hw => ?_⟩
  · walk_at "hl"
    exact dr_same (q none p1 (fun _ _ h => by cases h) (fun _ => rfl) (fun _ => rfl) ip)
  walk_at "hl"
  refine dg0 hk ip fun g p1 zg g0 ip => ?_
  walk_at "hl"
  refine dsp0 hk ip fun sp p1 hsp ip => ?_
  walk_at "hl"
  refine dn0 hk ip (by decide) (by decide) fun r p1 r0 r1 ip => ?_
  refine wr_ix_any r0 (by simpa using r1) fun u hu => ?_
  obtain ⟨s, rfl, hs⟩ : ∃ s, u = dR s ∧ Sz 80 s := by
    simp only [List.mem_cons, List.not_mem_nil, or_false] at hu
    rcases hu with rfl | rfl | rfl
    · exact ⟨0, rfl, sz_zero (by decide)⟩
    · exact ⟨0, rfl, sz_zero (by decide)⟩
    · exact ⟨sp, rfl, hsp.mono (by decide)⟩
  walk_at "hl"
  refine ws_cut (fun Γ Ω1 => ∃ s, Γ = [some (.o k), some (.d (dB b)), some (.d (.int side)), some (.d (dR g)), some (.d (dR s))] ∧ Ω1 = Ω.set k p1 ∧ Sz 80 s ∧ (g = 0 → (side = -1 → ¬ b.s < s) ∧ (side = 1 → ¬ s < b.s))) ?_ ?_
  · rintro Γ Ω1 ⟨s, rfl, rfl, hs, gs⟩
    walk_at "hl"
    refine ⟨(side : Rat), g, rfl, ⟨_, _, zside, zg, by decide⟩, ?_⟩
    walk_at "hl"
    refine ⟨_, _, rfl, ⟨_, _, zp, zside.mul zg, by decide⟩, ?_⟩
    walk_at "hl"
    have e : b.p + (side : Rat) * g = if side = -1 then b.p - g else b.p + g := by
      rcases hside with rfl | rfl
      · rw [if_pos rfl, show ((-1 : Int) : Rat) = -1 from rfl]; grind
      · rw [if_neg (by decide), show ((1 : Int) : Rat) = 1 from rfl]; grind
    refine dr_same (q (some (b.p + (side : Rat) * g, s)) p1 (fun q' s' h => by cases h; exact ⟨(zp.add (zside.mul zg)).mono (by decide), hs⟩) (fun h1 => ?_) (fun h1 => ?_) ip)
    · rw [e, if_pos h1]
      exact bound_low g0 fun h => (gs h).1 h1
    · rw [e, if_neg (by omega)]
      exact bound_high g0 fun h => (gs h).2 h1
  · walk_at "hl"
    refine wr_eqR (y := 0) ?_
    walk_at "hl"
    refine ⟨fun hg => ?_, fun hg => ?_⟩
    · have hg := of_decide_eq_true hg
      walk_at "hl"
      refine ⟨(side : Rat), s, rfl, ⟨_, _, zside, hs, by decide⟩, ?_⟩
      walk_at "hl"
      refine ⟨(side : Rat), b.s, rfl, ⟨_, _, zside, zs, by decide⟩, ?_⟩
      walk_at "hl"
      refine ⟨_, _, rfl, ⟨_, _, zside.mul hs, zside.mul zs, by decide⟩, ?_⟩
      walk_at "hl"
      refine ⟨fun h => ?_, fun h => ?_⟩
      · walk_at "hl"
        exact ⟨b.s, rfl, rfl, zs, fun _ => ⟨fun _ => Rat.lt_irrefl, fun _ => Rat.lt_irrefl⟩⟩
      · have h := of_decide_eq_false h
        walk_at "hl"
        refine ⟨s, rfl, rfl, hs, fun _ => ⟨fun e => ?_, fun e => ?_⟩⟩
        · subst e
          rw [show ((-1 : Int) : Rat) = -1 from rfl] at h
          grind
        · subst e
          rw [show ((1 : Int) : Rat) = 1 from rfl] at h
          grind
    · have hg := of_decide_eq_false hg
      refine bF rfl ?_
      walk_at "hl"
      exact ⟨s, rfl, rfl, hs, fun h => absurd h hg⟩
theorem sp_len_law_bound {K : KF} (ds : List DV) (Ω : Om) (R : DV → Om → Prop) (X : Exc → Om → Prop) (h : sp_law_bound K ds Ω R X) : ds.length = 3 := by
  unfold sp_law_bound at h
  first
    | (obtain ⟨rfl, _⟩ := h; rfl)
    | (obtain ⟨_, rfl, _⟩ := h; rfl)
    | (obtain ⟨_, _, rfl, _⟩ := h; rfl)
    | (obtain ⟨_, _, _, rfl, _⟩ := h; rfl)
    | (obtain ⟨_, _, _, _, rfl, _⟩ := h; rfl)
    | (obtain ⟨_, _, _, _, _, rfl, _⟩ := h; rfl)
    | (obtain ⟨_, _, _, _, _, _, rfl, _⟩ := h; rfl)
    | (obtain ⟨_, _, _, _, _, _, _, rfl, _⟩ := h; rfl)
    | (obtain ⟨_, _, _, _, _, _, _, _, rfl, _⟩ := h; rfl)
/-- walls around a row -/
def sp_law_box (K : KF) : Spec := fun ds Ω R X => ∃ (k : Nat) (p : OC) (l : List Bl), ds = [.o k, .d (dRow l)] ∧ Ω[k]? = some p ∧ IsPool p ∧ l ≠ [] ∧ (∀ b ∈ l, Sz 300 b.p ∧ Sz 80 b.s) ∧ Nb mayB l = true ∧
  ∀ (a b : Wl) (p' : OC), (∀ q s, a = some (q, s) → Sz 320 q ∧ Sz 80 s) → (∀ q s, b = some (q, s) → Sz 320 q ∧ Sz 80 s) → lowOk a l = true → highOk b l = true → apart a b = true → IsPool p' → R (.d (dWs a b)) (Ω.set k p')
def t_law_box (K : KF) (W : WX) : TS :=
  (tSeq (tAsg (tCall (FS K (sp_law_bound K)) [] E0 (tCons (tVar 0) (tCons (tOp (rIx K) (tVar 1) (tC (.int 0))) (tCons (tUn uNeg (tC (.int 1))) tNil)))) (gName 2))
    (tSeq (tAsg (tCall (FS K (sp_law_bound K)) [] E0 (tCons (tVar 0) (tCons (tOp (rIx K) (tVar 1) (tUn uNeg (tC (.int 1)))) (tCons (tC (.int 1)) tNil)))) (gName 3))
    (tSeqI (tIfS (tAnd (tTest (tOp oNotN (tVar 2) (tC .non))) (tAnd (tTest (tOp oNotN (tVar 3) (tC .non))) (tTest (tOp (rEqD K) (tOp (rIx K) (tVar 2) (tC (.int 0))) (tOp (rIx K) (tVar 3) (tC (.int 0))))))) (tAsg (tTup (tCons (tCall (FS K (sp_law_add K)) [] E0 (tCons (tOp (rIx K) (tVar 3) (tC (.int 0))) (tCons (tTup (tCons (tC (.int 1)) (tCons (tC (.int 1)) tNil))) tNil))) (tCons (tOp (rIx K) (tVar 3) (tC (.int 1))) tNil))) (gName 3)) tNext)
    (tRet (tTup (tCons (tVar 2) (tCons (tVar 3) tNil)))))))
theorem within_le {p s q t : Rat} (h : withinS p s q t = true) : p ≤ q := by
  unfold withinS at h
  rcases Bool.or_eq_true_iff.mp h with h | h
  · rw [(of_decide_eq_true h).1]; exact Rat.le_refl
  · unfold mayS at h
    split at h
    · rename_i e; rw [e]; exact Rat.le_refl
    · exact Rat.le_of_lt (of_decide_eq_true h)
theorem w_law_box {K : KF} (W : WX) (ds : List DV) (Ω : Om) (R : DV → Om → Prop) (X : Exc → Om → Prop) (h : sp_law_box K ds Ω R X) : WS K W (t_law_box K W) (startG 4 ds) Ω (fnO Ω R X) := by
  obtain ⟨k, p, l, rfl, hp, ip, hne, hz, hnb, q⟩ := h
  have hk := lt_of_get hp
  show WS K W (t_law_box K W) [some (.o k), some (.d (dRow l)), none, none] Ω _
  unfold t_law_box
  obtain ⟨c, r, ec⟩ : ∃ c r, l = c :: r := by
    cases l with
    | nil => exact absurd rfl hne
    | cons c r => exact ⟨c, r, rfl⟩
  obtain ⟨z, hzl⟩ : ∃ z, l.getLast? = some z := ⟨_, List.getLast?_eq_getLast hne⟩
  have zc := hz c (by rw [ec]; exact List.mem_cons_self ..)
  have zz := hz z (List.mem_of_getLast? hzl)
  have hcz : c.p ≤ z.p := by
    have := nb_head (f := mayB) (g := fun a b => a.p ≤ b.p) (fun a b h => may_le h) (fun a b c h1 h2 => Rat.le_trans h1 h2) (fun a => Rat.le_refl) (a := c) (l := r) (by rw [← ec]; exact hnb) z (by rw [← ec]; exact List.mem_of_getLast? hzl)
    exact this
  have hi' : ∀ w : Rat × Rat, highOk (some w) l = withinS z.p z.s w.1 w.2 := fun w => by
    show (match l.getLast? with | some c => withinS c.p c.s w.1 w.2 | none => true) = _
    rw [hzl]
  have lo' : ∀ w : Rat × Rat, lowOk (some w) l = withinS w.1 w.2 c.p c.s := fun w => by rw [ec]; rfl
  walk_at "hl"
  refine wr_ixRow (b := c) (by rw [ec]; exact atI_nat (j := 0) rfl) ?_
  walk_at "hl"
  refine ⟨k, p, c, -1, rfl, hp, ip, zc.1, zc.2, .inl rfl, fun a p1 za ha _ ip => ?_⟩
  walk_at "hl"
  refine wr_ixRow (at_last hzl) ?_
  walk_at "hl"
  refine ⟨k, p1, z, 1, rfl, get_set hk, ip, zz.1, zz.2, .inr rfl, fun b p1 zb _ hb ip => ?_⟩
  rw [List.set_set]
  have lo : lowOk a l = true := by
    have := ha rfl
    cases a with
    | none => rw [ec]; rfl
    | some a => rw [lo']; exact this
  have hi : highOk b l = true := by
    have := hb rfl
    cases b with
    | none => rfl
    | some b => rw [hi']; exact this
  have za2 : ∀ q s, a = some (q, s) → Sz 320 q ∧ Sz 80 s := fun q s e => ⟨(za q s e).1.mono (by decide), (za q s e).2⟩
  have zb2 : ∀ q s, b = some (q, s) → Sz 320 q ∧ Sz 80 s := fun q s e => ⟨(zb q s e).1.mono (by decide), (zb q s e).2⟩
  walk_at "hl"
  refine ws_cut (fun Γ Ω1 => ∃ b : Wl, Γ = [some (.o k), some (.d (dRow l)), some (.d (dW a)), some (.d (dW b))] ∧ Ω1 = Ω.set k p1 ∧ (∀ q s, b = some (q, s) → Sz 320 q ∧ Sz 80 s) ∧ highOk b l = true ∧ apart a b = true) ?_ ?_
  · rintro Γ Ω1 ⟨b, rfl, rfl, zb, hb, hap⟩
    walk_at "hl"
    exact dr_same (q a b p1 za2 zb lo hb hap ip)
  · walk_at "hl"
    cases a with
    | none =>
      refine bF rfl (bF rfl ?_)
      walk_at "hl"
      exact ⟨b, rfl, rfl, zb2, hi, by cases b <;> rfl⟩
    | some a =>
      refine bT rfl ?_
      walk_at "hl"
      cases b with
      | none =>
        refine bF rfl (bF rfl ?_)
        walk_at "hl"
        exact ⟨none, rfl, rfl, zb2, hi, rfl⟩
      | some b =>
        refine bT rfl ?_
        walk_at "hl"
        rw [lo'] at lo
        rw [hi'] at hi
        have l1 := within_le lo
        have l2 := within_le hi
        refine ⟨fun h => ?_, fun h => ?_⟩
        · walk_at "hl"
          refine ⟨b.1, ((1 : Int) : Rat), rfl, ⟨310, 1, (zb b.1 b.2 rfl).1, ⟨by decide, by decide⟩, by decide⟩, ?_⟩
          walk_at "hl"
          refine ⟨some (b.1 + ((1 : Int) : Rat), b.2), rfl, rfl, fun q s e => ?_, ?_, ?_⟩
          · cases e
            exact ⟨((zb b.1 b.2 rfl).1.add (m := 1) ⟨by decide, by decide⟩).mono (by decide), (zb b.1 b.2 rfl).2⟩
          · rw [hi', show ((1 : Int) : Rat) = 1 from rfl]
            unfold withinS mayS
            rw [if_neg (by show ¬ z.p = b.1 + 1; grind), decide_eq_true (show z.p < b.1 + 1 by grind), Bool.or_true]
          · rw [show ((1 : Int) : Rat) = 1 from rfl]
            exact decide_eq_true (by show a.1 < b.1 + 1; grind)
        · have h := of_decide_eq_false h
          walk_at "hl"
          refine ⟨some b, rfl, rfl, zb2, by rw [hi']; exact hi, decide_eq_true ?_⟩
          show a.1 < b.1
          grind
theorem sp_len_law_box {K : KF} (ds : List DV) (Ω : Om) (R : DV → Om → Prop) (X : Exc → Om → Prop) (h : sp_law_box K ds Ω R X) : ds.length = 2 := by
  unfold sp_law_box at h
  first
    | (obtain ⟨rfl, _⟩ := h; rfl)
    | (obtain ⟨_, rfl, _⟩ := h; rfl)
    | (obtain ⟨_, _, rfl, _⟩ := h; rfl)
    | (obtain ⟨_, _, _, rfl, _⟩ := h; rfl)
    | (obtain ⟨_, _, _, _, rfl, _⟩ := h; rfl)
    | (obtain ⟨_, _, _, _, _, rfl, _⟩ := h; rfl)
    | (obtain ⟨_, _, _, _, _, _, rfl, _⟩ := h; rfl)
    | (obtain ⟨_, _, _, _, _, _, _, rfl, _⟩ := h; rfl)
    | (obtain ⟨_, _, _, _, _, _, _, _, rfl, _⟩ := h; rfl)
/-- balls that come together -/
structure BundleOk (l : List Bl) (own place moment : Rat) (wh : Int) (alike : Bool) : Prop where
  nz : l ≠ []
  le : l.length ≤ 7
  w0 : ∀ b ∈ l, 1 ≤ b.w ∧ b.w ≤ 9
  pl : ∀ b ∈ l, b.p = place - b.s * moment
  ds : (l.map Bl.s).Pairwise (fun s t => t < s)
  al : alike = true → ∀ a ∈ l, ∀ b ∈ l, a.w = b.w
  s1 : wh = 1 → ∀ b ∈ l, b.s ≤ own
  s2 : wh = 2 → ∀ b ∈ l, own ≤ b.s
  so : wh ≠ 0 → ∃ b ∈ l, b.s ≠ own
  two : wh = 0 → 2 ≤ l.length
  zs : ∀ b ∈ l, Sz 44 b.s
  zp : ∀ b ∈ l, Sz 140 b.p
def sp_law_bundle (K : KF) : Spec := fun ds Ω R X => ∃ (k : Nat) (p : OC) (wh : Int) (place moment : Rat) (alike : Bool), ds = [.o k, .d (.int wh), .d (dR place), .d (dR moment), .d (.bool alike)] ∧ Ω[k]? = some p ∧ IsPool p ∧ 0 ≤ wh ∧ wh ≤ 2 ∧ Sz 80 place ∧ Sz 5 moment ∧
  ∀ (l : List Bl) (own : Rat) (p' : OC), BundleOk l own place moment wh alike → Sz 4 own → IsPool p' → R (.d (.tuple [dRow l, dW (some (place - own * moment, own))])) (Ω.set k p')
def t_law_bundle (K : KF) (W : WX) : TS :=
  (tSeq (tAsg (tCB rIntX (tCons (tAndV (tOp oGt (tVar 1) (tC (.int 0))) (tOp (rEqD K) (tCall (FS K (sp_law_next K)) [] E0 (tCons (tVar 0) (tCons (tC (.int 3)) tNil))) (tC (.int 0)))) tNil)) (gName 5))
    (tSeq (tAsg (tOp oSub (tOp (rIx K) (tLst (tCons (tC (.int 2)) (tCons (tC (.int 2)) (tCons (tC (.int 3)) (tCons (tC (.int 3)) (tCons (tC (.int 4)) (tCons (tC (.int 5)) (tCons (tC (.int 6)) (tCons (tC (.int 7)) tNil))))))))) (tCall (FS K (sp_law_next K)) [] E0 (tCons (tVar 0) (tCons (tC (.int 8)) tNil)))) (tVar 5)) (gName 6))
    (tSeq (tAsg (tOp (rIx K) (tLst (tCons (tTup (tCons (tC (.int 0)) (tCons (tC (.int 1)) tNil))) (tCons (tTup (tCons (tC (.int 0)) (tCons (tC (.int 1)) tNil))) (tCons (tCall (FS K (sp_law_speed K)) [] E0 (tCons (tVar 0) tNil)) tNil)))) (tCall (FS K (sp_law_next K)) [] E0 (tCons (tVar 0) (tCons (tC (.int 3)) tNil)))) (gName 7))
    (tSeq (tAsg (tLstO (tCons (tCall (FS K (sp_law_add K)) [] E0 (tCons (tVar 7) (tCons (tCall (FS K (sp_law_low K)) [] E0 (tCons (tOp (rAddX K) (tC (.int 1)) (tCall (FS K (sp_law_next K)) [] E0 (tCons (tVar 0) (tCons (tC (.int 3)) tNil)))) (tCons (tOp (rAddX K) (tC (.int 1)) (tCall (FS K (sp_law_next K)) [] E0 (tCons (tVar 0) (tCons (tC (.int 2)) tNil)))) tNil))) tNil))) tNil)) (gName 8))
    (tSeq (tFor (iRng1 (tCons (tOp oSub (tVar 6) (tC (.int 1))) tNil)) (gName 9) (tDrop (tBM K "list" rInsertS (tVar 8) (tCons (tC (.int 0)) (tCons (tCall (FS K (sp_law_add K)) [] E0 (tCons (tOp (rIx K) (tVar 8) (tC (.int 0))) (tCons (tCall (FS K (sp_law_low K)) [] E0 (tCons (tOp (rAddX K) (tC (.int 1)) (tCall (FS K (sp_law_next K)) [] E0 (tCons (tVar 0) (tCons (tC (.int 4)) tNil)))) (tCons (tOp (rAddX K) (tC (.int 1)) (tCall (FS K (sp_law_next K)) [] E0 (tCons (tVar 0) (tCons (tC (.int 3)) tNil)))) tNil))) tNil))) tNil)))))
    (tSeqI (tIfS (tTest (tOp (rEqD K) (tVar 1) (tC (.int 1)))) (tAsg (tLc (iSeq K (tUn (uRev K) (tVar 8))) (gName 12) tYes (tCall (FS K (sp_law_off K)) [] E0 (tCons (tCall (FS K (sp_law_add K)) [] E0 (tCons (tVar 7) (tCons (tVar 7) tNil))) (tCons (tVar 12) tNil))) [12]) (gName 8)) tNext)
    (tSeqI (tIfS (tAnd (tTest (tOp (rEqD K) (tVar 5) (tC (.int 1)))) (tTest (tOp (rEqD K) (tVar 1) (tC (.int 1))))) (tDrop (tBM K "list" rInsertS (tVar 8) (tCons (tC (.int 0)) (tCons (tVar 7) tNil)))) tNext)
    (tSeqI (tIfS (tAnd (tTest (tOp (rEqD K) (tVar 5) (tC (.int 1)))) (tTest (tOp (rEqD K) (tVar 1) (tC (.int 2))))) (tDrop (tBM K "list" rAppend (tVar 8) (tCons (tVar 7) tNil))) tNext)
    (tSeq (tAsg (tLc (iSeq K (tVar 8)) (gName 12) tYes (tOp (rAddX K) (tC (.int 1)) (tCall (FS K (sp_law_next K)) [] E0 (tCons (tVar 0) (tCons (tC (.int 9)) tNil)))) [12]) (gName 10))
    (tSeqI (tIfS (tB (tVar 4)) (tAsg (tOp rRep (tLstO (tCons (tOp (rIx K) (tVar 10) (tC (.int 0))) tNil)) (tCB (rLenQ K) (tCons (tVar 10) tNil))) (gName 10)) tNext)
    (tSeq (tAsg (tLst tNil) (gName 11))
    (tSeq (tFor (iEnum K (tCons (tVar 8) tNil)) (gTup K 2 (gCons (gName 9) (gCons (gName 12) gNil))) (tDrop (tBM K "list" rAppend (tVar 11) (tCons (tTup (tCons (tCall (FS K (sp_law_off K)) [] E0 (tCons (tVar 2) (tCons (tCall (FS K (sp_law_by K)) [] E0 (tCons (tVar 12) (tCons (tVar 3) tNil))) tNil))) (tCons (tVar 12) (tCons (tOp (rIx K) (tVar 10) (tVar 9)) tNil)))) tNil))))
    (tRet (tTup (tCons (tCB (rTupQ K) (tCons (tVar 11) tNil)) (tCons (tTup (tCons (tCall (FS K (sp_law_off K)) [] E0 (tCons (tVar 2) (tCons (tCall (FS K (sp_law_by K)) [] E0 (tCons (tVar 7) (tCons (tVar 3) tNil))) tNil))) (tCons (tVar 7) tNil))) tNil))))))))))))))))
structure Spd (ss : List Rat) (own : Rat) (wh : Int) : Prop where
  nz : ss ≠ []
  ds : ss.Pairwise (fun s t => t < s)
  s1 : wh = 1 → ∀ s ∈ ss, s ≤ own
  s2 : wh = 2 → ∀ s ∈ ss, own ≤ s
  so : ∃ s ∈ ss, s ≠ own
  two : wh = 0 → 2 ≤ ss.length
  zs : ∀ s ∈ ss, Sz 44 s
theorem pos_divInt {a b : Int} (ha : 0 < a) (hb : 0 < b) : (0 : Rat) < Rat.divInt a b := by
  rw [Rat.divInt_eq_div, Rat.div_def]
  exact Rat.mul_pos (Rat.intCast_pos.mpr ha) (Rat.inv_pos.mpr (Rat.intCast_pos.mpr hb))
theorem get_mid {Ω J : Om} {x : OC} {n : Nat} (e : n = Ω.length + J.length) : (Ω ++ (J ++ [x]))[n]? = some x := by
  subst e; rw [← List.append_assoc, ← List.length_append, get_last]
theorem set_mid {Ω J : Om} {x y : OC} {n : Nat} (e : n = Ω.length + J.length) : (Ω ++ (J ++ [x])).set n y = Ω ++ (J ++ [y]) := by
  subst e; rw [← List.append_assoc, ← List.length_append, set_last, List.append_assoc]
theorem w_law_bundle {K : KF} (W : WX) (ds : List DV) (Ω : Om) (R : DV → Om → Prop) (X : Exc → Om → Prop) (h : sp_law_bundle K ds Ω R X) : WS K W (t_law_bundle K W) (startG 13 ds) Ω (fnO Ω R X) := by
  obtain ⟨k, p, wh, place, moment, alike, rfl, hp, ip, wh0, wh2, zpl, zmo, q⟩ := h
  have hk := lt_of_get hp
  show WS K W (t_law_bundle K W) [some (.o k), some (.d (.int wh)), some (.d (dR place)), some (.d (dR moment)), some (.d (.bool alike)), none, none, none, none, none, none, none, none] Ω _
  unfold t_law_bundle
  have le1 : ∀ p, (Ω.set k p).length = Ω.length := fun p => List.length_set
  have pos : ∀ {a b : Int}, 1 ≤ a → a ≤ 4 → 1 ≤ b → b ≤ 3 → (0 : Rat) < Rat.divInt a b ∧ Sz 3 (Rat.divInt a b) := fun h1 h2 h3 h4 => ⟨pos_divInt (by omega) (by omega), sz_of_divInt (by omega) (by omega) (by omega)⟩
  refine ws_cut (fun Γ Ω1 => ∃ (p1 : OC) (rest : Int), Γ = [some (.o k), some (.d (.int wh)), some (.d (dR place)), some (.d (dR moment)), some (.d (.bool alike)), some (.d (.int rest)), none, none, none, none, none, none, none] ∧ Ω1 = Ω.set k p1 ∧ IsPool p1 ∧ (rest = 0 ∨ rest = 1 ∧ 0 < wh)) ?_ ?_
  rotate_left
  · walk_at "hl"
    refine ⟨fun h => ?_, fun h => ?_⟩
    · have h := of_decide_eq_true h
      walk_at "hl"
      refine ⟨k, p, 3, rfl, hp, ip, by decide, by decide, fun r p1 r0 r1 ip => ?_⟩
      walk_at "hl"
      refine ⟨p1, _, rfl, rfl, ip, ?_⟩
      by_cases e : r = 0
      · rw [decide_eq_true e]; exact .inr ⟨rfl, h⟩
      · rw [decide_eq_false e]; exact .inl rfl
    · walk_at "hl"
      exact ⟨p, 0, rfl, (set_self hp).symm, ip, .inl rfl⟩
  rintro Γ Ω1 ⟨p1, rest, rfl, rfl, ip, hrest⟩
  walk_at "hl"
  refine dn0 hk ip (by decide) (by decide) fun r p1 r0 r1 ip => ?_
  refine wr_ix_ints (ns := [2, 2, 3, 3, 4, 5, 6, 7]) rfl r0 (by simpa using r1) fun mm hmm => ?_
  have hmm : 2 ≤ mm ∧ mm ≤ 7 := by simp at hmm; omega
  walk_at "hl"
  obtain ⟨many, hmany⟩ : ∃ many, mm - rest = many := ⟨_, rfl⟩
  rw [hmany]
  have hm1 : 1 ≤ many ∧ many ≤ 7 ∧ (wh = 0 → 2 ≤ many) ∧ (rest = 1 → many ≤ 6) := by omega
  refine dsp0 hk ip fun sp p1 zsp ip => ?_
  walk_at "hl"
  refine dn0 hk ip (by decide) (by decide) fun r p1 r0 r1 ip => ?_
  refine wr_ix_any r0 (by simpa using r1) fun y hy => ?_
  obtain ⟨own, rfl, zo⟩ : ∃ own, y = dR own ∧ Sz 4 own := by
    rcases List.mem_cons.mp hy with rfl | hy
    · exact ⟨0, rfl, sz_zero (by decide)⟩
    rcases List.mem_cons.mp hy with rfl | hy
    · exact ⟨0, rfl, sz_zero (by decide)⟩
    rcases List.mem_cons.mp hy with rfl | hy
    · exact ⟨sp, rfl, zsp⟩
    · cases hy
  clear hy
  walk_at "hl"
  refine dn0 hk ip (by decide) (by decide) fun a p1 a0 a1 ip => ?_
  walk_at "hl"
  refine dn0 hk ip (by decide) (by decide) fun b p1 b0 b1 ip => ?_
  walk_at "hl"
  refine ⟨1 + a, 1 + b, rfl, by omega, ⟨3, by omega, by decide⟩, ?_⟩
  walk_at "hl"
  have hd := pos (a := 1 + a) (b := 1 + b) (by omega) (by omega) (by omega) (by omega)
  refine ⟨own, _, rfl, ⟨4, 3, zo, hd.2, by omega⟩, ?_⟩
  walk_at "hl"
  rw [le1]
  refine ws_for (wi_rng1 ?_)
  walk_at "hl"
  refine ⟨_, rfl, by omega, by omega, ?_⟩
  let Up : List Rat → Nat → Prop := fun ss n => ss.length = n ∧ ss.Pairwise (fun s t => t < s) ∧ (∀ s ∈ ss, own < s) ∧ ∀ s ∈ ss, Sz (4 * n + 4) s
  have hget : ∀ p2 ds, (Ω.set k p2 ++ [OC.lst ds])[Ω.length]? = some (.lst ds) := fun p2 ds => by rw [← le1 p2, get_last]
  refine ⟨fun i Γ Ω1 => ∃ (ss : List Rat) (p2 : OC) (c9 : Option DV), Γ = [some (.o k), some (.d (.int wh)), some (.d (dR place)), some (.d (dR moment)), some (.d (.bool alike)), some (.d (.int rest)), some (.d (.int many)), some (.d (dR own)), some (.o Ω.length), c9, none, none, none] ∧
    Ω1 = Ω.set k p2 ++ [.lst ((ss.map dR).map DV.d)] ∧ IsPool p2 ∧ Up ss (i + 1), ⟨[own + Rat.divInt (1 + a) (1 + b)], p1, none, rfl, rfl, ip, rfl, by simp, ?_, ?_⟩, ?_, ?_, ?_⟩
  · exact all_cons (by have := hd.1; grind) all_nil
  · exact all_cons (zo.add hd.2) all_nil
  · rintro i Γ Ω1 - ⟨ss, p2, c9, rfl, rfl, -, -⟩
    exact ⟨trivial, by simp⟩
  · rintro i y Γ Ω1 hy ⟨ss, p2, c9, rfl, rfl, ip, el, hp, ho, hz⟩
    obtain ⟨hi, rfl⟩ := rng_get hy
    obtain ⟨s, t, rfl⟩ : ∃ s t, ss = s :: t := by
      cases ss with
      | nil => cases el
      | cons s t => exact ⟨s, t, rfl⟩
    have ix : atI (((s :: t).map dR).map DV.d) 0 = some (.d (dR s)) := atI_nat (j := 0) rfl
    walk_at "hl"
    refine ⟨⟨_, by show sqO _ = _; rw [hget]; rfl, rfl⟩, ?_⟩
    walk_at "hl"
    refine wr_ix (by show sqO _ = _; rw [hget]; rfl) ix ?_
    walk_at "hl"
    refine dn hk ip (by decide) (by decide) fun a p1 a0 a1 ip => ?_
    walk_at "hl"
    refine dn hk ip (by decide) (by decide) fun b p1 b0 b1 ip => ?_
    walk_at "hl"
    refine ⟨1 + a, 1 + b, rfl, by omega, ⟨3, by omega, by decide⟩, ?_⟩
    walk_at "hl"
    have hd := pos (a := 1 + a) (b := 1 + b) (by omega) (by omega) (by omega) (by omega)
    have hs := hz s (List.mem_cons_self ..)
    have hs0 := ho s (List.mem_cons_self ..)
    have hlt : s < s + Rat.divInt (1 + a) (1 + b) := by have := hd.1; grind
    refine ⟨s, _, rfl, ⟨_, 3, hs, hd.2, by omega⟩, ?_⟩
    walk_at "hl"
    refine wm_insert (hget _ _) (by simp at el ⊢; omega) (by decide) (by decide) ⟨(s + Rat.divInt (1 + a) (1 + b)) :: s :: t, p1, _, rfl, ?_, ip, by simp at el ⊢; omega, ?_, ?_, ?_⟩
    · rw [← le1 p1, set_last]; simp
    · refine List.pairwise_cons.mpr ⟨all_cons hlt fun x hx => ?_, hp⟩
      have := (List.pairwise_cons.mp hp).1 x hx
      grind
    · exact all_cons (by grind) ho
    · exact all_cons ((hs.add hd.2).mono (by omega)) fun x hx => (hz x hx).mono (by omega)
  rintro Γ Ω1 ⟨ss, p2, c9, rfl, rfl, ip, el, hp, ho, hz⟩
  rw [List.length_map, List.length_range] at el hz
  have el : (ss.length : Int) = many := by omega
  have hz : ∀ s ∈ ss, Sz 32 s := fun s hs => (hz s hs).mono (by omega)
  clear hd a0 a1 b0 b1
  walk_at "hl"
  let M : (List Rat → Prop) → Gm → Om → Prop := fun F Γ Ω1 => ∃ (J : Om) (ss : List Rat) (p2 : OC) (c9 c12 : Option DV), Γ = [some (.o k), some (.d (.int wh)), some (.d (dR place)), some (.d (dR moment)), some (.d (.bool alike)), some (.d (.int rest)), some (.d (.int many)), some (.d (dR own)), some (.o (Ω.length + J.length)), c9, none, none, c12] ∧
    Ω1 = Ω.set k p2 ++ (J ++ [.lst ((ss.map dR).map DV.d)]) ∧ IsPool p2 ∧ F ss
  have ln : ∀ p2 (J : Om), Ω.length + J.length = (Ω.set k p2).length + J.length := fun p2 J => by rw [le1]
  have getM : ∀ p2 (J : Om) x, (Ω.set k p2 ++ (J ++ [x]))[Ω.length + J.length]? = some x := fun p2 J x => get_mid (ln p2 J)
  have setM : ∀ p2 (J : Om) x y, (Ω.set k p2 ++ (J ++ [x])).set (Ω.length + J.length) y = Ω.set k p2 ++ (J ++ [y]) := fun p2 J x y => set_mid (ln p2 J)
  refine ws_cut (M fun ss => ss.length = many ∧ ss.Pairwise (fun s t => t < s) ∧ (wh = 1 → ∀ s ∈ ss, s < own) ∧ (wh ≠ 1 → ∀ s ∈ ss, own < s) ∧ ∀ s ∈ ss, Sz 44 s) ?_ ?_
  rotate_left
  · walk_at "hl"
    refine ⟨fun h => ?_, fun h => ?_⟩
    · have h := of_decide_eq_true h
      walk_at "hl"
      refine we_lcO (α := Rat) only1 (wi_L dR ss.reverse ?_)
      walk_at "hl"
      refine wu_revL (by rw [← le1 p2, lsL_last]; exact asDs_data _) ⟨by rw [List.map_reverse], ?_⟩
      refine ⟨ss.reverse, _, fun _ => true, fun s => dR (own + own - s), rfl, by simp; omega, rfl, fun _ => trivial, ?_, ?_⟩
      · rintro s Ω' hs -
        have hs := List.mem_reverse.mp hs
        walk_at "hl"
        refine ⟨rfl, rfl, fun _ => ?_⟩
        walk_at "hl"
        refine ⟨own, own, rfl, ⟨4, 4, zo, zo, by omega⟩, ?_⟩
        walk_at "hl"
        exact ⟨own + own, s, rfl, ⟨9, 32, zo.add zo, hz s hs, by omega⟩, rfl, rfl⟩
      · rw [filter_yes]
        walk_at "hl"
        refine ⟨[.lst ((ss.map dR).map DV.d)], ss.reverse.map (fun s => own + own - s), p2, c9, none, ?_, ?_, ip, ?_, ?_, ?_, fun e => absurd h e, ?_⟩
        · simp
        · simp
        · simp; omega
        · rw [List.pairwise_map, List.pairwise_reverse]
          exact hp.imp fun {s t} h => by grind
        · intro _ s hs
          obtain ⟨t, ht, rfl⟩ := List.mem_map.mp hs
          have := ho t (List.mem_reverse.mp ht)
          grind
        · intro s hs
          obtain ⟨t, ht, rfl⟩ := List.mem_map.mp hs
          exact ((zo.add zo).sub (hz t (List.mem_reverse.mp ht))).mono (by omega)
    · have h := of_decide_eq_false h
      walk_at "hl"
      exact ⟨[], ss, p2, _, _, rfl, rfl, ip, el, hp, fun e => absurd e h, fun _ => ho, fun s hs => (hz s hs).mono (by omega)⟩
  rintro Γ Ω1 ⟨J, ss, p2, c9, c12, rfl, rfl, ip, el, hp, h1, h2, hz⟩
  have hne : ss ≠ [] := fun e => by rw [e] at el; simp at el; omega
  have son : ∃ s ∈ ss, s ≠ own := by
    obtain ⟨s, t, rfl⟩ := List.exists_cons_of_ne_nil hne
    refine ⟨s, List.mem_cons_self .., fun e => ?_⟩
    by_cases hw : wh = 1
    · have := h1 hw s (List.mem_cons_self ..); grind
    · have := h2 hw s (List.mem_cons_self ..); grind
  walk_at "hl"
  refine ws_cut (M fun ss => ss.length ≤ 7 ∧ (wh ≠ 1 → (ss.length : Int) = many) ∧ ss ≠ [] ∧ ss.Pairwise (fun s t => t < s) ∧ (wh = 1 → ∀ s ∈ ss, s ≤ own) ∧ (wh ≠ 1 → ∀ s ∈ ss, own < s) ∧ (∃ s ∈ ss, s ≠ own) ∧ ∀ s ∈ ss, Sz 44 s) ?_ ?_
  rotate_left
  · have base : (M fun ss => ss.length ≤ 7 ∧ (wh ≠ 1 → (ss.length : Int) = many) ∧ ss ≠ [] ∧ ss.Pairwise (fun s t => t < s) ∧ (wh = 1 → ∀ s ∈ ss, s ≤ own) ∧ (wh ≠ 1 → ∀ s ∈ ss, own < s) ∧ (∃ s ∈ ss, s ≠ own) ∧ ∀ s ∈ ss, Sz 44 s) _ _ :=
      ⟨J, ss, p2, c9, c12, rfl, rfl, ip, by omega, fun _ => el, hne, hp, fun e s hs => Rat.le_of_lt (h1 e s hs), h2, son, hz⟩
    walk_at "hl"
    refine ⟨fun hr => ?_, fun _ => ?_⟩
    · have hr := of_decide_eq_true hr
      walk_at "hl"
      refine ⟨fun hw => ?_, fun _ => ?_⟩
      · have hw := of_decide_eq_true hw
        walk_at "hl"
        refine ⟨⟨_, by show sqO _ = _; rw [getM]; rfl, rfl⟩, ?_⟩
        walk_at "hl"
        refine wm_insert (getM _ _ _) (by simp; omega) (by decide) (by decide) ⟨J, own :: ss, p2, c9, c12, rfl, ?_, ip, ?_, fun e => absurd hw e, by simp, ?_, ?_, fun e => absurd hw e, ?_, ?_⟩
        · rw [setM]; simp
        · simp; omega
        · exact List.pairwise_cons.mpr ⟨h1 hw, hp⟩
        · exact fun _ => all_cons Rat.le_refl fun s hs => Rat.le_of_lt (h1 hw s hs)
        · obtain ⟨s, hs, hn⟩ := son
          exact ⟨s, List.mem_cons_of_mem _ hs, hn⟩
        · exact all_cons (zo.mono (by omega)) hz
      · walk_at "hl"
        exact base
    · refine bF rfl ?_
      walk_at "hl"
      exact base
  rintro Γ Ω1 ⟨J, ss, p2, c9, c12, rfl, rfl, ip, el, el2, hne, hp, h1, h2, son, hz⟩
  walk_at "hl"
  refine ws_cut (M fun ss => ss.length ≤ 7 ∧ Spd ss own wh) ?_ ?_
  rotate_left
  · have base : (M fun ss => ss.length ≤ 7 ∧ Spd ss own wh) _ _ :=
      ⟨J, ss, p2, c9, c12, rfl, rfl, ip, el, hne, hp, h1, fun e s hs => Rat.le_of_lt (h2 (by omega) s hs), son, fun e => by have := el2 (by omega); omega, hz⟩
    walk_at "hl"
    refine ⟨fun hr => ?_, fun _ => ?_⟩
    · have hr := of_decide_eq_true hr
      walk_at "hl"
      refine ⟨fun hw => ?_, fun _ => ?_⟩
      · have hw := of_decide_eq_true hw
        have h2 := h2 (by omega)
        have el2 := el2 (by omega)
        walk_at "hl"
        refine ⟨⟨_, by show sqO _ = _; rw [getM]; rfl, rfl⟩, ?_⟩
        walk_at "hl"
        refine wm_append (getM _ _ _) (by simp; omega) ⟨J, ss ++ [own], p2, c9, c12, rfl, ?_, ip, ?_, by simp, ?_, fun e => by omega, ?_, ?_, fun e => by omega, ?_⟩
        · rw [setM]; simp
        · simp; omega
        · exact List.pairwise_append.mpr ⟨hp, by simp, fun s hs t ht => by rw [List.mem_singleton.mp ht]; exact h2 s hs⟩
        · exact fun _ => all_app (fun s hs => Rat.le_of_lt (h2 s hs)) (all_cons Rat.le_refl all_nil)
        · obtain ⟨s, hs, hn⟩ := son
          exact ⟨s, List.mem_append_left _ hs, hn⟩
        · exact all_app hz (all_cons (zo.mono (by omega)) all_nil)
      · walk_at "hl"
        exact base
    · refine bF rfl ?_
      walk_at "hl"
      exact base
  clear el el2 hne hp h1 h2 son hz
  rintro Γ Ω1 ⟨J, ss, p2, c9, c12, rfl, rfl, ip, el, hs⟩
  walk_at "hl"
  have hkB : ∀ p2 L, k < (Ω.set k p2 ++ L : Om).length := fun p2 L => by simp; omega
  have setB : ∀ p2 p3 (L : Om), (Ω.set k p2 ++ L).set k p3 = Ω.set k p3 ++ L := fun p2 p3 L => set_app hk
  have getK : ∀ p2 (L : Om), (Ω.set k p2 ++ L)[k]? = some p2 := fun p2 L => get_app (get_set hk)
  refine we_lcK (k := k) only1 (hkB _ _) (wi_seqL ?_)
  walk_at "hl"
  refine ⟨(ss.map dR).map DV.d, by show sqO _ = _; rw [getM]; rfl, p2, fun i acc => ∃ ws : List Int, acc = ws.map PyData.int ∧ ∀ w ∈ ws, 1 ≤ w ∧ w ≤ 9, (set_self (getK _ _)).symm, ip, by simp; omega, ?_, ⟨[], rfl, fun _ h => by cases h⟩, ?_, ?_⟩
  · intro p' ds _
    show sqO _ = _
    rw [setB, List.getElem?_append_left (by simp), getM]
    rfl
  · rintro i y acc p3 hy ip hi ⟨ws, rfl, hws⟩
    rw [setB]
    walk_at "hl"
    refine ⟨rfl, ?_⟩
    walk_at "hl"
    rw [List.append_assoc]
    refine dn hk ip (by decide) (by decide) fun r p4 r0 r1 ip => ?_
    walk_at "hl"
    refine ⟨.int (1 + r), p4, rfl, by rw [setB]; simp, ip, ws ++ [1 + r], by simp, all_app hws (all_cons (by omega) all_nil)⟩
  rintro acc p3 ip hacc ⟨ws, rfl, hws⟩
  have elw : ws.length = ss.length := by simpa using hacc
  rw [setB]
  walk_at "hl"
  refine ws_cut (fun Γ Ω1 => ∃ (J2 : Om) (ws : List Int), Γ = [some (.o k), some (.d (.int wh)), some (.d (dR place)), some (.d (dR moment)), some (.d (.bool alike)), some (.d (.int rest)), some (.d (.int many)), some (.d (dR own)), some (.o (Ω.length + J.length)), c9, some (.d (.list (ws.map PyData.int))), none, c12] ∧
    Ω1 = Ω.set k p3 ++ (J ++ [.lst ((ss.map dR).map DV.d)]) ++ J2 ∧ ws.length = ss.length ∧ (∀ w ∈ ws, 1 ≤ w ∧ w ≤ 9) ∧ (alike = true → ∀ a ∈ ws, ∀ b ∈ ws, a = b)) ?_ ?_
  rotate_left
  · walk_at "hl"
    refine ⟨fun ha => ?_, fun ha => ?_⟩
    · obtain ⟨w0, wr, rfl⟩ : ∃ w0 wr, ws = w0 :: wr := by
        cases ws with
        | nil => exact absurd (List.eq_nil_of_length_eq_zero elw.symm) hs.nz
        | cons a b => exact ⟨a, b, rfl⟩
      walk_at "hl"
      refine wr_ixL (atI_nat (j := 0) rfl) ?_
      walk_at "hl"
      refine wr_rep1 (by simp at elw ⊢; omega) (by simp at elw ⊢; omega) ?_
      walk_at "hl"
      refine ⟨_, List.replicate (w0 :: wr).length w0, ?_, rfl, by rw [List.length_replicate, elw], fun w hw => ?_, fun _ a ha b hb => ?_⟩
      · simp
      · rw [(List.mem_replicate.mp hw).2]; exact hws w0 (List.mem_cons_self ..)
      · rw [(List.mem_replicate.mp ha).2, (List.mem_replicate.mp hb).2]
    · walk_at "hl"
      exact ⟨[], ws, rfl, (List.append_nil _).symm, elw, hws, fun e => by rw [ha] at e; cases e⟩
  clear elw hws hacc
  rintro Γ Ω1 ⟨J2, ws, rfl, rfl, elw, hws, hal⟩
  walk_at "hl"
  refine ws_for (wi_enumL ?_)
  walk_at "hl"
  let mk : Rat × Int → Bl := fun x => ⟨place - x.1 * moment, x.1, x.2⟩
  have lsS : ∀ L : Om, lsL (Ω.set k p3 ++ (J ++ [OC.lst ((ss.map dR).map DV.d)]) ++ L) (.o (Ω.length + J.length)) = some (ss.map dR) := fun L => by
    show (sqO _).bind asDs = _
    rw [List.getElem?_append_left (by simp), getM]
    exact asDs_data _
  generalize hB : Ω.set k p3 ++ (J ++ [OC.lst ((ss.map dR).map DV.d)]) ++ J2 = B
  have lsB : ∀ L : Om, lsL (B ++ L) (.o (Ω.length + J.length)) = some (ss.map dR) := fun L => by rw [← hB, List.append_assoc]; exact lsS _
  have zl : (ss.zip ws).length = ss.length := by rw [List.length_zip]; omega
  refine ⟨_, ss.map dR, rfl, lsB _, ?_⟩
  refine ⟨fun i Γ Ω1 => ∃ (c9 c12 : Option DV), Γ = [some (.o k), some (.d (.int wh)), some (.d (dR place)), some (.d (dR moment)), some (.d (.bool alike)), some (.d (.int rest)), some (.d (.int many)), some (.d (dR own)), some (.o (Ω.length + J.length)), c9, some (.d (.list (ws.map PyData.int))), some (.o B.length), c12] ∧
    Ω1 = B ++ [.lst (((((ss.zip ws).take i).map mk).map dB).map DV.d)], ⟨c9, c12, rfl, rfl⟩, ?_, ?_, ?_⟩
  · rintro i Γ Ω1 - ⟨c9, c12, rfl, rfl⟩
    exact ⟨lsB _, by simp⟩
  · rintro i y Γ Ω1 hy ⟨c9, c12, rfl, rfl⟩
    obtain ⟨hi, rfl⟩ := rng_get hy
    rw [List.length_map] at hi
    obtain ⟨s, es⟩ : ∃ s, ss[i]? = some s := ⟨_, List.getElem?_eq_getElem hi⟩
    obtain ⟨w, ew⟩ : ∃ w, ws[i]? = some w := ⟨_, List.getElem?_eq_getElem (by omega)⟩
    have ez : (ss.zip ws)[i]? = some (s, w) := List.getElem?_zip_eq_some.mpr ⟨es, ew⟩
    have ey : (ss.map dR).getD i .none = dR s := by rw [List.getD_eq_getElem?_getD, List.getElem?_map, es]; rfl
    rw [ey]
    have zs := hs.zs s (List.mem_of_getElem? es)
    walk_at "hl"
    refine ⟨⟨_, sq_last _ _, rfl⟩, ?_⟩
    walk_at "hl"
    refine ⟨s, moment, rfl, ⟨44, 5, zs, zmo, by omega⟩, ?_⟩
    walk_at "hl"
    refine ⟨place, s * moment, rfl, ⟨80, 49, zpl, zs.mul zmo, by omega⟩, ?_⟩
    walk_at "hl"
    refine wr_ixL (y := .int w) (atI_nat (by rw [List.getElem?_map, ew]; rfl)) ?_
    walk_at "hl"
    refine wm_appL (by simp; omega) ⟨_, _, rfl, ?_⟩
    rw [List.take_add_one, ez]
    simp [mk, dB]
  · rintro Γ Ω1 ⟨c9, c12, rfl, rfl⟩
    have en : (enumD (ss.map dR)).length = (ss.zip ws).length := by unfold enumD; rw [zl]; simp
    rw [en, List.take_length]
    walk_at "hl"
    refine wc_tup' (xs := ((ss.zip ws).map mk).map dB) (by rw [ls_last]; exact asDs_data _) ?_
    walk_at "hl"
    refine ⟨own, moment, rfl, ⟨4, 5, zo, zmo, by omega⟩, ?_⟩
    walk_at "hl"
    refine ⟨place, own * moment, rfl, ⟨80, 9, zpl, zo.mul zmo, by omega⟩, ?_⟩
    walk_at "hl"
    have em : ((ss.zip ws).map mk).map Bl.s = ss := by
      rw [List.map_map]
      show (ss.zip ws).map Prod.fst = ss
      rw [List.map_fst_zip (by omega)]
    have mem : ∀ b ∈ (ss.zip ws).map mk, ∃ s w, s ∈ ss ∧ w ∈ ws ∧ b = mk (s, w) := fun b hb => by
      obtain ⟨⟨s, w⟩, hx, rfl⟩ := List.mem_map.mp hb
      have := List.of_mem_zip hx
      exact ⟨s, w, this.1, this.2, rfl⟩
    have el0 : ((ss.zip ws).map mk).length = ss.length := by rw [List.length_map, zl]
    have back : ∀ s ∈ ss, ∃ b ∈ (ss.zip ws).map mk, b.s = s := fun s hs => by
      rw [← em] at hs
      obtain ⟨b, hb, e⟩ := List.mem_map.mp hs
      exact ⟨b, hb, e⟩
    rw [← hB, List.append_assoc, List.append_assoc, List.append_assoc]
    refine dr_pool hk ip (q ((ss.zip ws).map mk) own p3 ⟨fun e => hs.nz (List.eq_nil_of_length_eq_zero (by rw [← el0, e]; rfl)), by rw [el0]; exact el, ?_, ?_, by rw [em]; exact hs.ds, ?_, ?_, ?_, ?_, ?_, ?_, ?_⟩ zo ip) (fun i h => by cases h)
    · intro b hb
      obtain ⟨s, w, h1, h2, rfl⟩ := mem b hb
      exact hws w h2
    · intro b hb
      obtain ⟨s, w, h1, h2, rfl⟩ := mem b hb
      rfl
    · intro ha a hx b hb
      obtain ⟨s, w, h1, h2, rfl⟩ := mem b hb
      obtain ⟨s', w', h1', h2', rfl⟩ := mem a hx
      exact hal ha w' h2' w h2
    · intro e b hb
      obtain ⟨s, w, h1, h2, rfl⟩ := mem b hb
      exact hs.s1 e s h1
    · intro e b hb
      obtain ⟨s, w, h1, h2, rfl⟩ := mem b hb
      exact hs.s2 e s h1
    · intro _
      obtain ⟨s, h1, h2⟩ := hs.so
      obtain ⟨b, hb, e⟩ := back s h1
      exact ⟨b, hb, by rw [e]; exact h2⟩
    · intro e
      rw [el0]; exact hs.two e
    · intro b hb
      obtain ⟨s, w, h1, h2, rfl⟩ := mem b hb
      exact hs.zs s h1
    · intro b hb
      obtain ⟨s, w, h1, h2, rfl⟩ := mem b hb
      exact (zpl.sub ((hs.zs s h1).mul zmo)).mono (by omega)
theorem sp_len_law_bundle {K : KF} (ds : List DV) (Ω : Om) (R : DV → Om → Prop) (X : Exc → Om → Prop) (h : sp_law_bundle K ds Ω R X) : ds.length = 5 := by
  unfold sp_law_bundle at h
  first
    | (obtain ⟨rfl, _⟩ := h; rfl)
    | (obtain ⟨_, rfl, _⟩ := h; rfl)
    | (obtain ⟨_, _, rfl, _⟩ := h; rfl)
    | (obtain ⟨_, _, _, rfl, _⟩ := h; rfl)
    | (obtain ⟨_, _, _, _, rfl, _⟩ := h; rfl)
    | (obtain ⟨_, _, _, _, _, rfl, _⟩ := h; rfl)
    | (obtain ⟨_, _, _, _, _, _, rfl, _⟩ := h; rfl)
    | (obtain ⟨_, _, _, _, _, _, _, rfl, _⟩ := h; rfl)
    | (obtain ⟨_, _, _, _, _, _, _, _, rfl, _⟩ := h; rfl)
/-- a digit of a great base -/
def sp_law_wide (K : KF) : Spec := fun ds Ω R X => ∃ (k : Nat) (p : OC) (b : Int), ds = [.o k, .d (.int b)] ∧ Ω[k]? = some p ∧ IsPool p ∧ 0 < b ∧ b ≤ 10 ^ 30 ∧ Drawn k Ω b R
def t_law_wide (K : KF) (W : WX) : TS :=
  (tSeq (tIfS (tTest (tOp oLt (tVar 1) (tOp oPow (tC (.int 10)) (tC (.int 8))))) (tRet (tCall (FS K (sp_law_next K)) [] E0 (tCons (tVar 0) (tCons (tVar 1) tNil)))) tNext)
    (tSeq (tAsg (tC (.int 0)) (gName 2))
    (tSeq (tFor (iRng1 (tCons (tC (.int 4)) tNil)) (gName 3) (tAsg (tOp (rAddX K) (tOp oMul (tVar 2) (tOp oPow (tC (.int 2)) (tC (.int 28)))) (tCall (FS K (sp_law_next K)) [] E0 (tCons (tVar 0) (tCons (tOp oPow (tC (.int 2)) (tC (.int 28))) tNil)))) (gName 2)))
    (tRet (tOp oMod (tVar 2) (tVar 1))))))
theorem wide_step {f r : Int} {i : Nat} (h0 : 0 ≤ f) (h : f < (2 : Int) ^ (28 * i)) (r0 : 0 ≤ r) (r1 : r < 2 ^ 28) : 0 ≤ f * 2 ^ 28 + r ∧ f * 2 ^ 28 + r < (2 : Int) ^ (28 * (i + 1)) := by
  rw [show 28 * (i + 1) = 28 * i + 28 by omega, Int.pow_add]
  generalize (2 : Int) ^ (28 * i) = t at *
  omega
theorem w_law_wide {K : KF} (W : WX) (ds : List DV) (Ω : Om) (R : DV → Om → Prop) (X : Exc → Om → Prop) (h : sp_law_wide K ds Ω R X) : WS K W (t_law_wide K W) (startG 4 ds) Ω (fnO Ω R X) := by
  obtain ⟨k, p, b, rfl, hp, ip, b0, b1, q⟩ := h
  have hk := lt_of_get hp
  show WS K W (t_law_wide K W) [some (.o k), some (.d (.int b)), none, none] Ω _
  unfold t_law_wide
  walk_at "hl"
  refine wr_pow ⟨by decide, by decide, by decide⟩ ?_
  walk_at "hl"
  refine ⟨fun hb => ?_, fun hb => ?_⟩
  · walk_at "hl"
    exact ⟨k, p, b, rfl, hp, ip, b0, b1, fun r p' r0 r1 ip' => dr_same (q r p' r0 r1 ip')⟩
  walk_at "hl"
  refine ws_for (wi_rng1 ?_)
  walk_at "hl"
  refine ⟨_, rfl, by decide, by decide, ?_⟩
  refine ⟨fun i Γ Ω1 => ∃ f p2 s, Γ = [some (.o k), some (.d (.int b)), some (.d (.int f)), s] ∧ Ω1 = Ω.set k p2 ∧ IsPool p2 ∧ 0 ≤ f ∧ f < (2 : Int) ^ (28 * i), ⟨0, p, none, rfl, (set_self hp).symm, ip, by decide, by decide⟩, ?_, ?_, ?_⟩
  · rintro i Γ Ω1 - ⟨f, p2, s, rfl, rfl, ip2, -⟩
    exact ⟨trivial, by simp⟩
  · rintro i y Γ Ω1 hy ⟨f, p2, s, rfl, rfl, ip2, f0, f1⟩
    have hi := lt_of_get hy
    have hi : i < 4 := by simpa using hi
    walk_at "hl"
    refine wr_pow ⟨by decide, by decide, by decide⟩ ?_
    walk_at "hl"
    refine wr_pow ⟨by decide, by decide, by decide⟩ ?_
    walk_at "hl"
    refine ⟨k, p2, _, rfl, get_set hk, ip2, by decide, by decide, fun r2 p3 r20 r21 ip3 => ?_⟩
    walk_at "hl"
    have st := wide_step f0 f1 r20 r21
    exact ⟨_, p3, _, rfl, by rw [List.set_set], ip3, st.1, st.2⟩
  · rintro Γ Ω1 ⟨f, p2, s, rfl, rfl, ip2, f0, f1⟩
    walk_at "hl"
    refine wr_modP b0 ?_
    exact dr_same (q _ p2 (Int.emod_nonneg _ (by omega)) (Int.emod_lt_of_pos _ b0) ip2)
theorem dw0 {K : KF} {Ω : Om} {k : Nat} {p : OC} {b : Int} {R : DV → Om → Prop} {X : Exc → Om → Prop} (hk : k < Ω.length) (ip : IsPool p) (h0 : 0 < b) (h1 : b ≤ 10 ^ 30) (q : ∀ (r : Int) (p' : OC), 0 ≤ r → r < b → IsPool p' → R (.d (.int r)) (Ω.set k p')) :
    sp_law_wide K [.o k, .d (.int b)] (Ω.set k p) R X := ⟨k, p, b, rfl, get_set hk, ip, h0, h1, fun r p' r0 r1 ip' => by rw [List.set_set]; exact q r p' r0 r1 ip'⟩
theorem sp_len_law_wide {K : KF} (ds : List DV) (Ω : Om) (R : DV → Om → Prop) (X : Exc → Om → Prop) (h : sp_law_wide K ds Ω R X) : ds.length = 2 := by
  unfold sp_law_wide at h
  first
    | (obtain ⟨rfl, _⟩ := h; rfl)
    | (obtain ⟨_, rfl, _⟩ := h; rfl)
    | (obtain ⟨_, _, rfl, _⟩ := h; rfl)
    | (obtain ⟨_, _, _, rfl, _⟩ := h; rfl)
    | (obtain ⟨_, _, _, _, rfl, _⟩ := h; rfl)
    | (obtain ⟨_, _, _, _, _, rfl, _⟩ := h; rfl)
    | (obtain ⟨_, _, _, _, _, _, rfl, _⟩ := h; rfl)
    | (obtain ⟨_, _, _, _, _, _, _, rfl, _⟩ := h; rfl)
    | (obtain ⟨_, _, _, _, _, _, _, _, rfl, _⟩ := h; rfl)
/-- a ratio -/
def sp_law_ratio (K : KF) : Spec := fun ds Ω R X => ∃ (k : Nat) (p : OC) (z : Int), ds = [.o k, .d (.int z)] ∧ Ω[k]? = some p ∧ IsPool p ∧ 1 ≤ z ∧ z ≤ 10 ^ 6 ∧ ∀ (x : Rat) (p' : OC), Sz 80 x → IsPool p' → R (.d (dR x)) (Ω.set k p')
def t_law_ratio (K : KF) (W : WX) : TS :=
  (tSeq (tAsg (tOp (rIx K) (tLst (tCons (tC (.int 1)) (tCons (tC (.int 1)) (tCons (tC (.int 1)) (tCons (tC (.int 2)) (tCons (tC (.int 3)) (tCons (tC (.int 4)) (tCons (tC (.int 6)) (tCons (tOp oPow (tC (.int 10)) (tC (.int 5))) tNil))))))))) (tCall (FS K (sp_law_next K)) [] E0 (tCons (tVar 0) (tCons (tC (.int 8)) tNil)))) (gName 2))
    (tSeq (tIfS (tTest (tOp (rEqD K) (tCall (FS K (sp_law_next K)) [] E0 (tCons (tVar 0) (tCons (tC (.int 16)) tNil))) (tC (.int 0)))) (tRet (tCall (FS K (sp_law_low K)) [] E0 (tCons (tOp oSub (tCall (FS K (sp_law_wide K)) [] E0 (tCons (tVar 0) (tCons (tOp (rAddX K) (tOp oMul (tC (.int 2)) (tOp oPow (tC (.int 10)) (tC (.int 20)))) (tC (.int 1))) tNil))) (tOp oPow (tC (.int 10)) (tC (.int 20)))) (tCons (tVar 2) tNil)))) tNext)
    (tRet (tCall (FS K (sp_law_low K)) [] E0 (tCons (tOp oSub (tCall (FS K (sp_law_next K)) [] E0 (tCons (tVar 0) (tCons (tOp (rAddX K) (tOp oMul (tC (.int 2)) (tVar 1)) (tC (.int 1))) tNil))) (tVar 1)) (tCons (tVar 2) tNil))))))
theorem w_law_ratio {K : KF} (W : WX) (ds : List DV) (Ω : Om) (R : DV → Om → Prop) (X : Exc → Om → Prop) (h : sp_law_ratio K ds Ω R X) : WS K W (t_law_ratio K W) (startG 3 ds) Ω (fnO Ω R X) := by
  obtain ⟨k, p, z, rfl, hp, ip, z0, z1, q⟩ := h
  have hk := lt_of_get hp
  show WS K W (t_law_ratio K W) [some (.o k), some (.d (.int z)), none] Ω _
  unfold t_law_ratio
  walk_at "hl"
  refine wr_pow ⟨by decide, by decide, by decide⟩ ?_
  walk_at "hl"
  refine ⟨k, p, 8, rfl, hp, ip, by decide, by decide, fun r p1 r0 r1 ip => ?_⟩
  refine wr_ix_ints (ns := [1, 1, 1, 2, 3, 4, 6, 100000]) rfl r0 (by simpa using r1) fun b hb => ?_
  have hb : 1 ≤ b ∧ b ≤ 100000 := by simp at hb; omega
  walk_at "hl"
  refine dn0 hk ip (by decide) (by decide) fun r2 p1 _ _ ip => ?_
  walk_at "hl"
  refine ⟨fun _ => ?_, fun _ => ?_⟩
  · walk_at "hl"
    refine wr_pow ⟨by decide, by decide, by decide⟩ ?_
    refine wr_mul (.inl (.inl ⟨by decide, by decide⟩)) ?_
    walk_at "hl"
    refine dw0 hk ip (by decide) (by decide) fun f p1 f0 f1 ip => ?_
    have f1 : f < 2 * 10 ^ 20 + 1 := f1
    walk_at "hl"
    refine wr_pow ⟨by decide, by decide, by decide⟩ ?_
    walk_at "hl"
    rw [show (10 : Int) ^ (20 : Int).toNat = 10 ^ 20 from rfl]
    refine ⟨f - 10 ^ 20, b, rfl, by omega, ⟨80, by omega, by decide⟩, ?_⟩
    exact dr_same (q _ p1 (sz_of_divInt (by omega) (by omega) (by omega)) ip)
  · walk_at "hl"
    refine dn0 hk ip (by omega) (by omega) fun f p1 f0 f1 ip => ?_
    walk_at "hl"
    refine ⟨f - z, b, rfl, by omega, ⟨80, by omega, by decide⟩, ?_⟩
    exact dr_same (q _ p1 (sz_of_divInt (by omega) (by omega) (by omega)) ip)
theorem drz0 {K : KF} {Ω : Om} {k : Nat} {p : OC} {z : Int} {R : DV → Om → Prop} {X : Exc → Om → Prop} (hk : k < Ω.length) (ip : IsPool p) (z0 : 1 ≤ z) (z1 : z ≤ 10 ^ 6) (q : ∀ (x : Rat) (p' : OC), Sz 80 x → IsPool p' → R (.d (dR x)) (Ω.set k p')) :
    sp_law_ratio K [.o k, .d (.int z)] (Ω.set k p) R X := ⟨k, p, z, rfl, get_set hk, ip, z0, z1, fun x p' hx ip' => by rw [List.set_set]; exact q x p' hx ip'⟩
theorem sp_len_law_ratio {K : KF} (ds : List DV) (Ω : Om) (R : DV → Om → Prop) (X : Exc → Om → Prop) (h : sp_law_ratio K ds Ω R X) : ds.length = 2 := by
  unfold sp_law_ratio at h
  first
    | (obtain ⟨rfl, _⟩ := h; rfl)
    | (obtain ⟨_, rfl, _⟩ := h; rfl)
    | (obtain ⟨_, _, rfl, _⟩ := h; rfl)
    | (obtain ⟨_, _, _, rfl, _⟩ := h; rfl)
    | (obtain ⟨_, _, _, _, rfl, _⟩ := h; rfl)
    | (obtain ⟨_, _, _, _, _, rfl, _⟩ := h; rfl)
    | (obtain ⟨_, _, _, _, _, _, rfl, _⟩ := h; rfl)
    | (obtain ⟨_, _, _, _, _, _, _, rfl, _⟩ := h; rfl)
    | (obtain ⟨_, _, _, _, _, _, _, _, rfl, _⟩ := h; rfl)
def focL (wh : Int) (own place moment : Rat) : Wl := if wh = 1 then some (place - own * moment, own) else none
def focH (wh : Int) (own place moment : Rat) : Wl := if wh = 2 then some (place - own * moment, own) else none
def sp_law_focused (K : KF) : Spec := fun ds Ω R X => ∃ (k : Nat) (p : OC) (alike : Bool), ds = [.o k, .d (.bool alike)] ∧ Ω[k]? = some p ∧ IsPool p ∧
  ∀ (l : List Bl) (wh : Int) (own place moment : Rat) (p' : OC), 0 ≤ wh → wh ≤ 2 → BundleOk l own place moment wh alike → Sz 4 own → Sz 80 place → Sz 5 moment → 0 < moment → IsPool p' → R (.d (dRW (l, focL wh own place moment, focH wh own place moment))) (Ω.set k p')
def t_law_focused (K : KF) (W : WX) : TS :=
  (tSeq (tAsg (tCall (FS K (sp_law_low K)) [] E0 (tCons (tOp (rAddX K) (tC (.int 1)) (tCall (FS K (sp_law_next K)) [] E0 (tCons (tVar 0) (tCons (tC (.int 9)) tNil)))) (tCons (tOp (rIx K) (tLst (tCons (tC (.int 1)) (tCons (tC (.int 2)) (tCons (tC (.int 3)) tNil)))) (tCall (FS K (sp_law_next K)) [] E0 (tCons (tVar 0) (tCons (tC (.int 3)) tNil)))) tNil))) (gName 2))
    (tSeq (tAsg (tCall (FS K (sp_law_next K)) [] E0 (tCons (tVar 0) (tCons (tC (.int 3)) tNil))) (gName 3))
    (tSeq (tAsg (tCall (FS K (sp_law_bundle K)) [] E0 (tCons (tVar 0) (tCons (tVar 3) (tCons (tCall (FS K (sp_law_ratio K)) [] E0 (tCons (tVar 0) (tCons (tC (.int 12)) tNil))) (tCons (tVar 2) (tCons (tVar 1) tNil)))))) (gTup K 2 (gCons (gName 4) (gCons (gName 5) gNil))))
    (tSeq (tAsg (tLstO (tCons (tC .non) (tCons (tC .non) tNil))) (gName 6))
    (tSeqI (tIfS (tTest (tOp oGt (tVar 3) (tC (.int 0)))) (tAsg (tVar 5) (gSub (tVar 6) (tOp oSub (tVar 3) (tC (.int 1))) rSetL)) tNext)
    (tRet (tTup (tCons (tVar 4) (tCons (tCB (rTupQ K) (tCons (tVar 6) tNil)) tNil)))))))))
theorem w_law_focused {K : KF} (W : WX) (ds : List DV) (Ω : Om) (R : DV → Om → Prop) (X : Exc → Om → Prop) (h : sp_law_focused K ds Ω R X) : WS K W (t_law_focused K W) (startG 7 ds) Ω (fnO Ω R X) := by
  obtain ⟨k, p, alike, rfl, hp, ip, q⟩ := h
  have hk := lt_of_get hp
  show WS K W (t_law_focused K W) [some (.o k), some (.d (.bool alike)), none, none, none, none, none] Ω _
  unfold t_law_focused
  have le1 : ∀ p, (Ω.set k p).length = Ω.length := fun p => List.length_set
  walk_at "hl"
  refine ⟨k, p, 9, rfl, hp, ip, by decide, by decide, fun a p1 a0 a1 ip => ?_⟩
  walk_at "hl"
  refine dn0 hk ip (by decide) (by decide) fun r p1 r0 r1 ip => ?_
  refine wr_ix_ints (ns := [1, 2, 3]) rfl r0 (by simpa using r1) fun b hb => ?_
  have hb : 1 ≤ b ∧ b ≤ 3 := by simp at hb; omega
  walk_at "hl"
  refine ⟨1 + a, b, rfl, by omega, ⟨3, by omega, by decide⟩, ?_⟩
  have zmo : Sz 5 (Rat.divInt (1 + a) b) := sz_of_divInt (by omega) (by omega) (by omega)
  have hmo : (0 : Rat) < Rat.divInt (1 + a) b := pos_divInt (by omega) (by omega)
  generalize Rat.divInt (1 + a) b = moment at zmo hmo ⊢
  walk_at "hl"
  refine dn0 hk ip (by decide) (by decide) fun wh p1 wh0 wh1 ip => ?_
  walk_at "hl"
  refine drz0 hk ip (by decide) (by decide) fun place p1 zpl ip => ?_
  walk_at "hl"
  refine ⟨k, p1, wh, place, moment, alike, rfl, get_set hk, ip, wh0, by omega, zpl, zmo, fun l own p1 bo zo ip => ?_⟩
  rw [List.set_set]
  walk_at "hl"
  refine ws_cut (fun Γ Ω1 => Γ = [some (.o k), some (.d (.bool alike)), some (.d (dR moment)), some (.d (.int wh)), some (.d (dRow l)), some (.d (dW (some (place - own * moment, own)))), some (.o Ω.length)] ∧
    Ω1 = Ω.set k p1 ++ [.lst [.d (dW (focL wh own place moment)), .d (dW (focH wh own place moment))]]) ?_ ?_
  · rintro Γ Ω1 ⟨rfl, rfl⟩
    walk_at "hl"
    refine wc_tup' (xs := [dW (focL wh own place moment), dW (focH wh own place moment)]) (by rw [← le1 p1, ls_last]; rfl) ?_
    walk_at "hl"
    exact dr_pool hk ip (q l wh own place moment p1 wh0 (by omega) bo zo zpl zmo hmo ip) (fun i h => by cases h)
  · walk_at "hl"
    rw [le1]
    have hget : ∀ p2 ds, (Ω.set k p2 ++ [OC.lst ds])[Ω.length]? = some (.lst ds) := fun p2 ds => by rw [← le1 p2, get_last]
    have hset : ∀ p2 ds ds', (Ω.set k p2 ++ [OC.lst ds]).set Ω.length (.lst ds') = Ω.set k p2 ++ [.lst ds'] := fun p2 ds ds' => by rw [← le1 p2, set_last]
    refine ⟨fun h => ?_, fun h => ?_⟩
    · have h := of_decide_eq_true h
      walk_at "hl"
      refine wg_subL (W := W) ?_ trivial
      walk_at "hl"
      have hw : wh = 1 ∨ wh = 2 := by omega
      rcases hw with rfl | rfl
      · refine ⟨_, _, 0, 0, rfl, rfl, hget _ _, rfl, ?_⟩
        refine ⟨rfl, ?_⟩
        rw [hset]; rfl
      · refine ⟨_, _, 1, 1, rfl, rfl, hget _ _, rfl, ?_⟩
        refine ⟨rfl, ?_⟩
        rw [hset]; rfl
    · have h := of_decide_eq_false h
      walk_at "hl"
      have hw : wh = 0 := by omega
      subst hw
      exact ⟨rfl, rfl⟩
theorem sp_len_law_focused {K : KF} (ds : List DV) (Ω : Om) (R : DV → Om → Prop) (X : Exc → Om → Prop) (h : sp_law_focused K ds Ω R X) : ds.length = 2 := by
  unfold sp_law_focused at h
  first
    | (obtain ⟨rfl, _⟩ := h; rfl)
    | (obtain ⟨_, rfl, _⟩ := h; rfl)
    | (obtain ⟨_, _, rfl, _⟩ := h; rfl)
    | (obtain ⟨_, _, _, rfl, _⟩ := h; rfl)
    | (obtain ⟨_, _, _, _, rfl, _⟩ := h; rfl)
    | (obtain ⟨_, _, _, _, _, rfl, _⟩ := h; rfl)
    | (obtain ⟨_, _, _, _, _, _, rfl, _⟩ := h; rfl)
    | (obtain ⟨_, _, _, _, _, _, _, rfl, _⟩ := h; rfl)
    | (obtain ⟨_, _, _, _, _, _, _, _, rfl, _⟩ := h; rfl)
/-- so many weights -/
def sp_law_weights (K : KF) : Spec := fun ds Ω R X => ∃ (k : Nat) (p : OC) (many : Nat), ds = [.o k, .d (.int many)] ∧ Ω[k]? = some p ∧ IsPool p ∧ many ≤ 1000 ∧ ∀ (ws : List Int) (p' : OC), ws.length = many → (∀ w ∈ ws, 1 ≤ w ∧ w ≤ 1000) → IsPool p' → R (.d (.list (ws.map PyData.int))) (Ω.set k p')
def t_law_weights (K : KF) (W : WX) : TS :=
  (tSeq (tAsg (tCall (FS K (sp_law_next K)) [] E0 (tCons (tVar 0) (tCons (tC (.int 3)) tNil))) (gName 2))
    (tSeq (tIfS (tTest (tOp (rEqD K) (tVar 2) (tC (.int 0)))) (tRet (tOp rRep (tLstO (tCons (tOp (rIx K) (tLst (tCons (tC (.int 1)) (tCons (tC (.int 5)) (tCons (tC (.int 1000)) tNil)))) (tCall (FS K (sp_law_next K)) [] E0 (tCons (tVar 0) (tCons (tC (.int 3)) tNil)))) tNil)) (tVar 1))) tNext)
    (tRet (tLc (iRng1 (tCons (tVar 1) tNil)) (gName 3) tYes (tOp (rAddX K) (tC (.int 1)) (tCall (FS K (sp_law_next K)) [] E0 (tCons (tVar 0) (tCons (tOp (rIx K) (tLst (tCons (tC (.int 9)) (tCons (tC (.int 1000)) tNil))) (tOp oSub (tVar 2) (tC (.int 1)))) tNil)))) [3]))))
theorem w_law_weights {K : KF} (W : WX) (ds : List DV) (Ω : Om) (R : DV → Om → Prop) (X : Exc → Om → Prop) (h : sp_law_weights K ds Ω R X) : WS K W (t_law_weights K W) (startG 4 ds) Ω (fnO Ω R X) := by
  obtain ⟨k, p, many, rfl, hp, ip, hm, q⟩ := h
  have hk := lt_of_get hp
  show WS K W (t_law_weights K W) [some (.o k), some (.d (.int many)), none, none] Ω _
  unfold t_law_weights
  walk_at "hl"
  refine ⟨k, p, 3, rfl, hp, ip, by decide, by decide, fun sort p1 s0 s1 ip => ?_⟩
  walk_at "hl"
  refine ⟨fun _ => ?_, fun hs => ?_⟩
  · walk_at "hl"
    refine dn0 hk ip (by decide) (by decide) fun r p1 r0 r1 ip => ?_
    refine wr_ix_ints (ns := [1, 5, 1000]) rfl r0 (by simpa using r1) fun w hw => ?_
    have hw : 1 ≤ w ∧ w ≤ 1000 := by simp at hw; omega
    walk_at "hl"
    refine wr_rep1 (by omega) (by omega) ?_
    refine dr_pool hk ip ?_ (fun i h => by cases h)
    have := q (List.replicate many w) p1 List.length_replicate (fun v hv => by rw [(List.mem_replicate.mp hv).2]; exact hw) ip
    rw [List.map_replicate] at this
    exact this
  · have hs : sort = 1 ∨ sort = 2 := by
      have := of_decide_eq_false hs
      omega
    walk_at "hl"
    have hk1 : k < (Ω.set k p1).length := by rw [List.length_set]; exact hk
    refine we_lcK (k := k) only1 hk1 (wi_rng1 ?_)
    walk_at "hl"
    refine ⟨many, rfl, by omega, by omega, p1, fun i acc => ∃ ws : List Int, acc = ws.map PyData.int ∧ ∀ w ∈ ws, 1 ≤ w ∧ w ≤ 1000, by rw [List.set_set], ip, by simp; omega, fun _ _ _ => trivial, ⟨[], rfl, fun _ h => by cases h⟩, ?_, ?_⟩
    · rintro i y acc p2 hy ip2 hi ⟨ws, rfl, hws⟩
      rw [List.set_set]
      walk_at "hl"
      refine ⟨rfl, ?_⟩
      walk_at "hl"
      obtain ⟨b, eb, hb0, hb1⟩ : ∃ b : Int, atI [PyData.int 9, PyData.int 1000] (sort - 1) = some (.int b) ∧ 0 < b ∧ b ≤ 1000 := by
        rcases hs with rfl | rfl
        · exact ⟨9, rfl, by decide, by decide⟩
        · exact ⟨1000, rfl, by decide, by decide⟩
      refine wr_ixL eb ?_
      walk_at "hl"
      refine dn hk ip2 hb0 (by omega) fun r p3 r0 r1 ip3 => ?_
      walk_at "hl"
      refine ⟨.int (1 + r), p3, rfl, by rw [List.set_set], ip3, ws ++ [1 + r], by simp, fun w hw => ?_⟩
      rcases List.mem_append.mp hw with hw | hw
      · exact hws w hw
      · rw [List.mem_singleton.mp hw]; omega
    · rintro acc p2 ip2 hl ⟨ws, rfl, hws⟩
      rw [List.set_set]
      refine dr_same (q ws p2 ?_ hws ip2)
      rw [List.length_map] at hl
      rw [hl]
      simp
theorem sp_len_law_weights {K : KF} (ds : List DV) (Ω : Om) (R : DV → Om → Prop) (X : Exc → Om → Prop) (h : sp_law_weights K ds Ω R X) : ds.length = 2 := by
  unfold sp_law_weights at h
  first
    | (obtain ⟨rfl, _⟩ := h; rfl)
    | (obtain ⟨_, rfl, _⟩ := h; rfl)
    | (obtain ⟨_, _, rfl, _⟩ := h; rfl)
    | (obtain ⟨_, _, _, rfl, _⟩ := h; rfl)
    | (obtain ⟨_, _, _, _, rfl, _⟩ := h; rfl)
    | (obtain ⟨_, _, _, _, _, rfl, _⟩ := h; rfl)
    | (obtain ⟨_, _, _, _, _, _, rfl, _⟩ := h; rfl)
    | (obtain ⟨_, _, _, _, _, _, _, rfl, _⟩ := h; rfl)
    | (obtain ⟨_, _, _, _, _, _, _, _, rfl, _⟩ := h; rfl)
/-- a row, of at most so many balls -/
def sp_law_row (K : KF) : Spec := fun ds Ω R X => ∃ (k : Nat) (p : OC) (most : Int), ds = [.o k, .d (.int most)] ∧ Ω[k]? = some p ∧ IsPool p ∧ 1 ≤ most ∧ most ≤ 8 ∧ ∀ (l : List Bl) (p' : OC), RowOk l → (∀ b ∈ l, Sz 36 b.s) → (l.length : Int) ≤ most → IsPool p' → R (.d (dRow l)) (Ω.set k p')
def t_law_row (K : KF) (W : WX) : TS :=
  (tSeq (tAsg (tOp (rAddX K) (tC (.int 1)) (tCall (FS K (sp_law_next K)) [] E0 (tCons (tVar 0) (tCons (tVar 1) tNil)))) (gName 2))
    (tSeq (tAsg (tCall (FS K (sp_law_weights K)) [] E0 (tCons (tVar 0) (tCons (tVar 2) tNil))) (gName 3))
    (tSeq (tAsg (tCall (FS K (sp_law_ratio K)) [] E0 (tCons (tVar 0) (tCons (tC (.int 12)) tNil))) (gName 4))
    (tSeq (tAsg (tLst tNil) (gName 5))
    (tSeq (tFor (iRng1 (tCons (tVar 2) tNil)) (gName 6) (tSeq (tAsg (tCall (FS K (sp_law_speed K)) [] E0 (tCons (tVar 0) tNil)) (gName 7))
    (tSeqI (tIfS (tTest (tOp oGt (tVar 6) (tC (.int 0)))) (tSeq (tAsg (tCall (FS K (sp_law_gap K)) [] E0 (tCons (tVar 0) tNil)) (gName 8))
    (tSeq (tAsg (tCall (FS K (sp_law_add K)) [] E0 (tCons (tVar 4) (tCons (tVar 8) tNil))) (gName 4))
    (tSeqI (tIfS (tTest (tOp (rEqD K) (tCall (FS K (sp_law_next K)) [] E0 (tCons (tVar 0) (tCons (tC (.int 5)) tNil))) (tC (.int 0)))) (tAsg (tOp (rIx K) (tOp (rIx K) (tVar 5) (tUn uNeg (tC (.int 1)))) (tC (.int 1))) (gName 7)) tNext)
    (tIfS (tAnd (tTest (tOp (rEqD K) (tVar 8) (tTup (tCons (tC (.int 0)) (tCons (tC (.int 1)) tNil))))) (tNot (tB (tCall (FS K (sp_law_below K)) [] E0 (tCons (tOp (rIx K) (tOp (rIx K) (tVar 5) (tUn uNeg (tC (.int 1)))) (tC (.int 1))) (tCons (tVar 7) tNil)))))) (tAsg (tCall (FS K (sp_law_add K)) [] E0 (tCons (tOp (rIx K) (tOp (rIx K) (tVar 5) (tUn uNeg (tC (.int 1)))) (tC (.int 1))) (tCons (tTup (tCons (tOp (rAddX K) (tC (.int 1)) (tCall (FS K (sp_law_next K)) [] E0 (tCons (tVar 0) (tCons (tC (.int 4)) tNil)))) (tCons (tC (.int 1)) tNil))) tNil))) (gName 7)) tNext)))) tNext)
    (tDrop (tBM K "list" rAppend (tVar 5) (tCons (tTup (tCons (tVar 4) (tCons (tVar 7) (tCons (tOp (rIx K) (tVar 3) (tVar 6)) tNil)))) tNil))))))
    (tRet (tCB (rTupQ K) (tCons (tVar 5) tNil))))))))
structure RowJ (l : List Bl) (pl : Rat) : Prop where
  w0 : ∀ b ∈ l, 1 ≤ b.w ∧ b.w ≤ 1000
  zp : ∀ b ∈ l, Sz 300 b.p
  zs : ∀ b ∈ l, Sz (4 * l.length) b.s
  nb : Nb mayB l = true
  zl : Sz (80 + 5 * l.length) pl
  la : ∀ b, l.getLast? = some b → b.p = pl
theorem RowJ.nil {x : Rat} (h : Sz 80 x) : RowJ [] x := ⟨fun _ h => (by cases h), fun _ h => (by cases h), fun _ h => (by cases h), rfl, h.mono (by decide), fun _ h => (by cases h)⟩
theorem RowJ.snoc {l : List Bl} {pl q s : Rat} {w : Int} (h : RowJ l pl) (hq : Sz (80 + 5 * (l.length + 1)) q) (hl : l.length ≤ 8) (hs : Sz (4 * (l.length + 1)) s) (h0 : 1 ≤ w) (h1 : w ≤ 1000) (hn : ∀ b, l.getLast? = some b → mayB b ⟨q, s, w⟩ = true) : RowJ (l ++ [⟨q, s, w⟩]) q := by
  have e1 : (l ++ [(⟨q, s, w⟩ : Bl)]).length = l.length + 1 := by simp
  refine ⟨fun b hb => ?_, fun b hb => ?_, fun b hb => ?_, nb_snoc h.nb hn, by rw [e1]; exact hq, fun b hb => ?_⟩
  · rcases List.mem_append.mp hb with hb | hb
    · exact h.w0 b hb
    · rw [List.mem_singleton.mp hb]; exact ⟨h0, h1⟩
  · rcases List.mem_append.mp hb with hb | hb
    · exact h.zp b hb
    · rw [List.mem_singleton.mp hb]; exact hq.mono (by omega)
  · rw [e1]
    rcases List.mem_append.mp hb with hb | hb
    · exact (h.zs b hb).mono (by omega)
    · rw [List.mem_singleton.mp hb]; exact hs
  · rw [List.getLast?_append] at hb
    cases hb
    rfl
theorem w_law_row {K : KF} (W : WX) (ds : List DV) (Ω : Om) (R : DV → Om → Prop) (X : Exc → Om → Prop) (h : sp_law_row K ds Ω R X) : WS K W (t_law_row K W) (startG 9 ds) Ω (fnO Ω R X) := by
  obtain ⟨k, p, most, rfl, hp, ip, m0, m1, q⟩ := h
  have hk := lt_of_get hp
  show WS K W (t_law_row K W) [some (.o k), some (.d (.int most)), none, none, none, none, none, none, none] Ω _
  unfold t_law_row
  walk_at "hl"
  refine ⟨k, p, most, rfl, hp, ip, by omega, by omega, fun r p1 r0 r1 ip => ?_⟩
  walk_at "hl"
  obtain ⟨many, hmany⟩ : ∃ many : Nat, 1 + r = many := ⟨(1 + r).toNat, by omega⟩
  rw [hmany]
  refine ⟨k, p1, many, rfl, get_set hk, ip, by omega, fun ws p1 lw hw ip => ?_⟩
  rw [List.set_set]
  walk_at "hl"
  refine drz0 hk ip (by decide) (by decide) fun pl p1 hpl ip => ?_
  walk_at "hl"
  refine ws_for (wi_rng1 ?_)
  walk_at "hl"
  refine ⟨_, rfl, by omega, by omega, ?_⟩
  have le1 : ∀ p, (Ω.set k p).length = Ω.length := fun p => List.length_set
  rw [le1]
  refine ⟨fun i Γ Ω1 => ∃ (l : List Bl) (pl : Rat) (p2 : OC) (c6 c7 c8 : Option DV), Γ = [some (.o k), some (.d (.int most)), some (.d (.int many)), some (.d (.list (ws.map PyData.int))), some (.d (dR pl)), some (.o Ω.length), c6, c7, c8] ∧ Ω1 = Ω.set k p2 ++ [.lst ((l.map dB).map DV.d)] ∧ IsPool p2 ∧ l.length = i ∧ RowJ l pl,
    ⟨[], pl, p1, none, none, none, rfl, rfl, ip, rfl, .nil hpl⟩, ?_, ?_, ?_⟩
  · rintro i Γ Ω1 - ⟨l, pl, p2, c6, c7, c8, rfl, rfl, -, -, -⟩
    exact ⟨trivial, by simp⟩
  · rintro i y Γ Ω1 hy ⟨l, pl, p2, c6, c7, c8, rfl, rfl, ip, rfl, hr⟩
    obtain ⟨hi, rfl⟩ := rng_get hy
    have hi2 : l.length ≤ 7 := by omega
    have hget : ∀ p2 ds, (Ω.set k p2 ++ [OC.lst ds])[Ω.length]? = some (.lst ds) := fun p2 ds => by rw [← le1 p2, get_last]
    have hiw : l.length < ws.length := by omega
    obtain ⟨wt, ewt, w0, w1⟩ : ∃ wt, atI (ws.map PyData.int) (0 + (l.length : Int)) = some (.int wt) ∧ 1 ≤ wt ∧ wt ≤ 1000 := by
      have := hw ws[l.length] (List.getElem_mem hiw)
      refine ⟨ws[l.length], ?_, this.1, this.2⟩
      rw [Int.zero_add]
      exact atI_nat (by simp [hiw])
    walk_at "hl"
    refine dsp hk ip fun sp p1 hsp ip => ?_
    walk_at "hl"
    refine ws_cut (fun Γ Ω1 => ∃ (q s : Rat) (p1 : OC) (c8 : Option DV), Γ = [some (.o k), some (.d (.int most)), some (.d (.int many)), some (.d (.list (ws.map PyData.int))), some (.d (dR q)), some (.o Ω.length), some (.d (.int (0 + (l.length : Int)))), some (.d (dR s)), c8] ∧
      Ω1 = Ω.set k p1 ++ [.lst ((l.map dB).map DV.d)] ∧ IsPool p1 ∧ Sz (80 + 5 * (l.length + 1)) q ∧ Sz (4 * (l.length + 1)) s ∧ ∀ b, l.getLast? = some b → mayB b ⟨q, s, wt⟩ = true) ?_ ?_
    · rintro Γ Ω1 ⟨q, s, p1, c8, rfl, rfl, ip, zq, zs, hn⟩
      walk_at "hl"
      refine ⟨⟨_, by show sqO _ = _; rw [hget]; rfl, rfl⟩, ?_⟩
      walk_at "hl"
      refine wr_ixL ewt ?_
      walk_at "hl"
      refine wm_append (hget _ _) (by simp; omega) ⟨l ++ [⟨q, s, wt⟩], q, p1, _, _, _, rfl, ?_, ip, by simp, hr.snoc zq (by omega) zs w0 w1 hn⟩
      rw [← le1 p1, set_last]
      simp [dB]
    walk_at "hl"
    refine ⟨fun h0 => ?_, fun h0 => ?_⟩
    · have h0 := of_decide_eq_true h0
      have hne : l ≠ [] := fun e => by rw [e] at h0; simp at h0
      have hl1 : 1 ≤ l.length := by omega
      obtain ⟨b, hb⟩ : ∃ b, l.getLast? = some b := ⟨_, List.getLast?_eq_getLast hne⟩
      have zb := hr.zs b (List.mem_of_getLast? hb)
      have ebp := hr.la b hb
      have ix : atI ((l.map dB).map DV.d) (-1) = some (.d (dB b)) := by rw [atI_map, atI_map, at_last hb]; rfl
      walk_at "hl"
      refine dg hk ip fun g p1 hg g0 ip => ?_
      walk_at "hl"
      refine ⟨pl, g, rfl, ⟨_, _, hr.zl, hg, by omega⟩, ?_⟩
      have zq : Sz (80 + 5 * (l.length + 1)) (pl + g) := (hr.zl.add hg).mono (by omega)
      walk_at "hl"
      refine ws_cut (fun Γ Ω1 => ∃ (s : Rat) (p1 : OC), Γ = [some (.o k), some (.d (.int most)), some (.d (.int many)), some (.d (.list (ws.map PyData.int))), some (.d (dR (pl + g))), some (.o Ω.length), some (.d (.int (0 + (l.length : Int)))), some (.d (dR s)), some (.d (dR g))] ∧
        Ω1 = Ω.set k p1 ++ [.lst ((l.map dB).map DV.d)] ∧ IsPool p1 ∧ Sz (4 * l.length) s) ?_ ?_
      · rintro Γ Ω1 ⟨s, p1, rfl, rfl, ip, zs⟩
        have big : ¬ g = 0 → ∀ c, l.getLast? = some c → mayB c ⟨pl + g, s, wt⟩ = true := fun hg0 c hc => by
          have e := hr.la c hc
          unfold mayB mayS
          rw [if_neg (by show ¬ c.p = pl + g; grind)]
          exact decide_eq_true (by show c.p < pl + g; grind)
        have same : g = 0 → ∀ s, b.s < s → ∀ c, l.getLast? = some c → mayB c ⟨pl + g, s, wt⟩ = true := fun hg0 s hs c hc => by
          rw [hb] at hc
          cases hc
          unfold mayB mayS
          rw [if_pos (by show b.p = pl + g; grind)]
          exact decide_eq_true hs
        walk_at "hl"
        refine wr_eqR (y := 0) ?_
        walk_at "hl"
        refine ⟨fun hg0 => ?_, fun hg0 => ?_⟩
        · have hg0 := of_decide_eq_true hg0
          walk_at "hl"
          refine wr_ix (by show sqO _ = _; rw [hget]; rfl) ix ?_
          walk_at "hl"
          refine ⟨_, _, rfl, ⟨_, _, zb, zs, by omega⟩, ?_⟩
          walk_at "hl"
          refine ⟨fun hs => ?_, fun hs => ?_⟩
          · walk_at "hl"
            refine wr_ix (by show sqO _ = _; rw [hget]; rfl) ix ?_
            walk_at "hl"
            refine dn hk ip (by decide) (by decide) fun r6 p1 r60 r61 ip => ?_
            walk_at "hl"
            have z6 : Sz 3 ((1 + r6 : Int) : Rat) := .int (by omega) (by decide)
            refine ⟨_, ((1 + r6 : Int) : Rat), rfl, ⟨_, _, zb, z6, by omega⟩, ?_⟩
            walk_at "hl"
            refine ⟨_, _, p1, _, rfl, rfl, ip, zq, (zb.add z6).mono (by omega), same hg0 _ ?_⟩
            have : (0 : Rat) < ((1 + r6 : Int) : Rat) := Rat.intCast_pos.mpr (by omega)
            grind
          · walk_at "hl"
            refine ⟨_, _, p1, _, rfl, rfl, ip, zq, zs.mono (by omega), same hg0 _ ?_⟩
            have : decide (b.s < s) = true := by revert hs; cases decide (b.s < s) <;> simp
            exact of_decide_eq_true this
        · have hg0 := of_decide_eq_false hg0
          refine bF rfl ?_
          walk_at "hl"
          exact ⟨_, _, p1, _, rfl, rfl, ip, zq, zs.mono (by omega), big hg0⟩
      · walk_at "hl"
        refine dn hk ip (by decide) (by decide) fun r5 p1 _ _ ip => ?_
        walk_at "hl"
        refine ⟨fun _ => ?_, fun _ => ?_⟩
        · walk_at "hl"
          refine wr_ix (by show sqO _ = _; rw [hget]; rfl) ix ?_
          walk_at "hl"
          exact ⟨_, p1, rfl, rfl, ip, zb⟩
        · walk_at "hl"
          exact ⟨_, p1, rfl, rfl, ip, hsp.mono (by omega)⟩
    · have h0 := of_decide_eq_false h0
      have hl0 : l = [] := List.eq_nil_of_length_eq_zero (by omega)
      walk_at "hl"
      refine ⟨_, _, p1, _, rfl, rfl, ip, hr.zl.mono (by omega), hsp.mono (by omega), fun b hb => ?_⟩
      rw [hl0] at hb
      cases hb
  · rintro Γ Ω1 ⟨l, pl, p2, c6, c7, c8, rfl, rfl, ip, hl, hr⟩
    rw [List.length_map, List.length_range] at hl
    walk_at "hl"
    refine wc_tup' (xs := l.map dB) (by rw [← le1 p2, ls_last]; exact asDs_data _) ?_
    exact dr_pool hk ip (q l p2 ⟨fun e => by rw [e] at hl; simp at hl; omega, by omega, hr.w0, fun b hb => ⟨hr.zp b hb, (hr.zs b hb).mono (by omega)⟩, hr.nb, fun b hb => (hr.zs b hb).mono (by omega)⟩ (fun b hb => (hr.zs b hb).mono (by omega)) (by omega) ip) (fun i h => by cases h)
theorem sp_len_law_row {K : KF} (ds : List DV) (Ω : Om) (R : DV → Om → Prop) (X : Exc → Om → Prop) (h : sp_law_row K ds Ω R X) : ds.length = 2 := by
  unfold sp_law_row at h
  first
    | (obtain ⟨rfl, _⟩ := h; rfl)
    | (obtain ⟨_, rfl, _⟩ := h; rfl)
    | (obtain ⟨_, _, rfl, _⟩ := h; rfl)
    | (obtain ⟨_, _, _, rfl, _⟩ := h; rfl)
    | (obtain ⟨_, _, _, _, rfl, _⟩ := h; rfl)
    | (obtain ⟨_, _, _, _, _, rfl, _⟩ := h; rfl)
    | (obtain ⟨_, _, _, _, _, _, rfl, _⟩ := h; rfl)
    | (obtain ⟨_, _, _, _, _, _, _, rfl, _⟩ := h; rfl)
    | (obtain ⟨_, _, _, _, _, _, _, _, rfl, _⟩ := h; rfl)
/-- a row between walls, of small weights -/
structure StartOk (l : List Bl) (a b : Wl) : Prop where
  nz : l ≠ []
  le : l.length ≤ 8
  w0 : ∀ b ∈ l, 1 ≤ b.w ∧ b.w ≤ 9
  al : 4 < l.length → (∀ b ∈ l, b.w = 7) ∨ ∃ own place moment : Rat, ∃ (wh : Int) (alike : Bool), BundleOk l own place moment wh alike
  zp : ∀ b ∈ l, Sz 300 b.p ∧ Sz 80 b.s
  nb : Nb mayB l = true
  za : ∀ q s, a = some (q, s) → Sz 320 q ∧ Sz 80 s
  zb : ∀ q s, b = some (q, s) → Sz 320 q ∧ Sz 80 s
  lo : lowOk a l = true
  hi : highOk b l = true
  ap : apart a b = true
def sp_law_start (K : KF) : Spec := fun ds Ω R X => ∃ (k : Nat) (p : OC), ds = [.o k] ∧ Ω[k]? = some p ∧ IsPool p ∧
  ∀ (l : List Bl) (a b : Wl) (p' : OC), StartOk l a b → IsPool p' → R (.d (dRW (l, a, b))) (Ω.set k p')
def t_law_start (K : KF) (W : WX) : TS :=
  (tSeqI (tIfS (tTest (tOp (rEqD K) (tCall (FS K (sp_law_next K)) [] E0 (tCons (tVar 0) (tCons (tC (.int 4)) tNil))) (tC (.int 0)))) (tRet (tCall (FS K (sp_law_focused K)) [] E0 (tCons (tVar 0) (tCons (tOp oGt (tCall (FS K (sp_law_next K)) [] E0 (tCons (tVar 0) (tCons (tC (.int 3)) tNil))) (tC (.int 0))) tNil)))) tNext)
    (tSeq (tAsg (tCall (FS K (sp_law_row K)) [] E0 (tCons (tVar 0) (tCons (tOp (rIx K) (tLst (tCons (tC (.int 4)) (tCons (tC (.int 4)) (tCons (tC (.int 4)) (tCons (tC (.int 8)) tNil))))) (tCall (FS K (sp_law_next K)) [] E0 (tCons (tVar 0) (tCons (tC (.int 4)) tNil)))) tNil))) (gName 1))
    (tSeq (tAsg (tCB (rTupQ K) (tCons (tLc (iSeq K (tVar 1)) (gName 2) tYes (tOp (rAddX K) (tSl (rSlS K) (tVar 2) tNoPart (tPart (tC (.int 2)))) (tTup (tCons (tOp (rAddX K) (tC (.int 1)) (tOp oMod (tOp (rIx K) (tVar 2) (tC (.int 2))) (tC (.int 9)))) tNil))) [2]) tNil)) (gName 1))
    (tSeqI (tIfS (tTest (tOp oGt (tCB (rLenQ K) (tCons (tVar 1) tNil)) (tC (.int 4)))) (tAsg (tCB (rTupQ K) (tCons (tLc (iSeq K (tVar 1)) (gName 2) tYes (tOp (rAddX K) (tSl (rSlS K) (tVar 2) tNoPart (tPart (tC (.int 2)))) (tTup (tCons (tC (.int 7)) tNil))) [2]) tNil)) (gName 1)) tNext)
    (tRet (tTup (tCons (tVar 1) (tCons (tCall (FS K (sp_law_box K)) [] E0 (tCons (tVar 0) (tCons (tVar 1) tNil))) tNil))))))))
theorem nb_of_pair {f : Bl → Bl → Bool} : ∀ {l : List Bl}, l.Pairwise (fun a b => f a b = true) → Nb f l = true
  | [], _ => rfl
  | [a], _ => rfl
  | a :: b :: l, h => by
    have h := List.pairwise_cons.mp h
    show (f a b && Nb f (b :: l)) = true
    rw [h.1 b (List.mem_cons_self ..), nb_of_pair h.2]; rfl
theorem mul_lt_left {m s t : Rat} (hm : 0 < m) (h : t < s) : t * m < s * m := Rat.mul_lt_mul_of_pos_right h hm
theorem bundle_nb {l : List Bl} {own place moment : Rat} {wh : Int} {al : Bool} (h : BundleOk l own place moment wh al) (hm : 0 < moment) : Nb mayB l = true := by
  refine nb_of_pair ?_
  refine List.Pairwise.imp_of_mem (fun {a b} ha hb hlt => ?_) (List.pairwise_map.mp h.ds)
  unfold mayB mayS
  have ea := h.pl a ha
  have eb := h.pl b hb
  have := mul_lt_left hm hlt
  have : a.p < b.p := by rw [ea, eb]; grind
  rw [if_neg (by grind)]
  exact decide_eq_true this
theorem within_of {p s q t place moment : Rat} (hm : 0 < moment) (ep : p = place - s * moment) (eq : q = place - t * moment) (h : t ≤ s) : withinS p s q t = true := by
  unfold withinS
  by_cases e : s = t
  · subst e
    rw [ep, eq]
    simp
  · have := mul_lt_left hm (show t < s by grind)
    have hlt : p < q := by rw [ep, eq]; grind
    unfold mayS
    rw [if_neg (by grind), decide_eq_true hlt, Bool.or_true]
theorem bundle_start {l : List Bl} {own place moment : Rat} {wh : Int} {al : Bool} (h : BundleOk l own place moment wh al) (hm : 0 < moment) (zo : Sz 4 own) (zp : Sz 80 place) (zm : Sz 5 moment) : StartOk l (focL wh own place moment) (focH wh own place moment) := by
  have zw : Sz 320 (place - own * moment) := (zp.sub (zo.mul zm)).mono (by decide)
  refine ⟨h.nz, by have := h.le; omega, h.w0, fun _ => .inr ⟨own, place, moment, wh, al, h⟩, fun b hb => ⟨(h.zp b hb).mono (by decide), (h.zs b hb).mono (by decide)⟩, bundle_nb h hm, fun q s e => ?_, fun q s e => ?_, ?_, ?_, ?_⟩
  · unfold focL at e
    split at e
    · cases e; exact ⟨zw, zo.mono (by decide)⟩
    · cases e
  · unfold focH at e
    split at e
    · cases e; exact ⟨zw, zo.mono (by decide)⟩
    · cases e
  · unfold focL
    split
    · rename_i e
      cases l with
      | nil => exact absurd rfl h.nz
      | cons c r => exact within_of hm rfl (h.pl c (List.mem_cons_self ..)) (h.s1 e c (List.mem_cons_self ..))
    · cases l <;> rfl
  · unfold focH
    split
    · rename_i e
      obtain ⟨z, hz⟩ : ∃ z, l.getLast? = some z := ⟨_, List.getLast?_eq_getLast h.nz⟩
      have mz := List.mem_of_getLast? hz
      show (match l.getLast? with | some c => withinS c.p c.s _ _ | none => true) = _
      rw [hz]
      exact within_of hm (h.pl z mz) rfl (h.s2 e z mz)
    · cases l <;> rfl
  · unfold focL focH
    by_cases e1 : wh = 1
    · rw [if_pos e1, if_neg (by omega)]; rfl
    · rw [if_neg e1]
      split <;> rfl
theorem w_law_start {K : KF} (W : WX) (ds : List DV) (Ω : Om) (R : DV → Om → Prop) (X : Exc → Om → Prop) (h : sp_law_start K ds Ω R X) : WS K W (t_law_start K W) (startG 3 ds) Ω (fnO Ω R X) := by
  obtain ⟨k, p, rfl, hp, ip, q⟩ := h
  have hk := lt_of_get hp
  show WS K W (t_law_start K W) [some (.o k), none, none] Ω _
  unfold t_law_start
  have le1 : ∀ p, (Ω.set k p).length = Ω.length := fun p => List.length_set
  refine ws_go ?_
  walk_at "hl"
  refine ⟨k, p, 4, rfl, hp, ip, by decide, by decide, fun a p1 a0 a1 ip => ?_⟩
  walk_at "hl"
  refine ⟨fun _ => ?_, fun _ => ?_⟩
  · walk_at "hl"
    refine dn0 hk ip (by decide) (by decide) fun r p1 r0 r1 ip => ?_
    walk_at "hl"
    refine ⟨k, p1, _, rfl, get_set hk, ip, fun l wh own place moment p1 wh0 wh2 bo zo zp zm hm ip => ?_⟩
    rw [List.set_set]
    exact dr_same (q l _ _ p1 (bundle_start bo hm zo zp zm) ip)
  · walk_at "hl"
    refine dn0 hk ip (by decide) (by decide) fun r p1 r0 r1 ip => ?_
    refine wr_ix_ints (ns := [4, 4, 4, 8]) rfl r0 (by simpa using r1) fun most hmost => ?_
    have hmost : most = 4 ∨ most = 8 := by simp at hmost; omega
    walk_at "hl"
    refine ⟨k, p1, most, rfl, get_set hk, ip, by omega, by omega, fun l p1 ro zs hl ip => ?_⟩
    rw [List.set_set]
    walk_at "hl"
    let f : Bl → Bl := fun b => ⟨b.p, b.s, 1 + b.w % 9⟩
    let g : Bl → Bl := fun b => ⟨b.p, b.s, 7⟩
    have l8 := ro.le
    refine we_lcP (α := Bl) only1 (wi_T dB l ?_)
    walk_at "hl"
    refine ⟨rfl, l, _, fun _ => true, fun b => dB (f b), rfl, by omega, rfl, fun _ => trivial, ?_, ?_⟩
    · rintro b Ω' hb -
      walk_at "hl"
      refine ⟨rfl, rfl, fun _ => ?_⟩
      walk_at "hl"
      rw [cut2']
      walk_at "hl"
      refine wr_modP (by decide) ?_
      walk_at "hl"
      refine wr_addT (by simp) ?_
      exact ⟨rfl, rfl⟩
    rw [filter_yes]
    walk_at "hl"
    refine wc_tup' (xs := (l.map f).map dB) (by rw [show (l.map f).map dB = l.map fun b => dB (f b) by rw [List.map_map]; rfl]; rfl) ?_
    walk_at "hl"
    have nbf : ∀ h : Bl → Bl, (∀ b, (h b).p = b.p ∧ (h b).s = b.s) → Nb mayB (l.map h) = true := fun h e => by
      rw [nb_map (f := mayB) (g := mayB) (h := h) (fun a b => by unfold mayB; rw [(e a).1, (e a).2, (e b).1, (e b).2])]; exact ro.nb
    have fin : ∀ (h : Bl → Bl) (p1 : OC), (∀ b, (h b).p = b.p ∧ (h b).s = b.s ∧ 1 ≤ (h b).w ∧ (h b).w ≤ 9) → (4 < l.length → ∀ b, (h b).w = 7) → IsPool p1 →
        WS K W (tRet (tTup (tCons (tVar 1) (tCons (tCall (FS K (sp_law_box K)) [] E0 (tCons (tVar 0) (tCons (tVar 1) tNil))) tNil)))) [some (.o k), some (.d (dRow (l.map h))), none] (Ω.set k p1) (fnO Ω R X) := fun h p1 e e7 ip => by
      have nz : l.map h ≠ [] := fun z => ro.nz (List.map_eq_nil_iff.mp z)
      have zz : ∀ b ∈ l.map h, Sz 300 b.p ∧ Sz 80 b.s := fun b hb => by
        obtain ⟨c, hc, rfl⟩ := List.mem_map.mp hb
        rw [(e c).1, (e c).2.1]
        exact ⟨(ro.zp c hc).1, ro.zs c hc⟩
      have nb := nbf h fun b => ⟨(e b).1, (e b).2.1⟩
      walk_at "hl"
      refine ⟨k, p1, l.map h, rfl, get_set hk, ip, nz, zz, nb, fun a b p1 za zb lo hi ap ip => ?_⟩
      rw [List.set_set]
      walk_at "hl"
      refine dr_same (q (l.map h) a b p1 ⟨nz, by rw [List.length_map]; exact l8, fun b hb => ?_, fun h4 => .inl fun b hb => ?_, zz, nb, za, zb, lo, hi, ap⟩ ip)
      · obtain ⟨c, hc, rfl⟩ := List.mem_map.mp hb
        exact (e c).2.2
      · obtain ⟨c, hc, rfl⟩ := List.mem_map.mp hb
        exact e7 (by simpa using h4) c
    refine ws_cut (fun Γ Ω1 => ∃ (h : Bl → Bl), Γ = [some (.o k), some (.d (dRow (l.map h))), none] ∧ Ω1 = Ω.set k p1 ∧ (∀ b, (h b).p = b.p ∧ (h b).s = b.s ∧ 1 ≤ (h b).w ∧ (h b).w ≤ 9) ∧ (4 < l.length → ∀ b, (h b).w = 7)) ?_ ?_
    · rintro Γ Ω1 ⟨h, rfl, rfl, e, e7⟩
      exact fin h p1 e e7 ip
    · walk_at "hl"
      refine ⟨fun h4 => ?_, fun h4 => ?_⟩
      · walk_at "hl"
        refine we_lcP (α := Bl) only1 (wi_T dB (l.map f) ?_)
        walk_at "hl"
        refine ⟨rfl, l.map f, _, fun _ => true, fun b => dB (g b), rfl, by simp; omega, rfl, fun _ => trivial, ?_, ?_⟩
        · rintro b Ω' hb -
          walk_at "hl"
          refine ⟨rfl, rfl, fun _ => ?_⟩
          walk_at "hl"
          rw [cut2']
          walk_at "hl"
          refine wr_addT (by simp) ?_
          exact ⟨rfl, rfl⟩
        rw [filter_yes]
        walk_at "hl"
        refine wc_tup' (xs := (l.map fun b => g (f b)).map dB) (by simp [List.map_map, Function.comp_def]; rfl) ?_
        walk_at "hl"
        exact ⟨fun b => g (f b), rfl, rfl, fun b => ⟨rfl, rfl, show (1 : Int) ≤ 7 by decide, show (7 : Int) ≤ 9 by decide⟩, fun _ b => rfl⟩
      · walk_at "hl"
        refine ⟨f, rfl, rfl, fun b => ⟨rfl, rfl, ?_, ?_⟩, fun h => ?_⟩
        · show 1 ≤ 1 + b.w % 9; omega
        · show 1 + b.w % 9 ≤ 9; omega
        · have h4 := of_decide_eq_false h4
          simp at h4; omega
theorem sp_len_law_start {K : KF} (ds : List DV) (Ω : Om) (R : DV → Om → Prop) (X : Exc → Om → Prop) (h : sp_law_start K ds Ω R X) : ds.length = 1 := by
  unfold sp_law_start at h
  first
    | (obtain ⟨rfl, _⟩ := h; rfl)
    | (obtain ⟨_, rfl, _⟩ := h; rfl)
    | (obtain ⟨_, _, rfl, _⟩ := h; rfl)
    | (obtain ⟨_, _, _, rfl, _⟩ := h; rfl)
    | (obtain ⟨_, _, _, _, rfl, _⟩ := h; rfl)
    | (obtain ⟨_, _, _, _, _, rfl, _⟩ := h; rfl)
    | (obtain ⟨_, _, _, _, _, _, rfl, _⟩ := h; rfl)
    | (obtain ⟨_, _, _, _, _, _, _, rfl, _⟩ := h; rfl)
    | (obtain ⟨_, _, _, _, _, _, _, _, rfl, _⟩ := h; rfl)
def mvT (x : Rat) : Wl → Wl
  | none => none
  | some (p, s) => some (p + x, s)
def sp_law_thick (K : KF) : Spec := fun ds Ω R X => ∃ (l : List Bl) (a b : Wl) (ws : List Rat), ds = [.d (dRow l), .d (dWs a b), .d (.list (ws.map dR))] ∧ l.length = ws.length ∧ l.length ≤ 20 ∧ (∀ b ∈ l, Sz 500 b.p) ∧ (∀ w ∈ ws, Sz 40 w) ∧ (∀ p s, b = some (p, s) → Sz 500 p) ∧
  R (.d (.tuple [dBroad (thickF 0 l ws), dWs a (mvT (sumR ws) b)])) Ω
def t_law_thick (K : KF) (W : WX) : TS :=
  (tSeq (tAsg (tTup (tCons (tC (.int 0)) (tCons (tC (.int 1)) tNil))) (gName 3))
    (tSeq (tAsg (tLst tNil) (gName 4))
    (tSeq (tFor (iZipM K (tCons (tVar 0) (tCons (tVar 2) tNil))) (gTup K 2 (gCons (gName 5) (gCons (gName 6) gNil))) (tSeq (tDrop (tBM K "list" rAppend (tVar 4) (tCons (tOp (rAddX K) (tOp (rAddX K) (tTup (tCons (tCall (FS K (sp_law_add K)) [] E0 (tCons (tOp (rIx K) (tVar 5) (tC (.int 0))) (tCons (tVar 3) tNil))) tNil)) (tSl (rSlS K) (tVar 5) (tPart (tC (.int 1))) tNoPart)) (tTup (tCons (tVar 6) tNil))) tNil)))
    (tAsg (tCall (FS K (sp_law_add K)) [] E0 (tCons (tVar 3) (tCons (tVar 6) tNil))) (gName 3))))
    (tSeq (tAsg (tOp (rIx K) (tVar 1) (tC (.int 1))) (gName 7))
    (tSeq (tIfS (tTest (tOp oNotN (tVar 7) (tC .non))) (tAsg (tTup (tCons (tCall (FS K (sp_law_add K)) [] E0 (tCons (tOp (rIx K) (tVar 7) (tC (.int 0))) (tCons (tVar 3) tNil))) (tCons (tOp (rIx K) (tVar 7) (tC (.int 1))) tNil))) (gName 7)) tNext)
    (tRet (tTup (tCons (tCB (rTupQ K) (tCons (tVar 4) tNil)) (tCons (tTup (tCons (tOp (rIx K) (tVar 1) (tC (.int 0))) (tCons (tVar 7) tNil))) tNil)))))))))
theorem w_law_thick {K : KF} (W : WX) (ds : List DV) (Ω : Om) (R : DV → Om → Prop) (X : Exc → Om → Prop) (h : sp_law_thick K ds Ω R X) : WS K W (t_law_thick K W) (startG 8 ds) Ω (fnO Ω R X) := by
  obtain ⟨l, a, b, ws, rfl, el, l20, zl, zw, zb, q⟩ := h
  show WS K W (t_law_thick K W) [some (.d (dRow l)), some (.d (dWs a b)), some (.d (.list (ws.map dR))), none, none, none, none, none] Ω _
  unfold t_law_thick
  walk_at "hl"
  refine ws_for (wi_zipM true false ?_)
  walk_at "hl"
  refine ⟨_, _, l.map dB, ws.map dR, rfl, rfl, rfl, ?_⟩
  have zt : ∀ i, Sz (41 * (ws.take i).length + 1) (sumR (ws.take i)) := fun i => sumR_sz fun w hw => zw w (List.mem_of_mem_take hw)
  refine ⟨fun i Γ Ω1 => ∃ c5 c6, Γ = [some (.d (dRow l)), some (.d (dWs a b)), some (.d (.list (ws.map dR))), some (.d (dR (sumR (ws.take i)))), some (.o Ω.length), c5, c6, none] ∧ Ω1 = Ω ++ [.lst (((thickF 0 (l.take i) (ws.take i)).map dBb).map DV.d)],
    ⟨_, _, rfl, rfl⟩, ?_, ?_, ?_⟩
  · rintro i Γ Ω1 - ⟨c5, c6, rfl, rfl⟩
    exact ⟨⟨rfl, rfl⟩, by simp⟩
  · rintro i y Γ Ω1 hy ⟨c5, c6, rfl, rfl⟩
    obtain ⟨_, _, h1, h2, rfl⟩ := zipD_get hy
    obtain ⟨c, rfl, gc, mc, ic, tc⟩ := lmap_get h1
    obtain ⟨w, rfl, gw, mw, iw, tw⟩ := lmap_get h2
    have zi := (zt i).mono (m := 821) (by rw [List.length_take]; omega)
    walk_at "hl"
    refine ⟨⟨_, sq_last _ _, rfl⟩, ?_⟩
    walk_at "hl"
    refine ⟨c.p, sumR (ws.take i), rfl, ⟨500, 821, zl c mc, zi, by omega⟩, ?_⟩
    walk_at "hl"
    rw [cut_tail]
    refine wr_addT (by simp) ?_
    walk_at "hl"
    refine wr_addT (by simp) ?_
    walk_at "hl"
    refine wm_appL (by simp [thick_len, el]; omega) ?_
    walk_at "hl"
    refine ⟨_, w, rfl, ⟨821, 40, zi, zw w mw, by omega⟩, ?_⟩
    walk_at "hl"
    refine ⟨some (.d (dB c)), some (.d (dR w)), ?_, ?_⟩
    · rw [tw, sumR_snoc]; rfl
    · rw [tc, tw, thick_snoc _ _ _ _ _ (by simp; omega), Rat.zero_add]
      simp [dBb]
  · rintro Γ Ω1 ⟨c5, c6, rfl, rfl⟩
    have e : (zipD (l.map dB) (ws.map dR)).length = l.length := by unfold zipD; simp; omega
    have zl := (zt l.length).mono (m := 821) (by rw [List.length_take]; omega)
    rw [e, List.take_length, el, List.take_length]
    rw [el, List.take_length] at zl
    walk_at "hl"
    cases b with
    | none =>
      refine bF rfl ?_
      walk_at "hl"
      refine wc_tup' (xs := (thickF 0 l ws).map dBb) (by rw [ls_last]; exact asDs_data _) ?_
      walk_at "hl"
      exact dr_app q (fun i h => by cases h)
    | some b =>
      refine bT rfl ?_
      walk_at "hl"
      refine ⟨b.1, _, rfl, ⟨500, 821, zb b.1 b.2 rfl, zl, by omega⟩, ?_⟩
      walk_at "hl"
      refine wc_tup' (xs := (thickF 0 l ws).map dBb) (by rw [ls_last]; exact asDs_data _) ?_
      walk_at "hl"
      exact dr_app q (fun i h => by cases h)
theorem sp_len_law_thick {K : KF} (ds : List DV) (Ω : Om) (R : DV → Om → Prop) (X : Exc → Om → Prop) (h : sp_law_thick K ds Ω R X) : ds.length = 3 := by
  unfold sp_law_thick at h
  first
    | (obtain ⟨rfl, _⟩ := h; rfl)
    | (obtain ⟨_, rfl, _⟩ := h; rfl)
    | (obtain ⟨_, _, rfl, _⟩ := h; rfl)
    | (obtain ⟨_, _, _, rfl, _⟩ := h; rfl)
    | (obtain ⟨_, _, _, _, rfl, _⟩ := h; rfl)
    | (obtain ⟨_, _, _, _, _, rfl, _⟩ := h; rfl)
    | (obtain ⟨_, _, _, _, _, _, rfl, _⟩ := h; rfl)
    | (obtain ⟨_, _, _, _, _, _, _, rfl, _⟩ := h; rfl)
    | (obtain ⟨_, _, _, _, _, _, _, _, rfl, _⟩ := h; rfl)
def sp_law_widths (K : KF) : Spec := fun ds Ω R X => ∃ (k : Nat) (p : OC) (many : Nat), ds = [.o k, .d (.int many)] ∧ Ω[k]? = some p ∧ IsPool p ∧ many ≤ 100 ∧ ∀ (ws : List Rat) (p' : OC), ws.length = many → (∀ w ∈ ws, Sz 30 w ∧ 0 ≤ w) → IsPool p' → R (.d (.list (ws.map dR))) (Ω.set k p')
def t_law_widths (K : KF) (W : WX) : TS :=
  (tSeq (tAsg (tLst tNil) (gName 2))
    (tSeq (tFor (iRng1 (tCons (tVar 1) tNil)) (gName 3) (tSeq (tAsg (tCall (FS K (sp_law_next K)) [] E0 (tCons (tVar 0) (tCons (tOp (rIx K) (tLst (tCons (tC (.int 1)) (tCons (tC (.int 10)) (tCons (tC (.int 10)) (tCons (tOp oPow (tC (.int 10)) (tC (.int 8))) tNil))))) (tCall (FS K (sp_law_next K)) [] E0 (tCons (tVar 0) (tCons (tC (.int 4)) tNil)))) tNil))) (gName 4))
    (tDrop (tBM K "list" rAppend (tVar 2) (tCons (tCall (FS K (sp_law_low K)) [] E0 (tCons (tVar 4) (tCons (tOp (rIx K) (tLst (tCons (tC (.int 1)) (tCons (tC (.int 2)) (tCons (tC (.int 3)) (tCons (tC (.int 6)) tNil))))) (tCall (FS K (sp_law_next K)) [] E0 (tCons (tVar 0) (tCons (tC (.int 4)) tNil)))) tNil))) tNil)))))
    (tRet (tVar 2))))
theorem w_law_widths {K : KF} (W : WX) (ds : List DV) (Ω : Om) (R : DV → Om → Prop) (X : Exc → Om → Prop) (h : sp_law_widths K ds Ω R X) : WS K W (t_law_widths K W) (startG 5 ds) Ω (fnO Ω R X) := by
  obtain ⟨k, p, many, rfl, hp, ip, hm, q⟩ := h
  have hk := lt_of_get hp
  show WS K W (t_law_widths K W) [some (.o k), some (.d (.int many)), none, none, none] Ω _
  unfold t_law_widths
  have le1 : ∀ p, (Ω.set k p).length = Ω.length := fun p => List.length_set
  generalize hT : tRet (tVar 2) = tl
  walk_at "hl"
  refine ws_for (wi_rng1 ?_)
  walk_at "hl"
  refine ⟨many, rfl, by omega, by omega, ?_⟩
  refine ⟨fun i Γ Ω1 => ∃ (ws : List Rat) (p2 : OC) (c3 c4 : Option DV), Γ = [some (.o k), some (.d (.int many)), some (.o Ω.length), c3, c4] ∧ Ω1 = Ω.set k p2 ++ [.lst ((ws.map dR).map DV.d)] ∧ IsPool p2 ∧ ws.length = i ∧ ∀ w ∈ ws, Sz 30 w ∧ 0 ≤ w,
    ⟨[], p, _, _, rfl, by rw [set_self hp]; rfl, ip, rfl, fun _ h => by cases h⟩, ?_, ?_, ?_⟩
  · rintro i Γ Ω1 - ⟨ws, p2, c3, c4, rfl, rfl, -, -, -⟩
    exact ⟨trivial, by simp⟩
  · rintro i y Γ Ω1 hy ⟨ws, p2, c3, c4, rfl, rfl, ip, hi, hw⟩
    have hi2 := lt_of_get hy
    rw [List.length_map, List.length_range] at hi2
    have gl : ∀ p2 ds, (Ω.set k p2 ++ [OC.lst ds])[Ω.length]? = some (.lst ds) := fun p2 ds => by rw [← le1 p2, get_last]
    walk_at "hl"
    refine wr_pow ⟨by decide, by decide, by decide⟩ ?_
    walk_at "hl"
    refine dn hk ip (by decide) (by decide) fun r p1 r0 r1 ip => ?_
    refine wr_ix_ints (ns := [1, 10, 10, 100000000]) rfl r0 (by simpa using r1) fun b hb => ?_
    have hb : 1 ≤ b ∧ b ≤ 100000000 := by simp at hb; omega
    walk_at "hl"
    refine dn hk ip (by omega) (by omega) fun t p1 t0 t1 ip => ?_
    walk_at "hl"
    refine ⟨⟨_, by show sqO _ = _; rw [gl]; rfl, rfl⟩, ?_⟩
    walk_at "hl"
    refine dn hk ip (by decide) (by decide) fun r2 p1 r20 r21 ip => ?_
    refine wr_ix_ints (ns := [1, 2, 3, 6]) rfl r20 (by simpa using r21) fun c hc => ?_
    have hc : 1 ≤ c ∧ c ≤ 6 := by simp at hc; omega
    walk_at "hl"
    refine ⟨t, c, rfl, by omega, ⟨3, by omega, by decide⟩, ?_⟩
    walk_at "hl"
    refine wm_append (gl _ _) (by simp; omega) ⟨ws ++ [Rat.divInt t c], p1, _, _, rfl, ?_, ip, by simp [hi], all_app hw (all_cons ⟨sz_of_divInt (by omega) (by omega) (by omega), ?_⟩ all_nil)⟩
    · rw [← le1 p1, set_last]; simp
    · rw [Rat.divInt_eq_div, Rat.div_def]
      exact Rat.mul_nonneg (Rat.intCast_nonneg.mpr t0) (Rat.le_of_lt (Rat.inv_pos.mpr (Rat.intCast_pos.mpr (by omega))))
  · rintro Γ Ω1 ⟨ws, p2, c3, c4, rfl, rfl, ip, hi, hw⟩
    rw [List.length_map, List.length_range] at hi
    subst hT
    refine ws_ret (we_varF rfl (by rw [← le1 p2, get_last]; exact asDs_data _) ?_)
    rw [← le1 p2, set_last]
    exact dr_pool hk ip (q ws p2 (by omega) hw ip) (fun i h => by cases h)
theorem sp_len_law_widths {K : KF} (ds : List DV) (Ω : Om) (R : DV → Om → Prop) (X : Exc → Om → Prop) (h : sp_law_widths K ds Ω R X) : ds.length = 2 := by
  unfold sp_law_widths at h
  first
    | (obtain ⟨rfl, _⟩ := h; rfl)
    | (obtain ⟨_, rfl, _⟩ := h; rfl)
    | (obtain ⟨_, _, rfl, _⟩ := h; rfl)
    | (obtain ⟨_, _, _, rfl, _⟩ := h; rfl)
    | (obtain ⟨_, _, _, _, rfl, _⟩ := h; rfl)
    | (obtain ⟨_, _, _, _, _, rfl, _⟩ := h; rfl)
    | (obtain ⟨_, _, _, _, _, _, rfl, _⟩ := h; rfl)
    | (obtain ⟨_, _, _, _, _, _, _, rfl, _⟩ := h; rfl)
    | (obtain ⟨_, _, _, _, _, _, _, _, rfl, _⟩ := h; rfl)
def sp_are_broad (K : KF) : Spec := fun ds Ω R X => ∃ (x : PyData) (n : Nat), ds = [.d x] ∧ Fit (n + 3) x ∧ R (.d (.bool (areBroad x))) Ω
def t_are_broad (K : KF) (W : WX) : TS :=
  (tSeq (tIfS (tOr (tNot (tB (tCB (rIsi K) (tCons (tVar 0) (tCons (tC (.ty "tuple")) tNil))))) (tNot (tTest (tChain oLe oLe (tC (.int 1)) (tCB (rLenQ K) (tCons (tVar 0) tNil)) (tC (.int (8))))))) (tRet (tC (.bl false))) tNext)
    (tSeq (tFor (iSeq K (tVar 0)) (gName 1) (tIfS (tOr (tNot (tB (tCB (rIsi K) (tCons (tVar 1) (tCons (tC (.ty "tuple")) tNil))))) (tOr (tTest (tOp (rNeD K) (tCB (rLenQ K) (tCons (tVar 1) tNil)) (tC (.int 4)))) (tOr (tNot (tB (tCall (FS K (sp_is_ratio K)) [] E0 (tCons (tOp (rIx K) (tVar 1) (tC (.int (0)))) tNil)))) (tNot (tB (tCall (FS K (sp_is_ratio K)) [] E0 (tCons (tOp (rIx K) (tVar 1) (tC (.int (3)))) tNil))))))) (tRet (tC (.bl false))) tNext))
    (tRet (tCB (rAll K) (tCons (tLc (iSeq K (tVar 0)) (gName 1) tYes (tOp oGe (tOp (rIx K) (tOp (rIx K) (tVar 1) (tC (.int (3)))) (tC (.int 0))) (tC (.int 0))) [1]) tNil)))))
theorem w_are_broad {K : KF} (W : WX) (ds : List DV) (Ω : Om) (R : DV → Om → Prop) (X : Exc → Om → Prop) (h : sp_are_broad K ds Ω R X) : WS K W (t_are_broad K W) (startG 2 ds) Ω (fnO Ω R X) := by
  obtain ⟨x, n, rfl, hf, q⟩ := h
  show WS K W (t_are_broad K W) [some (.d x), none] Ω _
  unfold t_are_broad
  have kx : known x = true := fit_known hf
  have no : areBroad x = false → ∀ {c : Option DV} {O : Outs} (_ : O.rt = (fnO Ω R X).rt := by rfl), WS K W (tRet (tC (.bl false))) [some (.d x), c] Ω O := fun e c O eo => by
    rw [e] at q
    walk_at "hl"
    rw [eo]
    exact dr_same q
  walk_at "hl"
  cases hx : isTuple x with
  | false => exact bT rfl (bT rfl (no (by cases x <;> first | rfl | cases hx)))
  | true =>
    obtain ⟨xs, rfl⟩ := isTuple_eq hx
    refine bF rfl ?_
    have er : areBroad (.tuple xs) = ((decide (1 ≤ xs.length) && decide (xs.length ≤ 8)) && (xs.all brdB && xs.all widB)) := rfl
    walk_at "hl"
    rw [List.length_map]
    refine ⟨fun h1 => ?ya, fun h1 => ?na⟩
    case na =>
      walk_at "hl"
      refine bT rfl (no ?_)
      have h1 := of_decide_eq_false h1
      rw [er, decide_eq_false (show ¬ 1 ≤ xs.length by omega)]; rfl
    walk_at "hl"
    refine ⟨fun h2 => no ?_, fun h2 => ?_⟩
    · have h3 : decide (xs.length ≤ 8) = false := decide_eq_false fun e => by
        have : decide ((xs.length : Int) ≤ 8) = true := decide_eq_true (by omega)
        rw [this] at h2
        cases h2
      rw [er, h3, Bool.and_false, Bool.false_and]
    have h1 := of_decide_eq_true h1
    have h2 : xs.length ≤ 8 := by
      have : decide ((xs.length : Int) ≤ 8) = true := by revert h2; cases decide ((xs.length : Int) ≤ 8) <;> simp
      have := of_decide_eq_true this
      omega
    rw [decide_eq_true (show 1 ≤ xs.length by omega), decide_eq_true h2, Bool.and_self, Bool.true_and] at er
    walk_at "hl"
    refine ws_for (wi_T id xs ?_)
    walk_at "hl"
    refine ⟨by rw [List.map_id], ?_⟩
    refine ⟨fun i Γ Ω1 => ∃ c, Γ = [some (.d (.tuple xs)), c] ∧ Ω1 = Ω ∧ ∀ y ∈ xs.take i, brdB y = true, ⟨none, rfl, rfl, fun _ h => by cases h⟩, ?_, ?_, ?_⟩
    · rintro i Γ Ω1 - ⟨c, rfl, rfl, -⟩
      exact ⟨trivial, Nat.le_refl _⟩
    · rintro i y Γ Ω1 hy ⟨c, rfl, rfl, ha⟩
      obtain ⟨y, rfl, gy, my, iy, ty⟩ := lmap_get hy
      have fy : Fit (n + 2) y := fit_mem hf my
      have ky : known y = true := fit_known fy
      have bad : brdB y = false → areBroad (.tuple xs) = false := fun e => by
        rw [er]
        have : xs.all brdB = false := by
          refine Bool.eq_false_iff.mpr fun h => ?_
          rw [List.all_eq_true.mp h y my] at e
          cases e
        rw [this]; rfl
      have next : brdB y = true → ∀ z ∈ xs.take (i + 1), brdB z = true := fun e => by
        rw [ty]
        exact all_app ha (all_cons e all_nil)
      show WG K (gName 1) (.d y) _ _ _
      walk_at "hl"
      cases hy : isTuple y with
      | false => exact bT rfl (bT rfl (no (bad (by cases y <;> first | rfl | cases hy))))
      | true =>
        obtain ⟨ys, rfl⟩ := isTuple_eq hy
        refine bF rfl ?_
        walk_at "hl"
        rw [List.length_map]
        refine ⟨fun h => ?_, fun h => ?_⟩
        · refine bT rfl (no (bad ?_))
          have h : ¬ ys.length = 4 := fun e => by
            rw [e] at h; cases h
          unfold brdB
          split
          · rename_i e; cases e; exact absurd rfl h
          · rfl
        · have h : ys.length = 4 := by
            have : decide ((ys.length : Int) = 4) = true := by revert h; cases decide ((ys.length : Int) = 4) <;> simp
            have := of_decide_eq_true this
            omega
          obtain ⟨p, s, w, d, rfl⟩ := len4 h
          have eb : brdB (.tuple [p, s, w, d]) = (isRatio p && isRatio d) := rfl
          walk_at "hl"
          refine ⟨p, n, rfl, fit_mem fy (by simp), ?_⟩
          walk_at "hl"
          cases hp : isRatio p with
          | false => first | exact bT rfl (bT rfl (no (bad (by rw [eb, hp]; rfl)))) | exact bT rfl (no (bad (by rw [eb, hp]; rfl)))
          | true =>
            refine bF rfl ?_
            walk_at "hl"
            refine ⟨d, n, rfl, fit_mem fy (by simp), ?_⟩
            walk_at "hl"
            cases hd : isRatio d with
            | false => first | exact bT rfl (bT rfl (no (bad (by rw [eb, hp, hd]; rfl)))) | exact bT rfl (no (bad (by rw [eb, hp, hd]; rfl)))
            | true =>
              refine bF rfl ?_
              walk_at "hl"
              exact ⟨_, rfl, rfl, next (by rw [eb, hp, hd]; rfl)⟩
    · rintro Γ Ω1 ⟨c, rfl, rfl, ha⟩
      rw [List.length_map, List.take_length] at ha
      have e1 : xs.all brdB = true := List.all_eq_true.mpr ha
      rw [er, e1, Bool.true_and] at q
      walk_at "hl"
      refine we_lcP (α := PyData) only1 (wi_T id xs ?_)
      walk_at "hl"
      refine ⟨by rw [List.map_id], xs, _, fun _ => true, fun y => .bool (widB y), rfl, by omega, rfl, fun _ => trivial, ?_, ?_⟩
      · rintro y Ω' hy -
        obtain ⟨p, d, s, w, rfl⟩ := brd_eq (ha y hy)
        show WG K (gName 1) (.d (.tuple [dR p, s, w, dR d])) _ _ _
        walk_at "hl"
        refine ⟨rfl, rfl, fun _ => ?_⟩
        walk_at "hl"
        exact ⟨rfl, rfl⟩
      rw [filter_yes]
      walk_at "hl"
      refine wc_all (bs := xs.map widB) (by rw [List.map_map]; rfl) ?_
      have ea : (xs.map widB).all id = xs.all widB := by rw [List.all_map]; rfl
      rw [ea]
      exact dr_same q
theorem sp_len_are_broad {K : KF} (ds : List DV) (Ω : Om) (R : DV → Om → Prop) (X : Exc → Om → Prop) (h : sp_are_broad K ds Ω R X) : ds.length = 1 := by
  unfold sp_are_broad at h
  first
    | (obtain ⟨rfl, _⟩ := h; rfl)
    | (obtain ⟨_, rfl, _⟩ := h; rfl)
    | (obtain ⟨_, _, rfl, _⟩ := h; rfl)
    | (obtain ⟨_, _, _, rfl, _⟩ := h; rfl)
    | (obtain ⟨_, _, _, _, rfl, _⟩ := h; rfl)
    | (obtain ⟨_, _, _, _, _, rfl, _⟩ := h; rfl)
    | (obtain ⟨_, _, _, _, _, _, rfl, _⟩ := h; rfl)
    | (obtain ⟨_, _, _, _, _, _, _, rfl, _⟩ := h; rfl)
    | (obtain ⟨_, _, _, _, _, _, _, _, rfl, _⟩ := h; rfl)
def badR : PyData → PyData → Bool
  | .int _, .int b => decide (b = 0)
  | _, _ => true
/-- a ratio made: of a whole number and one that is not 0; else refused -/
def sp_ratio (K : KF) : Spec := fun ds Ω R X => ∃ x y, ds = [.d x, .d y] ∧ known x = true ∧ known y = true ∧
  ((∃ a b : Int, x = .int a ∧ y = .int b ∧ b ≠ 0 ∧ (∃ k, b.natAbs < 2 ^ k ∧ k ≤ 8990) ∧ R (.d (dR (Rat.divInt a b))) Ω) ∨ (badR x y = true ∧ X (.own (He.ga K "NoRatio")) Ω))
def t_ratio (K : KF) (W : WX) : TS :=
  (tSeq (tIfS (tOr (tNot (tB (tCall (FS K (sp_is_whole K)) [] E0 (tCons (tVar 0) tNil)))) (tOr (tNot (tB (tCall (FS K (sp_is_whole K)) [] E0 (tCons (tVar 1) tNil)))) (tTest (tOp (rEqD K) (tVar 1) (tC (.int 0)))))) (tRaise K "NoRatio" W) tNext)
    (tSeq (tAsg (tCall (FS K (sp_divisor_of K)) [] E0 (tCons (tVar 0) (tCons (tVar 1) tNil))) (gName 2))
    (tSeq (tIfS (tTest (tOp oLt (tVar 1) (tC (.int 0)))) (tAsg (tOp oSub (tC (.int 0)) (tVar 2)) (gName 2)) tNext)
    (tRet (tTup (tCons (tOp oFdiv (tVar 0) (tVar 2)) (tCons (tOp oFdiv (tVar 1) (tVar 2)) tNil)))))))
theorem w_ratio {K : KF} (W : WX) (ds : List DV) (Ω : Om) (R : DV → Om → Prop) (X : Exc → Om → Prop) (h : sp_ratio K ds Ω R X) : WS K W (t_ratio K W) (startG 3 ds) Ω (fnO Ω R X) := by
  obtain ⟨x, y, rfl, hn, hm, h⟩ := h
  show WS K W (t_ratio K W) [some (.d x), some (.d y), none] Ω _
  unfold t_ratio
  rcases h with ⟨a, b, rfl, rfl, hb, ⟨k, hk, hk2⟩, q⟩ | ⟨hbad, q⟩
  · walk_at "hl"
    refine ⟨_, rfl, hn, ?_⟩
    walk_at "hl"
    refine bF rfl ?_
    walk_at "hl"
    refine ⟨_, rfl, hm, ?_⟩
    walk_at "hl"
    refine bF rfl ?_
    walk_at "hl"
    refine ⟨fun h => absurd (of_decide_eq_true h) hb, fun _ => ?_⟩
    walk_at "hl"
    refine ⟨a, b, rfl, ?_⟩
    walk_at "hl"
    rw [dR_eq hb] at q
    refine ⟨fun h => ?_, fun h => ?_⟩
    · walk_at "hl"
      have e : (0 - ((Int.gcd a b : Nat) : Int)) = byOf a b := by
        unfold byOf
        rw [if_pos (of_decide_eq_true h)]
      rw [e]
      refine wr_fdiv (cdiv_by hb hk hk2) ?_
      walk_at "hl"
      refine wr_fdiv (cdiv_by hb hk hk2) ?_
      walk_at "hl"
      exact dr_same q
    · walk_at "hl"
      have e : ((Int.gcd a b : Nat) : Int) = byOf a b := by
        unfold byOf
        rw [if_neg (of_decide_eq_false h)]
      rw [e]
      refine wr_fdiv (cdiv_by hb hk hk2) ?_
      walk_at "hl"
      refine wr_fdiv (cdiv_by hb hk hk2) ?_
      walk_at "hl"
      exact dr_same q
  · have bad : ∀ {O : Outs}, O.er [some (.d x), some (.d y), none] (.own (He.ga K "NoRatio")) Ω → WS K W (tRaise K "NoRatio" W) [some (.d x), some (.d y), none] Ω O := fun z => ws_rs z
    walk_at "hl"
    refine ⟨_, rfl, hn, ?_⟩
    walk_at "hl"
    cases hx : wholeB x with
    | false => exact bT rfl (bT rfl (bad (.inl q)))
    | true =>
      refine bF rfl ?_
      walk_at "hl"
      refine ⟨_, rfl, hm, ?_⟩
      walk_at "hl"
      cases hy : wholeB y with
      | false => exact bT rfl (bT rfl (bad (.inl q)))
      | true =>
        refine bF rfl ?_
        walk_at "hl"
        cases x <;> cases hx
        cases y <;> cases hy
        rename_i a b
        have e : b = 0 := of_decide_eq_true hbad
        subst e
        walk_at "hl"
        exact bT rfl (bad (.inl q))
theorem sp_len_ratio {K : KF} (ds : List DV) (Ω : Om) (R : DV → Om → Prop) (X : Exc → Om → Prop) (h : sp_ratio K ds Ω R X) : ds.length = 2 := by
  unfold sp_ratio at h
  first
    | (obtain ⟨rfl, _⟩ := h; rfl)
    | (obtain ⟨_, rfl, _⟩ := h; rfl)
    | (obtain ⟨_, _, rfl, _⟩ := h; rfl)
    | (obtain ⟨_, _, _, rfl, _⟩ := h; rfl)
    | (obtain ⟨_, _, _, _, rfl, _⟩ := h; rfl)
    | (obtain ⟨_, _, _, _, _, rfl, _⟩ := h; rfl)
    | (obtain ⟨_, _, _, _, _, _, rfl, _⟩ := h; rfl)
    | (obtain ⟨_, _, _, _, _, _, _, rfl, _⟩ := h; rfl)
    | (obtain ⟨_, _, _, _, _, _, _, _, rfl, _⟩ := h; rfl)
def sp_minus (K : KF) : Spec := fun ds Ω R X => ∃ p q : Rat, ds = [.d (dR p), .d (dR q)] ∧ Sz2 p q ∧ R (.d (dR (p - q))) Ω
def t_minus (K : KF) (W : WX) : TS :=
  (tRet (tCall (FS K (sp_ratio K)) [] E0 (tCons (tOp oSub (tOp oMul (tOp (rIx K) (tVar 0) (tC (.int 0))) (tOp (rIx K) (tVar 1) (tC (.int 1)))) (tOp oMul (tOp (rIx K) (tVar 1) (tC (.int 0))) (tOp (rIx K) (tVar 0) (tC (.int 1))))) (tCons (tOp oMul (tOp (rIx K) (tVar 0) (tC (.int 1))) (tOp (rIx K) (tVar 1) (tC (.int 1)))) tNil))))
theorem w_minus {K : KF} (W : WX) (ds : List DV) (Ω : Om) (R : DV → Om → Prop) (X : Exc → Om → Prop) (h : sp_minus K ds Ω R X) : WS K W (t_minus K W) (startG 2 ds) Ω (fnO Ω R X) := by
  obtain ⟨p, q, rfl, ⟨n, m, hp, hq, hz⟩, k⟩ := h
  show WS K W (t_minus K W) [some (.d (dR p)), some (.d (dR q))] Ω _
  unfold t_minus
  obtain ⟨nn, nd, dn, dd⟩ := muls hp hq (by omega)
  obtain ⟨nn', nd', dn', dd'⟩ := muls hq hp (by omega)
  walk_at "hl"
  refine ⟨_, _, rfl, rfl, rfl, .inl ⟨_, _, rfl, rfl, den_mul_ne p q, ⟨n + m, den_mul_lt hp hq, by omega⟩, ?_⟩⟩
  walk_at "hl"
  rw [rat_sub]
  exact dr_same k
theorem sp_len_minus {K : KF} (ds : List DV) (Ω : Om) (R : DV → Om → Prop) (X : Exc → Om → Prop) (h : sp_minus K ds Ω R X) : ds.length = 2 := by
  unfold sp_minus at h
  first
    | (obtain ⟨rfl, _⟩ := h; rfl)
    | (obtain ⟨_, rfl, _⟩ := h; rfl)
    | (obtain ⟨_, _, rfl, _⟩ := h; rfl)
    | (obtain ⟨_, _, _, rfl, _⟩ := h; rfl)
    | (obtain ⟨_, _, _, _, rfl, _⟩ := h; rfl)
    | (obtain ⟨_, _, _, _, _, rfl, _⟩ := h; rfl)
    | (obtain ⟨_, _, _, _, _, _, rfl, _⟩ := h; rfl)
    | (obtain ⟨_, _, _, _, _, _, _, rfl, _⟩ := h; rfl)
    | (obtain ⟨_, _, _, _, _, _, _, _, rfl, _⟩ := h; rfl)
def sp_plus (K : KF) : Spec := fun ds Ω R X => ∃ p q : Rat, ds = [.d (dR p), .d (dR q)] ∧ Sz2 p q ∧ R (.d (dR (p + q))) Ω
def t_plus (K : KF) (W : WX) : TS :=
  (tRet (tCall (FS K (sp_ratio K)) [] E0 (tCons (tOp (rAddX K) (tOp oMul (tOp (rIx K) (tVar 0) (tC (.int 0))) (tOp (rIx K) (tVar 1) (tC (.int 1)))) (tOp oMul (tOp (rIx K) (tVar 1) (tC (.int 0))) (tOp (rIx K) (tVar 0) (tC (.int 1))))) (tCons (tOp oMul (tOp (rIx K) (tVar 0) (tC (.int 1))) (tOp (rIx K) (tVar 1) (tC (.int 1)))) tNil))))
theorem w_plus {K : KF} (W : WX) (ds : List DV) (Ω : Om) (R : DV → Om → Prop) (X : Exc → Om → Prop) (h : sp_plus K ds Ω R X) : WS K W (t_plus K W) (startG 2 ds) Ω (fnO Ω R X) := by
  obtain ⟨p, q, rfl, ⟨n, m, hp, hq, hz⟩, k⟩ := h
  show WS K W (t_plus K W) [some (.d (dR p)), some (.d (dR q))] Ω _
  unfold t_plus
  obtain ⟨nn, nd, dn, dd⟩ := muls hp hq (by omega)
  obtain ⟨nn', nd', dn', dd'⟩ := muls hq hp (by omega)
  walk_at "hl"
  refine ⟨_, _, rfl, rfl, rfl, .inl ⟨_, _, rfl, rfl, den_mul_ne p q, ⟨n + m, den_mul_lt hp hq, by omega⟩, ?_⟩⟩
  walk_at "hl"
  rw [rat_add]
  exact dr_same k
theorem sp_len_plus {K : KF} (ds : List DV) (Ω : Om) (R : DV → Om → Prop) (X : Exc → Om → Prop) (h : sp_plus K ds Ω R X) : ds.length = 2 := by
  unfold sp_plus at h
  first
    | (obtain ⟨rfl, _⟩ := h; rfl)
    | (obtain ⟨_, rfl, _⟩ := h; rfl)
    | (obtain ⟨_, _, rfl, _⟩ := h; rfl)
    | (obtain ⟨_, _, _, rfl, _⟩ := h; rfl)
    | (obtain ⟨_, _, _, _, rfl, _⟩ := h; rfl)
    | (obtain ⟨_, _, _, _, _, rfl, _⟩ := h; rfl)
    | (obtain ⟨_, _, _, _, _, _, rfl, _⟩ := h; rfl)
    | (obtain ⟨_, _, _, _, _, _, _, rfl, _⟩ := h; rfl)
    | (obtain ⟨_, _, _, _, _, _, _, _, rfl, _⟩ := h; rfl)
def mvW (x : Rat) : Wl → Wl
  | none => none
  | some (p, s) => some (p + x, s)
def sp_moved (K : KF) : Spec := fun ds Ω R X => ∃ (w : Wl) (x : Rat), ds = [.d (dW w), .d (dR x)] ∧ (∀ p s, w = some (p, s) → Sz2 p x) ∧ R (.d (dW (mvW x w))) Ω
def t_moved (K : KF) (W : WX) : TS :=
  (tSeq (tIfS (tTest (tOp oIsN (tVar 0) (tC .non))) (tRet (tC .non)) tNext)
    (tRet (tTup (tCons (tCall (FS K (sp_plus K)) [] E0 (tCons (tOp (rIx K) (tVar 0) (tC (.int (0)))) (tCons (tVar 1) tNil))) (tCons (tOp (rIx K) (tVar 0) (tC (.int 1))) tNil)))))
theorem w_moved {K : KF} (W : WX) (ds : List DV) (Ω : Om) (R : DV → Om → Prop) (X : Exc → Om → Prop) (h : sp_moved K ds Ω R X) : WS K W (t_moved K W) (startG 2 ds) Ω (fnO Ω R X) := by
  obtain ⟨w, x, rfl, hz, q⟩ := h
  show WS K W (t_moved K W) [some (.d (dW w)), some (.d (dR x))] Ω _
  unfold t_moved
  walk_at "hl"
  cases w with
  | none =>
    refine bT rfl ?_
    walk_at "hl"
    exact dr_same q
  | some w =>
    refine bF rfl ?_
    walk_at "hl"
    refine ⟨w.1, x, rfl, hz w.1 w.2 rfl, ?_⟩
    walk_at "hl"
    exact dr_same q
theorem sp_len_moved {K : KF} (ds : List DV) (Ω : Om) (R : DV → Om → Prop) (X : Exc → Om → Prop) (h : sp_moved K ds Ω R X) : ds.length = 2 := by
  unfold sp_moved at h
  first
    | (obtain ⟨rfl, _⟩ := h; rfl)
    | (obtain ⟨_, rfl, _⟩ := h; rfl)
    | (obtain ⟨_, _, rfl, _⟩ := h; rfl)
    | (obtain ⟨_, _, _, rfl, _⟩ := h; rfl)
    | (obtain ⟨_, _, _, _, rfl, _⟩ := h; rfl)
    | (obtain ⟨_, _, _, _, _, rfl, _⟩ := h; rfl)
    | (obtain ⟨_, _, _, _, _, _, rfl, _⟩ := h; rfl)
    | (obtain ⟨_, _, _, _, _, _, _, rfl, _⟩ := h; rfl)
    | (obtain ⟨_, _, _, _, _, _, _, _, rfl, _⟩ := h; rfl)
def sp_thinned (K : KF) : Spec := fun ds Ω R X => ∃ (l : List Bb) (a b : Wl), ds = [.d (dBroad l), .d (dWs a b)] ∧ l.length ≤ 20 ∧ (∀ b ∈ l, Sz 4000 b.p ∧ Sz 40 b.d) ∧ (∀ p s, b = some (p, s) → Sz 4000 p) ∧
  R (.d (dRW (thinF 0 l, a, mvW (0 - sumR (l.map Bb.d)) b))) Ω
def t_thinned (K : KF) (W : WX) : TS :=
  (tSeq (tAsg (tC (.ref (He.ga K "NOUGHT"))) (gName 2))
    (tSeq (tAsg (tLst tNil) (gName 3))
    (tSeq (tFor (iSeq K (tVar 0)) (gName 4) (tSeq (tDrop (tBM K "list" rAppend (tVar 3) (tCons (tTup (tCons (tCall (FS K (sp_minus K)) [] E0 (tCons (tOp (rIx K) (tVar 4) (tC (.int (0)))) (tCons (tVar 2) tNil))) (tCons (tOp (rIx K) (tVar 4) (tC (.int 1))) (tCons (tOp (rIx K) (tVar 4) (tC (.int 2))) tNil)))) tNil)))
    (tAsg (tCall (FS K (sp_plus K)) [] E0 (tCons (tVar 2) (tCons (tOp (rIx K) (tVar 4) (tC (.int (3)))) tNil))) (gName 2))))
    (tRet (tTup (tCons (tCB (rTupQ K) (tCons (tVar 3) tNil)) (tCons (tTup (tCons (tOp (rIx K) (tVar 1) (tC (.int (0)))) (tCons (tCall (FS K (sp_moved K)) [] E0 (tCons (tOp (rIx K) (tVar 1) (tC (.int (1)))) (tCons (tCall (FS K (sp_minus K)) [] E0 (tCons (tC (.ref (He.ga K "NOUGHT"))) (tCons (tVar 2) tNil))) tNil))) tNil))) tNil)))))))
theorem w_thinned {K : KF} (q0 : He.tupB K "NOUGHT" [.int 0, .int 1] = true) (W : WX) (ds : List DV) (Ω : Om) (R : DV → Om → Prop) (X : Exc → Om → Prop) (h : sp_thinned K ds Ω R X) : WS K W (t_thinned K W) (startG 5 ds) Ω (fnO Ω R X) := by
  obtain ⟨l, a, b, rfl, l20, zl, zb, q⟩ := h
  show WS K W (t_thinned K W) [some (.d (dBroad l)), some (.d (dWs a b)), none, none, none] Ω _
  unfold t_thinned
  walk_at "hl"
  refine ws_for (wi_T dBb l ?_)
  walk_at "hl"
  refine ⟨rfl, ?_⟩
  have zt : ∀ i, Sz (41 * ((l.take i).map Bb.d).length + 1) (sumR ((l.take i).map Bb.d)) := fun i => sumR_sz fun w hw => by
    obtain ⟨b, hb, rfl⟩ := List.mem_map.mp hw
    exact (zl b (List.mem_of_mem_take hb)).2
  have zi : ∀ i, Sz 821 (sumR ((l.take i).map Bb.d)) := fun i => (zt i).mono (by rw [List.length_map, List.length_take]; omega)
  refine ⟨fun i Γ Ω1 => ∃ c4, Γ = [some (.d (dBroad l)), some (.d (dWs a b)), some (.d (dR (sumR ((l.take i).map Bb.d)))), some (.o Ω.length), c4] ∧ Ω1 = Ω ++ [.lst (((thinF 0 (l.take i)).map dB).map DV.d)],
    ⟨_, rfl, rfl⟩, ?_, ?_, ?_⟩
  · rintro i Γ Ω1 - ⟨c4, rfl, rfl⟩
    exact ⟨trivial, by simp⟩
  · rintro i y Γ Ω1 hy ⟨c4, rfl, rfl⟩
    obtain ⟨c, rfl, gc, mc, ic, tc⟩ := lmap_get hy
    walk_at "hl"
    refine ⟨⟨_, sq_last _ _, rfl⟩, ?_⟩
    walk_at "hl"
    refine ⟨c.p, _, rfl, ⟨4000, 821, (zl c mc).1, zi i, by omega⟩, ?_⟩
    walk_at "hl"
    refine wm_appL (by simp [thin_len]; omega) ?_
    walk_at "hl"
    refine ⟨_, c.d, rfl, ⟨821, 40, zi i, (zl c mc).2, by omega⟩, ?_⟩
    walk_at "hl"
    refine ⟨some (.d (dBb c)), ?_, ?_⟩
    · rw [tc, List.map_append, List.map_singleton, sumR_snoc]; rfl
    · rw [tc, thin_snoc, Rat.zero_add]
      simp [dB]
  · rintro Γ Ω1 ⟨c4, rfl, rfl⟩
    have e : l.take (l.map fun b => DV.d (dBb b)).length = l := by rw [List.length_map, List.take_length]
    have zl := zi l.length
    rw [List.take_length] at zl
    rw [e]
    walk_at "hl"
    refine wc_tup' (xs := (thinF 0 l).map dB) (by rw [ls_last]; exact asDs_data _) ?_
    walk_at "hl"
    refine ⟨0, _, rfl, ⟨1, 821, sz_zero (by decide), zl, by omega⟩, ?_⟩
    walk_at "hl"
    refine ⟨b, _, rfl, fun p s e => ⟨4000, 823, zb p s e, (sz_zero (n := 1) (by decide)).sub zl, by omega⟩, ?_⟩
    walk_at "hl"
    exact dr_app q (fun i h => by cases h)
theorem sp_len_thinned {K : KF} (ds : List DV) (Ω : Om) (R : DV → Om → Prop) (X : Exc → Om → Prop) (h : sp_thinned K ds Ω R X) : ds.length = 2 := by
  unfold sp_thinned at h
  first
    | (obtain ⟨rfl, _⟩ := h; rfl)
    | (obtain ⟨_, rfl, _⟩ := h; rfl)
    | (obtain ⟨_, _, rfl, _⟩ := h; rfl)
    | (obtain ⟨_, _, _, rfl, _⟩ := h; rfl)
    | (obtain ⟨_, _, _, _, rfl, _⟩ := h; rfl)
    | (obtain ⟨_, _, _, _, _, rfl, _⟩ := h; rfl)
    | (obtain ⟨_, _, _, _, _, _, rfl, _⟩ := h; rfl)
    | (obtain ⟨_, _, _, _, _, _, _, rfl, _⟩ := h; rfl)
    | (obtain ⟨_, _, _, _, _, _, _, _, rfl, _⟩ := h; rfl)
def isBroad (a b : Wl) (l : List Bb) : Bool := apart a (mvW (0 - sumR (l.map Bb.d)) b) && isRow a (mvW (0 - sumR (l.map Bb.d)) b) (dRow (thinF 0 l))
def sp_is_broad (K : KF) : Spec := fun ds Ω R X => ∃ (a b : Wl) (x : PyData) (n : Nat), ds = [.d (dWs a b), .d x] ∧ Fit (n + 3) x ∧ WSz 2000 a ∧ WSz 2000 b ∧ (areBroad x = false ∧ R (.d (.bool false)) Ω ∨ areBroad x = true ∧ ∃ l : List Bb, x = dBroad l ∧ (∀ b ∈ l, Sz 2000 b.p ∧ Sz 2000 b.s ∧ b.w.natAbs < 2 ^ 4000 ∧ Sz 40 b.d) ∧ R (.d (.bool (isBroad a b l))) Ω)
def t_is_broad (K : KF) (W : WX) : TS :=
  (tSeq (tIfS (tNot (tB (tCall (FS K (sp_are_broad K)) [] E0 (tCons (tVar 1) tNil)))) (tRet (tC (.bl false))) tNext)
    (tSeq (tAsg (tCall (FS K (sp_thinned K)) [] E0 (tCons (tVar 1) (tCons (tVar 0) tNil))) (gTup K 2 (gCons (gName 2) (gCons (gName 3) gNil))))
    (tRet (tAndV (tCall (FS K (sp_walls_good K)) [] E0 (tCons (tVar 3) tNil)) (tCall (FS K (sp_is_row K)) [] E0 (tCons (tVar 3) (tCons (tVar 2) tNil)))))))
theorem thin_szs {n m k N : Nat} : ∀ {a : Rat} {l : List Bb}, (∀ b ∈ l, Sz n b.p ∧ Sz m b.d) → Sz k a → (m + 1) * l.length + k + n + 1 ≤ N → ∀ b ∈ thinF a l, Sz N b.p ∧ ∃ c ∈ l, b.s = c.s ∧ b.w = c.w
  | a, b :: l, hl, ha, h, c, hc => by
    rw [List.length_cons, Nat.mul_add] at h
    rcases List.mem_cons.mp (show c ∈ (⟨b.p - a, b.s, b.w⟩ : Bl) :: thinF (a + b.d) l from hc) with rfl | hc
    · exact ⟨((hl b (List.mem_cons_self ..)).1.sub ha).mono (by omega), b, List.mem_cons_self .., rfl, rfl⟩
    · obtain ⟨h1, d, hd, h2⟩ := thin_szs (N := N) (fun b hb => hl b (List.mem_cons_of_mem _ hb)) (ha.add (hl b (List.mem_cons_self ..)).2) (by omega) c hc
      exact ⟨h1, d, List.mem_cons_of_mem _ hd, h2⟩
  | a, [], _, _, _, c, hc => by cases hc
theorem wsz_mv {n m k : Nat} {x : Rat} {b : Wl} (h : WSz n b) (hx : Sz m x) (l : n + m + 1 ≤ k) : WSz k (mvW x b) := by
  cases b with
  | none => exact trivial
  | some b => exact ⟨(h.1.add hx).mono l, h.2.mono (by omega)⟩
theorem fit_rowB {n : Nat} {l : List Bl} (h : ∀ b ∈ l, Sz 4000 b.p ∧ Sz 4000 b.s ∧ b.w.natAbs < 2 ^ 4000) : Fit (n + 3) (dRow l) := by
  refine fit_tup fun x hx => ?_
  obtain ⟨b, hb, rfl⟩ := List.mem_map.mp hx
  exact fit_dB (h b hb).1 (h b hb).2.1 (h b hb).2.2
theorem w_is_broad {K : KF} (W : WX) (ds : List DV) (Ω : Om) (R : DV → Om → Prop) (X : Exc → Om → Prop) (h : sp_is_broad K ds Ω R X) : WS K W (t_is_broad K W) (startG 4 ds) Ω (fnO Ω R X) := by
  obtain ⟨a, b, x, n, rfl, hf, za, zb, q⟩ := h
  show WS K W (t_is_broad K W) [some (.d (dWs a b)), some (.d x), none, none] Ω _
  unfold t_is_broad
  walk_at "hl"
  refine ⟨x, n, rfl, hf, ?_⟩
  walk_at "hl"
  rcases q with ⟨e, q⟩ | ⟨e, l, rfl, zl, q⟩
  · rw [e]
    refine bT rfl ?_
    walk_at "hl"
    exact dr_same q
  · rw [e]
    refine bF rfl ?_
    have l8 : l.length ≤ 8 := by
      rw [areBroad_dBroad] at e
      have := (Bool.and_eq_true_iff.mp (Bool.and_eq_true_iff.mp e).1).2
      exact of_decide_eq_true this
    have zs : Sz 400 (sumR (l.map Bb.d)) := (sumR_sz (n := 40) fun w hw => by
      obtain ⟨b, hb, rfl⟩ := List.mem_map.mp hw
      exact (zl b hb).2.2.2).mono (by rw [List.length_map]; omega)
    have zx : Sz 402 (0 - sumR (l.map Bb.d)) := (sz_zero (n := 1) (by decide)).sub zs
    have zm : WSz 4000 (mvW (0 - sumR (l.map Bb.d)) b) := wsz_mv zb zx (by decide)
    have za := za.mono (show 2000 ≤ 4000 by decide)
    have zr : ∀ b ∈ thinF 0 l, Sz 4000 b.p ∧ Sz 4000 b.s ∧ b.w.natAbs < 2 ^ 4000 := fun b hb => by
      obtain ⟨h1, c, hc, h2, h3⟩ := thin_szs (N := 4000) (fun b hb => ⟨(zl b hb).1, (zl b hb).2.2.2⟩) (sz_zero (n := 1) (by decide)) (by omega) b hb
      rw [h2, h3]
      exact ⟨h1, (zl c hc).2.1.mono (by decide), (zl c hc).2.2.1⟩
    walk_at "hl"
    refine ⟨l, a, b, rfl, by omega, fun b hb => ⟨(zl b hb).1.mono (by decide), (zl b hb).2.2.2⟩, fun p s e => by subst e; exact zb.1.mono (by decide), ?_⟩
    walk_at "hl"
    refine ⟨_, 0, rfl, fit_dWs za zm, ?_⟩
    rw [wallsGood_dWs]
    walk_at "hl"
    cases ha : apart a (mvW (0 - sumR (l.map Bb.d)) b) with
    | false =>
      have e : isBroad a b l = false := by unfold isBroad; rw [ha]; rfl
      rw [e] at q
      exact bF rfl (dr_same q)
    | true =>
      have e : isBroad a b l = isRow a (mvW (0 - sumR (l.map Bb.d)) b) (dRow (thinF 0 l)) := by unfold isBroad; rw [ha]; rfl
      rw [e] at q
      refine bT rfl ?_
      walk_at "hl"
      exact ⟨a, _, _, 0, rfl, za, zm, fit_rowB zr, dr_same q⟩
theorem sp_len_is_broad {K : KF} (ds : List DV) (Ω : Om) (R : DV → Om → Prop) (X : Exc → Om → Prop) (h : sp_is_broad K ds Ω R X) : ds.length = 2 := by
  unfold sp_is_broad at h
  first
    | (obtain ⟨rfl, _⟩ := h; rfl)
    | (obtain ⟨_, rfl, _⟩ := h; rfl)
    | (obtain ⟨_, _, rfl, _⟩ := h; rfl)
    | (obtain ⟨_, _, _, rfl, _⟩ := h; rfl)
    | (obtain ⟨_, _, _, _, rfl, _⟩ := h; rfl)
    | (obtain ⟨_, _, _, _, _, rfl, _⟩ := h; rfl)
    | (obtain ⟨_, _, _, _, _, _, rfl, _⟩ := h; rfl)
    | (obtain ⟨_, _, _, _, _, _, _, rfl, _⟩ := h; rfl)
    | (obtain ⟨_, _, _, _, _, _, _, _, rfl, _⟩ := h; rfl)
def sp_law (K : KF) : Spec := fun ds Ω R X => ∃ ns : List Int, ds = [.d (.list (ns.map PyData.int))] ∧ ns.length ≤ 63 ∧ ∀ Ω', R (.d (.bool true)) Ω'
def t_law (K : KF) (W : WX) : TS :=
  (tSeq (tFor (iRng1 (tCons (tOp (rAddX K) (tC (.int 1)) (tCB rMinI (tCons (tCB (rLenQ K) (tCons (tVar 0) tNil)) (tCons (tC (.int 30)) tNil)))) tNil)) (gName 1) (tSeq (tAsg (tCall (FS K (sp_law_left K)) [] E0 (tCons (tCall (FS K (sp_law_cell K)) [] E0 (tCons (tOp (rAddX K) (tLst (tCons (tC (.int 0)) tNil)) (tVar 0)) (tCons (tVar 1) tNil))) tNil)) (gName 2))
    (tSeq (tAsg (tCall (FS K (sp_law_start K)) [] E0 (tCons (tVar 2) tNil)) (gTup K 2 (gCons (gName 3) (gCons (gName 4) gNil))))
    (tSeq (tAsg (tCall (FS K (sp_law_thick K)) [] E0 (tCons (tVar 3) (tCons (tVar 4) (tCons (tCall (FS K (sp_law_widths K)) [] E0 (tCons (tVar 2) (tCons (tCB (rLenQ K) (tCons (tVar 3) tNil)) tNil))) tNil)))) (gTup K 2 (gCons (gName 5) (gCons (gName 6) gNil))))
    (tSeq (tIfS (tOr (tTest (tOp rIsnBl (tCall (FS K (sp_is_broad K)) [] E0 (tCons (tVar 6) (tCons (tVar 5) tNil))) (tC (.bl true)))) (tTest (tOp rIsnBl (tCall (FS K (sp_is_broad K)) [] E0 (tCons (tVar 6) (tCons (tCall (FS K (sp_law_odd K)) [] E0 (tCons (tVar 2) (tCons (tVar 5) tNil))) tNil))) (tC (.bl false))))) (tRet (tC (.bl false))) tNext)
    (tSeq (tAsg (tCall (FS K (sp_law_nine K)) [] E0 (tCons (tVar 5) tNil)) (gName 7))
    (tSeq (tIfS (tOr (tTest (tOp rIsnBl (tCall (FS K (sp_is_broad K)) [] E0 (tCons (tTup (tCons (tC .non) (tCons (tC .non) tNil))) (tCons (tVar 7) tNil))) (tC (.bl false)))) (tTest (tOp rIsnBl (tCall (FS K (sp_is_broad K)) [] E0 (tCons (tTup (tCons (tC .non) (tCons (tC .non) tNil))) (tCons (tSl (rSlS K) (tVar 7) tNoPart (tPart (tC (.int 8)))) tNil))) (tC (.bl true))))) (tRet (tC (.bl false))) tNext)
    (tFor (iRng1 (tCons (tC (.int 3)) tNil)) (gName 8) (tSeq (tAsg (tCall (FS K (sp_law_pushed K)) [] E0 (tCons (tVar 2) (tCons (tVar 5) (tCons (tVar 6) tNil)))) (gTup K 2 (gCons (gName 9) (gCons (gName 10) gNil))))
    (tIfS (tB (tCall (FS K (sp_walls_good K)) [] E0 (tCons (tVar 10) tNil))) (tSeq (tAsg (tCall (FS K (sp_is_broad K)) [] E0 (tCons (tVar 10) (tCons (tVar 9) tNil))) (gName 11))
    (tIfS (tOr (tNot (tB (tCB (rIsi K) (tCons (tVar 11) (tCons (tC (.ty "bool")) tNil))))) (tTest (tOp (rNeD K) (tVar 11) (tCall (FS K (sp_law_is K)) [] E0 (tCons (tVar 10) (tCons (tVar 9) tNil)))))) (tRet (tC (.bl false))) tNext)) tNext))))))))))
    (tRet (tC (.bl true))))
theorem mvN_eq (x : Rat) (w : Wl) : mvN x w = mvW (0 - x) w := by
  cases w with
  | none => rfl
  | some a => show some (a.1 - x, a.2) = some (a.1 + (0 - x), a.2); rw [show a.1 - x = a.1 + (0 - x) by grind]
theorem mv_back (x : Rat) (w : Wl) : mvW (0 - x) (mvT x w) = w := by
  cases w with
  | none => rfl
  | some a => show some (a.1 + x + (0 - x), a.2) = some a; rw [show a.1 + x + (0 - x) = a.1 by grind]
theorem thick_szs {n m k N : Nat} : ∀ {a : Rat} {l : List Bl} {ws : List Rat}, (∀ b ∈ l, Sz n b.p) → (∀ w ∈ ws, Sz m w) → Sz k a → (m + 1) * ws.length + k + n + 1 ≤ N → ∀ b ∈ thickF a l ws, Sz N b.p ∧ (b.d ∈ ws) ∧ ∃ c ∈ l, b.s = c.s ∧ b.w = c.w
  | a, b :: l, w :: ws, hl, hw, ha, h, c, hc => by
    rw [List.length_cons, Nat.mul_add] at h
    rcases List.mem_cons.mp (show c ∈ (⟨b.p + a, b.s, b.w, w⟩ : Bb) :: thickF (a + w) l ws from hc) with rfl | hc
    · exact ⟨((hl b (List.mem_cons_self ..)).add ha).mono (by omega), List.mem_cons_self .., b, List.mem_cons_self .., rfl, rfl⟩
    · obtain ⟨h1, h2, d, hd, h3⟩ := thick_szs (N := N) (fun b hb => hl b (List.mem_cons_of_mem _ hb)) (fun b hb => hw b (List.mem_cons_of_mem _ hb)) (ha.add (hw w (List.mem_cons_self ..))) (by omega) c hc
      exact ⟨h1, List.mem_cons_of_mem _ h2, d, List.mem_cons_of_mem _ hd, h3⟩
  | a, [], [], _, _, _, _, c, hc => by cases hc
  | a, [], w :: ws, _, _, _, _, c, hc => by cases hc
  | a, b :: l, [], _, _, _, _, c, hc => by cases hc
theorem isRow_badw {a b : Wl} {l : List Bl} {c : Bl} (hc : c ∈ l) (h : ¬ (1 ≤ c.w ∧ c.w ≤ 1000)) : isRow a b (dRow l) = false := by
  refine notRow_bad (x := dB c) (List.mem_map.mpr ⟨c, hc, rfl⟩) ?_ a b
  show (isRatio (dR c.p) && (isRatio (dR c.s) && (decide (1 ≤ c.w) && decide (c.w ≤ 1000)))) = false
  have : (decide (1 ≤ c.w) && decide (c.w ≤ 1000)) = false := by
    by_cases h1 : 1 ≤ c.w
    · rw [decide_eq_true h1, decide_eq_false (show ¬ c.w ≤ 1000 from fun h2 => h ⟨h1, h2⟩)]; rfl
    · rw [decide_eq_false h1]; rfl
  rw [this, Bool.and_false, Bool.and_false]
theorem thin_w : ∀ (a : Rat) (l : List Bb) (b : Bb), b ∈ l → ∃ c ∈ thinF a l, c.w = b.w
  | a, c :: l, b, h => by
    rcases List.mem_cons.mp h with rfl | h
    · exact ⟨_, List.mem_cons_self .., rfl⟩
    · obtain ⟨d, hd, e⟩ := thin_w (a + c.d) l b h
      exact ⟨d, List.mem_cons_of_mem _ hd, e⟩
theorem nine_from (b : Bb) : ∀ (n s : Nat) (a : Rat), a = ((s : Int) : Rat) * b.d →
    thinF a ((List.range' s n).map fun (k : Nat) => (⟨b.p + ((0 + (k : Int) : Int) : Rat) * (b.d + 1), 0, b.w, b.d⟩ : Bb)) = (List.range' s n).map fun (k : Nat) => (⟨b.p + ((k : Int) : Rat), 0, b.w⟩ : Bl)
  | 0, _, _, _ => rfl
  | n + 1, s, a, e => by
    show (⟨b.p + ((0 + (s : Int) : Int) : Rat) * (b.d + 1) - a, 0, b.w⟩ : Bl) :: thinF (a + b.d) ((List.range' (s + 1) n).map _) = (⟨b.p + ((s : Int) : Rat), 0, b.w⟩ : Bl) :: (List.range' (s + 1) n).map _
    rw [nine_from b n (s + 1) (a + b.d) ?_]
    · rw [Int.zero_add, show b.p + ((s : Int) : Rat) * (b.d + 1) - a = b.p + ((s : Int) : Rat) by rw [e]; grind]
    · rw [e, show (((s + 1 : Nat) : Int) : Rat) = ((s : Int) : Rat) + 1 by rw [show ((s + 1 : Nat) : Int) = (s : Int) + 1 by omega, Rat.intCast_add]; rfl]
      grind
theorem nine_thin (b : Bb) : thinF 0 ((nineL b).take 8) = (List.range 8).map fun (k : Nat) => (⟨b.p + ((k : Int) : Rat), 0, b.w⟩ : Bl) :=
  nine_from b 8 0 0 (by show (0 : Rat) = 0 * b.d; grind)
theorem nine_nb (b : Bb) : Nb mayB ((List.range 8).map fun (k : Nat) => (⟨b.p + ((k : Int) : Rat), 0, b.w⟩ : Bl)) = true := by
  refine nb_of_pair (List.pairwise_map.mpr (List.pairwise_lt_range.imp fun {i j} h => ?_))
  have : ((i : Int) : Rat) < ((j : Int) : Rat) := Rat.intCast_lt_intCast.mpr (by omega)
  unfold mayB mayS
  rw [if_neg (by show ¬ b.p + ((i : Int) : Rat) = b.p + ((j : Int) : Rat); grind)]
  exact decide_eq_true (by show b.p + ((i : Int) : Rat) < b.p + ((j : Int) : Rat); grind)
theorem ib_false {K : KF} {Ω : Om} {R : DV → Om → Prop} {X : Exc → Om → Prop} {a b : Wl} {x : PyData} {n : Nat} (hf : Fit (n + 3) x) (za : WSz 2000 a) (zb : WSz 2000 b)
    (h : areBroad x = false ∨ areBroad x = true ∧ ∃ l : List Bb, x = dBroad l ∧ (∀ b ∈ l, Sz 2000 b.p ∧ Sz 2000 b.s ∧ b.w.natAbs < 2 ^ 4000 ∧ Sz 40 b.d) ∧ isBroad a b l = false) (q : R (.d (.bool false)) Ω) : sp_is_broad K [.d (dWs a b), .d x] Ω R X := by
  rcases h with h | ⟨h, l, e, z, f⟩
  · exact ⟨a, b, x, n, rfl, hf, za, zb, .inl ⟨h, q⟩⟩
  · exact ⟨a, b, x, n, rfl, hf, za, zb, .inr ⟨h, l, e, z, by rw [f]; exact q⟩⟩
theorem w_law {K : KF} (W : WX) (ds : List DV) (Ω : Om) (R : DV → Om → Prop) (X : Exc → Om → Prop) (h : sp_law K ds Ω R X) : WS K W (t_law K W) (startG 12 ds) Ω (fnO Ω R X) := by
  obtain ⟨ns, rfl, hl, q⟩ := h
  show WS K W (t_law K W) [some (.d (.list (ns.map PyData.int))), none, none, none, none, none, none, none, none, none, none, none] Ω _
  unfold t_law
  walk_at "hl"
  refine ws_for (wi_rng1 ?_)
  walk_at "hl"
  refine ⟨_, rfl, ?_, ?_, ?_⟩
  · split <;> omega
  · split <;> omega
  refine ⟨fun i Γ Ω1 => ∃ c1 c2 c3 c4 c5 c6 c7 c8 c9 c10 c11, Γ = [some (.d (.list (ns.map PyData.int))), c1, c2, c3, c4, c5, c6, c7, c8, c9, c10, c11] ∧ Ω.length ≤ Ω1.length, ⟨none, none, none, none, none, none, none, none, none, none, none, rfl, Nat.le_refl _⟩, ?_, ?_, ?_⟩
  · rintro i Γ Ω1 - ⟨c1, c2, c3, c4, c5, c6, c7, c8, c9, c10, c11, rfl, hz⟩
    exact ⟨trivial, hz⟩
  · rintro i e Γ Ω1 he ⟨c1, c2, c3, c4, c5, c6, c7, c8, c9, c10, c11, rfl, hz⟩
    obtain ⟨hi, rfl⟩ := rng_get he
    have hi2 : i ≤ 63 := by
      revert hi
      split <;> omega
    walk_at "hl"
    refine wr_addL rfl rfl (by simp; omega) ?_
    walk_at "hl"
    refine ⟨_, 0 :: ns, 0 + (i : Int), rfl, rfl, by omega, by omega, fun v => ?_⟩
    walk_at "hl"
    refine ⟨v, rfl, fun p ip => ?_⟩
    walk_at "hl"
    refine ⟨Ω1.length, p, rfl, by simp, ip, fun l a b p1 so ip => ?_⟩
    have hk : Ω1.length < (Ω1 ++ [p]).length := by simp
    have l8 := so.le
    walk_at "hl"
    refine ⟨Ω1.length, p1, l.length, by simp, get_set hk, ip, by omega, fun ws p1 el hw ip => ?_⟩
    rw [List.set_set]
    have zl : ∀ n, 300 ≤ n → ∀ b ∈ l, Sz n b.p := fun n hn b hb => (so.zp b hb).1.mono hn
    have zw : ∀ w ∈ ws, Sz 40 w := fun w h => (hw w h).1.mono (by decide)
    walk_at "hl"
    refine ⟨l, a, b, ws, rfl, el.symm, by omega, zl _ (by decide), zw, fun p s e => (so.zb p s e).1.mono (by decide), ?_⟩
    walk_at "hl"
    have tl : (thickF 0 l ws).length = l.length := thick_len _ _ _ el.symm
    have td := thick_d 0 l ws el.symm
    have tt := thin_thick 0 l ws el.symm
    have zs : Sz 330 (sumR ws) := (sumR_sz zw).mono (by omega)
    have zT : ∀ b ∈ thickF 0 l ws, Sz 700 b.p ∧ b.d ∈ ws ∧ ∃ c ∈ l, b.s = c.s ∧ b.w = c.w := thick_szs (zl 300 (by decide)) zw (sz_zero (n := 1) (by decide)) (by omega)
    have zB : WSz 660 (mvT (sumR ws) b) := by
      cases b with
      | none => exact trivial
      | some b => exact ⟨((so.zb b.1 b.2 rfl).1.add zs).mono (by omega), (so.zb b.1 b.2 rfl).2.mono (by omega)⟩
    have zA : WSz 660 a := by
      cases a with
      | none => exact trivial
      | some a => exact ⟨(so.za a.1 a.2 rfl).1.mono (by omega), (so.za a.1 a.2 rfl).2.mono (by omega)⟩
    have zF : ∀ b ∈ thickF 0 l ws, Sz 1000 b.p ∧ Sz 1000 b.s ∧ b.w.natAbs < 2 ^ 4000 ∧ Sz 40 b.d := fun b hb => by
      obtain ⟨h1, h2, c, hc, h3, h4⟩ := zT b hb
      have := so.w0 c hc
      rw [h3, h4]
      exact ⟨h1.mono (by decide), (so.zp c hc).2.mono (by decide), nat_pow_lt (k := 10) (by omega) (by decide), zw _ h2⟩
    have up : ∀ {l : List Bb}, (∀ b ∈ l, Sz 1000 b.p ∧ Sz 1000 b.s ∧ b.w.natAbs < 2 ^ 4000 ∧ Sz 40 b.d) → ∀ b ∈ l, Sz 2000 b.p ∧ Sz 2000 b.s ∧ b.w.natAbs < 2 ^ 4000 ∧ Sz 40 b.d := fun h b hb =>
      ⟨(h b hb).1.mono (by decide), (h b hb).2.1.mono (by decide), (h b hb).2.2.1, (h b hb).2.2.2⟩
    have fitB : ∀ {l : List Bb}, (∀ b ∈ l, Sz 1000 b.p ∧ Sz 1000 b.s ∧ b.w.natAbs < 2 ^ 4000 ∧ Sz 40 b.d) → Fit 3 (dBroad l) := fun h => fit_tup fun x hx => by
      obtain ⟨b, hb, rfl⟩ := List.mem_map.mp hx
      obtain ⟨h1, h2, h3, h4⟩ := h b hb
      exact fit_tup (all_cons (fit_ofR (h1.mono (by decide))) (all_cons (fit_ofR (h2.mono (by decide))) (all_cons (fit_int h3 (by decide)) (all_cons (fit_ofR (h4.mono (by decide))) all_nil))))
    have lne : 1 ≤ l.length := by have := so.nz; cases l with | nil => exact absurd rfl this | cons c r => simp
    have nn : ∀ b ∈ thickF 0 l ws, 0 ≤ b.d := fun b hb => (hw _ (zT b hb).2.1).2
    have ab : ∀ {l : List Bb}, 1 ≤ l.length → l.length ≤ 8 → (∀ b ∈ l, 0 ≤ b.d) → areBroad (dBroad l) = true := fun h1 h2 h3 => by
      rw [areBroad_dBroad, decide_eq_true h1, decide_eq_true h2, Bool.true_and, Bool.true_and]
      exact List.all_eq_true.mpr fun b hb => decide_eq_true (num_nonneg (h3 b hb))
    have w1 : ∀ b ∈ l, 1 ≤ b.w ∧ b.w ≤ 1000 := fun b hb => by have := so.w0 b hb; omega
    have ok : isBroad a (mvT (sumR ws) b) (thickF 0 l ws) = true := by
      unfold isBroad
      rw [td, tt, mv_back, so.ap, isRow_of so.nz l8 w1 so.nb, so.lo, so.hi]; rfl
    refine ⟨a, _, _, 0, rfl, fitB zF, zA.mono (by decide), zB.mono (by decide), .inr ⟨ab (by omega) (by omega) nn, _, rfl, up zF, ?_⟩⟩
    rw [ok]
    walk_at "hl"
    refine bF rfl ?_
    walk_at "hl"
    refine ⟨_, p1, thickF 0 l ws, rfl, get_set hk, ip, fun e => by rw [e] at tl; simp at tl; omega, by omega, zF, fun y p1 fy hy ip => ?_⟩
    rw [List.set_set]
    walk_at "hl"
    have odd : areBroad y = false ∨ areBroad y = true ∧ ∃ l : List Bb, y = dBroad l ∧ (∀ b ∈ l, Sz 2000 b.p ∧ Sz 2000 b.s ∧ b.w.natAbs < 2 ^ 4000 ∧ Sz 40 b.d) ∧ isBroad a (mvT (sumR ws) b) l = false := by
      cases e : areBroad y with
      | false => exact .inl rfl
      | true =>
        rcases hy with hy | ⟨l', rfl, ⟨c, hc, hw⟩, zl'⟩
        · rw [e] at hy; cases hy
        · refine .inr ⟨rfl, l', rfl, up zl', ?_⟩
          obtain ⟨d, hd, ed⟩ := thin_w 0 l' c hc
          unfold isBroad
          rw [isRow_badw hd (by rw [ed]; exact hw), Bool.and_false]
    refine ib_false (n := 0) fy (zA.mono (by decide)) (zB.mono (by decide)) odd ?_
    walk_at "hl"
    refine bF rfl ?_
    walk_at "hl"
    obtain ⟨b0, br, eb⟩ : ∃ b0 br, thickF 0 l ws = b0 :: br := List.exists_cons_of_ne_nil fun e => by rw [e] at tl; simp at tl; omega
    have mb : b0 ∈ thickF 0 l ws := by rw [eb]; exact List.mem_cons_self ..
    have zb0 := zF b0 mb
    have zN : ∀ b ∈ nineL b0, Sz 1100 b.p ∧ b.s = 0 ∧ b.w = b0.w ∧ b.d = b0.d := fun c hc => by
      obtain ⟨k, hk, rfl⟩ := List.mem_map.mp hc
      have hk := List.mem_range.mp hk
      have zk : Sz 4 ((0 + (k : Int) : Int) : Rat) := .int (by omega) (by decide)
      have z1 : Sz 1 (1 : Rat) := ⟨by decide, by decide⟩
      exact ⟨(zb0.1.add (zk.mul (zb0.2.2.2.add z1))).mono (by omega), rfl, rfl, rfl⟩
    have zN' : ∀ {l : List Bb}, (∀ b ∈ l, b ∈ nineL b0) → ∀ b ∈ l, Sz 2000 b.p ∧ Sz 2000 b.s ∧ b.w.natAbs < 2 ^ 4000 ∧ Sz 40 b.d := fun h b hb => by
      obtain ⟨h1, h2, h3, h4⟩ := zN b (h b hb)
      rw [h2, h3, h4]
      exact ⟨h1.mono (by decide), sz_zero (by decide), zb0.2.2.1, zb0.2.2.2⟩
    have fitN : ∀ {l : List Bb}, (∀ b ∈ l, b ∈ nineL b0) → Fit 3 (dBroad l) := fun h => fit_tup fun x hx => by
      obtain ⟨b, hb, rfl⟩ := List.mem_map.mp hx
      obtain ⟨h1, h2, h3, h4⟩ := zN' h b hb
      exact fit_tup (all_cons (fit_ofR (h1.mono (by decide))) (all_cons (fit_ofR (h2.mono (by decide))) (all_cons (fit_int h3 (by decide)) (all_cons (fit_ofR (h4.mono (by decide))) all_nil))))
    refine ⟨b0, br, by rw [eb], zb0.1, zb0.2.2.2, ?_⟩
    walk_at "hl"
    refine ⟨none, none, dBroad (nineL b0), 0, rfl, fitN fun _ h => h, trivial, trivial, .inl ⟨areBroad_long (by unfold nineL; simp), ?_⟩⟩
    walk_at "hl"
    refine bF rfl ?_
    walk_at "hl"
    refine wsl_T ?_
    have e8 : cutG ((nineL b0).map dBb) none (some 8) = ((nineL b0).take 8).map dBb := by
      rw [show (8 : Int) = ((8 : Nat) : Int) from rfl, cut_to (by unfold nineL; simp), List.map_take]
    rw [e8]
    walk_at "hl"
    have nine : isBroad none none ((nineL b0).take 8) = true := by
      unfold isBroad
      rw [nine_thin]
      have hw := w1
      obtain ⟨_, _, c, hc, _, hcw⟩ := zT b0 mb
      have := w1 c hc
      rw [show mvW (0 - sumR (((nineL b0).take 8).map Bb.d)) none = none from rfl, isRow_of (by simp) (by simp) (fun d hd => by
        obtain ⟨k, _, rfl⟩ := List.mem_map.mp hd
        show 1 ≤ b0.w ∧ b0.w ≤ 1000
        rw [hcw]; exact this) (nine_nb b0)]
      rfl
    refine ⟨none, none, dBroad ((nineL b0).take 8), 0, rfl, fitN fun _ h => List.mem_of_mem_take h, trivial, trivial, .inr ⟨ab (by unfold nineL; simp) (by simp; omega) (fun b hb => ?_), _, rfl, zN' fun _ h => List.mem_of_mem_take h, ?_⟩⟩
    · rw [(zN b (List.mem_of_mem_take hb)).2.2.2]; exact nn b0 mb
    rw [nine]
    walk_at "hl"
    refine bF rfl ?_
    walk_at "hl"
    have le1 : ∀ p1, ((Ω1 ++ [p]).set Ω1.length p1).length = Ω1.length + 1 := fun p1 => by simp
    refine ws_for (wi_rng1 ?_)
    walk_at "hl"
    refine ⟨3, rfl, by decide, by decide, ?_⟩
    refine ⟨fun j Γ Ω3 => ∃ c8 c9 c10 c11 p3, Γ = [some (.d (.list (ns.map PyData.int))), some (.d (.int (0 + (i : Int)))), some (.o Ω1.length), some (.d (dRow l)), some (.d (dWs a b)), some (.d (dBroad (thickF 0 l ws))), some (.d (dWs a (mvT (sumR ws) b))), some (.d (dBroad (nineL b0))), c8, c9, c10, c11] ∧ Ω3 = (Ω1 ++ [p]).set Ω1.length p3 ∧ IsPool p3,
      ⟨_, _, _, _, p1, rfl, rfl, ip⟩, ?_, ?_, ?_⟩
    · rintro j Γ Ω3 - ⟨c8, c9, c10, c11, p3, rfl, rfl, -⟩
      exact ⟨trivial, by rw [le1, le1]; exact Nat.le_refl _⟩
    · rintro j y' Γ Ω3 hy' ⟨c8, c9, c10, c11, p3, rfl, rfl, ip⟩
      obtain ⟨hj, rfl⟩ := rng_get hy'
      walk_at "hl"
      refine ⟨_, p3, thickF 0 l ws, a, mvT (sumR ws) b, rfl, get_set hk, ip, fun e => by rw [e] at tl; simp at tl; omega, by omega, fun b hb => (zT b hb).1.mono (by decide), zB.mono (by decide), fun l' b' p3 el' ed' hz' zb' ip => ?_⟩
      rw [List.set_set]
      walk_at "hl"
      have zl' : ∀ b ∈ l', Sz 1000 b.p ∧ Sz 1000 b.s ∧ b.w.natAbs < 2 ^ 4000 ∧ Sz 40 b.d := fun b hb => by
        obtain ⟨h1, e, he, h2, h3, h4⟩ := hz' b hb
        rw [h2, h3, h4]
        exact ⟨h1, (zF e he).2.1, (zF e he).2.2.1, (zF e he).2.2.2⟩
      have nn' : ∀ b ∈ l', 0 ≤ b.d := fun b hb => by
        obtain ⟨h1, e, he, h2, h3, h4⟩ := hz' b hb
        rw [h4]; exact nn e he
      refine ⟨_, 0, rfl, fit_dWs (zA.mono (by decide)) (zb'.mono (by decide)), ?_⟩
      walk_at "hl"
      refine ⟨fun _ => ?_, fun _ => ?_⟩
      · walk_at "hl"
        refine ⟨a, b', dBroad l', 0, rfl, fitB zl', zA.mono (by decide), zb'.mono (by decide), .inr ⟨ab (by omega) (by omega) nn', l', rfl, up zl', ?_⟩⟩
        walk_at "hl"
        refine bF rfl ?_
        walk_at "hl"
        refine ⟨a, b', l', rfl, by omega, zA.mono (by decide), zb', zl', ?_⟩
        rw [mvN_eq]
        walk_at "hl"
        refine bF (by show (!decide (isBroad a b' l' = isBroad a b' l')) = false; simp) ?_
        walk_at "hl"
        exact ⟨_, _, _, _, p3, rfl, rfl, ip⟩
      · walk_at "hl"
        exact ⟨_, _, _, _, p3, rfl, rfl, ip⟩
    · rintro Γ Ω3 ⟨c8, c9, c10, c11, p3, rfl, rfl, -⟩
      walk_at "hl"
      exact ⟨_, _, _, _, _, _, _, _, _, _, _, rfl, by rw [le1]; omega⟩
  · rintro Γ Ω1 ⟨c1, c2, c3, c4, c5, c6, c7, c8, c9, c10, c11, rfl, hz⟩
    walk_at "hl"
    exact .inl (q _)
theorem sp_len_law {K : KF} (ds : List DV) (Ω : Om) (R : DV → Om → Prop) (X : Exc → Om → Prop) (h : sp_law K ds Ω R X) : ds.length = 1 := by
  unfold sp_law at h
  first
    | (obtain ⟨rfl, _⟩ := h; rfl)
    | (obtain ⟨_, rfl, _⟩ := h; rfl)
    | (obtain ⟨_, _, rfl, _⟩ := h; rfl)
    | (obtain ⟨_, _, _, rfl, _⟩ := h; rfl)
    | (obtain ⟨_, _, _, _, rfl, _⟩ := h; rfl)
    | (obtain ⟨_, _, _, _, _, rfl, _⟩ := h; rfl)
    | (obtain ⟨_, _, _, _, _, _, rfl, _⟩ := h; rfl)
    | (obtain ⟨_, _, _, _, _, _, _, rfl, _⟩ := h; rfl)
    | (obtain ⟨_, _, _, _, _, _, _, _, rfl, _⟩ := h; rfl)
end HL
namespace LK
open PySem PySem.Spec PyProof.Rows L2 Evl RZ HL
def top (i : Nat) : Stmt := PySem.Challenge.pw_clackrow_k64_broad_rows_known.main.body.getD i (.Pass ⟨0, 0, 0, 0⟩)
abbrev s_law_cell : Stmt := top 34
abbrev N_law_cell : List Str := ["script", "k"]
abbrev P_law_cell : List Str := ["script", "k"]
theorem sc_law_cell : FnScope N_law_cell P_law_cell (defScope s_law_cell) := ⟨rfl, rfl, rfl, by decide +kernel, rfl, by decide +kernel, by decide +kernel⟩
abbrev s_law_low : Stmt := top 38
abbrev N_law_low : List Str := ["top", "bottom", "one", "other"]
abbrev P_law_low : List Str := ["top", "bottom"]
theorem sc_law_low : FnScope N_law_low P_law_low (defScope s_law_low) := ⟨rfl, rfl, rfl, by decide +kernel, rfl, by decide +kernel, by decide +kernel⟩
abbrev s_law_add : Stmt := top 39
abbrev N_law_add : List Str := ["a", "b"]
abbrev P_law_add : List Str := ["a", "b"]
theorem sc_law_add : FnScope N_law_add P_law_add (defScope s_law_add) := ⟨rfl, rfl, rfl, by decide +kernel, rfl, by decide +kernel, by decide +kernel⟩
abbrev s_law_off : Stmt := top 40
abbrev N_law_off : List Str := ["a", "b"]
abbrev P_law_off : List Str := ["a", "b"]
theorem sc_law_off : FnScope N_law_off P_law_off (defScope s_law_off) := ⟨rfl, rfl, rfl, by decide +kernel, rfl, by decide +kernel, by decide +kernel⟩
abbrev s_law_thin : Stmt := top 53
abbrev N_law_thin : List Str := ["broad", "walls", "ahead", "row", "place", "speed", "weight", "width", "high"]
abbrev P_law_thin : List Str := ["broad", "walls"]
theorem sc_law_thin : FnScope N_law_thin P_law_thin (defScope s_law_thin) := ⟨rfl, rfl, rfl, by decide +kernel, rfl, by decide +kernel, by decide +kernel⟩
abbrev s_divisor_of : Stmt := top 5
abbrev N_divisor_of : List Str := ["one", "other"]
abbrev P_divisor_of : List Str := ["one", "other"]
theorem sc_divisor_of : FnScope N_divisor_of P_divisor_of (defScope s_divisor_of) := ⟨rfl, rfl, rfl, by decide +kernel, rfl, by decide +kernel, by decide +kernel⟩
abbrev s_is_whole : Stmt := top 4
abbrev N_is_whole : List Str := ["thing"]
abbrev P_is_whole : List Str := ["thing"]
theorem sc_is_whole : FnScope N_is_whole P_is_whole (defScope s_is_whole) := ⟨rfl, rfl, rfl, by decide +kernel, rfl, by decide +kernel, by decide +kernel⟩
abbrev s_is_ratio : Stmt := top 6
abbrev N_is_ratio : List Str := ["thing"]
abbrev P_is_ratio : List Str := ["thing"]
theorem sc_is_ratio : FnScope N_is_ratio P_is_ratio (defScope s_is_ratio) := ⟨rfl, rfl, rfl, by decide +kernel, rfl, by decide +kernel, by decide +kernel⟩
abbrev s_is_tuple_of : Stmt := top 20
abbrev N_is_tuple_of : List Str := ["thing", "many"]
abbrev P_is_tuple_of : List Str := ["thing", "many"]
theorem sc_is_tuple_of : FnScope N_is_tuple_of P_is_tuple_of (defScope s_is_tuple_of) := ⟨rfl, rfl, rfl, by decide +kernel, rfl, by decide +kernel, by decide +kernel⟩
abbrev s_is_ball : Stmt := top 23
abbrev N_is_ball : List Str := ["thing"]
abbrev P_is_ball : List Str := ["thing"]
theorem sc_is_ball : FnScope N_is_ball P_is_ball (defScope s_is_ball) := ⟨rfl, rfl, rfl, by decide +kernel, rfl, by decide +kernel, by decide +kernel⟩
abbrev s_less : Stmt := top 10
abbrev N_less : List Str := ["one", "other"]
abbrev P_less : List Str := ["one", "other"]
theorem sc_less : FnScope N_less P_less (defScope s_less) := ⟨rfl, rfl, rfl, by decide +kernel, rfl, by decide +kernel, by decide +kernel⟩
abbrev s_may_stand : Stmt := top 24
abbrev N_may_stand : List Str := ["left", "right"]
abbrev P_may_stand : List Str := ["left", "right"]
theorem sc_may_stand : FnScope N_may_stand P_may_stand (defScope s_may_stand) := ⟨rfl, rfl, rfl, by decide +kernel, rfl, by decide +kernel, by decide +kernel⟩
abbrev s_is_within : Stmt := top 25
abbrev N_is_within : List Str := ["left", "right"]
abbrev P_is_within : List Str := ["left", "right"]
theorem sc_is_within : FnScope N_is_within P_is_within (defScope s_is_within) := ⟨rfl, rfl, rfl, by decide +kernel, rfl, by decide +kernel, by decide +kernel⟩
abbrev s_is_row : Stmt := top 26
abbrev N_is_row : List Str := ["walls", "thing", "ball", "left", "right"]
abbrev P_is_row : List Str := ["walls", "thing"]
theorem sc_is_row : FnScope N_is_row P_is_row (defScope s_is_row) := ⟨rfl, rfl, rfl, by decide +kernel, rfl, by decide +kernel, by decide +kernel⟩
abbrev s_is_wall : Stmt := top 21
abbrev N_is_wall : List Str := ["thing"]
abbrev P_is_wall : List Str := ["thing"]
theorem sc_is_wall : FnScope N_is_wall P_is_wall (defScope s_is_wall) := ⟨rfl, rfl, rfl, by decide +kernel, rfl, by decide +kernel, by decide +kernel⟩
abbrev s_walls_good : Stmt := top 22
abbrev N_walls_good : List Str := ["thing"]
abbrev P_walls_good : List Str := ["thing"]
theorem sc_walls_good : FnScope N_walls_good P_walls_good (defScope s_walls_good) := ⟨rfl, rfl, rfl, by decide +kernel, rfl, by decide +kernel, by decide +kernel⟩
abbrev s_law_is : Stmt := top 56
abbrev N_law_is : List Str := ["walls", "broad", "row", "sides"]
abbrev P_law_is : List Str := ["walls", "broad"]
theorem sc_law_is : FnScope N_law_is P_law_is (defScope s_law_is) := ⟨rfl, rfl, rfl, by decide +kernel, rfl, by decide +kernel, by decide +kernel⟩
abbrev s_law_left : Stmt := top 35
abbrev N_law_left : List Str := ["cell"]
abbrev P_law_left : List Str := ["cell"]
theorem sc_law_left : FnScope N_law_left P_law_left (defScope s_law_left) := ⟨rfl, rfl, rfl, by decide +kernel, rfl, by decide +kernel, by decide +kernel⟩
abbrev s_law_by : Stmt := top 41
abbrev N_law_by : List Str := ["a", "b"]
abbrev P_law_by : List Str := ["a", "b"]
theorem sc_law_by : FnScope N_law_by P_law_by (defScope s_law_by) := ⟨rfl, rfl, rfl, by decide +kernel, rfl, by decide +kernel, by decide +kernel⟩
abbrev s_law_nine : Stmt := top 59
abbrev N_law_nine : List Str := ["broad", "place", "speed", "weight", "width", "step", "k"]
abbrev P_law_nine : List Str := ["broad"]
theorem sc_law_nine : FnScope N_law_nine P_law_nine (defScope s_law_nine) := ⟨rfl, rfl, rfl, by decide +kernel, rfl, by decide +kernel, by decide +kernel⟩
abbrev s_law_next : Stmt := top 36
abbrev N_law_next : List Str := ["pool", "base", "digit", "mixed", "stir"]
abbrev P_law_next : List Str := ["pool", "base"]
theorem sc_law_next : FnScope N_law_next P_law_next (defScope s_law_next) := ⟨rfl, rfl, rfl, by decide +kernel, rfl, by decide +kernel, by decide +kernel⟩
abbrev s_law_odd : Stmt := top 58
abbrev N_law_odd : List Str := ["pool", "broad", "at", "place", "speed", "weight", "width", "some", "way"]
abbrev P_law_odd : List Str := ["pool", "broad"]
theorem sc_law_odd : FnScope N_law_odd P_law_odd (defScope s_law_odd) := ⟨rfl, rfl, rfl, by decide +kernel, rfl, by decide +kernel, by decide +kernel⟩
abbrev s_law_pushed : Stmt := top 57
abbrev N_law_pushed : List Str := ["pool", "broad", "walls", "by", "at", "ball"]
abbrev P_law_pushed : List Str := ["pool", "broad", "walls"]
theorem sc_law_pushed : FnScope N_law_pushed P_law_pushed (defScope s_law_pushed) := ⟨rfl, rfl, rfl, by decide +kernel, rfl, by decide +kernel, by decide +kernel⟩
abbrev s_law_below : Stmt := top 42
abbrev N_law_below : List Str := ["a", "b"]
abbrev P_law_below : List Str := ["a", "b"]
theorem sc_law_below : FnScope N_law_below P_law_below (defScope s_law_below) := ⟨rfl, rfl, rfl, by decide +kernel, rfl, by decide +kernel, by decide +kernel⟩
abbrev s_law_gap : Stmt := top 45
abbrev N_law_gap : List Str := ["pool"]
abbrev P_law_gap : List Str := ["pool"]
theorem sc_law_gap : FnScope N_law_gap P_law_gap (defScope s_law_gap) := ⟨rfl, rfl, rfl, by decide +kernel, rfl, by decide +kernel, by decide +kernel⟩
abbrev s_law_speed : Stmt := top 44
abbrev N_law_speed : List Str := ["pool"]
abbrev P_law_speed : List Str := ["pool"]
theorem sc_law_speed : FnScope N_law_speed P_law_speed (defScope s_law_speed) := ⟨rfl, rfl, rfl, by decide +kernel, rfl, by decide +kernel, by decide +kernel⟩
abbrev s_law_bound : Stmt := top 48
abbrev N_law_bound : List Str := ["pool", "ball", "side", "gap", "speed"]
abbrev P_law_bound : List Str := ["pool", "ball", "side"]
theorem sc_law_bound : FnScope N_law_bound P_law_bound (defScope s_law_bound) := ⟨rfl, rfl, rfl, by decide +kernel, rfl, by decide +kernel, by decide +kernel⟩
abbrev s_law_box : Stmt := top 49
abbrev N_law_box : List Str := ["pool", "row", "low", "high"]
abbrev P_law_box : List Str := ["pool", "row"]
theorem sc_law_box : FnScope N_law_box P_law_box (defScope s_law_box) := ⟨rfl, rfl, rfl, by decide +kernel, rfl, by decide +kernel, by decide +kernel⟩
abbrev s_law_bundle : Stmt := top 50
abbrev N_law_bundle : List Str := ["pool", "where", "place", "moment", "alike", "rest", "many", "own", "speeds", "k", "weights", "row", "speed"]
abbrev P_law_bundle : List Str := ["pool", "where", "place", "moment", "alike"]
theorem sc_law_bundle : FnScope N_law_bundle P_law_bundle (defScope s_law_bundle) := ⟨rfl, rfl, rfl, by decide +kernel, rfl, by decide +kernel, by decide +kernel⟩
abbrev s_law_wide : Stmt := top 37
abbrev N_law_wide : List Str := ["pool", "base", "found", "k"]
abbrev P_law_wide : List Str := ["pool", "base"]
theorem sc_law_wide : FnScope N_law_wide P_law_wide (defScope s_law_wide) := ⟨rfl, rfl, rfl, by decide +kernel, rfl, by decide +kernel, by decide +kernel⟩
abbrev s_law_ratio : Stmt := top 43
abbrev N_law_ratio : List Str := ["pool", "size", "bottom"]
abbrev P_law_ratio : List Str := ["pool", "size"]
theorem sc_law_ratio : FnScope N_law_ratio P_law_ratio (defScope s_law_ratio) := ⟨rfl, rfl, rfl, by decide +kernel, rfl, by decide +kernel, by decide +kernel⟩
abbrev s_law_focused : Stmt := top 51
abbrev N_law_focused : List Str := ["pool", "alike", "moment", "where", "row", "wall", "walls"]
abbrev P_law_focused : List Str := ["pool", "alike"]
theorem sc_law_focused : FnScope N_law_focused P_law_focused (defScope s_law_focused) := ⟨rfl, rfl, rfl, by decide +kernel, rfl, by decide +kernel, by decide +kernel⟩
abbrev s_law_weights : Stmt := top 46
abbrev N_law_weights : List Str := ["pool", "many", "sort", "k"]
abbrev P_law_weights : List Str := ["pool", "many"]
theorem sc_law_weights : FnScope N_law_weights P_law_weights (defScope s_law_weights) := ⟨rfl, rfl, rfl, by decide +kernel, rfl, by decide +kernel, by decide +kernel⟩
abbrev s_law_row : Stmt := top 47
abbrev N_law_row : List Str := ["pool", "most", "many", "weights", "place", "row", "k", "speed", "gap"]
abbrev P_law_row : List Str := ["pool", "most"]
theorem sc_law_row : FnScope N_law_row P_law_row (defScope s_law_row) := ⟨rfl, rfl, rfl, by decide +kernel, rfl, by decide +kernel, by decide +kernel⟩
abbrev s_law_start : Stmt := top 52
abbrev N_law_start : List Str := ["pool", "row", "ball"]
abbrev P_law_start : List Str := ["pool"]
theorem sc_law_start : FnScope N_law_start P_law_start (defScope s_law_start) := ⟨rfl, rfl, rfl, by decide +kernel, rfl, by decide +kernel, by decide +kernel⟩
abbrev s_law_thick : Stmt := top 54
abbrev N_law_thick : List Str := ["row", "walls", "widths", "ahead", "found", "ball", "width", "high"]
abbrev P_law_thick : List Str := ["row", "walls", "widths"]
theorem sc_law_thick : FnScope N_law_thick P_law_thick (defScope s_law_thick) := ⟨rfl, rfl, rfl, by decide +kernel, rfl, by decide +kernel, by decide +kernel⟩
abbrev s_law_widths : Stmt := top 55
abbrev N_law_widths : List Str := ["pool", "many", "found", "k", "top"]
abbrev P_law_widths : List Str := ["pool", "many"]
theorem sc_law_widths : FnScope N_law_widths P_law_widths (defScope s_law_widths) := ⟨rfl, rfl, rfl, by decide +kernel, rfl, by decide +kernel, by decide +kernel⟩
abbrev s_are_broad : Stmt := top 29
abbrev N_are_broad : List Str := ["thing", "ball"]
abbrev P_are_broad : List Str := ["thing"]
theorem sc_are_broad : FnScope N_are_broad P_are_broad (defScope s_are_broad) := ⟨rfl, rfl, rfl, by decide +kernel, rfl, by decide +kernel, by decide +kernel⟩
abbrev s_ratio : Stmt := top 7
abbrev N_ratio : List Str := ["top", "bottom", "by"]
abbrev P_ratio : List Str := ["top", "bottom"]
theorem sc_ratio : FnScope N_ratio P_ratio (defScope s_ratio) := ⟨rfl, rfl, rfl, by decide +kernel, rfl, by decide +kernel, by decide +kernel⟩
abbrev s_minus : Stmt := top 9
abbrev N_minus : List Str := ["one", "other"]
abbrev P_minus : List Str := ["one", "other"]
theorem sc_minus : FnScope N_minus P_minus (defScope s_minus) := ⟨rfl, rfl, rfl, by decide +kernel, rfl, by decide +kernel, by decide +kernel⟩
abbrev s_plus : Stmt := top 8
abbrev N_plus : List Str := ["one", "other"]
abbrev P_plus : List Str := ["one", "other"]
theorem sc_plus : FnScope N_plus P_plus (defScope s_plus) := ⟨rfl, rfl, rfl, by decide +kernel, rfl, by decide +kernel, by decide +kernel⟩
abbrev s_moved : Stmt := top 30
abbrev N_moved : List Str := ["wall", "by"]
abbrev P_moved : List Str := ["wall", "by"]
theorem sc_moved : FnScope N_moved P_moved (defScope s_moved) := ⟨rfl, rfl, rfl, by decide +kernel, rfl, by decide +kernel, by decide +kernel⟩
abbrev s_thinned : Stmt := top 31
abbrev N_thinned : List Str := ["broad", "walls", "ahead", "row", "ball"]
abbrev P_thinned : List Str := ["broad", "walls"]
theorem sc_thinned : FnScope N_thinned P_thinned (defScope s_thinned) := ⟨rfl, rfl, rfl, by decide +kernel, rfl, by decide +kernel, by decide +kernel⟩
abbrev s_is_broad : Stmt := top 32
abbrev N_is_broad : List Str := ["walls", "thing", "row", "thin_walls"]
abbrev P_is_broad : List Str := ["walls", "thing"]
theorem sc_is_broad : FnScope N_is_broad P_is_broad (defScope s_is_broad) := ⟨rfl, rfl, rfl, by decide +kernel, rfl, by decide +kernel, by decide +kernel⟩
abbrev s_law : Stmt := top 60
abbrev N_law : List Str := ["script", "k", "pool", "row", "walls", "broad", "sides", "nine", "turn", "other", "beside", "found"]
abbrev P_law : List Str := ["script"]
theorem sc_law : FnScope N_law P_law (defScope s_law) := ⟨rfl, rfl, rfl, by decide +kernel, rfl, by decide +kernel, by decide +kernel⟩
structure Txt (K : KF) (mg : Str → Option Value) : Prop where
  F_law_cell : FD K "_law_cell" s_law_cell []
  m_law_cell : mg "_law_cell" = some (.ref (fA K "_law_cell"))
  F_law_low : FD K "_law_low" s_law_low []
  m_law_low : mg "_law_low" = some (.ref (fA K "_law_low"))
  F_law_add : FD K "_law_add" s_law_add []
  m_law_add : mg "_law_add" = some (.ref (fA K "_law_add"))
  F_law_off : FD K "_law_off" s_law_off []
  m_law_off : mg "_law_off" = some (.ref (fA K "_law_off"))
  F_law_thin : FD K "_law_thin" s_law_thin []
  m_law_thin : mg "_law_thin" = some (.ref (fA K "_law_thin"))
  F_divisor_of : FD K "divisor_of" s_divisor_of []
  m_divisor_of : mg "divisor_of" = some (.ref (fA K "divisor_of"))
  F_is_whole : FD K "is_whole" s_is_whole []
  m_is_whole : mg "is_whole" = some (.ref (fA K "is_whole"))
  F_is_ratio : FD K "is_ratio" s_is_ratio []
  m_is_ratio : mg "is_ratio" = some (.ref (fA K "is_ratio"))
  F_is_tuple_of : FD K "is_tuple_of" s_is_tuple_of []
  m_is_tuple_of : mg "is_tuple_of" = some (.ref (fA K "is_tuple_of"))
  F_is_ball : FD K "is_ball" s_is_ball []
  m_is_ball : mg "is_ball" = some (.ref (fA K "is_ball"))
  F_less : FD K "less" s_less []
  m_less : mg "less" = some (.ref (fA K "less"))
  F_may_stand : FD K "may_stand" s_may_stand []
  m_may_stand : mg "may_stand" = some (.ref (fA K "may_stand"))
  F_is_within : FD K "is_within" s_is_within []
  m_is_within : mg "is_within" = some (.ref (fA K "is_within"))
  F_is_row : FD K "is_row" s_is_row []
  m_is_row : mg "is_row" = some (.ref (fA K "is_row"))
  F_is_wall : FD K "is_wall" s_is_wall []
  m_is_wall : mg "is_wall" = some (.ref (fA K "is_wall"))
  F_walls_good : FD K "walls_good" s_walls_good []
  m_walls_good : mg "walls_good" = some (.ref (fA K "walls_good"))
  F_law_is : FD K "_law_is" s_law_is []
  m_law_is : mg "_law_is" = some (.ref (fA K "_law_is"))
  F_law_left : FD K "_law_left" s_law_left []
  m_law_left : mg "_law_left" = some (.ref (fA K "_law_left"))
  F_law_by : FD K "_law_by" s_law_by []
  m_law_by : mg "_law_by" = some (.ref (fA K "_law_by"))
  F_law_nine : FD K "_law_nine" s_law_nine []
  m_law_nine : mg "_law_nine" = some (.ref (fA K "_law_nine"))
  F_law_next : FD K "_law_next" s_law_next []
  m_law_next : mg "_law_next" = some (.ref (fA K "_law_next"))
  F_law_odd : FD K "_law_odd" s_law_odd []
  m_law_odd : mg "_law_odd" = some (.ref (fA K "_law_odd"))
  F_law_pushed : FD K "_law_pushed" s_law_pushed []
  m_law_pushed : mg "_law_pushed" = some (.ref (fA K "_law_pushed"))
  F_law_below : FD K "_law_below" s_law_below []
  m_law_below : mg "_law_below" = some (.ref (fA K "_law_below"))
  F_law_gap : FD K "_law_gap" s_law_gap []
  m_law_gap : mg "_law_gap" = some (.ref (fA K "_law_gap"))
  F_law_speed : FD K "_law_speed" s_law_speed []
  m_law_speed : mg "_law_speed" = some (.ref (fA K "_law_speed"))
  F_law_bound : FD K "_law_bound" s_law_bound []
  m_law_bound : mg "_law_bound" = some (.ref (fA K "_law_bound"))
  F_law_box : FD K "_law_box" s_law_box []
  m_law_box : mg "_law_box" = some (.ref (fA K "_law_box"))
  F_law_bundle : FD K "_law_bundle" s_law_bundle []
  m_law_bundle : mg "_law_bundle" = some (.ref (fA K "_law_bundle"))
  F_law_wide : FD K "_law_wide" s_law_wide []
  m_law_wide : mg "_law_wide" = some (.ref (fA K "_law_wide"))
  F_law_ratio : FD K "_law_ratio" s_law_ratio []
  m_law_ratio : mg "_law_ratio" = some (.ref (fA K "_law_ratio"))
  F_law_focused : FD K "_law_focused" s_law_focused []
  m_law_focused : mg "_law_focused" = some (.ref (fA K "_law_focused"))
  F_law_weights : FD K "_law_weights" s_law_weights []
  m_law_weights : mg "_law_weights" = some (.ref (fA K "_law_weights"))
  F_law_row : FD K "_law_row" s_law_row []
  m_law_row : mg "_law_row" = some (.ref (fA K "_law_row"))
  F_law_start : FD K "_law_start" s_law_start []
  m_law_start : mg "_law_start" = some (.ref (fA K "_law_start"))
  F_law_thick : FD K "_law_thick" s_law_thick []
  m_law_thick : mg "_law_thick" = some (.ref (fA K "_law_thick"))
  F_law_widths : FD K "_law_widths" s_law_widths []
  m_law_widths : mg "_law_widths" = some (.ref (fA K "_law_widths"))
  F_are_broad : FD K "are_broad" s_are_broad []
  m_are_broad : mg "are_broad" = some (.ref (fA K "are_broad"))
  F_ratio : FD K "ratio" s_ratio [.int 1]
  m_ratio : mg "ratio" = some (.ref (fA K "ratio"))
  F_minus : FD K "minus" s_minus []
  m_minus : mg "minus" = some (.ref (fA K "minus"))
  F_plus : FD K "plus" s_plus []
  m_plus : mg "plus" = some (.ref (fA K "plus"))
  F_moved : FD K "moved" s_moved []
  m_moved : mg "moved" = some (.ref (fA K "moved"))
  F_thinned : FD K "thinned" s_thinned []
  m_thinned : mg "thinned" = some (.ref (fA K "thinned"))
  F_is_broad : FD K "is_broad" s_is_broad []
  m_is_broad : mg "is_broad" = some (.ref (fA K "is_broad"))
  F_law : FD K "law" s_law []
  m_law : mg "law" = some (.ref (fA K "law"))
  z_abs : mg "abs" = none
  z_all : mg "all" = none
  z_bool : mg "bool" = none
  z_enumerate : mg "enumerate" = none
  z_int : mg "int" = none
  z_isinstance : mg "isinstance" = none
  z_len : mg "len" = none
  z_list : mg "list" = none
  z_max : mg "max" = none
  z_min : mg "min" = none
  z_range : mg "range" = none
  z_tuple : mg "tuple" = none
  z_zip : mg "zip" = none
  g_GREATEST : ∃ t, mg "GREATEST" = some (.int (1000) t)
  g_HIGH : ∃ t, mg "HIGH" = some (.int (1) t)
  g_LOW : ∃ t, mg "LOW" = some (.int (0) t)
  g_MOST_BALLS : ∃ t, mg "MOST_BALLS" = some (.int (8) t)
  g_NOUGHT : mg "NOUGHT" = some (.ref (He.ga K "NOUGHT"))
  q_NOUGHT : He.tupB K "NOUGHT" [.int (0), .int (1)] = true
  g_PLACE : ∃ t, mg "PLACE" = some (.int (0) t)
  g_SPEED : ∃ t, mg "SPEED" = some (.int (1) t)
  g_WEIGHT : ∃ t, mg "WEIGHT" = some (.int (2) t)
  g_WIDTH : ∃ t, mg "WIDTH" = some (.int (3) t)
  xc_NoRatio : XC K mg "NoRatio"
section
variable {P : Program} {w : World} {K : KF} {mg : Str → Option Value} {base : Heap}
theorem bd_law_cell (T : Txt K mg) : Binds K (fdK K ("_law_cell", none)) P_law_cell [] := T.F_law_cell.bindsN fun _ _ _ _ _ _ us hl => match us, hl with | [_, _], _ => rfl
set_option maxHeartbeats 4000000 in
theorem ok_law_cell (T : Txt K mg) : FnOk P w K mg base (L2.CX P w) 1 (fA K "_law_cell") (fdK K ("_law_cell", none)) P_law_cell (FS K (sp_law_cell K)) := by
  refine T.F_law_cell.ok sc_law_cell (fun vs H Q E h => fs_len h sp_len_law_cell) (fun cdv A outer s H vs Q E hr h => ⟨t_law_cell K (fun c d _ H' => E c d H'), ?_, fs_run h (w_law_cell  _)⟩)
  exact (pss_cons (ps_if (pt_cmpR op_lt' (pv 1) (pe_callB call_len' rfl T.z_len (by decide +kernel) (pa_cons (pv 0) pa_nil)) (nomark _)) (pss_one (ps_ret (pe_ix ix_seq (pv 0) (pv 1) (fun _ _ => rfl)))) pss_nil)
      (pss_one (ps_ret pe_int)))
theorem bd_law_low (T : Txt K mg) : Binds K (fdK K ("_law_low", none)) P_law_low [] := T.F_law_low.bindsN fun _ _ _ _ _ _ us hl => match us, hl with | [_, _], _ => rfl
set_option maxHeartbeats 4000000 in
theorem ok_law_low (T : Txt K mg) : FnOk P w K mg base (L2.CX P w) 1 (fA K "_law_low") (fdK K ("_law_low", none)) P_law_low (FS K (sp_law_low K)) := by
  refine T.F_law_low.ok sc_law_low (fun vs H Q E h => fs_len h sp_len_law_low) (fun cdv A outer s H vs Q E hr h => ⟨t_law_low K (fun c d _ H' => E c d H'), ?_, fs_run h (w_law_low  _)⟩)
  exact (pss_cons (ps_par rfl sc_law_low.nd (i := 2) (j := 3) rfl rfl (by decide) rfl rfl (pa_cons (pe_callB call_abs' rfl T.z_abs (by decide +kernel) (pa_cons (pv 0) pa_nil)) (pa_cons (pe_callB call_abs' rfl T.z_abs (by decide +kernel) (pa_cons (pv 1) pa_nil)) pa_nil)) (by rfl))
      (pss_cons (ps_while (passes_of rfl) (pt_cmpR (op_neD hr.units) (pv 3) pe_int (nomark _)) (pss_one (ps_par rfl sc_law_low.nd (i := 2) (j := 3) rfl rfl (by decide) rfl rfl (pa_cons (pv 3) (pa_cons (pe_op op_mod' (pv 2) (pv 3)) pa_nil)) (by rfl))))
      (pss_cons (ps_if (pt_cmpR op_lt' (pv 1) pe_int (nomark _)) (pss_one (ps_set (i := 2) sc_law_low.nd rfl (Or.inl rfl) (pe_op op_sub' pe_int (pv 2)))) pss_nil)
      (pss_one (ps_ret (pe_tup (pa_cons (pe_op op_fdiv' (pv 0) (pv 2)) (pa_cons (pe_op op_fdiv' (pv 1) (pv 2)) pa_nil))))))))
theorem bd_law_add (T : Txt K mg) : Binds K (fdK K ("_law_add", none)) P_law_add [] := T.F_law_add.bindsN fun _ _ _ _ _ _ us hl => match us, hl with | [_, _], _ => rfl
set_option maxHeartbeats 4000000 in
theorem ok_law_add (T : Txt K mg) : FnOk P w K mg base (L2.CX P w) 2 (fA K "_law_add") (fdK K ("_law_add", none)) P_law_add (FS K (sp_law_add K)) := by
  refine T.F_law_add.ok sc_law_add (fun vs H Q E h => fs_len h sp_len_law_add) (fun cdv A outer s H vs Q E hr h => ⟨t_law_add K (fun c d _ H' => E c d H'), ?_, fs_run h (w_law_add  _)⟩)
  exact (pss_one (ps_ret (pe_call (ok_law_low T) (hr.mono (by decide)) rfl T.m_law_low T.F_law_low.kp (bd_law_low T) .nil passL (pa_cons (pe_op op_addX (pe_op op_mul' (pe_ix ix_seq (pv 0) pe_int (fun _ _ => rfl)) (pe_ix ix_seq (pv 1) pe_int (fun _ _ => rfl))) (pe_op op_mul' (pe_ix ix_seq (pv 1) pe_int (fun _ _ => rfl)) (pe_ix ix_seq (pv 0) pe_int (fun _ _ => rfl)))) (pa_cons (pe_op op_mul' (pe_ix ix_seq (pv 0) pe_int (fun _ _ => rfl)) (pe_ix ix_seq (pv 1) pe_int (fun _ _ => rfl))) pa_nil)))))
theorem bd_law_off (T : Txt K mg) : Binds K (fdK K ("_law_off", none)) P_law_off [] := T.F_law_off.bindsN fun _ _ _ _ _ _ us hl => match us, hl with | [_, _], _ => rfl
set_option maxHeartbeats 4000000 in
theorem ok_law_off (T : Txt K mg) : FnOk P w K mg base (L2.CX P w) 2 (fA K "_law_off") (fdK K ("_law_off", none)) P_law_off (FS K (sp_law_off K)) := by
  refine T.F_law_off.ok sc_law_off (fun vs H Q E h => fs_len h sp_len_law_off) (fun cdv A outer s H vs Q E hr h => ⟨t_law_off K (fun c d _ H' => E c d H'), ?_, fs_run h (w_law_off  _)⟩)
  exact (pss_one (ps_ret (pe_call (ok_law_low T) (hr.mono (by decide)) rfl T.m_law_low T.F_law_low.kp (bd_law_low T) .nil passL (pa_cons (pe_op op_sub' (pe_op op_mul' (pe_ix ix_seq (pv 0) pe_int (fun _ _ => rfl)) (pe_ix ix_seq (pv 1) pe_int (fun _ _ => rfl))) (pe_op op_mul' (pe_ix ix_seq (pv 1) pe_int (fun _ _ => rfl)) (pe_ix ix_seq (pv 0) pe_int (fun _ _ => rfl)))) (pa_cons (pe_op op_mul' (pe_ix ix_seq (pv 0) pe_int (fun _ _ => rfl)) (pe_ix ix_seq (pv 1) pe_int (fun _ _ => rfl))) pa_nil)))))
theorem bd_law_thin (T : Txt K mg) : Binds K (fdK K ("_law_thin", none)) P_law_thin [] := T.F_law_thin.bindsN fun _ _ _ _ _ _ us hl => match us, hl with | [_, _], _ => rfl
set_option maxHeartbeats 4000000 in
theorem ok_law_thin (T : Txt K mg) : FnOk P w K mg base (L2.CX P w) 3 (fA K "_law_thin") (fdK K ("_law_thin", none)) P_law_thin (FS K (sp_law_thin K)) := by
  refine T.F_law_thin.ok sc_law_thin (fun vs H Q E h => fs_len h sp_len_law_thin) (fun cdv A outer s H vs Q E hr h => ⟨t_law_thin K (fun c d _ H' => E c d H'), ?_, fs_run h (w_law_thin  _)⟩)
  exact (pss_cons (ps_set (i := 2) sc_law_thin.nd rfl (Or.inl rfl) (pe_tup (pa_cons pe_int (pa_cons pe_int pa_nil))))
      (pss_cons (ps_set (i := 3) sc_law_thin.nd rfl (Or.inl rfl) (pe_lst pa_nil))
      (pss_cons (ps_for (passes_of rfl) rfl (pi_seq (pv 0)) (pg_tup rfl (pgs_cons (pg_name (i := 4) sc_law_thin.nd rfl (Or.inl rfl)) (pgs_cons (pg_name (i := 5) sc_law_thin.nd rfl (Or.inl rfl)) (pgs_cons (pg_name (i := 6) sc_law_thin.nd rfl (Or.inl rfl)) (pgs_cons (pg_name (i := 7) sc_law_thin.nd rfl (Or.inl rfl)) pgs_nil))))) (pss_cons (ps_expr (pe_bm PySem.F.plainAttrs_list PySem.F.slot_list_append PySem.F.type_list_append mt_append (pv 3) (pa_cons (pe_tup (pa_cons (pe_call (ok_law_off T) (hr.mono (by decide)) rfl T.m_law_off T.F_law_off.kp (bd_law_off T) .nil passL (pa_cons (pv 4) (pa_cons (pv 2) pa_nil))) (pa_cons (pv 5) (pa_cons (pv 6) pa_nil)))) pa_nil)))
      (pss_one (ps_set (i := 2) sc_law_thin.nd rfl (Or.inl rfl) (pe_call (ok_law_add T) (hr.mono (by decide)) rfl T.m_law_add T.F_law_add.kp (bd_law_add T) .nil passL (pa_cons (pv 2) (pa_cons (pv 7) pa_nil)))))))
      (pss_cons (ps_set (i := 8) sc_law_thin.nd rfl (Or.inl rfl) (pe_ix ix_seq (pv 1) pe_int (fun _ _ => rfl)))
      (pss_cons (ps_if (pt_cmpR op_notN' (pv 8) pe_non (nomark _)) (pss_one (ps_set (i := 8) sc_law_thin.nd rfl (Or.inl rfl) (pe_tup (pa_cons (pe_call (ok_law_off T) (hr.mono (by decide)) rfl T.m_law_off T.F_law_off.kp (bd_law_off T) .nil passL (pa_cons (pe_ix ix_seq (pv 8) pe_int (fun _ _ => rfl)) (pa_cons (pv 2) pa_nil))) (pa_cons (pe_ix ix_seq (pv 8) pe_int (fun _ _ => rfl)) pa_nil))))) pss_nil)
      (pss_one (ps_ret (pe_tup (pa_cons (pe_callTy call_tup' rfl T.z_tuple (by decide +kernel) (pa_cons (pv 3) pa_nil)) (pa_cons (pe_tup (pa_cons (pe_ix ix_seq (pv 1) pe_int (fun _ _ => rfl)) (pa_cons (pv 8) pa_nil))) pa_nil))))))))))
theorem bd_divisor_of (T : Txt K mg) : Binds K (fdK K ("divisor_of", none)) P_divisor_of [] := T.F_divisor_of.bindsN fun _ _ _ _ _ _ us hl => match us, hl with | [_, _], _ => rfl
set_option maxHeartbeats 4000000 in
theorem ok_divisor_of (T : Txt K mg) : FnOk P w K mg base (L2.CX P w) 1 (fA K "divisor_of") (fdK K ("divisor_of", none)) P_divisor_of (FS K (sp_divisor_of K)) := by
  refine T.F_divisor_of.ok sc_divisor_of (fun vs H Q E h => fs_len h sp_len_divisor_of) (fun cdv A outer s H vs Q E hr h => ⟨t_divisor_of K (fun c d _ H' => E c d H'), ?_, fs_run h (w_divisor_of  _)⟩)
  exact (pss_cons (ps_while (passes_of rfl) (pt_cmpR (op_neD hr.units) (pv 1) pe_int (nomark _)) (pss_one (ps_par rfl sc_divisor_of.nd (i := 0) (j := 1) rfl rfl (by decide) rfl rfl (pa_cons (pv 1) (pa_cons (pe_op op_mod' (pv 0) (pv 1)) pa_nil)) (by rfl))))
      (pss_one (ps_ret (pe_callB call_abs' rfl T.z_abs (by decide +kernel) (pa_cons (pv 0) pa_nil)))))
theorem bd_is_whole (T : Txt K mg) : Binds K (fdK K ("is_whole", none)) P_is_whole [] := T.F_is_whole.bindsN fun _ _ _ _ _ _ us hl => match us, hl with | [_], _ => rfl
set_option maxHeartbeats 4000000 in
theorem ok_is_whole (T : Txt K mg) : FnOk P w K mg base (L2.CX P w) 1 (fA K "is_whole") (fdK K ("is_whole", none)) P_is_whole (FS K (sp_is_whole K)) := by
  refine T.F_is_whole.ok sc_is_whole (fun vs H Q E h => fs_len h sp_len_is_whole) (fun cdv A outer s H vs Q E hr h => ⟨t_is_whole K (fun c d _ H' => E c d H'), ?_, fs_run h (w_is_whole  _)⟩)
  exact (pss_one (ps_ret (pe_and (pe_callB call_isi rfl T.z_isinstance (by decide +kernel) (pa_cons (pv 0) (pa_cons (pe_bltn (v := .ty "int") rfl T.z_int (by decide +kernel) rfl) pa_nil))) (pe_one (pe_not (pe_callB call_isi rfl T.z_isinstance (by decide +kernel) (pa_cons (pv 0) (pa_cons (pe_bltn (v := .ty "bool") rfl T.z_bool (by decide +kernel) rfl) pa_nil))))))))
theorem bd_is_ratio (T : Txt K mg) : Binds K (fdK K ("is_ratio", none)) P_is_ratio [] := T.F_is_ratio.bindsN fun _ _ _ _ _ _ us hl => match us, hl with | [_], _ => rfl
set_option maxHeartbeats 4000000 in
theorem ok_is_ratio (T : Txt K mg) : FnOk P w K mg base (L2.CX P w) 2 (fA K "is_ratio") (fdK K ("is_ratio", none)) P_is_ratio (FS K (sp_is_ratio K)) := by
  refine T.F_is_ratio.ok sc_is_ratio (fun vs H Q E h => fs_len h sp_len_is_ratio) (fun cdv A outer s H vs Q E hr h => ⟨t_is_ratio K (fun c d _ H' => E c d H'), ?_, fs_run h (w_is_ratio  _)⟩)
  exact (pss_cons (ps_if (PW.pt (pw_or (pt_not (pt_val (pe_callB call_isi rfl T.z_isinstance (by decide +kernel) (pa_cons (pv 0) (pa_cons (pe_bltn (v := .ty "tuple") rfl T.z_tuple (by decide +kernel) rfl) pa_nil))))) (pw_or (pt_cmpR (op_neD hr.units) (pe_callB call_len' rfl T.z_len (by decide +kernel) (pa_cons (pv 0) pa_nil)) pe_int (nomark _)) (pw_or (pt_not (pt_val (pe_call (ok_is_whole T) (hr.mono (by decide)) rfl T.m_is_whole T.F_is_whole.kp (bd_is_whole T) .nil passL (pa_cons (pe_ix ix_seq (pv 0) pe_int (fun _ _ => rfl)) pa_nil)))) (pw_or1 (pt_not (pt_val (pe_call (ok_is_whole T) (hr.mono (by decide)) rfl T.m_is_whole T.F_is_whole.kp (bd_is_whole T) .nil passL (pa_cons (pe_ix ix_seq (pv 0) pe_int (fun _ _ => rfl)) pa_nil))))))))) (pss_one (ps_ret pe_bl)) pss_nil)
      (pss_one (ps_ret (pe_and (pe_cmpR op_gt' (pe_ix ix_seq (pv 0) pe_int (fun _ _ => rfl)) pe_int (nomark _)) (pe_one (pe_cmpR (op_eqD hr.units) (pe_call (ok_divisor_of T) (hr.mono (by decide)) rfl T.m_divisor_of T.F_divisor_of.kp (bd_divisor_of T) .nil passL (pa_cons (pe_ix ix_seq (pv 0) pe_int (fun _ _ => rfl)) (pa_cons (pe_ix ix_seq (pv 0) pe_int (fun _ _ => rfl)) pa_nil))) pe_int (nomark _)))))))
theorem bd_is_tuple_of (T : Txt K mg) : Binds K (fdK K ("is_tuple_of", none)) P_is_tuple_of [] := T.F_is_tuple_of.bindsN fun _ _ _ _ _ _ us hl => match us, hl with | [_, _], _ => rfl
set_option maxHeartbeats 4000000 in
theorem ok_is_tuple_of (T : Txt K mg) : FnOk P w K mg base (L2.CX P w) 1 (fA K "is_tuple_of") (fdK K ("is_tuple_of", none)) P_is_tuple_of (FS K (sp_is_tuple_of K)) := by
  refine T.F_is_tuple_of.ok sc_is_tuple_of (fun vs H Q E h => fs_len h sp_len_is_tuple_of) (fun cdv A outer s H vs Q E hr h => ⟨t_is_tuple_of K (fun c d _ H' => E c d H'), ?_, fs_run h (w_is_tuple_of  _)⟩)
  exact (pss_one (ps_ret (pe_and (pe_callB call_isi rfl T.z_isinstance (by decide +kernel) (pa_cons (pv 0) (pa_cons (pe_bltn (v := .ty "tuple") rfl T.z_tuple (by decide +kernel) rfl) pa_nil))) (pe_one (pe_cmpR (op_eqD hr.units) (pe_callB call_len' rfl T.z_len (by decide +kernel) (pa_cons (pv 0) pa_nil)) (pv 1) (nomark _))))))
theorem bd_is_ball (T : Txt K mg) : Binds K (fdK K ("is_ball", none)) P_is_ball [] := T.F_is_ball.bindsN fun _ _ _ _ _ _ us hl => match us, hl with | [_], _ => rfl
set_option maxHeartbeats 4000000 in
theorem ok_is_ball (T : Txt K mg) : FnOk P w K mg base (L2.CX P w) 3 (fA K "is_ball") (fdK K ("is_ball", none)) P_is_ball (FS K (sp_is_ball K)) := by
  refine T.F_is_ball.ok sc_is_ball (fun vs H Q E h => fs_len h sp_len_is_ball) (fun cdv A outer s H vs Q E hr h => ⟨t_is_ball K (fun c d _ H' => E c d H'), ?_, fs_run h (w_is_ball  _)⟩)
  exact (pss_cons (ps_if (PW.pt (pw_or (pt_not (pt_val (pe_call (ok_is_tuple_of T) (hr.mono (by decide)) rfl T.m_is_tuple_of T.F_is_tuple_of.kp (bd_is_tuple_of T) .nil passL (pa_cons (pv 0) (pa_cons pe_int pa_nil))))) (pw_or (pt_not (pt_val (pe_call (ok_is_ratio T) (hr.mono (by decide)) rfl T.m_is_ratio T.F_is_ratio.kp (bd_is_ratio T) .nil passL (pa_cons (pe_ix ix_seq (pv 0) (pe_glob rfl T.g_PLACE.choose_spec ⟨_, rfl⟩) (fun _ _ => rfl)) pa_nil)))) (pw_or1 (pt_not (pt_val (pe_call (ok_is_ratio T) (hr.mono (by decide)) rfl T.m_is_ratio T.F_is_ratio.kp (bd_is_ratio T) .nil passL (pa_cons (pe_ix ix_seq (pv 0) (pe_glob rfl T.g_SPEED.choose_spec ⟨_, rfl⟩) (fun _ _ => rfl)) pa_nil)))))))) (pss_one (ps_ret pe_bl)) pss_nil)
      (pss_one (ps_ret (pe_and (pe_call (ok_is_whole T) (hr.mono (by decide)) rfl T.m_is_whole T.F_is_whole.kp (bd_is_whole T) .nil passL (pa_cons (pe_ix ix_seq (pv 0) (pe_glob rfl T.g_WEIGHT.choose_spec ⟨_, rfl⟩) (fun _ _ => rfl)) pa_nil)) (pe_one (pe_chain op_le' op_le' pe_int (pe_ix ix_seq (pv 0) (pe_glob rfl T.g_WEIGHT.choose_spec ⟨_, rfl⟩) (fun _ _ => rfl)) (pe_glob rfl T.g_GREATEST.choose_spec ⟨_, rfl⟩)))))))
theorem bd_less (T : Txt K mg) : Binds K (fdK K ("less", none)) P_less [] := T.F_less.bindsN fun _ _ _ _ _ _ us hl => match us, hl with | [_, _], _ => rfl
set_option maxHeartbeats 4000000 in
theorem ok_less (T : Txt K mg) : FnOk P w K mg base (L2.CX P w) 1 (fA K "less") (fdK K ("less", none)) P_less (FS K (sp_less K)) := by
  refine T.F_less.ok sc_less (fun vs H Q E h => fs_len h sp_len_less) (fun cdv A outer s H vs Q E hr h => ⟨t_less K (fun c d _ H' => E c d H'), ?_, fs_run h (w_less  _)⟩)
  exact (pss_one (ps_ret (pe_cmpR op_lt' (pe_op op_mul' (pe_ix ix_seq (pv 0) pe_int (fun _ _ => rfl)) (pe_ix ix_seq (pv 1) pe_int (fun _ _ => rfl))) (pe_op op_mul' (pe_ix ix_seq (pv 1) pe_int (fun _ _ => rfl)) (pe_ix ix_seq (pv 0) pe_int (fun _ _ => rfl))) (nomark _))))
theorem bd_may_stand (T : Txt K mg) : Binds K (fdK K ("may_stand", none)) P_may_stand [] := T.F_may_stand.bindsN fun _ _ _ _ _ _ us hl => match us, hl with | [_, _], _ => rfl
set_option maxHeartbeats 4000000 in
theorem ok_may_stand (T : Txt K mg) : FnOk P w K mg base (L2.CX P w) 2 (fA K "may_stand") (fdK K ("may_stand", none)) P_may_stand (FS K (sp_may_stand K)) := by
  refine T.F_may_stand.ok sc_may_stand (fun vs H Q E h => fs_len h sp_len_may_stand) (fun cdv A outer s H vs Q E hr h => ⟨t_may_stand K (fun c d _ H' => E c d H'), ?_, fs_run h (w_may_stand  _)⟩)
  exact (pss_cons (ps_if (pt_cmpR (op_eqD hr.units) (pe_ix ix_seq (pv 0) (pe_glob rfl T.g_PLACE.choose_spec ⟨_, rfl⟩) (fun _ _ => rfl)) (pe_ix ix_seq (pv 1) (pe_glob rfl T.g_PLACE.choose_spec ⟨_, rfl⟩) (fun _ _ => rfl)) (nomark _)) (pss_one (ps_ret (pe_call (ok_less T) (hr.mono (by decide)) rfl T.m_less T.F_less.kp (bd_less T) .nil passL (pa_cons (pe_ix ix_seq (pv 0) (pe_glob rfl T.g_SPEED.choose_spec ⟨_, rfl⟩) (fun _ _ => rfl)) (pa_cons (pe_ix ix_seq (pv 1) (pe_glob rfl T.g_SPEED.choose_spec ⟨_, rfl⟩) (fun _ _ => rfl)) pa_nil))))) pss_nil)
      (pss_one (ps_ret (pe_call (ok_less T) (hr.mono (by decide)) rfl T.m_less T.F_less.kp (bd_less T) .nil passL (pa_cons (pe_ix ix_seq (pv 0) (pe_glob rfl T.g_PLACE.choose_spec ⟨_, rfl⟩) (fun _ _ => rfl)) (pa_cons (pe_ix ix_seq (pv 1) (pe_glob rfl T.g_PLACE.choose_spec ⟨_, rfl⟩) (fun _ _ => rfl)) pa_nil))))))
theorem bd_is_within (T : Txt K mg) : Binds K (fdK K ("is_within", none)) P_is_within [] := T.F_is_within.bindsN fun _ _ _ _ _ _ us hl => match us, hl with | [_, _], _ => rfl
set_option maxHeartbeats 4000000 in
theorem ok_is_within (T : Txt K mg) : FnOk P w K mg base (L2.CX P w) 3 (fA K "is_within") (fdK K ("is_within", none)) P_is_within (FS K (sp_is_within K)) := by
  refine T.F_is_within.ok sc_is_within (fun vs H Q E h => fs_len h sp_len_is_within) (fun cdv A outer s H vs Q E hr h => ⟨t_is_within K (fun c d _ H' => E c d H'), ?_, fs_run h (w_is_within  _)⟩)
  exact (pss_one (ps_ret (pe_or (pe_cmpR (op_eqD hr.units) (pe_slice sl_seq (pv 0) po_none (po_some (pe_glob rfl T.g_WEIGHT.choose_spec ⟨_, rfl⟩))) (pe_slice sl_seq (pv 1) po_none (po_some (pe_glob rfl T.g_WEIGHT.choose_spec ⟨_, rfl⟩))) (nomark _)) (pe_one (pe_call (ok_may_stand T) (hr.mono (by decide)) rfl T.m_may_stand T.F_may_stand.kp (bd_may_stand T) .nil passL (pa_cons (pv 0) (pa_cons (pv 1) pa_nil)))))))
theorem bd_is_row (T : Txt K mg) : Binds K (fdK K ("is_row", none)) P_is_row [] := T.F_is_row.bindsN fun _ _ _ _ _ _ us hl => match us, hl with | [_, _], _ => rfl
set_option maxHeartbeats 4000000 in
theorem ok_is_row (T : Txt K mg) : FnOk P w K mg base (L2.CX P w) 4 (fA K "is_row") (fdK K ("is_row", none)) P_is_row (FS K (sp_is_row K)) := by
  refine T.F_is_row.ok sc_is_row (fun vs H Q E h => fs_len h sp_len_is_row) (fun cdv A outer s H vs Q E hr h => ⟨t_is_row K (fun c d _ H' => E c d H'), ?_, fs_run h (w_is_row  _)⟩)
  exact (pss_cons (ps_if (PW.pt (pw_or (pt_not (pt_val (pe_callB call_isi rfl T.z_isinstance (by decide +kernel) (pa_cons (pv 1) (pa_cons (pe_bltn (v := .ty "tuple") rfl T.z_tuple (by decide +kernel) rfl) pa_nil))))) (pw_or1 (pt_not (pt_chain op_le' op_le' pe_int (pe_callB call_len' rfl T.z_len (by decide +kernel) (pa_cons (pv 1) pa_nil)) (pe_glob rfl T.g_MOST_BALLS.choose_spec ⟨_, rfl⟩)))))) (pss_one (ps_ret pe_bl)) pss_nil)
      (pss_cons (ps_if (pt_not (pt_val (pe_callB (cr_all rfl) rfl T.z_all (by decide +kernel) (pa_cons (pe_lc (own := [("ball", 2)]) (g := (gName 2)) (tt := tYes) rfl sc_is_row.nd (pi_seq (pv 1)) (blkOk_by (N := N_is_row) (sc := defScope s_is_row) (by decide +kernel)) (fun _ _ _ _ _ => (pg_name (i := 2) sc_is_row.nd rfl (Or.inl rfl))) (fun _ _ _ _ _ => pts_nil) (fun _ _ _ _ _ => (pe_call (ok_is_ball T) (hr.mono (by decide)) rfl T.m_is_ball T.F_is_ball.kp (bd_is_ball T) .nil passL (pa_cons (pv 2) pa_nil)))) pa_nil)))) (pss_one (ps_ret pe_bl)) pss_nil)
      (pss_cons (ps_if (pt_not (pt_val (pe_callB (cr_all rfl) rfl T.z_all (by decide +kernel) (pa_cons (pe_lc (own := [("left", 3), ("right", 4)]) (g := (gTup K 2 (gCons (gName 3) (gCons (gName 4) gNil)))) (tt := tYes) rfl sc_is_row.nd (pi_zipA rfl T.z_zip (pa_cons (pv 1) (pa_cons (pe_slice sl_seq (pv 1) (po_some pe_int) po_none) pa_nil))) (blkOk_by (N := N_is_row) (sc := defScope s_is_row) (by decide +kernel)) (fun _ _ _ _ _ => (pg_tup rfl (pgs_cons (pg_name (i := 3) sc_is_row.nd rfl (Or.inl rfl)) (pgs_cons (pg_name (i := 4) sc_is_row.nd rfl (Or.inl rfl)) pgs_nil)))) (fun _ _ _ _ _ => pts_nil) (fun _ _ _ _ _ => (pe_call (ok_may_stand T) (hr.mono (by decide)) rfl T.m_may_stand T.F_may_stand.kp (bd_may_stand T) .nil passL (pa_cons (pv 3) (pa_cons (pv 4) pa_nil))))) pa_nil)))) (pss_one (ps_ret pe_bl)) pss_nil)
      (pss_cons (ps_if (PW.pt (pw_and (pt_cmpR op_notN' (pe_ix ix_seq (pv 0) (pe_glob rfl T.g_LOW.choose_spec ⟨_, rfl⟩) (fun _ _ => rfl)) pe_non (nomark _)) (pw_and1 (pt_not (pt_val (pe_call (ok_is_within T) (hr.mono (by decide)) rfl T.m_is_within T.F_is_within.kp (bd_is_within T) .nil passL (pa_cons (pe_ix ix_seq (pv 0) (pe_glob rfl T.g_LOW.choose_spec ⟨_, rfl⟩) (fun _ _ => rfl)) (pa_cons (pe_ix ix_seq (pv 1) pe_int (fun _ _ => rfl)) pa_nil)))))))) (pss_one (ps_ret pe_bl)) pss_nil)
      (pss_one (ps_ret (pe_or (pe_cmpR op_isN' (pe_ix ix_seq (pv 0) (pe_glob rfl T.g_HIGH.choose_spec ⟨_, rfl⟩) (fun _ _ => rfl)) pe_non (nomark _)) (pe_one (pe_call (ok_is_within T) (hr.mono (by decide)) rfl T.m_is_within T.F_is_within.kp (bd_is_within T) .nil passL (pa_cons (pe_ix ix_seq (pv 1) (pe_un un_neg' pe_int) (fun _ _ => rfl)) (pa_cons (pe_ix ix_seq (pv 0) (pe_glob rfl T.g_HIGH.choose_spec ⟨_, rfl⟩) (fun _ _ => rfl)) pa_nil)))))))))))
theorem bd_is_wall (T : Txt K mg) : Binds K (fdK K ("is_wall", none)) P_is_wall [] := T.F_is_wall.bindsN fun _ _ _ _ _ _ us hl => match us, hl with | [_], _ => rfl
set_option maxHeartbeats 4000000 in
theorem ok_is_wall (T : Txt K mg) : FnOk P w K mg base (L2.CX P w) 3 (fA K "is_wall") (fdK K ("is_wall", none)) P_is_wall (FS K (sp_is_wall K)) := by
  refine T.F_is_wall.ok sc_is_wall (fun vs H Q E h => fs_len h sp_len_is_wall) (fun cdv A outer s H vs Q E hr h => ⟨t_is_wall K (fun c d _ H' => E c d H'), ?_, fs_run h (w_is_wall  _)⟩)
  exact (pss_cons (ps_if (pt_cmpR op_isN' (pv 0) pe_non (nomark _)) (pss_one (ps_ret pe_bl)) pss_nil)
      (pss_one (ps_ret (pe_and (pe_call (ok_is_tuple_of T) (hr.mono (by decide)) rfl T.m_is_tuple_of T.F_is_tuple_of.kp (bd_is_tuple_of T) .nil passL (pa_cons (pv 0) (pa_cons pe_int pa_nil))) (pe_and (pe_call (ok_is_ratio T) (hr.mono (by decide)) rfl T.m_is_ratio T.F_is_ratio.kp (bd_is_ratio T) .nil passL (pa_cons (pe_ix ix_seq (pv 0) (pe_glob rfl T.g_PLACE.choose_spec ⟨_, rfl⟩) (fun _ _ => rfl)) pa_nil)) (pe_one (pe_call (ok_is_ratio T) (hr.mono (by decide)) rfl T.m_is_ratio T.F_is_ratio.kp (bd_is_ratio T) .nil passL (pa_cons (pe_ix ix_seq (pv 0) (pe_glob rfl T.g_SPEED.choose_spec ⟨_, rfl⟩) (fun _ _ => rfl)) pa_nil))))))))
theorem bd_walls_good (T : Txt K mg) : Binds K (fdK K ("walls_good", none)) P_walls_good [] := T.F_walls_good.bindsN fun _ _ _ _ _ _ us hl => match us, hl with | [_], _ => rfl
set_option maxHeartbeats 4000000 in
theorem ok_walls_good (T : Txt K mg) : FnOk P w K mg base (L2.CX P w) 4 (fA K "walls_good") (fdK K ("walls_good", none)) P_walls_good (FS K (sp_walls_good K)) := by
  refine T.F_walls_good.ok sc_walls_good (fun vs H Q E h => fs_len h sp_len_walls_good) (fun cdv A outer s H vs Q E hr h => ⟨t_walls_good K (fun c d _ H' => E c d H'), ?_, fs_run h (w_walls_good  _)⟩)
  exact (pss_cons (ps_if (PW.pt (pw_or (pt_not (pt_val (pe_call (ok_is_tuple_of T) (hr.mono (by decide)) rfl T.m_is_tuple_of T.F_is_tuple_of.kp (bd_is_tuple_of T) .nil passL (pa_cons (pv 0) (pa_cons pe_int pa_nil))))) (pw_or (pt_not (pt_val (pe_call (ok_is_wall T) (hr.mono (by decide)) rfl T.m_is_wall T.F_is_wall.kp (bd_is_wall T) .nil passL (pa_cons (pe_ix ix_seq (pv 0) (pe_glob rfl T.g_LOW.choose_spec ⟨_, rfl⟩) (fun _ _ => rfl)) pa_nil)))) (pw_or1 (pt_not (pt_val (pe_call (ok_is_wall T) (hr.mono (by decide)) rfl T.m_is_wall T.F_is_wall.kp (bd_is_wall T) .nil passL (pa_cons (pe_ix ix_seq (pv 0) (pe_glob rfl T.g_HIGH.choose_spec ⟨_, rfl⟩) (fun _ _ => rfl)) pa_nil)))))))) (pss_one (ps_ret pe_bl)) pss_nil)
      (pss_cons (ps_if (PW.pt (pw_or (pt_cmpR op_isN' (pe_ix ix_seq (pv 0) (pe_glob rfl T.g_LOW.choose_spec ⟨_, rfl⟩) (fun _ _ => rfl)) pe_non (nomark _)) (pw_or1 (pt_cmpR op_isN' (pe_ix ix_seq (pv 0) (pe_glob rfl T.g_HIGH.choose_spec ⟨_, rfl⟩) (fun _ _ => rfl)) pe_non (nomark _))))) (pss_one (ps_ret pe_bl)) pss_nil)
      (pss_one (ps_ret (pe_call (ok_less T) (hr.mono (by decide)) rfl T.m_less T.F_less.kp (bd_less T) .nil passL (pa_cons (pe_ix ix_seq (pe_ix ix_seq (pv 0) (pe_glob rfl T.g_LOW.choose_spec ⟨_, rfl⟩) (fun _ _ => rfl)) (pe_glob rfl T.g_PLACE.choose_spec ⟨_, rfl⟩) (fun _ _ => rfl)) (pa_cons (pe_ix ix_seq (pe_ix ix_seq (pv 0) (pe_glob rfl T.g_HIGH.choose_spec ⟨_, rfl⟩) (fun _ _ => rfl)) (pe_glob rfl T.g_PLACE.choose_spec ⟨_, rfl⟩) (fun _ _ => rfl)) pa_nil)))))))
theorem bd_law_is (T : Txt K mg) : Binds K (fdK K ("_law_is", none)) P_law_is [] := T.F_law_is.bindsN fun _ _ _ _ _ _ us hl => match us, hl with | [_, _], _ => rfl
set_option maxHeartbeats 4000000 in
theorem ok_law_is (T : Txt K mg) : FnOk P w K mg base (L2.CX P w) 5 (fA K "_law_is") (fdK K ("_law_is", none)) P_law_is (FS K (sp_law_is K)) := by
  refine T.F_law_is.ok sc_law_is (fun vs H Q E h => fs_len h sp_len_law_is) (fun cdv A outer s H vs Q E hr h => ⟨t_law_is K (fun c d _ H' => E c d H'), ?_, fs_run h (w_law_is  _)⟩)
  exact (pss_cons (ps_asg (pe_call (ok_law_thin T) (hr.mono (by decide)) rfl T.m_law_thin T.F_law_thin.kp (bd_law_thin T) .nil passL (pa_cons (pv 1) (pa_cons (pv 0) pa_nil))) (pg_tup rfl (pgs_cons (pg_name (i := 2) sc_law_is.nd rfl (Or.inl rfl)) (pgs_cons (pg_name (i := 3) sc_law_is.nd rfl (Or.inl rfl)) pgs_nil))))
      (pss_one (ps_ret (pe_and (pe_call (ok_walls_good T) (hr.mono (by decide)) rfl T.m_walls_good T.F_walls_good.kp (bd_walls_good T) .nil passL (pa_cons (pv 3) pa_nil)) (pe_one (pe_call (ok_is_row T) (hr.mono (by decide)) rfl T.m_is_row T.F_is_row.kp (bd_is_row T) .nil passL (pa_cons (pv 3) (pa_cons (pv 2) pa_nil))))))))
theorem bd_law_left (T : Txt K mg) : Binds K (fdK K ("_law_left", none)) P_law_left [] := T.F_law_left.bindsN fun _ _ _ _ _ _ us hl => match us, hl with | [_], _ => rfl
set_option maxHeartbeats 4000000 in
theorem ok_law_left (T : Txt K mg) : FnOk P w K mg base (L2.CX P w) 1 (fA K "_law_left") (fdK K ("_law_left", none)) P_law_left (FS K (sp_law_left K)) := by
  refine T.F_law_left.ok sc_law_left (fun vs H Q E h => fs_len h sp_len_law_left) (fun cdv A outer s H vs Q E hr h => ⟨t_law_left K (fun c d _ H' => E c d H'), ?_, fs_run h (w_law_left  _)⟩)
  exact (pss_one (ps_ret (pe_lst (pa_cons (pe_callB (call_max' rfl) rfl T.z_max (by decide +kernel) (pa_cons pe_int (pa_cons (pe_op op_sub' (pv 0) (pe_op op_pow' pe_int pe_int)) pa_nil))) (pa_cons (pe_op op_mod' (pv 0) (pe_op op_pow' pe_int pe_int)) (pa_cons pe_int pa_nil))))))
theorem bd_law_by (T : Txt K mg) : Binds K (fdK K ("_law_by", none)) P_law_by [] := T.F_law_by.bindsN fun _ _ _ _ _ _ us hl => match us, hl with | [_, _], _ => rfl
set_option maxHeartbeats 4000000 in
theorem ok_law_by (T : Txt K mg) : FnOk P w K mg base (L2.CX P w) 2 (fA K "_law_by") (fdK K ("_law_by", none)) P_law_by (FS K (sp_law_by K)) := by
  refine T.F_law_by.ok sc_law_by (fun vs H Q E h => fs_len h sp_len_law_by) (fun cdv A outer s H vs Q E hr h => ⟨t_law_by K (fun c d _ H' => E c d H'), ?_, fs_run h (w_law_by  _)⟩)
  exact (pss_one (ps_ret (pe_call (ok_law_low T) (hr.mono (by decide)) rfl T.m_law_low T.F_law_low.kp (bd_law_low T) .nil passL (pa_cons (pe_op op_mul' (pe_ix ix_seq (pv 0) pe_int (fun _ _ => rfl)) (pe_ix ix_seq (pv 1) pe_int (fun _ _ => rfl))) (pa_cons (pe_op op_mul' (pe_ix ix_seq (pv 0) pe_int (fun _ _ => rfl)) (pe_ix ix_seq (pv 1) pe_int (fun _ _ => rfl))) pa_nil)))))
theorem bd_law_nine (T : Txt K mg) : Binds K (fdK K ("_law_nine", none)) P_law_nine [] := T.F_law_nine.bindsN fun _ _ _ _ _ _ us hl => match us, hl with | [_], _ => rfl
set_option maxHeartbeats 4000000 in
theorem ok_law_nine (T : Txt K mg) : FnOk P w K mg base (L2.CX P w) 3 (fA K "_law_nine") (fdK K ("_law_nine", none)) P_law_nine (FS K (sp_law_nine K)) := by
  refine T.F_law_nine.ok sc_law_nine (fun vs H Q E h => fs_len h sp_len_law_nine) (fun cdv A outer s H vs Q E hr h => ⟨t_law_nine K (fun c d _ H' => E c d H'), ?_, fs_run h (w_law_nine  _)⟩)
  exact (pss_cons (ps_asg (pe_ix ix_seq (pv 0) pe_int (fun _ _ => rfl)) (pg_tup rfl (pgs_cons (pg_name (i := 1) sc_law_nine.nd rfl (Or.inr rfl)) (pgs_cons (pg_name (i := 2) sc_law_nine.nd rfl (Or.inl rfl)) (pgs_cons (pg_name (i := 3) sc_law_nine.nd rfl (Or.inr rfl)) (pgs_cons (pg_name (i := 4) sc_law_nine.nd rfl (Or.inr rfl)) pgs_nil))))))
      (pss_cons (ps_set (i := 5) sc_law_nine.nd rfl (Or.inr rfl) (pe_call (ok_law_add T) (hr.mono (by decide)) rfl T.m_law_add T.F_law_add.kp (bd_law_add T) .nil passL (pa_cons (pv 4) (pa_cons (pe_tup (pa_cons pe_int (pa_cons pe_int pa_nil))) pa_nil))))
      (pss_one (ps_ret (pe_callTy call_tup' rfl T.z_tuple (by decide +kernel) (pa_cons (pe_lc (own := [("k", 6)]) (g := (gName 6)) (tt := tYes) rfl sc_law_nine.nd (pi_range1 rfl T.z_range (pa_cons pe_int pa_nil)) (blkOk_by (N := N_law_nine) (sc := defScope s_law_nine) (by decide +kernel)) (fun _ _ _ _ _ => (pg_name (i := 6) sc_law_nine.nd rfl (Or.inl rfl))) (fun _ _ _ _ _ => pts_nil) (fun _ _ _ _ _ => (pe_tup (pa_cons (pe_call (ok_law_add T) (hr.mono (by decide)) rfl T.m_law_add T.F_law_add.kp (bd_law_add T) .nil passL (pa_cons (pv 1) (pa_cons (pe_call (ok_law_by T) (hr.mono (by decide)) rfl T.m_law_by T.F_law_by.kp (bd_law_by T) .nil passL (pa_cons (pe_tup (pa_cons (pv 6) (pa_cons pe_int pa_nil))) (pa_cons (pv 5) pa_nil))) pa_nil))) (pa_cons (pe_tup (pa_cons pe_int (pa_cons pe_int pa_nil))) (pa_cons (pv 3) (pa_cons (pv 4) pa_nil))))))) pa_nil))))))
theorem bd_law_next (T : Txt K mg) : Binds K (fdK K ("_law_next", none)) P_law_next [] := T.F_law_next.bindsN fun _ _ _ _ _ _ us hl => match us, hl with | [_, _], _ => rfl
set_option maxHeartbeats 4000000 in
theorem ok_law_next (T : Txt K mg) : FnOk P w K mg base (L2.CX P w) 1 (fA K "_law_next") (fdK K ("_law_next", none)) P_law_next (FS K (sp_law_next K)) := by
  refine T.F_law_next.ok sc_law_next (fun vs H Q E h => fs_len h sp_len_law_next) (fun cdv A outer s H vs Q E hr h => ⟨t_law_next K (fun c d _ H' => E c d H'), ?_, fs_run h (w_law_next  _)⟩)
  exact (pss_cons (ps_if (pt_cmpR op_gt' (pe_ix ix_seq (pv 0) pe_int (fun _ _ => rfl)) pe_int (nomark _)) (pss_cons (ps_set (i := 2) sc_law_next.nd rfl (Or.inl rfl) (pe_op op_mod' (pe_ix ix_seq (pv 0) pe_int (fun _ _ => rfl)) (pv 1)))
      (pss_cons (ps_asg (pe_op op_fdiv' (pe_ix ix_seq (pv 0) pe_int (fun _ _ => rfl)) (pv 1)) (pg_sub (pv 0) pe_int set_list))
      (pss_one (ps_ret (pv 2))))) pss_nil)
      (pss_cons (ps_asg (pe_op op_addX (pe_ix ix_seq (pv 0) pe_int (fun _ _ => rfl)) pe_int) (pg_sub (pv 0) pe_int set_list))
      (pss_cons (ps_set (i := 3) sc_law_next.nd rfl (Or.inl rfl) (pe_op op_mod' (pe_op op_addX (pe_ix ix_seq (pv 0) pe_int (fun _ _ => rfl)) (pe_op op_mul' pe_int (pe_ix ix_seq (pv 0) pe_int (fun _ _ => rfl)))) pe_int))
      (pss_cons (ps_set (i := 4) sc_law_next.nd rfl (Or.inl rfl) (pe_op op_mod' (pe_op op_mul' (pe_op op_addX (pv 3) pe_int) (pe_op op_addX (pv 3) pe_int)) pe_int))
      (pss_one (ps_ret (pe_op op_mod' (pe_op op_fdiv' (pe_op op_mod' (pe_op op_mul' (pv 4) (pv 4)) pe_int) pe_int) (pv 1))))))))
theorem bd_law_odd (T : Txt K mg) : Binds K (fdK K ("_law_odd", none)) P_law_odd [] := T.F_law_odd.bindsN fun _ _ _ _ _ _ us hl => match us, hl with | [_, _], _ => rfl
set_option maxHeartbeats 4000000 in
theorem ok_law_odd (T : Txt K mg) : FnOk P w K mg base (L2.CX P w) 2 (fA K "_law_odd") (fdK K ("_law_odd", none)) P_law_odd (FS K (sp_law_odd K)) := by
  refine T.F_law_odd.ok sc_law_odd (fun vs H Q E h => fs_len h sp_len_law_odd) (fun cdv A outer s H vs Q E hr h => ⟨t_law_odd K (fun c d _ H' => E c d H'), ?_, fs_run h (w_law_odd  _)⟩)
  exact (pss_cons (ps_set (i := 2) sc_law_odd.nd rfl (Or.inl rfl) (pe_call (ok_law_next T) (hr.mono (by decide)) rfl T.m_law_next T.F_law_next.kp (bd_law_next T) .nil passL (pa_cons (pv 0) (pa_cons (pe_callB call_len' rfl T.z_len (by decide +kernel) (pa_cons (pv 1) pa_nil)) pa_nil))))
      (pss_cons (ps_asg (pe_ix ix_seq (pv 1) (pv 2) (fun _ _ => rfl)) (pg_tup rfl (pgs_cons (pg_name (i := 3) sc_law_odd.nd rfl (Or.inl rfl)) (pgs_cons (pg_name (i := 4) sc_law_odd.nd rfl (Or.inl rfl)) (pgs_cons (pg_name (i := 5) sc_law_odd.nd rfl (Or.inl rfl)) (pgs_cons (pg_name (i := 6) sc_law_odd.nd rfl (Or.inl rfl)) pgs_nil))))))
      (pss_cons (ps_set (i := 7) sc_law_odd.nd rfl (Or.inl rfl) (pe_lst (pa_cons (pe_tup (pa_cons (pv 3) (pa_cons (pv 4) (pa_cons (pv 5) (pa_cons (pe_tup (pa_cons (pe_un un_neg' pe_int) (pa_cons pe_int pa_nil))) pa_nil))))) (pa_cons (pe_tup (pa_cons (pv 3) (pa_cons (pv 4) (pa_cons (pv 5) (pa_cons pe_int pa_nil))))) (pa_cons (pe_tup (pa_cons (pv 3) (pa_cons (pv 4) (pa_cons (pv 5) pa_nil)))) pa_nil)))))
      (pss_cons (ps_set (i := 7) sc_law_odd.nd rfl (Or.inl rfl) (pe_op op_addX (pv 7) (pe_lst (pa_cons (pe_lst (pa_cons (pv 3) (pa_cons (pv 4) (pa_cons (pv 5) (pa_cons (pv 6) pa_nil))))) (pa_cons (pe_tup (pa_cons (pv 3) (pa_cons (pv 4) (pa_cons (pv 5) (pa_cons (pe_tup (pa_cons pe_int (pa_cons pe_int pa_nil))) pa_nil))))) (pa_cons pe_non pa_nil))))))
      (pss_cons (ps_set (i := 7) sc_law_odd.nd rfl (Or.inl rfl) (pe_op op_addX (pv 7) (pe_lst (pa_cons (pe_tup (pa_cons (pv 3) (pa_cons (pv 4) (pa_cons (pv 5) (pa_cons pe_non pa_nil))))) (pa_cons (pe_tup (pa_cons (pv 3) (pa_cons (pv 4) (pa_cons pe_int (pa_cons (pv 6) pa_nil))))) pa_nil)))))
      (pss_cons (ps_set (i := 7) sc_law_odd.nd rfl (Or.inl rfl) (pe_op op_addX (pv 7) (pe_lst (pa_cons (pe_tup (pa_cons (pv 3) (pa_cons (pv 4) (pa_cons pe_int (pa_cons (pv 6) pa_nil))))) (pa_cons (pe_tup (pa_cons (pe_tup (pa_cons pe_int (pa_cons pe_int pa_nil))) (pa_cons (pv 4) (pa_cons (pv 5) (pa_cons (pv 6) pa_nil))))) (pa_cons (pe_tup (pa_cons (pv 3) (pa_cons (pv 4) (pa_cons (pv 5) (pa_cons (pv 6) (pa_cons (pv 6) pa_nil)))))) pa_nil))))))
      (pss_cons (ps_set (i := 8) sc_law_odd.nd rfl (Or.inl rfl) (pe_call (ok_law_next T) (hr.mono (by decide)) rfl T.m_law_next T.F_law_next.kp (bd_law_next T) .nil passL (pa_cons (pv 0) (pa_cons pe_int pa_nil))))
      (pss_cons (ps_if (pt_cmpR op_lt' (pv 8) pe_int (nomark _)) (pss_one (ps_ret (pe_op op_addX (pe_op op_addX (pe_slice sl_seq (pv 1) po_none (po_some (pv 2))) (pe_tup (pa_cons (pe_ix ix_seq (pv 7) (pv 8) (fun _ _ => rfl)) pa_nil))) (pe_slice sl_seq (pv 1) (po_some (pe_op op_addX (pv 2) pe_int)) po_none)))) pss_nil)
      (pss_one (ps_ret (pe_ix ix_seq (pe_lst (pa_cons (pe_callTy call_list' rfl T.z_list (by decide +kernel) (pa_cons (pv 1) pa_nil)) (pa_cons (pe_tup pa_nil) (pa_cons pe_non (pa_cons (pe_op op_addX (pe_op op_addX (pv 1) (pv 1)) (pe_op op_repT (pe_slice sl_seq (pv 1) po_none (po_some pe_int)) pe_int)) pa_nil))))) (pe_op op_sub' (pv 8) pe_int) (fun _ _ => rfl))))))))))))
theorem bd_law_pushed (T : Txt K mg) : Binds K (fdK K ("_law_pushed", none)) P_law_pushed [] := T.F_law_pushed.bindsN fun _ _ _ _ _ _ us hl => match us, hl with | [_, _, _], _ => rfl
set_option maxHeartbeats 4000000 in
theorem ok_law_pushed (T : Txt K mg) : FnOk P w K mg base (L2.CX P w) 3 (fA K "_law_pushed") (fdK K ("_law_pushed", none)) P_law_pushed (FS K (sp_law_pushed K)) := by
  refine T.F_law_pushed.ok sc_law_pushed (fun vs H Q E h => fs_len h sp_len_law_pushed) (fun cdv A outer s H vs Q E hr h => ⟨t_law_pushed K (fun c d _ H' => E c d H'), ?_, fs_run h (w_law_pushed  _)⟩)
  exact (pss_cons (ps_set (i := 3) sc_law_pushed.nd rfl (Or.inl rfl) (pe_call (ok_law_low T) (hr.mono (by decide)) rfl T.m_law_low T.F_law_low.kp (bd_law_low T) .nil passL (pa_cons (pe_op op_sub' (pe_call (ok_law_next T) (hr.mono (by decide)) rfl T.m_law_next T.F_law_next.kp (bd_law_next T) .nil passL (pa_cons (pv 0) (pa_cons pe_int pa_nil))) pe_int) (pa_cons (pe_ix ix_seq (pe_lst (pa_cons pe_int (pa_cons pe_int (pa_cons pe_int pa_nil)))) (pe_call (ok_law_next T) (hr.mono (by decide)) rfl T.m_law_next T.F_law_next.kp (bd_law_next T) .nil passL (pa_cons (pv 0) (pa_cons pe_int pa_nil))) (fun _ _ => rfl)) pa_nil))))
      (pss_cons (ps_set (i := 4) sc_law_pushed.nd rfl (Or.inl rfl) (pe_call (ok_law_next T) (hr.mono (by decide)) rfl T.m_law_next T.F_law_next.kp (bd_law_next T) .nil passL (pa_cons (pv 0) (pa_cons (pe_callB call_len' rfl T.z_len (by decide +kernel) (pa_cons (pv 1) pa_nil)) pa_nil))))
      (pss_cons (ps_if (PW.pt (pw_and (pt_cmpR op_notN' (pe_ix ix_seq (pv 2) pe_int (fun _ _ => rfl)) pe_non (nomark _)) (pw_and1 (pt_cmpR (op_eqD hr.units) (pe_call (ok_law_next T) (hr.mono (by decide)) rfl T.m_law_next T.F_law_next.kp (bd_law_next T) .nil passL (pa_cons (pv 0) (pa_cons pe_int pa_nil))) pe_int (nomark _))))) (pss_one (ps_ret (pe_tup (pa_cons (pv 1) (pa_cons (pe_tup (pa_cons (pe_ix ix_seq (pv 2) pe_int (fun _ _ => rfl)) (pa_cons (pe_tup (pa_cons (pe_call (ok_law_add T) (hr.mono (by decide)) rfl T.m_law_add T.F_law_add.kp (bd_law_add T) .nil passL (pa_cons (pe_ix ix_seq (pe_ix ix_seq (pv 2) pe_int (fun _ _ => rfl)) pe_int (fun _ _ => rfl)) (pa_cons (pv 3) pa_nil))) (pa_cons (pe_ix ix_seq (pe_ix ix_seq (pv 2) pe_int (fun _ _ => rfl)) pe_int (fun _ _ => rfl)) pa_nil))) pa_nil))) pa_nil))))) pss_nil)
      (pss_cons (ps_set (i := 5) sc_law_pushed.nd rfl (Or.inl rfl) (pe_ix ix_seq (pv 1) (pv 4) (fun _ _ => rfl)))
      (pss_one (ps_ret (pe_tup (pa_cons (pe_op op_addX (pe_op op_addX (pe_slice sl_seq (pv 1) po_none (po_some (pv 4))) (pe_tup (pa_cons (pe_op op_addX (pe_tup (pa_cons (pe_call (ok_law_add T) (hr.mono (by decide)) rfl T.m_law_add T.F_law_add.kp (bd_law_add T) .nil passL (pa_cons (pe_ix ix_seq (pv 5) pe_int (fun _ _ => rfl)) (pa_cons (pv 3) pa_nil))) pa_nil)) (pe_slice sl_seq (pv 5) (po_some pe_int) po_none)) pa_nil))) (pe_slice sl_seq (pv 1) (po_some (pe_op op_addX (pv 4) pe_int)) po_none)) (pa_cons (pv 2) pa_nil)))))))))
theorem bd_law_below (T : Txt K mg) : Binds K (fdK K ("_law_below", none)) P_law_below [] := T.F_law_below.bindsN fun _ _ _ _ _ _ us hl => match us, hl with | [_, _], _ => rfl
set_option maxHeartbeats 4000000 in
theorem ok_law_below (T : Txt K mg) : FnOk P w K mg base (L2.CX P w) 1 (fA K "_law_below") (fdK K ("_law_below", none)) P_law_below (FS K (sp_law_below K)) := by
  refine T.F_law_below.ok sc_law_below (fun vs H Q E h => fs_len h sp_len_law_below) (fun cdv A outer s H vs Q E hr h => ⟨t_law_below K (fun c d _ H' => E c d H'), ?_, fs_run h (w_law_below  _)⟩)
  exact (pss_one (ps_ret (pe_cmpR op_lt' (pe_op op_mul' (pe_ix ix_seq (pv 0) pe_int (fun _ _ => rfl)) (pe_ix ix_seq (pv 1) pe_int (fun _ _ => rfl))) (pe_op op_mul' (pe_ix ix_seq (pv 1) pe_int (fun _ _ => rfl)) (pe_ix ix_seq (pv 0) pe_int (fun _ _ => rfl))) (nomark _))))
theorem bd_law_gap (T : Txt K mg) : Binds K (fdK K ("_law_gap", none)) P_law_gap [] := T.F_law_gap.bindsN fun _ _ _ _ _ _ us hl => match us, hl with | [_], _ => rfl
set_option maxHeartbeats 4000000 in
theorem ok_law_gap (T : Txt K mg) : FnOk P w K mg base (L2.CX P w) 2 (fA K "_law_gap") (fdK K ("_law_gap", none)) P_law_gap (FS K (sp_law_gap K)) := by
  refine T.F_law_gap.ok sc_law_gap (fun vs H Q E h => fs_len h sp_len_law_gap) (fun cdv A outer s H vs Q E hr h => ⟨t_law_gap K (fun c d _ H' => E c d H'), ?_, fs_run h (w_law_gap  _)⟩)
  exact (pss_cons (ps_if (pt_cmpR (op_eqD hr.units) (pe_call (ok_law_next T) (hr.mono (by decide)) rfl T.m_law_next T.F_law_next.kp (bd_law_next T) .nil passL (pa_cons (pv 0) (pa_cons pe_int pa_nil))) pe_int (nomark _)) (pss_one (ps_ret (pe_tup (pa_cons pe_int (pa_cons pe_int pa_nil))))) pss_nil)
      (pss_one (ps_ret (pe_call (ok_law_low T) (hr.mono (by decide)) rfl T.m_law_low T.F_law_low.kp (bd_law_low T) .nil passL (pa_cons (pe_op op_addX pe_int (pe_call (ok_law_next T) (hr.mono (by decide)) rfl T.m_law_next T.F_law_next.kp (bd_law_next T) .nil passL (pa_cons (pv 0) (pa_cons pe_int pa_nil)))) (pa_cons (pe_ix ix_seq (pe_lst (pa_cons pe_int (pa_cons pe_int (pa_cons pe_int (pa_cons pe_int pa_nil))))) (pe_call (ok_law_next T) (hr.mono (by decide)) rfl T.m_law_next T.F_law_next.kp (bd_law_next T) .nil passL (pa_cons (pv 0) (pa_cons pe_int pa_nil))) (fun _ _ => rfl)) pa_nil))))))
theorem bd_law_speed (T : Txt K mg) : Binds K (fdK K ("_law_speed", none)) P_law_speed [] := T.F_law_speed.bindsN fun _ _ _ _ _ _ us hl => match us, hl with | [_], _ => rfl
set_option maxHeartbeats 4000000 in
theorem ok_law_speed (T : Txt K mg) : FnOk P w K mg base (L2.CX P w) 2 (fA K "_law_speed") (fdK K ("_law_speed", none)) P_law_speed (FS K (sp_law_speed K)) := by
  refine T.F_law_speed.ok sc_law_speed (fun vs H Q E h => fs_len h sp_len_law_speed) (fun cdv A outer s H vs Q E hr h => ⟨t_law_speed K (fun c d _ H' => E c d H'), ?_, fs_run h (w_law_speed  _)⟩)
  exact (pss_one (ps_ret (pe_call (ok_law_low T) (hr.mono (by decide)) rfl T.m_law_low T.F_law_low.kp (bd_law_low T) .nil passL (pa_cons (pe_op op_sub' (pe_call (ok_law_next T) (hr.mono (by decide)) rfl T.m_law_next T.F_law_next.kp (bd_law_next T) .nil passL (pa_cons (pv 0) (pa_cons pe_int pa_nil))) pe_int) (pa_cons (pe_ix ix_seq (pe_lst (pa_cons pe_int (pa_cons pe_int (pa_cons pe_int (pa_cons pe_int pa_nil))))) (pe_call (ok_law_next T) (hr.mono (by decide)) rfl T.m_law_next T.F_law_next.kp (bd_law_next T) .nil passL (pa_cons (pv 0) (pa_cons pe_int pa_nil))) (fun _ _ => rfl)) pa_nil)))))
theorem bd_law_bound (T : Txt K mg) : Binds K (fdK K ("_law_bound", none)) P_law_bound [] := T.F_law_bound.bindsN fun _ _ _ _ _ _ us hl => match us, hl with | [_, _, _], _ => rfl
set_option maxHeartbeats 4000000 in
theorem ok_law_bound (T : Txt K mg) : FnOk P w K mg base (L2.CX P w) 3 (fA K "_law_bound") (fdK K ("_law_bound", none)) P_law_bound (FS K (sp_law_bound K)) := by
  refine T.F_law_bound.ok sc_law_bound (fun vs H Q E h => fs_len h sp_len_law_bound) (fun cdv A outer s H vs Q E hr h => ⟨t_law_bound K (fun c d _ H' => E c d H'), ?_, fs_run h (w_law_bound  _)⟩)
  unfold t_law_bound tSeqI
  exact (pss_cons (ps_if (pt_cmpR (op_eqD hr.units) (pe_call (ok_law_next T) (hr.mono (by decide)) rfl T.m_law_next T.F_law_next.kp (bd_law_next T) .nil passL (pa_cons (pv 0) (pa_cons pe_int pa_nil))) pe_int (nomark _)) (pss_one (ps_ret pe_non)) pss_nil)
      (pss_cons (ps_set (i := 3) sc_law_bound.nd rfl (Or.inl rfl) (pe_call (ok_law_gap T) (hr.mono (by decide)) rfl T.m_law_gap T.F_law_gap.kp (bd_law_gap T) .nil passL (pa_cons (pv 0) pa_nil)))
      (pss_cons (ps_set (i := 4) sc_law_bound.nd rfl (Or.inl rfl) (pe_ix ix_seq (pe_lst (pa_cons (pe_tup (pa_cons pe_int (pa_cons pe_int pa_nil))) (pa_cons (pe_tup (pa_cons pe_int (pa_cons pe_int pa_nil))) (pa_cons (pe_call (ok_law_speed T) (hr.mono (by decide)) rfl T.m_law_speed T.F_law_speed.kp (bd_law_speed T) .nil passL (pa_cons (pv 0) pa_nil)) pa_nil)))) (pe_call (ok_law_next T) (hr.mono (by decide)) rfl T.m_law_next T.F_law_next.kp (bd_law_next T) .nil passL (pa_cons (pv 0) (pa_cons pe_int pa_nil))) (fun _ _ => rfl)))
      (pss_cons (ps_if (PW.pt (pw_and (pt_cmpR (op_eqD hr.units) (pv 3) (pe_tup (pa_cons pe_int (pa_cons pe_int pa_nil))) (nomark _)) (pw_and1 (pt_val (pe_call (ok_law_below T) (hr.mono (by decide)) rfl T.m_law_below T.F_law_below.kp (bd_law_below T) .nil passL (pa_cons (pe_call (ok_law_by T) (hr.mono (by decide)) rfl T.m_law_by T.F_law_by.kp (bd_law_by T) .nil passL (pa_cons (pe_tup (pa_cons (pv 2) (pa_cons pe_int pa_nil))) (pa_cons (pv 4) pa_nil))) (pa_cons (pe_call (ok_law_by T) (hr.mono (by decide)) rfl T.m_law_by T.F_law_by.kp (bd_law_by T) .nil passL (pa_cons (pe_tup (pa_cons (pv 2) (pa_cons pe_int pa_nil))) (pa_cons (pe_ix ix_seq (pv 1) pe_int (fun _ _ => rfl)) pa_nil))) pa_nil))))))) (pss_one (ps_set (i := 4) sc_law_bound.nd rfl (Or.inl rfl) (pe_ix ix_seq (pv 1) pe_int (fun _ _ => rfl)))) pss_nil)
      (pss_one (ps_ret (pe_tup (pa_cons (pe_call (ok_law_add T) (hr.mono (by decide)) rfl T.m_law_add T.F_law_add.kp (bd_law_add T) .nil passL (pa_cons (pe_ix ix_seq (pv 1) pe_int (fun _ _ => rfl)) (pa_cons (pe_call (ok_law_by T) (hr.mono (by decide)) rfl T.m_law_by T.F_law_by.kp (bd_law_by T) .nil passL (pa_cons (pe_tup (pa_cons (pv 2) (pa_cons pe_int pa_nil))) (pa_cons (pv 3) pa_nil))) pa_nil))) (pa_cons (pv 4) pa_nil)))))))))
theorem bd_law_box (T : Txt K mg) : Binds K (fdK K ("_law_box", none)) P_law_box [] := T.F_law_box.bindsN fun _ _ _ _ _ _ us hl => match us, hl with | [_, _], _ => rfl
set_option maxHeartbeats 4000000 in
theorem ok_law_box (T : Txt K mg) : FnOk P w K mg base (L2.CX P w) 4 (fA K "_law_box") (fdK K ("_law_box", none)) P_law_box (FS K (sp_law_box K)) := by
  refine T.F_law_box.ok sc_law_box (fun vs H Q E h => fs_len h sp_len_law_box) (fun cdv A outer s H vs Q E hr h => ⟨t_law_box K (fun c d _ H' => E c d H'), ?_, fs_run h (w_law_box  _)⟩)
  exact (pss_cons (ps_set (i := 2) sc_law_box.nd rfl (Or.inl rfl) (pe_call (ok_law_bound T) (hr.mono (by decide)) rfl T.m_law_bound T.F_law_bound.kp (bd_law_bound T) .nil passL (pa_cons (pv 0) (pa_cons (pe_ix ix_seq (pv 1) pe_int (fun _ _ => rfl)) (pa_cons (pe_un un_neg' pe_int) pa_nil)))))
      (pss_cons (ps_set (i := 3) sc_law_box.nd rfl (Or.inl rfl) (pe_call (ok_law_bound T) (hr.mono (by decide)) rfl T.m_law_bound T.F_law_bound.kp (bd_law_bound T) .nil passL (pa_cons (pv 0) (pa_cons (pe_ix ix_seq (pv 1) (pe_un un_neg' pe_int) (fun _ _ => rfl)) (pa_cons pe_int pa_nil)))))
      (pss_cons (ps_if (PW.pt (pw_and (pt_cmpR op_notN' (pv 2) pe_non (nomark _)) (pw_and (pt_cmpR op_notN' (pv 3) pe_non (nomark _)) (pw_and1 (pt_cmpR (op_eqD hr.units) (pe_ix ix_seq (pv 2) pe_int (fun _ _ => rfl)) (pe_ix ix_seq (pv 3) pe_int (fun _ _ => rfl)) (nomark _)))))) (pss_one (ps_set (i := 3) sc_law_box.nd rfl (Or.inl rfl) (pe_tup (pa_cons (pe_call (ok_law_add T) (hr.mono (by decide)) rfl T.m_law_add T.F_law_add.kp (bd_law_add T) .nil passL (pa_cons (pe_ix ix_seq (pv 3) pe_int (fun _ _ => rfl)) (pa_cons (pe_tup (pa_cons pe_int (pa_cons pe_int pa_nil))) pa_nil))) (pa_cons (pe_ix ix_seq (pv 3) pe_int (fun _ _ => rfl)) pa_nil))))) pss_nil)
      (pss_one (ps_ret (pe_tup (pa_cons (pv 2) (pa_cons (pv 3) pa_nil))))))))
theorem bd_law_bundle (T : Txt K mg) : Binds K (fdK K ("_law_bundle", none)) P_law_bundle [] := T.F_law_bundle.bindsN fun _ _ _ _ _ _ us hl => match us, hl with | [_, _, _, _, _], _ => rfl
set_option maxHeartbeats 4000000 in
theorem ok_law_bundle (T : Txt K mg) : FnOk P w K mg base (L2.CX P w) 3 (fA K "_law_bundle") (fdK K ("_law_bundle", none)) P_law_bundle (FS K (sp_law_bundle K)) := by
  refine T.F_law_bundle.ok sc_law_bundle (fun vs H Q E h => fs_len h sp_len_law_bundle) (fun cdv A outer s H vs Q E hr h => ⟨t_law_bundle K (fun c d _ H' => E c d H'), ?_, fs_run h (w_law_bundle  _)⟩)
  exact (pss_cons (ps_set (i := 5) sc_law_bundle.nd rfl (Or.inl rfl) (pe_callTy call_int' rfl T.z_int (by decide +kernel) (pa_cons (pe_and (pe_cmpR op_gt' (pv 1) pe_int (nomark _)) (pe_one (pe_cmpR (op_eqD hr.units) (pe_call (ok_law_next T) (hr.mono (by decide)) rfl T.m_law_next T.F_law_next.kp (bd_law_next T) .nil passL (pa_cons (pv 0) (pa_cons pe_int pa_nil))) pe_int (nomark _)))) pa_nil)))
      (pss_cons (ps_set (i := 6) sc_law_bundle.nd rfl (Or.inl rfl) (pe_op op_sub' (pe_ix ix_seq (pe_lst (pa_cons pe_int (pa_cons pe_int (pa_cons pe_int (pa_cons pe_int (pa_cons pe_int (pa_cons pe_int (pa_cons pe_int (pa_cons pe_int pa_nil))))))))) (pe_call (ok_law_next T) (hr.mono (by decide)) rfl T.m_law_next T.F_law_next.kp (bd_law_next T) .nil passL (pa_cons (pv 0) (pa_cons pe_int pa_nil))) (fun _ _ => rfl)) (pv 5)))
      (pss_cons (ps_set (i := 7) sc_law_bundle.nd rfl (Or.inr rfl) (pe_ix ix_seq (pe_lst (pa_cons (pe_tup (pa_cons pe_int (pa_cons pe_int pa_nil))) (pa_cons (pe_tup (pa_cons pe_int (pa_cons pe_int pa_nil))) (pa_cons (pe_call (ok_law_speed T) (hr.mono (by decide)) rfl T.m_law_speed T.F_law_speed.kp (bd_law_speed T) .nil passL (pa_cons (pv 0) pa_nil)) pa_nil)))) (pe_call (ok_law_next T) (hr.mono (by decide)) rfl T.m_law_next T.F_law_next.kp (bd_law_next T) .nil passL (pa_cons (pv 0) (pa_cons pe_int pa_nil))) (fun _ _ => rfl)))
      (pss_cons (ps_set (i := 8) sc_law_bundle.nd rfl (Or.inl rfl) (pe_lst (pa_cons (pe_call (ok_law_add T) (hr.mono (by decide)) rfl T.m_law_add T.F_law_add.kp (bd_law_add T) .nil passL (pa_cons (pv 7) (pa_cons (pe_call (ok_law_low T) (hr.mono (by decide)) rfl T.m_law_low T.F_law_low.kp (bd_law_low T) .nil passL (pa_cons (pe_op op_addX pe_int (pe_call (ok_law_next T) (hr.mono (by decide)) rfl T.m_law_next T.F_law_next.kp (bd_law_next T) .nil passL (pa_cons (pv 0) (pa_cons pe_int pa_nil)))) (pa_cons (pe_op op_addX pe_int (pe_call (ok_law_next T) (hr.mono (by decide)) rfl T.m_law_next T.F_law_next.kp (bd_law_next T) .nil passL (pa_cons (pv 0) (pa_cons pe_int pa_nil)))) pa_nil))) pa_nil))) pa_nil)))
      (pss_cons (ps_for (passes_of rfl) rfl (pi_range1 rfl T.z_range (pa_cons (pe_op op_sub' (pv 6) pe_int) pa_nil)) (pg_name (i := 9) sc_law_bundle.nd rfl (Or.inl rfl)) (pss_one (ps_expr (pe_bm PySem.F.plainAttrs_list PySem.F.slot_list_insert PySem.F.type_list_insert mt_insertS (pv 8) (pa_cons pe_int (pa_cons (pe_call (ok_law_add T) (hr.mono (by decide)) rfl T.m_law_add T.F_law_add.kp (bd_law_add T) .nil passL (pa_cons (pe_ix ix_seq (pv 8) pe_int (fun _ _ => rfl)) (pa_cons (pe_call (ok_law_low T) (hr.mono (by decide)) rfl T.m_law_low T.F_law_low.kp (bd_law_low T) .nil passL (pa_cons (pe_op op_addX pe_int (pe_call (ok_law_next T) (hr.mono (by decide)) rfl T.m_law_next T.F_law_next.kp (bd_law_next T) .nil passL (pa_cons (pv 0) (pa_cons pe_int pa_nil)))) (pa_cons (pe_op op_addX pe_int (pe_call (ok_law_next T) (hr.mono (by decide)) rfl T.m_law_next T.F_law_next.kp (bd_law_next T) .nil passL (pa_cons (pv 0) (pa_cons pe_int pa_nil)))) pa_nil))) pa_nil))) pa_nil))))))
      (pss_cons (ps_if (pt_cmpR (op_eqD hr.units) (pv 1) pe_int (nomark _)) (pss_one (ps_setLc (i := 8) (own := [("speed", 12)]) (g := (gName 12)) (tt := tYes) rfl sc_law_bundle.nd rfl rfl (sw_true rfl rfl rfl rfl) (pi_seq (pe_rev (pv 8))) (blkOk_by (N := N_law_bundle) (sc := defScope s_law_bundle) (by decide +kernel)) (fun _ _ _ _ _ => (pg_name (i := 12) sc_law_bundle.nd rfl (Or.inl rfl))) (fun _ _ _ _ _ => pts_nil) (fun _ _ _ _ _ => (pe_call (ok_law_off T) (hr.mono (by decide)) rfl T.m_law_off T.F_law_off.kp (bd_law_off T) .nil passL (pa_cons (pe_call (ok_law_add T) (hr.mono (by decide)) rfl T.m_law_add T.F_law_add.kp (bd_law_add T) .nil passL (pa_cons (pv 7) (pa_cons (pv 7) pa_nil))) (pa_cons (pv 12) pa_nil)))))) pss_nil)
      (pss_cons (ps_if (PW.pt (pw_and (pt_cmpR (op_eqD hr.units) (pv 5) pe_int (nomark _)) (pw_and1 (pt_cmpR (op_eqD hr.units) (pv 1) pe_int (nomark _))))) (pss_one (ps_expr (pe_bm PySem.F.plainAttrs_list PySem.F.slot_list_insert PySem.F.type_list_insert mt_insertS (pv 8) (pa_cons pe_int (pa_cons (pv 7) pa_nil))))) pss_nil)
      (pss_cons (ps_if (PW.pt (pw_and (pt_cmpR (op_eqD hr.units) (pv 5) pe_int (nomark _)) (pw_and1 (pt_cmpR (op_eqD hr.units) (pv 1) pe_int (nomark _))))) (pss_one (ps_expr (pe_bm PySem.F.plainAttrs_list PySem.F.slot_list_append PySem.F.type_list_append mt_append (pv 8) (pa_cons (pv 7) pa_nil)))) pss_nil)
      (pss_cons (ps_setLc (i := 10) (own := [("speed", 12)]) (g := (gName 12)) (tt := tYes) rfl sc_law_bundle.nd rfl rfl (sw_true rfl rfl rfl rfl) (pi_seq (pv 8)) (blkOk_by (N := N_law_bundle) (sc := defScope s_law_bundle) (by decide +kernel)) (fun _ _ _ _ _ => (pg_name (i := 12) sc_law_bundle.nd rfl (Or.inl rfl))) (fun _ _ _ _ _ => pts_nil) (fun _ _ _ _ _ => (pe_op op_addX pe_int (pe_call (ok_law_next T) (hr.mono (by decide)) rfl T.m_law_next T.F_law_next.kp (bd_law_next T) .nil passL (pa_cons (pv 0) (pa_cons pe_int pa_nil))))))
      (pss_cons (ps_if (pt_val (pv 4)) (pss_one (ps_set (i := 10) sc_law_bundle.nd rfl (Or.inl rfl) (pe_op op_rep (pe_lst (pa_cons (pe_ix ix_seq (pv 10) pe_int (fun _ _ => rfl)) pa_nil)) (pe_callB call_len' rfl T.z_len (by decide +kernel) (pa_cons (pv 10) pa_nil))))) pss_nil)
      (pss_cons (ps_set (i := 11) sc_law_bundle.nd rfl (Or.inl rfl) (pe_lst pa_nil))
      (pss_cons (ps_for (passes_of rfl) rfl (pi_enum rfl T.z_enumerate (pa_cons (pv 8) pa_nil)) (pg_tup rfl (pgs_cons (pg_name (i := 9) sc_law_bundle.nd rfl (Or.inl rfl)) (pgs_cons (pg_name (i := 12) sc_law_bundle.nd rfl (Or.inl rfl)) pgs_nil))) (pss_one (ps_expr (pe_bm PySem.F.plainAttrs_list PySem.F.slot_list_append PySem.F.type_list_append mt_append (pv 11) (pa_cons (pe_tup (pa_cons (pe_call (ok_law_off T) (hr.mono (by decide)) rfl T.m_law_off T.F_law_off.kp (bd_law_off T) .nil passL (pa_cons (pv 2) (pa_cons (pe_call (ok_law_by T) (hr.mono (by decide)) rfl T.m_law_by T.F_law_by.kp (bd_law_by T) .nil passL (pa_cons (pv 12) (pa_cons (pv 3) pa_nil))) pa_nil))) (pa_cons (pv 12) (pa_cons (pe_ix ix_seq (pv 10) (pv 9) (fun _ _ => rfl)) pa_nil)))) pa_nil)))))
      (pss_one (ps_ret (pe_tup (pa_cons (pe_callTy call_tup' rfl T.z_tuple (by decide +kernel) (pa_cons (pv 11) pa_nil)) (pa_cons (pe_tup (pa_cons (pe_call (ok_law_off T) (hr.mono (by decide)) rfl T.m_law_off T.F_law_off.kp (bd_law_off T) .nil passL (pa_cons (pv 2) (pa_cons (pe_call (ok_law_by T) (hr.mono (by decide)) rfl T.m_law_by T.F_law_by.kp (bd_law_by T) .nil passL (pa_cons (pv 7) (pa_cons (pv 3) pa_nil))) pa_nil))) (pa_cons (pv 7) pa_nil))) pa_nil)))))))))))))))))
theorem bd_law_wide (T : Txt K mg) : Binds K (fdK K ("_law_wide", none)) P_law_wide [] := T.F_law_wide.bindsN fun _ _ _ _ _ _ us hl => match us, hl with | [_, _], _ => rfl
set_option maxHeartbeats 4000000 in
theorem ok_law_wide (T : Txt K mg) : FnOk P w K mg base (L2.CX P w) 2 (fA K "_law_wide") (fdK K ("_law_wide", none)) P_law_wide (FS K (sp_law_wide K)) := by
  refine T.F_law_wide.ok sc_law_wide (fun vs H Q E h => fs_len h sp_len_law_wide) (fun cdv A outer s H vs Q E hr h => ⟨t_law_wide K (fun c d _ H' => E c d H'), ?_, fs_run h (w_law_wide  _)⟩)
  exact (pss_cons (ps_if (pt_cmpR op_lt' (pv 1) (pe_op op_pow' pe_int pe_int) (nomark _)) (pss_one (ps_ret (pe_call (ok_law_next T) (hr.mono (by decide)) rfl T.m_law_next T.F_law_next.kp (bd_law_next T) .nil passL (pa_cons (pv 0) (pa_cons (pv 1) pa_nil))))) pss_nil)
      (pss_cons (ps_set (i := 2) sc_law_wide.nd rfl (Or.inl rfl) pe_int)
      (pss_cons (ps_for (passes_of rfl) rfl (pi_range1 rfl T.z_range (pa_cons pe_int pa_nil)) (pg_name (i := 3) sc_law_wide.nd rfl (Or.inl rfl)) (pss_one (ps_set (i := 2) sc_law_wide.nd rfl (Or.inl rfl) (pe_op op_addX (pe_op op_mul' (pv 2) (pe_op op_pow' pe_int pe_int)) (pe_call (ok_law_next T) (hr.mono (by decide)) rfl T.m_law_next T.F_law_next.kp (bd_law_next T) .nil passL (pa_cons (pv 0) (pa_cons (pe_op op_pow' pe_int pe_int) pa_nil)))))))
      (pss_one (ps_ret (pe_op op_mod' (pv 2) (pv 1)))))))
theorem bd_law_ratio (T : Txt K mg) : Binds K (fdK K ("_law_ratio", none)) P_law_ratio [] := T.F_law_ratio.bindsN fun _ _ _ _ _ _ us hl => match us, hl with | [_, _], _ => rfl
set_option maxHeartbeats 4000000 in
theorem ok_law_ratio (T : Txt K mg) : FnOk P w K mg base (L2.CX P w) 3 (fA K "_law_ratio") (fdK K ("_law_ratio", none)) P_law_ratio (FS K (sp_law_ratio K)) := by
  refine T.F_law_ratio.ok sc_law_ratio (fun vs H Q E h => fs_len h sp_len_law_ratio) (fun cdv A outer s H vs Q E hr h => ⟨t_law_ratio K (fun c d _ H' => E c d H'), ?_, fs_run h (w_law_ratio  _)⟩)
  exact (pss_cons (ps_set (i := 2) sc_law_ratio.nd rfl (Or.inl rfl) (pe_ix ix_seq (pe_lst (pa_cons pe_int (pa_cons pe_int (pa_cons pe_int (pa_cons pe_int (pa_cons pe_int (pa_cons pe_int (pa_cons pe_int (pa_cons (pe_op op_pow' pe_int pe_int) pa_nil))))))))) (pe_call (ok_law_next T) (hr.mono (by decide)) rfl T.m_law_next T.F_law_next.kp (bd_law_next T) .nil passL (pa_cons (pv 0) (pa_cons pe_int pa_nil))) (fun _ _ => rfl)))
      (pss_cons (ps_if (pt_cmpR (op_eqD hr.units) (pe_call (ok_law_next T) (hr.mono (by decide)) rfl T.m_law_next T.F_law_next.kp (bd_law_next T) .nil passL (pa_cons (pv 0) (pa_cons pe_int pa_nil))) pe_int (nomark _)) (pss_one (ps_ret (pe_call (ok_law_low T) (hr.mono (by decide)) rfl T.m_law_low T.F_law_low.kp (bd_law_low T) .nil passL (pa_cons (pe_op op_sub' (pe_call (ok_law_wide T) (hr.mono (by decide)) rfl T.m_law_wide T.F_law_wide.kp (bd_law_wide T) .nil passL (pa_cons (pv 0) (pa_cons (pe_op op_addX (pe_op op_mul' pe_int (pe_op op_pow' pe_int pe_int)) pe_int) pa_nil))) (pe_op op_pow' pe_int pe_int)) (pa_cons (pv 2) pa_nil))))) pss_nil)
      (pss_one (ps_ret (pe_call (ok_law_low T) (hr.mono (by decide)) rfl T.m_law_low T.F_law_low.kp (bd_law_low T) .nil passL (pa_cons (pe_op op_sub' (pe_call (ok_law_next T) (hr.mono (by decide)) rfl T.m_law_next T.F_law_next.kp (bd_law_next T) .nil passL (pa_cons (pv 0) (pa_cons (pe_op op_addX (pe_op op_mul' pe_int (pv 1)) pe_int) pa_nil))) (pv 1)) (pa_cons (pv 2) pa_nil)))))))
theorem bd_law_focused (T : Txt K mg) : Binds K (fdK K ("_law_focused", none)) P_law_focused [] := T.F_law_focused.bindsN fun _ _ _ _ _ _ us hl => match us, hl with | [_, _], _ => rfl
set_option maxHeartbeats 4000000 in
theorem ok_law_focused (T : Txt K mg) : FnOk P w K mg base (L2.CX P w) 4 (fA K "_law_focused") (fdK K ("_law_focused", none)) P_law_focused (FS K (sp_law_focused K)) := by
  refine T.F_law_focused.ok sc_law_focused (fun vs H Q E h => fs_len h sp_len_law_focused) (fun cdv A outer s H vs Q E hr h => ⟨t_law_focused K (fun c d _ H' => E c d H'), ?_, fs_run h (w_law_focused  _)⟩)
  exact (pss_cons (ps_set (i := 2) sc_law_focused.nd rfl (Or.inl rfl) (pe_call (ok_law_low T) (hr.mono (by decide)) rfl T.m_law_low T.F_law_low.kp (bd_law_low T) .nil passL (pa_cons (pe_op op_addX pe_int (pe_call (ok_law_next T) (hr.mono (by decide)) rfl T.m_law_next T.F_law_next.kp (bd_law_next T) .nil passL (pa_cons (pv 0) (pa_cons pe_int pa_nil)))) (pa_cons (pe_ix ix_seq (pe_lst (pa_cons pe_int (pa_cons pe_int (pa_cons pe_int pa_nil)))) (pe_call (ok_law_next T) (hr.mono (by decide)) rfl T.m_law_next T.F_law_next.kp (bd_law_next T) .nil passL (pa_cons (pv 0) (pa_cons pe_int pa_nil))) (fun _ _ => rfl)) pa_nil))))
      (pss_cons (ps_set (i := 3) sc_law_focused.nd rfl (Or.inl rfl) (pe_call (ok_law_next T) (hr.mono (by decide)) rfl T.m_law_next T.F_law_next.kp (bd_law_next T) .nil passL (pa_cons (pv 0) (pa_cons pe_int pa_nil))))
      (pss_cons (ps_asg (pe_call (ok_law_bundle T) (hr.mono (by decide)) rfl T.m_law_bundle T.F_law_bundle.kp (bd_law_bundle T) .nil passL (pa_cons (pv 0) (pa_cons (pv 3) (pa_cons (pe_call (ok_law_ratio T) (hr.mono (by decide)) rfl T.m_law_ratio T.F_law_ratio.kp (bd_law_ratio T) .nil passL (pa_cons (pv 0) (pa_cons pe_int pa_nil))) (pa_cons (pv 2) (pa_cons (pv 1) pa_nil)))))) (pg_tup rfl (pgs_cons (pg_name (i := 4) sc_law_focused.nd rfl (Or.inl rfl)) (pgs_cons (pg_name (i := 5) sc_law_focused.nd rfl (Or.inl rfl)) pgs_nil))))
      (pss_cons (ps_set (i := 6) sc_law_focused.nd rfl (Or.inl rfl) (pe_lst (pa_cons pe_non (pa_cons pe_non pa_nil))))
      (pss_cons (ps_if (pt_cmpR op_gt' (pv 3) pe_int (nomark _)) (pss_one (ps_asg (pv 5) (pg_sub (pv 6) (pe_op op_sub' (pv 3) pe_int) set_list))) pss_nil)
      (pss_one (ps_ret (pe_tup (pa_cons (pv 4) (pa_cons (pe_callTy call_tup' rfl T.z_tuple (by decide +kernel) (pa_cons (pv 6) pa_nil)) pa_nil))))))))))
theorem bd_law_weights (T : Txt K mg) : Binds K (fdK K ("_law_weights", none)) P_law_weights [] := T.F_law_weights.bindsN fun _ _ _ _ _ _ us hl => match us, hl with | [_, _], _ => rfl
set_option maxHeartbeats 4000000 in
theorem ok_law_weights (T : Txt K mg) : FnOk P w K mg base (L2.CX P w) 2 (fA K "_law_weights") (fdK K ("_law_weights", none)) P_law_weights (FS K (sp_law_weights K)) := by
  refine T.F_law_weights.ok sc_law_weights (fun vs H Q E h => fs_len h sp_len_law_weights) (fun cdv A outer s H vs Q E hr h => ⟨t_law_weights K (fun c d _ H' => E c d H'), ?_, fs_run h (w_law_weights  _)⟩)
  exact (pss_cons (ps_set (i := 2) sc_law_weights.nd rfl (Or.inr rfl) (pe_call (ok_law_next T) (hr.mono (by decide)) rfl T.m_law_next T.F_law_next.kp (bd_law_next T) .nil passL (pa_cons (pv 0) (pa_cons pe_int pa_nil))))
      (pss_cons (ps_if (pt_cmpR (op_eqD hr.units) (pv 2) pe_int (nomark _)) (pss_one (ps_ret (pe_op op_rep (pe_lst (pa_cons (pe_ix ix_seq (pe_lst (pa_cons pe_int (pa_cons pe_int (pa_cons pe_int pa_nil)))) (pe_call (ok_law_next T) (hr.mono (by decide)) rfl T.m_law_next T.F_law_next.kp (bd_law_next T) .nil passL (pa_cons (pv 0) (pa_cons pe_int pa_nil))) (fun _ _ => rfl)) pa_nil)) (pv 1)))) pss_nil)
      (pss_one (ps_ret (pe_lc (own := [("k", 3)]) (g := (gName 3)) (tt := tYes) rfl sc_law_weights.nd (pi_range1 rfl T.z_range (pa_cons (pv 1) pa_nil)) (blkOk_by (N := N_law_weights) (sc := defScope s_law_weights) (by decide +kernel)) (fun _ _ _ _ _ => (pg_name (i := 3) sc_law_weights.nd rfl (Or.inl rfl))) (fun _ _ _ _ _ => pts_nil) (fun _ _ _ _ _ => (pe_op op_addX pe_int (pe_call (ok_law_next T) (hr.mono (by decide)) rfl T.m_law_next T.F_law_next.kp (bd_law_next T) .nil passL (pa_cons (pv 0) (pa_cons (pe_ix ix_seq (pe_lst (pa_cons pe_int (pa_cons pe_int pa_nil))) (pe_op op_sub' (pv 2) pe_int) (fun _ _ => rfl)) pa_nil))))))))))
theorem bd_law_row (T : Txt K mg) : Binds K (fdK K ("_law_row", none)) P_law_row [] := T.F_law_row.bindsN fun _ _ _ _ _ _ us hl => match us, hl with | [_, _], _ => rfl
set_option maxHeartbeats 4000000 in
theorem ok_law_row (T : Txt K mg) : FnOk P w K mg base (L2.CX P w) 4 (fA K "_law_row") (fdK K ("_law_row", none)) P_law_row (FS K (sp_law_row K)) := by
  refine T.F_law_row.ok sc_law_row (fun vs H Q E h => fs_len h sp_len_law_row) (fun cdv A outer s H vs Q E hr h => ⟨t_law_row K (fun c d _ H' => E c d H'), ?_, fs_run h (w_law_row  _)⟩)
  exact (pss_cons (ps_set (i := 2) sc_law_row.nd rfl (Or.inl rfl) (pe_op op_addX pe_int (pe_call (ok_law_next T) (hr.mono (by decide)) rfl T.m_law_next T.F_law_next.kp (bd_law_next T) .nil passL (pa_cons (pv 0) (pa_cons (pv 1) pa_nil)))))
      (pss_cons (ps_set (i := 3) sc_law_row.nd rfl (Or.inl rfl) (pe_call (ok_law_weights T) (hr.mono (by decide)) rfl T.m_law_weights T.F_law_weights.kp (bd_law_weights T) .nil passL (pa_cons (pv 0) (pa_cons (pv 2) pa_nil))))
      (pss_cons (ps_set (i := 4) sc_law_row.nd rfl (Or.inl rfl) (pe_call (ok_law_ratio T) (hr.mono (by decide)) rfl T.m_law_ratio T.F_law_ratio.kp (bd_law_ratio T) .nil passL (pa_cons (pv 0) (pa_cons pe_int pa_nil))))
      (pss_cons (ps_set (i := 5) sc_law_row.nd rfl (Or.inl rfl) (pe_lst pa_nil))
      (pss_cons (ps_for (passes_of rfl) rfl (pi_range1 rfl T.z_range (pa_cons (pv 2) pa_nil)) (pg_name (i := 6) sc_law_row.nd rfl (Or.inl rfl)) (pss_cons (ps_set (i := 7) sc_law_row.nd rfl (Or.inl rfl) (pe_call (ok_law_speed T) (hr.mono (by decide)) rfl T.m_law_speed T.F_law_speed.kp (bd_law_speed T) .nil passL (pa_cons (pv 0) pa_nil)))
      (pss_cons (ps_if (pt_cmpR op_gt' (pv 6) pe_int (nomark _)) (pss_cons (ps_set (i := 8) sc_law_row.nd rfl (Or.inl rfl) (pe_call (ok_law_gap T) (hr.mono (by decide)) rfl T.m_law_gap T.F_law_gap.kp (bd_law_gap T) .nil passL (pa_cons (pv 0) pa_nil)))
      (pss_cons (ps_set (i := 4) sc_law_row.nd rfl (Or.inl rfl) (pe_call (ok_law_add T) (hr.mono (by decide)) rfl T.m_law_add T.F_law_add.kp (bd_law_add T) .nil passL (pa_cons (pv 4) (pa_cons (pv 8) pa_nil))))
      (pss_cons (ps_if (pt_cmpR (op_eqD hr.units) (pe_call (ok_law_next T) (hr.mono (by decide)) rfl T.m_law_next T.F_law_next.kp (bd_law_next T) .nil passL (pa_cons (pv 0) (pa_cons pe_int pa_nil))) pe_int (nomark _)) (pss_one (ps_set (i := 7) sc_law_row.nd rfl (Or.inl rfl) (pe_ix ix_seq (pe_ix ix_seq (pv 5) (pe_un un_neg' pe_int) (fun _ _ => rfl)) pe_int (fun _ _ => rfl)))) pss_nil)
      (pss_one (ps_if (PW.pt (pw_and (pt_cmpR (op_eqD hr.units) (pv 8) (pe_tup (pa_cons pe_int (pa_cons pe_int pa_nil))) (nomark _)) (pw_and1 (pt_not (pt_val (pe_call (ok_law_below T) (hr.mono (by decide)) rfl T.m_law_below T.F_law_below.kp (bd_law_below T) .nil passL (pa_cons (pe_ix ix_seq (pe_ix ix_seq (pv 5) (pe_un un_neg' pe_int) (fun _ _ => rfl)) pe_int (fun _ _ => rfl)) (pa_cons (pv 7) pa_nil)))))))) (pss_one (ps_set (i := 7) sc_law_row.nd rfl (Or.inl rfl) (pe_call (ok_law_add T) (hr.mono (by decide)) rfl T.m_law_add T.F_law_add.kp (bd_law_add T) .nil passL (pa_cons (pe_ix ix_seq (pe_ix ix_seq (pv 5) (pe_un un_neg' pe_int) (fun _ _ => rfl)) pe_int (fun _ _ => rfl)) (pa_cons (pe_tup (pa_cons (pe_op op_addX pe_int (pe_call (ok_law_next T) (hr.mono (by decide)) rfl T.m_law_next T.F_law_next.kp (bd_law_next T) .nil passL (pa_cons (pv 0) (pa_cons pe_int pa_nil)))) (pa_cons pe_int pa_nil))) pa_nil))))) pss_nil))))) pss_nil)
      (pss_one (ps_expr (pe_bm PySem.F.plainAttrs_list PySem.F.slot_list_append PySem.F.type_list_append mt_append (pv 5) (pa_cons (pe_tup (pa_cons (pv 4) (pa_cons (pv 7) (pa_cons (pe_ix ix_seq (pv 3) (pv 6) (fun _ _ => rfl)) pa_nil)))) pa_nil)))))))
      (pss_one (ps_ret (pe_callTy call_tup' rfl T.z_tuple (by decide +kernel) (pa_cons (pv 5) pa_nil)))))))))
theorem bd_law_start (T : Txt K mg) : Binds K (fdK K ("_law_start", none)) P_law_start [] := T.F_law_start.bindsN fun _ _ _ _ _ _ us hl => match us, hl with | [_], _ => rfl
set_option maxHeartbeats 4000000 in
theorem ok_law_start (T : Txt K mg) : FnOk P w K mg base (L2.CX P w) 5 (fA K "_law_start") (fdK K ("_law_start", none)) P_law_start (FS K (sp_law_start K)) := by
  refine T.F_law_start.ok sc_law_start (fun vs H Q E h => fs_len h sp_len_law_start) (fun cdv A outer s H vs Q E hr h => ⟨t_law_start K (fun c d _ H' => E c d H'), ?_, fs_run h (w_law_start  _)⟩)
  unfold t_law_start tSeqI
  exact (pss_cons (ps_if (pt_cmpR (op_eqD hr.units) (pe_call (ok_law_next T) (hr.mono (by decide)) rfl T.m_law_next T.F_law_next.kp (bd_law_next T) .nil passL (pa_cons (pv 0) (pa_cons pe_int pa_nil))) pe_int (nomark _)) (pss_one (ps_ret (pe_call (ok_law_focused T) (hr.mono (by decide)) rfl T.m_law_focused T.F_law_focused.kp (bd_law_focused T) .nil passL (pa_cons (pv 0) (pa_cons (pe_cmpR op_gt' (pe_call (ok_law_next T) (hr.mono (by decide)) rfl T.m_law_next T.F_law_next.kp (bd_law_next T) .nil passL (pa_cons (pv 0) (pa_cons pe_int pa_nil))) pe_int (nomark _)) pa_nil))))) pss_nil)
      (pss_cons (ps_set (i := 1) sc_law_start.nd rfl (Or.inl rfl) (pe_call (ok_law_row T) (hr.mono (by decide)) rfl T.m_law_row T.F_law_row.kp (bd_law_row T) .nil passL (pa_cons (pv 0) (pa_cons (pe_ix ix_seq (pe_lst (pa_cons pe_int (pa_cons pe_int (pa_cons pe_int (pa_cons pe_int pa_nil))))) (pe_call (ok_law_next T) (hr.mono (by decide)) rfl T.m_law_next T.F_law_next.kp (bd_law_next T) .nil passL (pa_cons (pv 0) (pa_cons pe_int pa_nil))) (fun _ _ => rfl)) pa_nil))))
      (pss_cons (ps_set (i := 1) sc_law_start.nd rfl (Or.inl rfl) (pe_callTy call_tup' rfl T.z_tuple (by decide +kernel) (pa_cons (pe_lc (own := [("ball", 2)]) (g := (gName 2)) (tt := tYes) rfl sc_law_start.nd (pi_seq (pv 1)) (blkOk_by (N := N_law_start) (sc := defScope s_law_start) (by decide +kernel)) (fun _ _ _ _ _ => (pg_name (i := 2) sc_law_start.nd rfl (Or.inl rfl))) (fun _ _ _ _ _ => pts_nil) (fun _ _ _ _ _ => (pe_op op_addX (pe_slice sl_seq (pv 2) po_none (po_some pe_int)) (pe_tup (pa_cons (pe_op op_addX pe_int (pe_op op_mod' (pe_ix ix_seq (pv 2) pe_int (fun _ _ => rfl)) pe_int)) pa_nil))))) pa_nil)))
      (pss_cons (ps_if (pt_cmpR op_gt' (pe_callB call_len' rfl T.z_len (by decide +kernel) (pa_cons (pv 1) pa_nil)) pe_int (nomark _)) (pss_one (ps_set (i := 1) sc_law_start.nd rfl (Or.inl rfl) (pe_callTy call_tup' rfl T.z_tuple (by decide +kernel) (pa_cons (pe_lc (own := [("ball", 2)]) (g := (gName 2)) (tt := tYes) rfl sc_law_start.nd (pi_seq (pv 1)) (blkOk_by (N := N_law_start) (sc := defScope s_law_start) (by decide +kernel)) (fun _ _ _ _ _ => (pg_name (i := 2) sc_law_start.nd rfl (Or.inl rfl))) (fun _ _ _ _ _ => pts_nil) (fun _ _ _ _ _ => (pe_op op_addX (pe_slice sl_seq (pv 2) po_none (po_some pe_int)) (pe_tup (pa_cons pe_int pa_nil))))) pa_nil)))) pss_nil)
      (pss_one (ps_ret (pe_tup (pa_cons (pv 1) (pa_cons (pe_call (ok_law_box T) (hr.mono (by decide)) rfl T.m_law_box T.F_law_box.kp (bd_law_box T) .nil passL (pa_cons (pv 0) (pa_cons (pv 1) pa_nil))) pa_nil)))))))))
theorem bd_law_thick (T : Txt K mg) : Binds K (fdK K ("_law_thick", none)) P_law_thick [] := T.F_law_thick.bindsN fun _ _ _ _ _ _ us hl => match us, hl with | [_, _, _], _ => rfl
set_option maxHeartbeats 4000000 in
theorem ok_law_thick (T : Txt K mg) : FnOk P w K mg base (L2.CX P w) 3 (fA K "_law_thick") (fdK K ("_law_thick", none)) P_law_thick (FS K (sp_law_thick K)) := by
  refine T.F_law_thick.ok sc_law_thick (fun vs H Q E h => fs_len h sp_len_law_thick) (fun cdv A outer s H vs Q E hr h => ⟨t_law_thick K (fun c d _ H' => E c d H'), ?_, fs_run h (w_law_thick  _)⟩)
  exact (pss_cons (ps_set (i := 3) sc_law_thick.nd rfl (Or.inl rfl) (pe_tup (pa_cons pe_int (pa_cons pe_int pa_nil))))
      (pss_cons (ps_set (i := 4) sc_law_thick.nd rfl (Or.inl rfl) (pe_lst pa_nil))
      (pss_cons (ps_for (passes_of rfl) rfl (pi_zipM rfl T.z_zip (pa_cons (pv 0) (pa_cons (pv 2) pa_nil))) (pg_tup rfl (pgs_cons (pg_name (i := 5) sc_law_thick.nd rfl (Or.inl rfl)) (pgs_cons (pg_name (i := 6) sc_law_thick.nd rfl (Or.inl rfl)) pgs_nil))) (pss_cons (ps_expr (pe_bm PySem.F.plainAttrs_list PySem.F.slot_list_append PySem.F.type_list_append mt_append (pv 4) (pa_cons (pe_op op_addX (pe_op op_addX (pe_tup (pa_cons (pe_call (ok_law_add T) (hr.mono (by decide)) rfl T.m_law_add T.F_law_add.kp (bd_law_add T) .nil passL (pa_cons (pe_ix ix_seq (pv 5) pe_int (fun _ _ => rfl)) (pa_cons (pv 3) pa_nil))) pa_nil)) (pe_slice sl_seq (pv 5) (po_some pe_int) po_none)) (pe_tup (pa_cons (pv 6) pa_nil))) pa_nil)))
      (pss_one (ps_set (i := 3) sc_law_thick.nd rfl (Or.inl rfl) (pe_call (ok_law_add T) (hr.mono (by decide)) rfl T.m_law_add T.F_law_add.kp (bd_law_add T) .nil passL (pa_cons (pv 3) (pa_cons (pv 6) pa_nil)))))))
      (pss_cons (ps_set (i := 7) sc_law_thick.nd rfl (Or.inl rfl) (pe_ix ix_seq (pv 1) pe_int (fun _ _ => rfl)))
      (pss_cons (ps_if (pt_cmpR op_notN' (pv 7) pe_non (nomark _)) (pss_one (ps_set (i := 7) sc_law_thick.nd rfl (Or.inl rfl) (pe_tup (pa_cons (pe_call (ok_law_add T) (hr.mono (by decide)) rfl T.m_law_add T.F_law_add.kp (bd_law_add T) .nil passL (pa_cons (pe_ix ix_seq (pv 7) pe_int (fun _ _ => rfl)) (pa_cons (pv 3) pa_nil))) (pa_cons (pe_ix ix_seq (pv 7) pe_int (fun _ _ => rfl)) pa_nil))))) pss_nil)
      (pss_one (ps_ret (pe_tup (pa_cons (pe_callTy call_tup' rfl T.z_tuple (by decide +kernel) (pa_cons (pv 4) pa_nil)) (pa_cons (pe_tup (pa_cons (pe_ix ix_seq (pv 1) pe_int (fun _ _ => rfl)) (pa_cons (pv 7) pa_nil))) pa_nil))))))))))
theorem bd_law_widths (T : Txt K mg) : Binds K (fdK K ("_law_widths", none)) P_law_widths [] := T.F_law_widths.bindsN fun _ _ _ _ _ _ us hl => match us, hl with | [_, _], _ => rfl
set_option maxHeartbeats 4000000 in
theorem ok_law_widths (T : Txt K mg) : FnOk P w K mg base (L2.CX P w) 2 (fA K "_law_widths") (fdK K ("_law_widths", none)) P_law_widths (FS K (sp_law_widths K)) := by
  refine T.F_law_widths.ok sc_law_widths (fun vs H Q E h => fs_len h sp_len_law_widths) (fun cdv A outer s H vs Q E hr h => ⟨t_law_widths K (fun c d _ H' => E c d H'), ?_, fs_run h (w_law_widths  _)⟩)
  exact (pss_cons (ps_set (i := 2) sc_law_widths.nd rfl (Or.inl rfl) (pe_lst pa_nil))
      (pss_cons (ps_for (passes_of rfl) rfl (pi_range1 rfl T.z_range (pa_cons (pv 1) pa_nil)) (pg_name (i := 3) sc_law_widths.nd rfl (Or.inl rfl)) (pss_cons (ps_set (i := 4) sc_law_widths.nd rfl (Or.inl rfl) (pe_call (ok_law_next T) (hr.mono (by decide)) rfl T.m_law_next T.F_law_next.kp (bd_law_next T) .nil passL (pa_cons (pv 0) (pa_cons (pe_ix ix_seq (pe_lst (pa_cons pe_int (pa_cons pe_int (pa_cons pe_int (pa_cons (pe_op op_pow' pe_int pe_int) pa_nil))))) (pe_call (ok_law_next T) (hr.mono (by decide)) rfl T.m_law_next T.F_law_next.kp (bd_law_next T) .nil passL (pa_cons (pv 0) (pa_cons pe_int pa_nil))) (fun _ _ => rfl)) pa_nil))))
      (pss_one (ps_expr (pe_bm PySem.F.plainAttrs_list PySem.F.slot_list_append PySem.F.type_list_append mt_append (pv 2) (pa_cons (pe_call (ok_law_low T) (hr.mono (by decide)) rfl T.m_law_low T.F_law_low.kp (bd_law_low T) .nil passL (pa_cons (pv 4) (pa_cons (pe_ix ix_seq (pe_lst (pa_cons pe_int (pa_cons pe_int (pa_cons pe_int (pa_cons pe_int pa_nil))))) (pe_call (ok_law_next T) (hr.mono (by decide)) rfl T.m_law_next T.F_law_next.kp (bd_law_next T) .nil passL (pa_cons (pv 0) (pa_cons pe_int pa_nil))) (fun _ _ => rfl)) pa_nil))) pa_nil))))))
      (pss_one (ps_ret (pv 2)))))
theorem bd_are_broad (T : Txt K mg) : Binds K (fdK K ("are_broad", none)) P_are_broad [] := T.F_are_broad.bindsN fun _ _ _ _ _ _ us hl => match us, hl with | [_], _ => rfl
set_option maxHeartbeats 4000000 in
theorem ok_are_broad (T : Txt K mg) : FnOk P w K mg base (L2.CX P w) 3 (fA K "are_broad") (fdK K ("are_broad", none)) P_are_broad (FS K (sp_are_broad K)) := by
  refine T.F_are_broad.ok sc_are_broad (fun vs H Q E h => fs_len h sp_len_are_broad) (fun cdv A outer s H vs Q E hr h => ⟨t_are_broad K (fun c d _ H' => E c d H'), ?_, fs_run h (w_are_broad  _)⟩)
  exact (pss_cons (ps_if (PW.pt (pw_or (pt_not (pt_val (pe_callB call_isi rfl T.z_isinstance (by decide +kernel) (pa_cons (pv 0) (pa_cons (pe_bltn (v := .ty "tuple") rfl T.z_tuple (by decide +kernel) rfl) pa_nil))))) (pw_or1 (pt_not (pt_chain op_le' op_le' pe_int (pe_callB call_len' rfl T.z_len (by decide +kernel) (pa_cons (pv 0) pa_nil)) (pe_glob rfl T.g_MOST_BALLS.choose_spec ⟨_, rfl⟩)))))) (pss_one (ps_ret pe_bl)) pss_nil)
      (pss_cons (ps_for (passes_of rfl) rfl (pi_seq (pv 0)) (pg_name (i := 1) sc_are_broad.nd rfl (Or.inl rfl)) (pss_one (ps_if (PW.pt (pw_or (pt_not (pt_val (pe_callB call_isi rfl T.z_isinstance (by decide +kernel) (pa_cons (pv 1) (pa_cons (pe_bltn (v := .ty "tuple") rfl T.z_tuple (by decide +kernel) rfl) pa_nil))))) (pw_or (pt_cmpR (op_neD hr.units) (pe_callB call_len' rfl T.z_len (by decide +kernel) (pa_cons (pv 1) pa_nil)) pe_int (nomark _)) (pw_or (pt_not (pt_val (pe_call (ok_is_ratio T) (hr.mono (by decide)) rfl T.m_is_ratio T.F_is_ratio.kp (bd_is_ratio T) .nil passL (pa_cons (pe_ix ix_seq (pv 1) (pe_glob rfl T.g_PLACE.choose_spec ⟨_, rfl⟩) (fun _ _ => rfl)) pa_nil)))) (pw_or1 (pt_not (pt_val (pe_call (ok_is_ratio T) (hr.mono (by decide)) rfl T.m_is_ratio T.F_is_ratio.kp (bd_is_ratio T) .nil passL (pa_cons (pe_ix ix_seq (pv 1) (pe_glob rfl T.g_WIDTH.choose_spec ⟨_, rfl⟩) (fun _ _ => rfl)) pa_nil))))))))) (pss_one (ps_ret pe_bl)) pss_nil)))
      (pss_one (ps_ret (pe_callB (cr_all rfl) rfl T.z_all (by decide +kernel) (pa_cons (pe_lc (own := [("ball", 1)]) (g := (gName 1)) (tt := tYes) rfl sc_are_broad.nd (pi_seq (pv 0)) (blkOk_by (N := N_are_broad) (sc := defScope s_are_broad) (by decide +kernel)) (fun _ _ _ _ _ => (pg_name (i := 1) sc_are_broad.nd rfl (Or.inl rfl))) (fun _ _ _ _ _ => pts_nil) (fun _ _ _ _ _ => (pe_cmpR op_ge' (pe_ix ix_seq (pe_ix ix_seq (pv 1) (pe_glob rfl T.g_WIDTH.choose_spec ⟨_, rfl⟩) (fun _ _ => rfl)) pe_int (fun _ _ => rfl)) pe_int (nomark _)))) pa_nil))))))
theorem bd_ratio (T : Txt K mg) : Binds K (fdK K ("ratio", none)) P_ratio [] := by
  obtain ⟨ds, v, b⟩ := T.F_ratio.binds1 (ps := P_ratio) 2 1 (by simp) rfl (fun _ _ _ _ _ _ _ us its h1 h2 => match us, its, h1, h2 with | [_, _], [_], _, _ => ⟨_, rfl, rfl⟩)
  cases v
  exact b
theorem bdD_ratio (T : Txt K mg) : ∃ ds, Vals [.int 1] ds ∧ Binds K (fdK K ("ratio", none)) P_ratio ds := T.F_ratio.binds1 1 0 (by simp) rfl (fun _ _ _ _ _ _ _ us its h1 h2 => match us, its, h1, h2 with | [_], [_], _, _ => ⟨_, rfl, rfl⟩)
set_option maxHeartbeats 4000000 in
theorem ok_ratio (T : Txt K mg) : FnOk P w K mg base (L2.CX P w) 2 (fA K "ratio") (fdK K ("ratio", none)) P_ratio (FS K (sp_ratio K)) := by
  refine T.F_ratio.ok sc_ratio (fun vs H Q E h => fs_len h sp_len_ratio) (fun cdv A outer s H vs Q E hr h => ⟨t_ratio K (fun c d _ H' => E c d H'), ?_, fs_run h (w_ratio  _)⟩)
  exact (pss_cons (ps_if (PW.pt (pw_or (pt_not (pt_val (pe_call (ok_is_whole T) (hr.mono (by decide)) rfl T.m_is_whole T.F_is_whole.kp (bd_is_whole T) .nil passL (pa_cons (pv 0) pa_nil)))) (pw_or (pt_not (pt_val (pe_call (ok_is_whole T) (hr.mono (by decide)) rfl T.m_is_whole T.F_is_whole.kp (bd_is_whole T) .nil passL (pa_cons (pv 1) pa_nil)))) (pw_or1 (pt_cmpR (op_eqD hr.units) (pv 1) pe_int (nomark _)))))) (pss_one (ps_rs rfl (takes_of rfl rfl rfl rfl) T.xc_NoRatio rfl)) pss_nil)
      (pss_cons (ps_set (i := 2) sc_ratio.nd rfl (Or.inl rfl) (pe_call (ok_divisor_of T) (hr.mono (by decide)) rfl T.m_divisor_of T.F_divisor_of.kp (bd_divisor_of T) .nil passL (pa_cons (pv 0) (pa_cons (pv 1) pa_nil))))
      (pss_cons (ps_if (pt_cmpR op_lt' (pv 1) pe_int (nomark _)) (pss_one (ps_set (i := 2) sc_ratio.nd rfl (Or.inl rfl) (pe_op op_sub' pe_int (pv 2)))) pss_nil)
      (pss_one (ps_ret (pe_tup (pa_cons (pe_op op_fdiv' (pv 0) (pv 2)) (pa_cons (pe_op op_fdiv' (pv 1) (pv 2)) pa_nil))))))))
theorem bd_minus (T : Txt K mg) : Binds K (fdK K ("minus", none)) P_minus [] := T.F_minus.bindsN fun _ _ _ _ _ _ us hl => match us, hl with | [_, _], _ => rfl
set_option maxHeartbeats 4000000 in
theorem ok_minus (T : Txt K mg) : FnOk P w K mg base (L2.CX P w) 3 (fA K "minus") (fdK K ("minus", none)) P_minus (FS K (sp_minus K)) := by
  refine T.F_minus.ok sc_minus (fun vs H Q E h => fs_len h sp_len_minus) (fun cdv A outer s H vs Q E hr h => ⟨t_minus K (fun c d _ H' => E c d H'), ?_, fs_run h (w_minus  _)⟩)
  exact (pss_one (ps_ret (pe_call (ok_ratio T) (hr.mono (by decide)) rfl T.m_ratio T.F_ratio.kp (bd_ratio T) .nil passL (pa_cons (pe_op op_sub' (pe_op op_mul' (pe_ix ix_seq (pv 0) pe_int (fun _ _ => rfl)) (pe_ix ix_seq (pv 1) pe_int (fun _ _ => rfl))) (pe_op op_mul' (pe_ix ix_seq (pv 1) pe_int (fun _ _ => rfl)) (pe_ix ix_seq (pv 0) pe_int (fun _ _ => rfl)))) (pa_cons (pe_op op_mul' (pe_ix ix_seq (pv 0) pe_int (fun _ _ => rfl)) (pe_ix ix_seq (pv 1) pe_int (fun _ _ => rfl))) pa_nil)))))
theorem bd_plus (T : Txt K mg) : Binds K (fdK K ("plus", none)) P_plus [] := T.F_plus.bindsN fun _ _ _ _ _ _ us hl => match us, hl with | [_, _], _ => rfl
set_option maxHeartbeats 4000000 in
theorem ok_plus (T : Txt K mg) : FnOk P w K mg base (L2.CX P w) 3 (fA K "plus") (fdK K ("plus", none)) P_plus (FS K (sp_plus K)) := by
  refine T.F_plus.ok sc_plus (fun vs H Q E h => fs_len h sp_len_plus) (fun cdv A outer s H vs Q E hr h => ⟨t_plus K (fun c d _ H' => E c d H'), ?_, fs_run h (w_plus  _)⟩)
  exact (pss_one (ps_ret (pe_call (ok_ratio T) (hr.mono (by decide)) rfl T.m_ratio T.F_ratio.kp (bd_ratio T) .nil passL (pa_cons (pe_op op_addX (pe_op op_mul' (pe_ix ix_seq (pv 0) pe_int (fun _ _ => rfl)) (pe_ix ix_seq (pv 1) pe_int (fun _ _ => rfl))) (pe_op op_mul' (pe_ix ix_seq (pv 1) pe_int (fun _ _ => rfl)) (pe_ix ix_seq (pv 0) pe_int (fun _ _ => rfl)))) (pa_cons (pe_op op_mul' (pe_ix ix_seq (pv 0) pe_int (fun _ _ => rfl)) (pe_ix ix_seq (pv 1) pe_int (fun _ _ => rfl))) pa_nil)))))
theorem bd_moved (T : Txt K mg) : Binds K (fdK K ("moved", none)) P_moved [] := T.F_moved.bindsN fun _ _ _ _ _ _ us hl => match us, hl with | [_, _], _ => rfl
set_option maxHeartbeats 4000000 in
theorem ok_moved (T : Txt K mg) : FnOk P w K mg base (L2.CX P w) 4 (fA K "moved") (fdK K ("moved", none)) P_moved (FS K (sp_moved K)) := by
  refine T.F_moved.ok sc_moved (fun vs H Q E h => fs_len h sp_len_moved) (fun cdv A outer s H vs Q E hr h => ⟨t_moved K (fun c d _ H' => E c d H'), ?_, fs_run h (w_moved  _)⟩)
  exact (pss_cons (ps_if (pt_cmpR op_isN' (pv 0) pe_non (nomark _)) (pss_one (ps_ret pe_non)) pss_nil)
      (pss_one (ps_ret (pe_tup (pa_cons (pe_call (ok_plus T) (hr.mono (by decide)) rfl T.m_plus T.F_plus.kp (bd_plus T) .nil passL (pa_cons (pe_ix ix_seq (pv 0) (pe_glob rfl T.g_PLACE.choose_spec ⟨_, rfl⟩) (fun _ _ => rfl)) (pa_cons (pv 1) pa_nil))) (pa_cons (pe_ix ix_seq (pv 0) pe_int (fun _ _ => rfl)) pa_nil))))))
theorem bd_thinned (T : Txt K mg) : Binds K (fdK K ("thinned", none)) P_thinned [] := T.F_thinned.bindsN fun _ _ _ _ _ _ us hl => match us, hl with | [_, _], _ => rfl
set_option maxHeartbeats 4000000 in
theorem ok_thinned (T : Txt K mg) : FnOk P w K mg base (L2.CX P w) 5 (fA K "thinned") (fdK K ("thinned", none)) P_thinned (FS K (sp_thinned K)) := by
  refine T.F_thinned.ok sc_thinned (fun vs H Q E h => fs_len h sp_len_thinned) (fun cdv A outer s H vs Q E hr h => ⟨t_thinned K (fun c d _ H' => E c d H'), ?_, fs_run h (w_thinned T.q_NOUGHT _)⟩)
  exact (pss_cons (ps_set (i := 2) sc_thinned.nd rfl (Or.inl rfl) (pe_glob rfl T.g_NOUGHT rfl))
      (pss_cons (ps_set (i := 3) sc_thinned.nd rfl (Or.inl rfl) (pe_lst pa_nil))
      (pss_cons (ps_for (passes_of rfl) rfl (pi_seq (pv 0)) (pg_name (i := 4) sc_thinned.nd rfl (Or.inl rfl)) (pss_cons (ps_expr (pe_bm PySem.F.plainAttrs_list PySem.F.slot_list_append PySem.F.type_list_append mt_append (pv 3) (pa_cons (pe_tup (pa_cons (pe_call (ok_minus T) (hr.mono (by decide)) rfl T.m_minus T.F_minus.kp (bd_minus T) .nil passL (pa_cons (pe_ix ix_seq (pv 4) (pe_glob rfl T.g_PLACE.choose_spec ⟨_, rfl⟩) (fun _ _ => rfl)) (pa_cons (pv 2) pa_nil))) (pa_cons (pe_ix ix_seq (pv 4) pe_int (fun _ _ => rfl)) (pa_cons (pe_ix ix_seq (pv 4) pe_int (fun _ _ => rfl)) pa_nil)))) pa_nil)))
      (pss_one (ps_set (i := 2) sc_thinned.nd rfl (Or.inl rfl) (pe_call (ok_plus T) (hr.mono (by decide)) rfl T.m_plus T.F_plus.kp (bd_plus T) .nil passL (pa_cons (pv 2) (pa_cons (pe_ix ix_seq (pv 4) (pe_glob rfl T.g_WIDTH.choose_spec ⟨_, rfl⟩) (fun _ _ => rfl)) pa_nil)))))))
      (pss_one (ps_ret (pe_tup (pa_cons (pe_callTy call_tup' rfl T.z_tuple (by decide +kernel) (pa_cons (pv 3) pa_nil)) (pa_cons (pe_tup (pa_cons (pe_ix ix_seq (pv 1) (pe_glob rfl T.g_LOW.choose_spec ⟨_, rfl⟩) (fun _ _ => rfl)) (pa_cons (pe_call (ok_moved T) (hr.mono (by decide)) rfl T.m_moved T.F_moved.kp (bd_moved T) .nil passL (pa_cons (pe_ix ix_seq (pv 1) (pe_glob rfl T.g_HIGH.choose_spec ⟨_, rfl⟩) (fun _ _ => rfl)) (pa_cons (pe_call (ok_minus T) (hr.mono (by decide)) rfl T.m_minus T.F_minus.kp (bd_minus T) .nil passL (pa_cons (pe_glob rfl T.g_NOUGHT rfl) (pa_cons (pv 2) pa_nil))) pa_nil))) pa_nil))) pa_nil))))))))
theorem bd_is_broad (T : Txt K mg) : Binds K (fdK K ("is_broad", none)) P_is_broad [] := T.F_is_broad.bindsN fun _ _ _ _ _ _ us hl => match us, hl with | [_, _], _ => rfl
set_option maxHeartbeats 4000000 in
theorem ok_is_broad (T : Txt K mg) : FnOk P w K mg base (L2.CX P w) 6 (fA K "is_broad") (fdK K ("is_broad", none)) P_is_broad (FS K (sp_is_broad K)) := by
  refine T.F_is_broad.ok sc_is_broad (fun vs H Q E h => fs_len h sp_len_is_broad) (fun cdv A outer s H vs Q E hr h => ⟨t_is_broad K (fun c d _ H' => E c d H'), ?_, fs_run h (w_is_broad  _)⟩)
  exact (pss_cons (ps_if (pt_not (pt_val (pe_call (ok_are_broad T) (hr.mono (by decide)) rfl T.m_are_broad T.F_are_broad.kp (bd_are_broad T) .nil passL (pa_cons (pv 1) pa_nil)))) (pss_one (ps_ret pe_bl)) pss_nil)
      (pss_cons (ps_asg (pe_call (ok_thinned T) (hr.mono (by decide)) rfl T.m_thinned T.F_thinned.kp (bd_thinned T) .nil passL (pa_cons (pv 1) (pa_cons (pv 0) pa_nil))) (pg_tup rfl (pgs_cons (pg_name (i := 2) sc_is_broad.nd rfl (Or.inl rfl)) (pgs_cons (pg_name (i := 3) sc_is_broad.nd rfl (Or.inl rfl)) pgs_nil))))
      (pss_one (ps_ret (pe_and (pe_call (ok_walls_good T) (hr.mono (by decide)) rfl T.m_walls_good T.F_walls_good.kp (bd_walls_good T) .nil passL (pa_cons (pv 3) pa_nil)) (pe_one (pe_call (ok_is_row T) (hr.mono (by decide)) rfl T.m_is_row T.F_is_row.kp (bd_is_row T) .nil passL (pa_cons (pv 3) (pa_cons (pv 2) pa_nil)))))))))
theorem bd_law (T : Txt K mg) : Binds K (fdK K ("law", none)) P_law [] := T.F_law.bindsN fun _ _ _ _ _ _ us hl => match us, hl with | [_], _ => rfl
set_option maxHeartbeats 4000000 in
theorem ok_law (T : Txt K mg) : FnOk P w K mg base (L2.CX P w) 7 (fA K "law") (fdK K ("law", none)) P_law (FS K (sp_law K)) := by
  refine T.F_law.ok sc_law (fun vs H Q E h => fs_len h sp_len_law) (fun cdv A outer s H vs Q E hr h => ⟨t_law K (fun c d _ H' => E c d H'), ?_, fs_run h (w_law  _)⟩)
  exact (pss_cons (ps_for (passes_of rfl) rfl (pi_range1 rfl T.z_range (pa_cons (pe_op op_addX pe_int (pe_callB (call_min' rfl) rfl T.z_min (by decide +kernel) (pa_cons (pe_callB call_len' rfl T.z_len (by decide +kernel) (pa_cons (pv 0) pa_nil)) (pa_cons pe_int pa_nil)))) pa_nil)) (pg_name (i := 1) sc_law.nd rfl (Or.inl rfl)) (pss_cons (ps_set (i := 2) sc_law.nd rfl (Or.inl rfl) (pe_call (ok_law_left T) (hr.mono (by decide)) rfl T.m_law_left T.F_law_left.kp (bd_law_left T) .nil passL (pa_cons (pe_call (ok_law_cell T) (hr.mono (by decide)) rfl T.m_law_cell T.F_law_cell.kp (bd_law_cell T) .nil passL (pa_cons (pe_op op_addX (pe_lst (pa_cons pe_int pa_nil)) (pv 0)) (pa_cons (pv 1) pa_nil))) pa_nil)))
      (pss_cons (ps_asg (pe_call (ok_law_start T) (hr.mono (by decide)) rfl T.m_law_start T.F_law_start.kp (bd_law_start T) .nil passL (pa_cons (pv 2) pa_nil)) (pg_tup rfl (pgs_cons (pg_name (i := 3) sc_law.nd rfl (Or.inl rfl)) (pgs_cons (pg_name (i := 4) sc_law.nd rfl (Or.inl rfl)) pgs_nil))))
      (pss_cons (ps_asg (pe_call (ok_law_thick T) (hr.mono (by decide)) rfl T.m_law_thick T.F_law_thick.kp (bd_law_thick T) .nil passL (pa_cons (pv 3) (pa_cons (pv 4) (pa_cons (pe_call (ok_law_widths T) (hr.mono (by decide)) rfl T.m_law_widths T.F_law_widths.kp (bd_law_widths T) .nil passL (pa_cons (pv 2) (pa_cons (pe_callB call_len' rfl T.z_len (by decide +kernel) (pa_cons (pv 3) pa_nil)) pa_nil))) pa_nil)))) (pg_tup rfl (pgs_cons (pg_name (i := 5) sc_law.nd rfl (Or.inl rfl)) (pgs_cons (pg_name (i := 6) sc_law.nd rfl (Or.inl rfl)) pgs_nil))))
      (pss_cons (ps_if (PW.pt (pw_or (pt_cmpR op_isnB (pe_call (ok_is_broad T) (hr.mono (by decide)) rfl T.m_is_broad T.F_is_broad.kp (bd_is_broad T) .nil passL (pa_cons (pv 6) (pa_cons (pv 5) pa_nil))) pe_bl (nomark _)) (pw_or1 (pt_cmpR op_isnB (pe_call (ok_is_broad T) (hr.mono (by decide)) rfl T.m_is_broad T.F_is_broad.kp (bd_is_broad T) .nil passL (pa_cons (pv 6) (pa_cons (pe_call (ok_law_odd T) (hr.mono (by decide)) rfl T.m_law_odd T.F_law_odd.kp (bd_law_odd T) .nil passL (pa_cons (pv 2) (pa_cons (pv 5) pa_nil))) pa_nil))) pe_bl (nomark _))))) (pss_one (ps_ret pe_bl)) pss_nil)
      (pss_cons (ps_set (i := 7) sc_law.nd rfl (Or.inl rfl) (pe_call (ok_law_nine T) (hr.mono (by decide)) rfl T.m_law_nine T.F_law_nine.kp (bd_law_nine T) .nil passL (pa_cons (pv 5) pa_nil)))
      (pss_cons (ps_if (PW.pt (pw_or (pt_cmpR op_isnB (pe_call (ok_is_broad T) (hr.mono (by decide)) rfl T.m_is_broad T.F_is_broad.kp (bd_is_broad T) .nil passL (pa_cons (pe_tup (pa_cons pe_non (pa_cons pe_non pa_nil))) (pa_cons (pv 7) pa_nil))) pe_bl (nomark _)) (pw_or1 (pt_cmpR op_isnB (pe_call (ok_is_broad T) (hr.mono (by decide)) rfl T.m_is_broad T.F_is_broad.kp (bd_is_broad T) .nil passL (pa_cons (pe_tup (pa_cons pe_non (pa_cons pe_non pa_nil))) (pa_cons (pe_slice sl_seq (pv 7) po_none (po_some pe_int)) pa_nil))) pe_bl (nomark _))))) (pss_one (ps_ret pe_bl)) pss_nil)
      (pss_one (ps_for (passes_of rfl) rfl (pi_range1 rfl T.z_range (pa_cons pe_int pa_nil)) (pg_name (i := 8) sc_law.nd rfl (Or.inl rfl)) (pss_cons (ps_asg (pe_call (ok_law_pushed T) (hr.mono (by decide)) rfl T.m_law_pushed T.F_law_pushed.kp (bd_law_pushed T) .nil passL (pa_cons (pv 2) (pa_cons (pv 5) (pa_cons (pv 6) pa_nil)))) (pg_tup rfl (pgs_cons (pg_name (i := 9) sc_law.nd rfl (Or.inl rfl)) (pgs_cons (pg_name (i := 10) sc_law.nd rfl (Or.inl rfl)) pgs_nil))))
      (pss_one (ps_if (pt_val (pe_call (ok_walls_good T) (hr.mono (by decide)) rfl T.m_walls_good T.F_walls_good.kp (bd_walls_good T) .nil passL (pa_cons (pv 10) pa_nil))) (pss_cons (ps_set (i := 11) sc_law.nd rfl (Or.inl rfl) (pe_call (ok_is_broad T) (hr.mono (by decide)) rfl T.m_is_broad T.F_is_broad.kp (bd_is_broad T) .nil passL (pa_cons (pv 10) (pa_cons (pv 9) pa_nil))))
      (pss_one (ps_if (PW.pt (pw_or (pt_not (pt_val (pe_callB call_isi rfl T.z_isinstance (by decide +kernel) (pa_cons (pv 11) (pa_cons (pe_bltn (v := .ty "bool") rfl T.z_bool (by decide +kernel) rfl) pa_nil))))) (pw_or1 (pt_cmpR (op_neD hr.units) (pv 11) (pe_call (ok_law_is T) (hr.mono (by decide)) rfl T.m_law_is T.F_law_is.kp (bd_law_is T) .nil passL (pa_cons (pv 10) (pa_cons (pv 9) pa_nil))) (nomark _))))) (pss_one (ps_ret pe_bl)) pss_nil))) pss_nil))))))))))))
      (pss_one (ps_ret pe_bl)))
end
def fn : List He.DefD := [
  ⟨("_law_cell", none), "_law_cell", "_law_cell", defArgs s_law_cell, defBody s_law_cell, defScope s_law_cell, [], []⟩,
  ⟨("_law_low", none), "_law_low", "_law_low", defArgs s_law_low, defBody s_law_low, defScope s_law_low, [], []⟩,
  ⟨("_law_add", none), "_law_add", "_law_add", defArgs s_law_add, defBody s_law_add, defScope s_law_add, [], []⟩,
  ⟨("_law_off", none), "_law_off", "_law_off", defArgs s_law_off, defBody s_law_off, defScope s_law_off, [], []⟩,
  ⟨("_law_thin", none), "_law_thin", "_law_thin", defArgs s_law_thin, defBody s_law_thin, defScope s_law_thin, [], []⟩,
  ⟨("divisor_of", none), "divisor_of", "divisor_of", defArgs s_divisor_of, defBody s_divisor_of, defScope s_divisor_of, [], []⟩,
  ⟨("is_whole", none), "is_whole", "is_whole", defArgs s_is_whole, defBody s_is_whole, defScope s_is_whole, [], []⟩,
  ⟨("is_ratio", none), "is_ratio", "is_ratio", defArgs s_is_ratio, defBody s_is_ratio, defScope s_is_ratio, [], []⟩,
  ⟨("is_tuple_of", none), "is_tuple_of", "is_tuple_of", defArgs s_is_tuple_of, defBody s_is_tuple_of, defScope s_is_tuple_of, [], []⟩,
  ⟨("is_ball", none), "is_ball", "is_ball", defArgs s_is_ball, defBody s_is_ball, defScope s_is_ball, [], []⟩,
  ⟨("less", none), "less", "less", defArgs s_less, defBody s_less, defScope s_less, [], []⟩,
  ⟨("may_stand", none), "may_stand", "may_stand", defArgs s_may_stand, defBody s_may_stand, defScope s_may_stand, [], []⟩,
  ⟨("is_within", none), "is_within", "is_within", defArgs s_is_within, defBody s_is_within, defScope s_is_within, [], []⟩,
  ⟨("is_row", none), "is_row", "is_row", defArgs s_is_row, defBody s_is_row, defScope s_is_row, [], []⟩,
  ⟨("is_wall", none), "is_wall", "is_wall", defArgs s_is_wall, defBody s_is_wall, defScope s_is_wall, [], []⟩,
  ⟨("walls_good", none), "walls_good", "walls_good", defArgs s_walls_good, defBody s_walls_good, defScope s_walls_good, [], []⟩,
  ⟨("_law_is", none), "_law_is", "_law_is", defArgs s_law_is, defBody s_law_is, defScope s_law_is, [], []⟩,
  ⟨("_law_left", none), "_law_left", "_law_left", defArgs s_law_left, defBody s_law_left, defScope s_law_left, [], []⟩,
  ⟨("_law_by", none), "_law_by", "_law_by", defArgs s_law_by, defBody s_law_by, defScope s_law_by, [], []⟩,
  ⟨("_law_nine", none), "_law_nine", "_law_nine", defArgs s_law_nine, defBody s_law_nine, defScope s_law_nine, [], []⟩,
  ⟨("_law_next", none), "_law_next", "_law_next", defArgs s_law_next, defBody s_law_next, defScope s_law_next, [], []⟩,
  ⟨("_law_odd", none), "_law_odd", "_law_odd", defArgs s_law_odd, defBody s_law_odd, defScope s_law_odd, [], []⟩,
  ⟨("_law_pushed", none), "_law_pushed", "_law_pushed", defArgs s_law_pushed, defBody s_law_pushed, defScope s_law_pushed, [], []⟩,
  ⟨("_law_below", none), "_law_below", "_law_below", defArgs s_law_below, defBody s_law_below, defScope s_law_below, [], []⟩,
  ⟨("_law_gap", none), "_law_gap", "_law_gap", defArgs s_law_gap, defBody s_law_gap, defScope s_law_gap, [], []⟩,
  ⟨("_law_speed", none), "_law_speed", "_law_speed", defArgs s_law_speed, defBody s_law_speed, defScope s_law_speed, [], []⟩,
  ⟨("_law_bound", none), "_law_bound", "_law_bound", defArgs s_law_bound, defBody s_law_bound, defScope s_law_bound, [], []⟩,
  ⟨("_law_box", none), "_law_box", "_law_box", defArgs s_law_box, defBody s_law_box, defScope s_law_box, [], []⟩,
  ⟨("_law_bundle", none), "_law_bundle", "_law_bundle", defArgs s_law_bundle, defBody s_law_bundle, defScope s_law_bundle, [], []⟩,
  ⟨("_law_wide", none), "_law_wide", "_law_wide", defArgs s_law_wide, defBody s_law_wide, defScope s_law_wide, [], []⟩,
  ⟨("_law_ratio", none), "_law_ratio", "_law_ratio", defArgs s_law_ratio, defBody s_law_ratio, defScope s_law_ratio, [], []⟩,
  ⟨("_law_focused", none), "_law_focused", "_law_focused", defArgs s_law_focused, defBody s_law_focused, defScope s_law_focused, [], []⟩,
  ⟨("_law_weights", none), "_law_weights", "_law_weights", defArgs s_law_weights, defBody s_law_weights, defScope s_law_weights, [], []⟩,
  ⟨("_law_row", none), "_law_row", "_law_row", defArgs s_law_row, defBody s_law_row, defScope s_law_row, [], []⟩,
  ⟨("_law_start", none), "_law_start", "_law_start", defArgs s_law_start, defBody s_law_start, defScope s_law_start, [], []⟩,
  ⟨("_law_thick", none), "_law_thick", "_law_thick", defArgs s_law_thick, defBody s_law_thick, defScope s_law_thick, [], []⟩,
  ⟨("_law_widths", none), "_law_widths", "_law_widths", defArgs s_law_widths, defBody s_law_widths, defScope s_law_widths, [], []⟩,
  ⟨("are_broad", none), "are_broad", "are_broad", defArgs s_are_broad, defBody s_are_broad, defScope s_are_broad, [], []⟩,
  ⟨("ratio", none), "ratio", "ratio", defArgs s_ratio, defBody s_ratio, defScope s_ratio, [.int 1], []⟩,
  ⟨("minus", none), "minus", "minus", defArgs s_minus, defBody s_minus, defScope s_minus, [], []⟩,
  ⟨("plus", none), "plus", "plus", defArgs s_plus, defBody s_plus, defScope s_plus, [], []⟩,
  ⟨("moved", none), "moved", "moved", defArgs s_moved, defBody s_moved, defScope s_moved, [], []⟩,
  ⟨("thinned", none), "thinned", "thinned", defArgs s_thinned, defBody s_thinned, defScope s_thinned, [], []⟩,
  ⟨("is_broad", none), "is_broad", "is_broad", defArgs s_is_broad, defBody s_is_broad, defScope s_is_broad, [], []⟩,
  ⟨("law", none), "law", "law", defArgs s_law, defBody s_law, defScope s_law, [], []⟩]
def fa : List He.Fa := [.glo "_law_cell", .glo "_law_low", .glo "_law_add", .glo "_law_off", .glo "_law_thin", .glo "divisor_of", .glo "is_whole", .glo "is_ratio", .glo "is_tuple_of", .glo "is_ball", .glo "less", .glo "may_stand", .glo "is_within", .glo "is_row", .glo "is_wall", .glo "walls_good", .glo "_law_is", .glo "_law_left", .glo "_law_by", .glo "_law_nine", .glo "_law_next", .glo "_law_odd", .glo "_law_pushed", .glo "_law_below", .glo "_law_gap", .glo "_law_speed", .glo "_law_bound", .glo "_law_box", .glo "_law_bundle", .glo "_law_wide", .glo "_law_ratio", .glo "_law_focused", .glo "_law_weights", .glo "_law_row", .glo "_law_start", .glo "_law_thick", .glo "_law_widths", .glo "are_broad", .glo "ratio", .glo "minus", .glo "plus", .glo "moved", .glo "thinned", .glo "is_broad", .glo "law", .free "abs", .free "all", .free "bool", .free "enumerate", .free "int", .free "isinstance", .free "len", .free "list", .free "max", .free "min", .free "range", .free "tuple", .free "zip", .int "GREATEST" (1000), .int "HIGH" (1), .int "LOW" (0), .int "MOST_BALLS" (8), .glo "NOUGHT", .int "PLACE" (0), .int "SPEED" (1), .int "WEIGHT" (2), .int "WIDTH" (3), .glo "NoRatio", .exc "NoRatio"]
def exs (K : KF) : List Bool := [He.tupB K "NOUGHT" [.int (0), .int (1)]]
def ex (K : KF) : Bool := (exs K).all id
abbrev R : PySem.W.OpenRow := PySem.W.OpenLaw.row PySem.Challenge.rw_clackrow_k64_broad_rows_known
abbrev hk : PySem.W.Hook := hookM 5 fa fn ex
def ob (s : PySem.W.SharedT) : He.AlD × Bool := obsM 5 fa fn ex (HandSHeadRun.getT s)
theorem ob_eq (s : PySem.W.SharedT) : ob s = hk.obs s.abs := obsM_eq (HandSHeadRun.getT_eq s)
def names0 : List Str := ["ClackError", "NoRatio", "is_whole", "divisor_of", "is_ratio", "ratio", "plus", "minus", "less", "PLACE", "SPEED", "WEIGHT", "LOW", "HIGH", "MOST_BALLS", "GREATEST", "NOUGHT", "is_tuple_of", "is_wall", "walls_good", "is_ball", "may_stand", "is_within", "is_row", "WIDTH", "are_broad", "moved", "thinned", "is_broad", "_law_cell"]
def names1 : List Str := ["_law_left", "_law_next", "_law_wide", "_law_low", "_law_add", "_law_off", "_law_by", "_law_below", "_law_ratio", "_law_speed", "_law_gap", "_law_weights", "_law_row", "_law_bound", "_law_box", "_law_bundle", "_law_focused", "_law_start", "_law_thin", "_law_thick", "_law_widths", "_law_is", "_law_pushed", "_law_odd", "_law_nine"]
def names : List Str := names0 ++ names1
theorem run (w : World) : HandSHeadRun.RunEq R (PySem.W.view R.prog [60]) hk ob 20000 names w := by
  intro os
  kernel_rfl
theorem txt {K : KF} {h : Heap} {mg : Str → Option Value} (X : K.In h) (G : h.Ns mainGlobals mg) (c : He.SaysD fa fn K) (ce : ex K = true) : Txt K mg := by
  have exat : ∀ (i : Nat) {b : Bool}, (exs K)[i]? = some b → b = true := fun i b e => List.all_eq_true.mp ce b (List.mem_of_getElem? e)
  exact {
    F_law_cell := fd_of c 0 rfl
    m_law_cell := He.glo_ok X G (c.fact 0 rfl)
    F_law_low := fd_of c 1 rfl
    m_law_low := He.glo_ok X G (c.fact 1 rfl)
    F_law_add := fd_of c 2 rfl
    m_law_add := He.glo_ok X G (c.fact 2 rfl)
    F_law_off := fd_of c 3 rfl
    m_law_off := He.glo_ok X G (c.fact 3 rfl)
    F_law_thin := fd_of c 4 rfl
    m_law_thin := He.glo_ok X G (c.fact 4 rfl)
    F_divisor_of := fd_of c 5 rfl
    m_divisor_of := He.glo_ok X G (c.fact 5 rfl)
    F_is_whole := fd_of c 6 rfl
    m_is_whole := He.glo_ok X G (c.fact 6 rfl)
    F_is_ratio := fd_of c 7 rfl
    m_is_ratio := He.glo_ok X G (c.fact 7 rfl)
    F_is_tuple_of := fd_of c 8 rfl
    m_is_tuple_of := He.glo_ok X G (c.fact 8 rfl)
    F_is_ball := fd_of c 9 rfl
    m_is_ball := He.glo_ok X G (c.fact 9 rfl)
    F_less := fd_of c 10 rfl
    m_less := He.glo_ok X G (c.fact 10 rfl)
    F_may_stand := fd_of c 11 rfl
    m_may_stand := He.glo_ok X G (c.fact 11 rfl)
    F_is_within := fd_of c 12 rfl
    m_is_within := He.glo_ok X G (c.fact 12 rfl)
    F_is_row := fd_of c 13 rfl
    m_is_row := He.glo_ok X G (c.fact 13 rfl)
    F_is_wall := fd_of c 14 rfl
    m_is_wall := He.glo_ok X G (c.fact 14 rfl)
    F_walls_good := fd_of c 15 rfl
    m_walls_good := He.glo_ok X G (c.fact 15 rfl)
    F_law_is := fd_of c 16 rfl
    m_law_is := He.glo_ok X G (c.fact 16 rfl)
    F_law_left := fd_of c 17 rfl
    m_law_left := He.glo_ok X G (c.fact 17 rfl)
    F_law_by := fd_of c 18 rfl
    m_law_by := He.glo_ok X G (c.fact 18 rfl)
    F_law_nine := fd_of c 19 rfl
    m_law_nine := He.glo_ok X G (c.fact 19 rfl)
    F_law_next := fd_of c 20 rfl
    m_law_next := He.glo_ok X G (c.fact 20 rfl)
    F_law_odd := fd_of c 21 rfl
    m_law_odd := He.glo_ok X G (c.fact 21 rfl)
    F_law_pushed := fd_of c 22 rfl
    m_law_pushed := He.glo_ok X G (c.fact 22 rfl)
    F_law_below := fd_of c 23 rfl
    m_law_below := He.glo_ok X G (c.fact 23 rfl)
    F_law_gap := fd_of c 24 rfl
    m_law_gap := He.glo_ok X G (c.fact 24 rfl)
    F_law_speed := fd_of c 25 rfl
    m_law_speed := He.glo_ok X G (c.fact 25 rfl)
    F_law_bound := fd_of c 26 rfl
    m_law_bound := He.glo_ok X G (c.fact 26 rfl)
    F_law_box := fd_of c 27 rfl
    m_law_box := He.glo_ok X G (c.fact 27 rfl)
    F_law_bundle := fd_of c 28 rfl
    m_law_bundle := He.glo_ok X G (c.fact 28 rfl)
    F_law_wide := fd_of c 29 rfl
    m_law_wide := He.glo_ok X G (c.fact 29 rfl)
    F_law_ratio := fd_of c 30 rfl
    m_law_ratio := He.glo_ok X G (c.fact 30 rfl)
    F_law_focused := fd_of c 31 rfl
    m_law_focused := He.glo_ok X G (c.fact 31 rfl)
    F_law_weights := fd_of c 32 rfl
    m_law_weights := He.glo_ok X G (c.fact 32 rfl)
    F_law_row := fd_of c 33 rfl
    m_law_row := He.glo_ok X G (c.fact 33 rfl)
    F_law_start := fd_of c 34 rfl
    m_law_start := He.glo_ok X G (c.fact 34 rfl)
    F_law_thick := fd_of c 35 rfl
    m_law_thick := He.glo_ok X G (c.fact 35 rfl)
    F_law_widths := fd_of c 36 rfl
    m_law_widths := He.glo_ok X G (c.fact 36 rfl)
    F_are_broad := fd_of c 37 rfl
    m_are_broad := He.glo_ok X G (c.fact 37 rfl)
    F_ratio := fd_of c 38 rfl
    m_ratio := He.glo_ok X G (c.fact 38 rfl)
    F_minus := fd_of c 39 rfl
    m_minus := He.glo_ok X G (c.fact 39 rfl)
    F_plus := fd_of c 40 rfl
    m_plus := He.glo_ok X G (c.fact 40 rfl)
    F_moved := fd_of c 41 rfl
    m_moved := He.glo_ok X G (c.fact 41 rfl)
    F_thinned := fd_of c 42 rfl
    m_thinned := He.glo_ok X G (c.fact 42 rfl)
    F_is_broad := fd_of c 43 rfl
    m_is_broad := He.glo_ok X G (c.fact 43 rfl)
    F_law := fd_of c 44 rfl
    m_law := He.glo_ok X G (c.fact 44 rfl)
    z_abs := He.free_ok X G (c.fact 45 rfl)
    z_all := He.free_ok X G (c.fact 46 rfl)
    z_bool := He.free_ok X G (c.fact 47 rfl)
    z_enumerate := He.free_ok X G (c.fact 48 rfl)
    z_int := He.free_ok X G (c.fact 49 rfl)
    z_isinstance := He.free_ok X G (c.fact 50 rfl)
    z_len := He.free_ok X G (c.fact 51 rfl)
    z_list := He.free_ok X G (c.fact 52 rfl)
    z_max := He.free_ok X G (c.fact 53 rfl)
    z_min := He.free_ok X G (c.fact 54 rfl)
    z_range := He.free_ok X G (c.fact 55 rfl)
    z_tuple := He.free_ok X G (c.fact 56 rfl)
    z_zip := He.free_ok X G (c.fact 57 rfl)
    g_GREATEST := He.int_ok X G (c.fact 58 rfl)
    g_HIGH := He.int_ok X G (c.fact 59 rfl)
    g_LOW := He.int_ok X G (c.fact 60 rfl)
    g_MOST_BALLS := He.int_ok X G (c.fact 61 rfl)
    g_NOUGHT := He.glo_ok X G (c.fact 62 rfl)
    q_NOUGHT := exat 0 rfl
    g_PLACE := He.int_ok X G (c.fact 63 rfl)
    g_SPEED := He.int_ok X G (c.fact 64 rfl)
    g_WEIGHT := He.int_ok X G (c.fact 65 rfl)
    g_WIDTH := He.int_ok X G (c.fact 66 rfl)
    xc_NoRatio := xc_of X G (c.fact 67 rfl) (c.fact 68 rfl) }
end LK
open PySem PySem.W PySem.Calls PyProof.Rows
set_option maxRecDepth 100000 in
set_option maxHeartbeats 0 in
theorem PySem.Challenge.cw_clackrow_k64_broad_rows_known_holds : PySem.Challenge.rw_clackrow_k64_broad_rows_known.Holds := by
  w_on; o_law
  refine HandSHeadRun.head_any (r := OpenLaw.row PySem.Challenge.rw_clackrow_k64_broad_rows_known) (q := view (OpenLaw.row PySem.Challenge.rw_clackrow_k64_broad_rows_known).prog [60]) (H := LK.hk) (ob := LK.ob) (M := 20000) (loose := LK.names) (d := HandSHeadRun.topDef (OpenLaw.row PySem.Challenge.rw_clackrow_k64_broad_rows_known).prog 60) (kwd := []) LK.ob_eq
    (by kernel_rfl) (fun s => by kernel_rfl) LK.run (by kernel_rfl) (by kernel_rfl) (by kernel_rfl) (by rfl) (by first | assumption | decide +kernel) (by decide +kernel) ⟨rfl, rfl, rfl, rfl, rfl, by decide +kernel⟩ ?hw ?hc
  case hw => w_witness2
  case hc =>
    refine HL.walk_ofW (l := PySem.Challenge.rw_clackrow_k64_broad_rows_known) (n := 63) (k := 7) (x := "script") (CX := fun w => L2.CX (PySem.Challenge.rw_clackrow_k64_broad_rows_known).prog w) rfl (by decide) (by kernel_rfl) ⟨rfl, by decide, by decide⟩ ?F (fun w H s e s' h => HL.cx_no h)
    intro w mg fa h Y G hmg0
    obtain ⟨K, KX, c, ce⟩ := Y
    have hmg : mg ("law" : PySem.Str) = some (.ref fa) := by
      have e : (HandSHeadRun.topDef (OpenLaw.row PySem.Challenge.rw_clackrow_k64_broad_rows_known).prog 60).name = ("law" : PySem.Str) := by kernel_rfl
      rw [← e]
      exact hmg0
    have T : LK.Txt K mg := LK.txt KX G c ce
    have ea := hmg.symm.trans T.m_law
    cases ea
    exact ⟨K, _, _, KX, fun s v => L2.FunD.bindsA (ps := ["script"]) T.F_law (fun _ _ _ _ _ _ us hl => match us, hl with | [_], _ => rfl) s [v] rfl, fun H a ns hl _ hS => HL.law_start hS ⟨ns, rfl, hl, fun _ => rfl⟩, fun base _ _ => LK.ok_law T⟩
