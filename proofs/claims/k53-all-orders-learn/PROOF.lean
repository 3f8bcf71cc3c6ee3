import PyProof.Rows.All
import Wide.All
import OpenK.AllK
import Wide.FinOn
import KE.KStateDown
import HandS.ForMost
import HandS.TupLe
import HandS.TupAny
import HandS.Deep
import HandS.IsInst
import HandS.GenList
import KE.DataEq
import KE.DataFind
import HandS.More
import HandS.Defaults
import HandS.WordsExc
import PyProof.Rows.IntBool
import HandS.GenYield
import HandS.GenCall
import HandS.Head0
import HandS.Head1
import HandS.Head2
import HandS.HeadEnd
import HandS.HeadHook1
import HandS.HeadHook2
import PySem.Challenge.RW_backpayhall_k53_whole_all_orders_learn
set_option Elab.async false
set_option linter.all false
set_option maxRecDepth 100000
set_option maxHeartbeats 4000000
/-! The two-heap layer: G is what is known and only grows, L is what is owned and may be changed. -/
namespace T
open PySem PySem.Spec PyProof.Rows L2

def Ex (G H : Hp) : Prop := ∀ a o, G a = some o → H a = some o
theorem Ex.refl (G : Hp) : Ex G G := fun _ _ h => h
theorem Ex.trans {G H I : Hp} (a : Ex G H) (b : Ex H I) : Ex G I := fun x o h => b x o (a x o h)
theorem Ex.new {G : Hp} {p : Addr} {o : HO} (h : G p = none) : Ex G (upd G p o) := fun a u e => by
  rw [upd_ne (ne_of_none e h)]
  exact e
def Un (G L : Hp) : Hp := fun a => match G a with
  | some o => some o
  | none => L a
structure Sep (G L H : Hp) : Prop where
  g : Ex G H
  l : Ex L H
  d : ∀ a o, G a = some o → L a = none
section
variable {G L H : Hp} {p : Addr} {o o' : HO}
theorem un_g : Ex G (Un G L) := fun a o h => by
  show (match G a with | some o => some o | none => L a) = some o
  rw [h]
theorem un_l (h : L p = some o) (hg : G p = none) : Un G L p = some o := by
  show (match G p with | some o => some o | none => L p) = some o
  rw [hg]
  exact h
theorem Sep.u (s : Sep G L H) : Ex (Un G L) H := fun a o h => by
  have h : (match G a with | some o => some o | none => L a) = some o := h
  cases e : G a with
  | some u =>
    rw [e] at h
    cases h
    exact s.g a _ e
  | none =>
    rw [e] at h
    exact s.l a _ h
theorem Sep.free (s : Sep G L H) (h : H p = none) : G p = none ∧ L p = none := by
  refine ⟨?_, ?_⟩
  · cases e : G p with
    | none => rfl
    | some u =>
      have := s.g p u e
      rw [h] at this
      cases this
  · cases e : L p with
    | none => rfl
    | some u =>
      have := s.l p u e
      rw [h] at this
      cases this
theorem Sep.og (s : Sep G L H) (h : L p = some o) : G p = none := by
  cases e : G p with
  | none => rfl
  | some u =>
    have := s.d p u e
    rw [h] at this
    cases this
theorem Sep.newG (s : Sep G L H) (h : H p = none) : Sep (upd G p o) L (upd H p o) := by
  obtain ⟨hg, hl⟩ := s.free h
  refine ⟨fun a u e => ?_, fun a u e => ?_, fun a u e => ?_⟩
  · by_cases q : a = p
    · subst q
      rw [upd_same] at e ⊢
      exact e
    · rw [upd_ne q] at e ⊢
      exact s.g a u e
  · rw [upd_ne (ne_of_none (s.l a u e) h)]
    exact s.l a u e
  · by_cases q : a = p
    · subst q
      exact hl
    · rw [upd_ne q] at e
      exact s.d a u e
theorem Sep.newL (s : Sep G L H) (h : H p = none) : Sep G (upd L p o) (upd H p o) := by
  obtain ⟨hg, hl⟩ := s.free h
  refine ⟨fun a u e => ?_, fun a u e => ?_, fun a u e => ?_⟩
  · rw [upd_ne (ne_of_none (s.g a u e) h)]
    exact s.g a u e
  · by_cases q : a = p
    · subst q
      rw [upd_same] at e ⊢
      exact e
    · rw [upd_ne q] at e ⊢
      exact s.l a u e
  · rw [upd_ne (ne_of_none (s.g a u e) h)]
    exact s.d a u e
/-- a further address that is nobody's -/
theorem Sep.newH (s : Sep G L H) (h : H p = none) : Sep G L (upd H p o) :=
  ⟨fun a u e => by rw [upd_ne (ne_of_none (s.g a u e) h)]; exact s.g a u e, fun a u e => by rw [upd_ne (ne_of_none (s.l a u e) h)]; exact s.l a u e, s.d⟩
theorem Sep.mut (s : Sep G L H) (h : L p = some o') : Sep G (upd L p o) (upd H p o) := by
  have hg := s.og h
  refine ⟨fun a u e => ?_, fun a u e => ?_, fun a u e => ?_⟩
  · rw [upd_ne (ne_of_none e hg)]
    exact s.g a u e
  · by_cases q : a = p
    · subst q
      rw [upd_same] at e ⊢
      exact e
    · rw [upd_ne q] at e ⊢
      exact s.l a u e
  · rw [upd_ne (ne_of_none e hg)]
    exact s.d a u e
theorem Sep.freeze (s : Sep G (upd L p o) H) (h : L p = none) : Sep (upd G p o) L H := by
  have hg : G p = none := s.og upd_same
  refine ⟨fun a u e => ?_, fun a u e => ?_, fun a u e => ?_⟩
  · by_cases q : a = p
    · subst q
      rw [upd_same] at e
      cases e
      exact s.l a _ upd_same
    · rw [upd_ne q] at e
      exact s.g a u e
  · refine s.l a u ?_
    rw [upd_ne (ne_of_none e h)]
    exact e
  · by_cases q : a = p
    · subst q
      exact h
    · rw [upd_ne q] at e
      have := s.d a u e
      rw [upd_ne q] at this
      exact this
theorem Sep.drop (s : Sep G (upd L p o) H) (h : L p = none) : Sep G L H := by
  refine ⟨s.g, fun a u e => s.l a u ?_, fun a u e => ?_⟩
  · rw [upd_ne (ne_of_none e h)]
    exact e
  · have := s.d a u e
    by_cases q : a = p
    · subst q
      exact h
    · rw [upd_ne q] at this
      exact this
theorem upd_comm {a b : Addr} {x y : HO} (h : a ≠ b) : upd (upd L a x) b y = upd (upd L b y) a x := by
  funext c
  unfold upd
  by_cases h1 : c = b
  · subst h1
    rw [if_pos rfl, if_neg (Ne.symm h), if_pos rfl]
  · rw [if_neg h1]
    by_cases h2 : c = a
    · rw [if_pos h2, if_pos h2]
    · rw [if_neg h2, if_neg h2, if_neg h1]
end
theorem sql_ex {K : PySem.W.Frag} {H H' : Hp} {a : Addr} {xs : List V} (e : Ex H H') (h : SqL K H a xs) : SqL K H' a xs := by
  rcases h with (h | ⟨o, h⟩) | h
  · exact .inl (.inl (e _ _ h))
  · exact .inl (.inr ⟨o, e _ _ h⟩)
  · exact .inr h
theorem sqt_ex {K : PySem.W.Frag} {H H' : Hp} {a : Addr} {xs : List V} (e : Ex H H') (h : SqT K H a xs) : SqT K H' a xs := by
  rcases h with (h | ⟨o, h⟩) | h
  · exact .inl (.inl (e _ _ h))
  · exact .inl (.inr ⟨o, e _ _ h⟩)
  · exact .inr h
mutual
theorem dp_ex {K : PySem.W.Frag} {H H' : Hp} (e : Ex H H') : ∀ (d : PyData) (v : V), Dp K H v d → Dp K H' v d
  | .none, _, h => by cases h; exact .non
  | .bool b, _, h => by cases h; exact .bl b
  | .int i, _, h => by cases h; exact .int i
  | .str x, _, h => by cases h; exact .str x
  | .list ds, _, h => by
    cases h with
    | lst hs ha => exact .lst (sql_ex e hs) (dpAll_ex e ds _ ha)
  | .tuple ds, _, h => by
    cases h with
    | tup hs ha => exact .tup (sqt_ex e hs) (dpAll_ex e ds _ ha)
  | .dict _, _, h => by cases h
theorem dpAll_ex {K : PySem.W.Frag} {H H' : Hp} (e : Ex H H') : ∀ (ds : List PyData) (vs : List V), DpAll K H vs ds → DpAll K H' vs ds
  | [], _, h => by cases h; exact .nil
  | d :: ds, _, h => by
    cases h with
    | cons h1 h2 => exact .cons (dp_ex e d _ h1) (dpAll_ex e ds _ h2)
end

/-! ### the judgements -/
def E (t : TE) (σ : L2.St) (G L : Hp) (R : V → Hp → Hp → Prop) : Prop := ∀ H (Q : VK), Sep G L H → (∀ v G' L' H', R v G' L' → Sep G' L' H' → Q v H') → t σ H Q
def B (t : TT) (σ : L2.St) (G L : Hp) (R : Bool → Hp → Hp → Prop) : Prop := ∀ H (Q : Bool → Hp → Prop), Sep G L H → (∀ v G' L' H', R v G' L' → Sep G' L' H' → Q v H') → t σ H Q
def A (t : TA) (σ : L2.St) (G L : Hp) (R : List V → Hp → Hp → Prop) : Prop := ∀ H (Q : List V → Hp → Prop), Sep G L H → (∀ v G' L' H', R v G' L' → Sep G' L' H' → Q v H') → t σ H Q
def P (t : TO) (σ : L2.St) (G L : Hp) (R : Option Int → Hp → Hp → Prop) : Prop := ∀ H (Q : Option Int → Hp → Prop), Sep G L H → (∀ v G' L' H', R v G' L' → Sep G' L' H' → Q v H') → t σ H Q
def O (r : R2) (x y : V) (G L : Hp) (R : V → Hp → Hp → Prop) : Prop := ∀ H (Q : VK), Sep G L H → (∀ v G' L' H', R v G' L' → Sep G' L' H' → Q v H') → r x y H Q
def U (r : V → Hp → VK → Prop) (x : V) (G L : Hp) (R : V → Hp → Hp → Prop) : Prop := ∀ H (Q : VK), Sep G L H → (∀ v G' L' H', R v G' L' → Sep G' L' H' → Q v H') → r x H Q
def C (r : List V → Hp → VK → Prop) (xs : List V) (G L : Hp) (R : V → Hp → Hp → Prop) : Prop := ∀ H (Q : VK), Sep G L H → (∀ v G' L' H', R v G' L' → Sep G' L' H' → Q v H') → r xs H Q
def M (r : V → List V → Hp → VK → Prop) (x : V) (xs : List V) (G L : Hp) (R : V → Hp → Hp → Prop) : Prop := ∀ H (Q : VK), Sep G L H → (∀ v G' L' H', R v G' L' → Sep G' L' H' → Q v H') → r x xs H Q
def Z (r : V → Option Int → Option Int → Hp → VK → Prop) (x : V) (lo hi : Option Int) (G L : Hp) (R : V → Hp → Hp → Prop) : Prop := ∀ H (Q : VK), Sep G L H → (∀ v G' L' H', R v G' L' → Sep G' L' H' → Q v H') → r x lo hi H Q
def Tg (g : TG) (v : V) (σ : L2.St) (G L : Hp) (N : L2.St → Hp → Hp → Prop) : Prop := ∀ H (Q : L2.St → Hp → Prop), Sep G L H → (∀ σ' G' L' H', N σ' G' L' → Sep G' L' H' → Q σ' H') → g v σ H Q
def Tgs (g : TGs) (vs : List V) (σ : L2.St) (G L : Hp) (N : L2.St → Hp → Hp → Prop) : Prop := ∀ H (Q : L2.St → Hp → Prop), Sep G L H → (∀ σ' G' L' H', N σ' G' L' → Sep G' L' H' → Q σ' H') → g vs σ H Q
structure D where
  nx : L2.St → Hp → Hp → Prop
  rt : V → Hp → Hp → Prop
  bk : L2.St → Hp → Hp → Prop := fun _ _ _ => False
  ct : L2.St → Hp → Hp → Prop := fun _ _ _ => False
structure Le (d : D) (d' : Ends) : Prop where
  nx : ∀ σ G L H, d.nx σ G L → Sep G L H → d'.nx σ H
  rt : ∀ v G L H, d.rt v G L → Sep G L H → d'.rt v H
  bk : ∀ σ G L H, d.bk σ G L → Sep G L H → d'.bk σ H
  ct : ∀ σ G L H, d.ct σ G L → Sep G L H → d'.ct σ H
def S (t : TS) (d : D) (σ : L2.St) (G L : Hp) : Prop := ∀ H (d' : Ends), Sep G L H → Le d d' → t d' σ H
/-- n items, the i-th one by item -/
abbrev ItemW := Nat → Hp → Hp → (V → Hp → Hp → Prop) → Prop
def Wk (wi : TI) (σ : L2.St) (G L : Hp) (R : Nat → ItemW → Hp → Hp → Prop) : Prop :=
  ∀ H (R' : It → Hp → Prop), Sep G L H →
    (∀ n item G1 L1 H1 (J : It), R n item G1 L1 → Sep G1 L1 H1 →
      (∀ i G2 L2 H2, i < n → Ex G1 G2 → Sep G2 L2 H2 → J.go i H2 ∧ ∀ x H3, J.yld i H2 x H3 → ∀ Q, item i G2 L2 Q → ∃ G3 L3, Sep G3 L3 H3 ∧ Q x G3 L3) →
      (∀ G2 L2 H2, Ex G1 G2 → Sep G2 L2 H2 → J.stop n H2) → R' J H1) → wi σ H R'

section
variable {K : PySem.W.Frag} {σ : L2.St} {G L : Hp} {ta tb te : TE} {t u : TT} {v x y : V} {r : R2} {R : V → Hp → Hp → Prop} {RB : Bool → Hp → Hp → Prop} {RA : List V → Hp → Hp → Prop} {d : D} {ts us : TS}
theorem E.mono {R' : V → Hp → Hp → Prop} (h : E te σ G L R) (k : ∀ v G' L', R v G' L' → R' v G' L') : E te σ G L R' := fun H Q s q => h H Q s fun v G' L' H' r => q v G' L' H' (k v G' L' r)
theorem S.mono {d' : D} (h : S ts d σ G L) (k1 : ∀ σ G L, d.nx σ G L → d'.nx σ G L) (k2 : ∀ v G L, d.rt v G L → d'.rt v G L) (k3 : ∀ σ G L, d.bk σ G L → d'.bk σ G L) (k4 : ∀ σ G L, d.ct σ G L → d'.ct σ G L) : S ts d' σ G L := fun H D' s k =>
  h H D' s ⟨fun _ _ _ _ q => k.nx _ _ _ _ (k1 _ _ _ q), fun _ _ _ _ q => k.rt _ _ _ _ (k2 _ _ _ q), fun _ _ _ _ q => k.bk _ _ _ _ (k3 _ _ _ q), fun _ _ _ _ q => k.ct _ _ _ _ (k4 _ _ _ q)⟩

theorem e_var {i : Nat} (h : σ[i]? = some (some v)) (q : R v G L) : E (tVar i) σ G L R := fun H Q s k => ⟨v, h, k _ _ _ _ q s⟩
theorem e_c (q : R v G L) : E (tC v) σ G L R := fun H Q s k => k _ _ _ _ q s
theorem e_op (h : E ta σ G L fun x G1 L1 => E tb σ G1 L1 fun y G2 L2 => O r x y G2 L2 R) : E (tOp r ta tb) σ G L R := fun H Q s k =>
  h H _ s fun x G1 L1 H1 q s1 => q H1 _ s1 fun y G2 L2 H2 q2 s2 => q2 H2 Q s2 k
theorem e_un {r : V → Hp → VK → Prop} (h : E ta σ G L fun x G1 L1 => U r x G1 L1 R) : E (tUn r ta) σ G L R := fun H Q s k => h H _ s fun x G1 L1 H1 q s1 => q H1 Q s1 k
theorem b_test (h : E te σ G L fun x G1 L1 => ∃ k, x = .bl k ∧ RB k G1 L1) : B (tTest te) σ G L RB := fun H Q s k => h H _ s fun x G1 L1 H1 ⟨b, e, q⟩ s1 => ⟨b, e, k _ _ _ _ q s1⟩
theorem b_B (h : E te σ G L fun x G1 L1 => ∃ k, x = .bl k ∧ RB k G1 L1) : B (tB te) σ G L RB := fun H Q s k => h H _ s fun x G1 L1 H1 ⟨b, e, q⟩ s1 => ⟨b, e, k _ _ _ _ q s1⟩
theorem b_yes (h : RB true G L) : B tYes σ G L RB := fun H Q s k => k _ _ _ _ h s
theorem b_and (h : B t σ G L fun b G1 L1 => (b = true → B u σ G1 L1 RB) ∧ (b = false → RB false G1 L1)) : B (tAnd t u) σ G L RB := fun H Q s k => h H _ s fun b G1 L1 H1 q s1 => by
  cases b with
  | true => exact q.1 rfl H1 Q s1 k
  | false => exact k _ _ _ _ (q.2 rfl) s1
theorem b_or (h : B t σ G L fun b G1 L1 => (b = true → RB true G1 L1) ∧ (b = false → B u σ G1 L1 RB)) : B (tOr t u) σ G L RB := fun H Q s k => h H _ s fun b G1 L1 H1 q s1 => by
  cases b with
  | true => exact k _ _ _ _ (q.1 rfl) s1
  | false => exact q.2 rfl H1 Q s1 k
theorem b_not (h : B t σ G L fun b G1 L1 => RB (!b) G1 L1) : B (tNot t) σ G L RB := fun H Q s k => h H _ s fun b G1 L1 H1 q s1 => k _ _ _ _ q s1
theorem b_tru (h : E te σ G L fun x G1 L1 => ∃ k, TruV K x (Un G1 L1) k ∧ RB k G1 L1) (hm : ∀ x H H' k, Ex H H' → TruV K x H k → TruV K x H' k) : B (fun σ H Q => te σ H fun x H' => ∃ k, TruV K x H' k ∧ Q k H') σ G L RB := fun H Q s k =>
  h H _ s fun x G1 L1 H1 ⟨b, e, q⟩ s1 => ⟨b, hm _ _ _ _ s1.u e, k _ _ _ _ q s1⟩
theorem tru_ex : ∀ x H H' k, Ex H H' → TruV K x H k → TruV K x H' k := fun x H H' k e h => by
  cases x with
  | ref p =>
    rcases h with ⟨xs, h, q⟩ | ⟨xs, h, q⟩ | ⟨kvs, h, q⟩
    · exact .inl ⟨xs, sql_ex e h, q⟩
    · exact .inr (.inl ⟨xs, sqt_ex e h, q⟩)
    · exact .inr (.inr ⟨kvs, e _ _ h, q⟩)
  | _ => exact h
theorem b_truth (h : E te σ G L fun x G1 L1 => ∃ k, TruV K x (Un G1 L1) k ∧ RB k G1 L1) : B (fun σ H Q => te σ H fun x H' => ∃ k, TruV K x H' k ∧ Q k H') σ G L RB := b_tru h tru_ex
theorem e_andV (h : E ta σ G L fun x G1 L1 => ∃ c, x = .bl c ∧ (c = true → E tb σ G1 L1 R) ∧ (c = false → R (.bl false) G1 L1)) : E (tAndV ta tb) σ G L R := fun H Q s k => h H _ s fun x G1 L1 H1 ⟨c, e, q1, q2⟩ s1 => ⟨c, e, by
  cases c with
  | true => exact q1 rfl H1 Q s1 k
  | false => exact k _ _ _ _ (q2 rfl) s1⟩
theorem e_orV (h : E ta σ G L fun x G1 L1 => ∃ c, x = .bl c ∧ (c = true → R (.bl true) G1 L1) ∧ (c = false → E tb σ G1 L1 R)) : E (tOrV ta tb) σ G L R := fun H Q s k => h H _ s fun x G1 L1 H1 ⟨c, e, q1, q2⟩ s1 => ⟨c, e, by
  cases c with
  | true => exact k _ _ _ _ (q1 rfl) s1
  | false => exact q2 rfl H1 Q s1 k⟩
theorem e_notV (h : E ta σ G L fun x G1 L1 => ∃ c, x = .bl c ∧ R (.bl (!c)) G1 L1) : E (tNotV ta) σ G L R := fun H Q s k => h H _ s fun x G1 L1 H1 ⟨c, e, q⟩ s1 => ⟨c, e, k _ _ _ _ q s1⟩
theorem e_if (h : B t σ G L fun b G1 L1 => (b = true → E ta σ G1 L1 R) ∧ (b = false → E tb σ G1 L1 R)) : E (tIf t ta tb) σ G L R := fun H Q s k => h H _ s fun b G1 L1 H1 q s1 => by
  cases b with
  | true => exact q.1 rfl H1 Q s1 k
  | false => exact q.2 rfl H1 Q s1 k
theorem a_nil (h : RA [] G L) : A tNil σ G L RA := fun H Q s k => k _ _ _ _ h s
theorem a_cons {tr : TA} (h : E te σ G L fun x G1 L1 => A tr σ G1 L1 fun xs G2 L2 => RA (x :: xs) G2 L2) : A (tCons te tr) σ G L RA := fun H Q s k => h H _ s fun x G1 L1 H1 q s1 => q H1 _ s1 fun xs G2 L2 H2 q2 s2 => k _ _ _ _ q2 s2
/-- a tuple, known -/
theorem e_tup {tl : TA} (h : A tl σ G L fun xs G1 L1 => xs.length ≤ sizeLine ∧ ∀ p G2, G1 p = none → Ex G1 G2 → G2 p = some (.tup xs) → R (.ref p) G2 L1) : E (tTup tl) σ G L R := fun H Q s k => h H _ s fun xs G1 L1 H1 q s1 =>
  ⟨q.1, fun p hp => k _ _ _ _ (q.2 p (upd G1 p (.tup xs)) (s1.free hp).1 (.new (s1.free hp).1) upd_same) (s1.newG hp)⟩
/-- a list, known | owned -/
theorem e_lstG {tl : TA} (h : A tl σ G L fun xs G1 L1 => xs.length ≤ sizeLine ∧ ∀ p G2, G1 p = none → Ex G1 G2 → G2 p = some (.lst xs) → R (.ref p) G2 L1) : E (tLst tl) σ G L R := fun H Q s k => h H _ s fun xs G1 L1 H1 q s1 =>
  ⟨q.1, fun p hp => k _ _ _ _ (q.2 p (upd G1 p (.lst xs)) (s1.free hp).1 (.new (s1.free hp).1) upd_same) (s1.newG hp)⟩
theorem e_lstL {tl : TA} (h : A tl σ G L fun xs G1 L1 => xs.length ≤ sizeLine ∧ ∀ p, G1 p = none → L1 p = none → R (.ref p) G1 (upd L1 p (.lst xs))) : E (tLst tl) σ G L R := fun H Q s k => h H _ s fun xs G1 L1 H1 q s1 =>
  ⟨q.1, fun p hp => k _ _ _ _ (q.2 p (s1.free hp).1 (s1.free hp).2) (s1.newL hp)⟩
theorem e_cb {rc : List V → Hp → VK → Prop} {tl : TA} (h : A tl σ G L fun xs G1 L1 => C rc xs G1 L1 R) : E (tCB rc tl) σ G L R := fun H Q s k => h H _ s fun xs G1 L1 H1 q s1 => q H1 Q s1 k
theorem tyV_ex {T : String} {H H' : Hp} (e : Ex H H') (h : tyV K T x H) : tyV K T x H' := by
  cases x with
  | ref p =>
    rcases h with ⟨a, xs, h⟩ | h | ⟨a, ⟨kvs, h⟩ | ⟨kvs, h⟩⟩ | ⟨a, S, n, h⟩
    · exact .inl ⟨a, xs, sql_ex e h⟩
    · exact .inr (.inl h)
    · exact .inr (.inr (.inl ⟨a, .inl ⟨kvs, e _ _ h⟩⟩))
    · exact .inr (.inr (.inl ⟨a, .inr ⟨kvs, e _ _ h⟩⟩))
    · exact .inr (.inr (.inr ⟨a, S, n, e _ _ h⟩))
  | _ => exact h
theorem e_bm {T : String} {rm : V → List V → Hp → VK → Prop} {tl : TA} (h : E te σ G L fun x G1 L1 => tyV K T x (Un G1 L1) ∧ A tl σ G1 L1 fun xs G2 L2 => M rm x xs G2 L2 R) : E (tBM K T rm te tl) σ G L R := fun H Q s k =>
  h H _ s fun x G1 L1 H1 q s1 => ⟨tyV_ex s1.u q.1, q.2 H1 _ s1 fun xs G2 L2 H2 q2 s2 => q2 H2 Q s2 k⟩
/-- a method of an owned list -/
theorem e_bmL {rm : V → List V → Hp → VK → Prop} {tl : TA} (h : E te σ G L fun x G1 L1 => ∃ p xs, x = .ref p ∧ L1 p = some (.lst xs) ∧ A tl σ G1 L1 fun ys G2 L2 => M rm (.ref p) ys G2 L2 R) : E (tBM K "list" rm te tl) σ G L R := fun H Q s k =>
  h H _ s fun x G1 L1 H1 ⟨p, xs, e, hl, q⟩ s1 => by
    subst e
    exact ⟨.inl ⟨rfl, xs, .of (s1.l _ _ hl)⟩, q H1 _ s1 fun ys G2 L2 H2 q2 s2 => q2 H2 Q s2 k⟩
theorem e_bm0 {T : String} {rm : V → List V → Hp → VK → Prop} (h : E te σ G L fun x G1 L1 => tyV K T x (Un G1 L1) ∧ M rm x [] G1 L1 R) : E (tBM0 K T rm te) σ G L R := fun H Q s k =>
  h H _ s fun x G1 L1 H1 q s1 => ⟨tyV_ex s1.u q.1, q.2 H1 Q s1 k⟩
theorem e_m1 {rm : V → List V → Hp → VK → Prop} (h : E ta σ G L fun x G1 L1 => (∃ a, x = .str a) ∧ E tb σ G1 L1 fun y G2 L2 => M rm x [y] G2 L2 R) : E (tM1 rm ta tb) σ G L R := fun H Q s k =>
  h H _ s fun x G1 L1 H1 q s1 => ⟨q.1, q.2 H1 _ s1 fun xs G2 L2 H2 q2 s2 => q2 H2 Q s2 k⟩
theorem p_none {RP : Option Int → Hp → Hp → Prop} (h : RP none G L) : P tNoPart σ G L RP := fun H Q s k => k _ _ _ _ h s
theorem p_some {RP : Option Int → Hp → Hp → Prop} (h : E te σ G L fun x G1 L1 => ∃ i, x = .int i ∧ RP (some i) G1 L1) : P (tPart te) σ G L RP := fun H Q s k => h H _ s fun x G1 L1 H1 ⟨i, e, q⟩ s1 => ⟨i, e, k _ _ _ _ q s1⟩
theorem e_sl {rz : V → Option Int → Option Int → Hp → VK → Prop} {tl th : TO} (h : E te σ G L fun x G1 L1 => P tl σ G1 L1 fun lo G2 L2 => P th σ G2 L2 fun hi G3 L3 => Z rz x lo hi G3 L3 R) : E (tSl rz te tl th) σ G L R := fun H Q s k =>
  h H _ s fun x G1 L1 H1 q s1 => q H1 _ s1 fun lo G2 L2 H2 q2 s2 => q2 H2 _ s2 fun hi G3 L3 H3 q3 s3 => q3 H3 Q s3 k
theorem e_chain {r r' : R2} {tc : TE} (h : E ta σ G L fun x G1 L1 => E tb σ G1 L1 fun y G2 L2 => O r x y G2 L2 fun z G3 L3 => ∃ k, z = .bl k ∧ (k = true → E tc σ G3 L3 fun w G4 L4 => O r' y w G4 L4 R) ∧ (k = false → R (.bl false) G3 L3)) : E (tChain r r' ta tb tc) σ G L R := fun H Q s k =>
  h H _ s fun x G1 L1 H1 q s1 => q H1 _ s1 fun y G2 L2 H2 q2 s2 => q2 H2 _ s2 fun z G3 L3 H3 ⟨c, e, qt, qf⟩ s3 => ⟨c, e, by
    cases c with
    | true => exact qt rfl H3 _ s3 fun w G4 L4 H4 q4 s4 => q4 H4 Q s4 k
    | false => exact k _ _ _ _ (qf rfl) s3⟩
/-- a field, wherever the instance stands -/
theorem e_fld {f : Str} (h : E te σ G L fun x G1 L1 => ∃ a C dx fs w, x = .ref a ∧ (G1 a = some (.ins C dx fs) ∨ L1 a = some (.ins C dx fs)) ∧ Cls K C ∧ NoAttr K C f ∧ fs.lookup f = some w ∧ R w G1 L1) : E (tFld K te f) σ G L R := fun H Q s k =>
  h H _ s fun x G1 L1 H1 ⟨a, C, dx, fs, w, e, ha, c, n, l, q⟩ s1 => ⟨a, C, dx, fs, w, e, ha.elim (s1.g _ _) (s1.l _ _), c, n, l, k _ _ _ _ q s1⟩

/-! ### promises -/
abbrev Pm := List V → Hp → Hp → (V → Hp → Hp → Prop) → Prop
def Spt (f : Pm) : Sp := fun vs H Q _ => ∃ G L R, Sep G L H ∧ f vs G L R ∧ ∀ v G' L' H', R v G' L' → Sep G' L' H' → Q v H'
theorem e_call {f : Pm} {dvs : List V} {Ee : XK} {tl : TA} (h : A tl σ G L fun vs G1 L1 => f (vs ++ dvs) G1 L1 R) : E (tCall (Spt f) dvs Ee tl) σ G L R := fun H Q s k => h H _ s fun vs G1 L1 H1 q s1 => ⟨G1, L1, R, s1, q, k⟩
theorem e_meth {f : Pm} {Cl : Addr} {m : Str} {dvs : List V} {Ee : XK} {tl : TA} (h : E te σ G L fun x G1 L1 => ∃ a dx fs, x = .ref a ∧ (G1 a = some (.ins Cl dx fs) ∨ L1 a = some (.ins Cl dx fs)) ∧ fs.lookup m = none ∧ A tl σ G1 L1 fun vs G2 L2 => f (x :: (vs ++ dvs)) G2 L2 R) : E (tMeth Cl m (Spt f) dvs Ee te tl) σ G L R := fun H Q s k =>
  h H _ s fun x G1 L1 H1 ⟨a, dx, fs, e, ha, l, q⟩ s1 => ⟨a, dx, fs, e, ha.elim (s1.g _ _) (s1.l _ _), l, q H1 _ s1 fun vs G2 L2 H2 q2 s2 => ⟨G2, L2, R, s2, q2, k⟩⟩
theorem e_make {f : Pm} {Cl : Addr} {dvs : List V} {Ee : XK} {tl : TA} (h : A tl σ G L fun vs G1 L1 => ∀ x dx, G1 x = none → L1 x = none → f (.ref x :: (vs ++ dvs)) G1 (upd L1 x (.ins Cl dx [])) fun w G2 L2 => w = .non ∧ R (.ref x) G2 L2) : E (tMake Cl (Spt f) dvs Ee tl) σ G L R := fun H Q s k =>
  h H _ s fun vs G1 L1 H1 q s1 => fun x dx hx hd ne => ⟨G1, upd L1 x (.ins Cl dx []), _, (s1.newH hd).newL (by rw [upd_ne ne.symm]; exact hx), q x dx (s1.free hx).1 (s1.free hx).2, fun w G2 L2 H2 ⟨e, q2⟩ s2 => ⟨e, k _ _ _ _ q2 s2⟩⟩

/-! ### statements -/
theorem s_next (h : d.nx σ G L) : S tNext d σ G L := fun H D' s k => k.nx _ _ _ _ h s
theorem s_seq (h : S ts { d with nx := fun σ' G' L' => S us d σ' G' L' } σ G L) : S (tSeq ts us) d σ G L := fun H D' s k => h H _ s ⟨fun σ' G' L' H' q s' => q H' D' s' k, k.rt, k.bk, k.ct⟩
theorem s_asg {g : TG} (h : E te σ G L fun w G1 L1 => Tg g w σ G1 L1 d.nx) : S (tAsg te g) d σ G L := fun H D' s k => h H _ s fun w G1 L1 H1 q s1 => q H1 _ s1 k.nx
theorem g_name {i : Nat} {N : L2.St → Hp → Hp → Prop} (h : N (σ.set i (some v)) G L) : Tg (gName i) v σ G L N := fun H Q s k => k _ _ _ _ h s
theorem g_tup {n : Nat} {gs : TGs} {a : Addr} {xs : List V} {N : L2.St → Hp → Hp → Prop} (hx : SqT K (Un G L) a xs) (hn : xs.length = n) (h : Tgs gs xs σ G L N) : Tg (gTup K n gs) (.ref a) σ G L N := fun H Q s k => ⟨a, xs, rfl, sqt_ex s.u hx, hn, h H Q s k⟩
theorem gs_nil {N : L2.St → Hp → Hp → Prop} (h : N σ G L) : Tgs gNil [] σ G L N := fun H Q s k => ⟨rfl, k _ _ _ _ h s⟩
theorem gs_cons {g : TG} {gs : TGs} {vs : List V} {N : L2.St → Hp → Hp → Prop} (h : Tg g v σ G L fun σ' G' L' => Tgs gs vs σ' G' L' N) : Tgs (gCons g gs) (v :: vs) σ G L N := fun H Q s k => ⟨v, vs, rfl, h H _ s fun σ' G' L' H' q s' => q H' Q s' k⟩
theorem s_drop (h : E te σ G L fun _ G1 L1 => d.nx σ G1 L1) : S (tDrop te) d σ G L := fun H D' s k => h H _ s fun _ G1 L1 H1 q s1 => k.nx _ _ _ _ q s1
theorem s_ret (h : E te σ G L d.rt) : S (tRet te) d σ G L := fun H D' s k => h H _ s k.rt
theorem s_retN (h : d.rt .non G L) : S tRetN d σ G L := fun H D' s k => k.rt _ _ _ _ h s
theorem s_if (h : B t σ G L fun b G1 L1 => (b = true → S ts d σ G1 L1) ∧ (b = false → S us d σ G1 L1)) : S (tIfS t ts us) d σ G L := fun H D' s k => h H _ s fun b G1 L1 H1 q s1 => by
  cases b with
  | true => exact q.1 rfl H1 D' s1 k
  | false => exact q.2 rfl H1 D' s1 k
theorem s_break (h : d.bk σ G L) : S tBreak d σ G L := fun H D' s k => k.bk _ _ _ _ h s
theorem s_cont (h : d.ct σ G L) : S tCont d σ G L := fun H D' s k => k.ct _ _ _ _ h s
theorem s_par {i j : Nat} {tl : TA} (h : A tl σ G L fun vs G1 L1 => ∃ v w, vs = [v, w] ∧ d.nx ((σ.set i (some v)).set j (some w)) G1 L1) : S (tPar i j tl) d σ G L := fun H D' s k => h H _ s fun vs G1 L1 H1 ⟨v, w, e, q⟩ s1 => ⟨v, w, e, k.nx _ _ _ _ q s1⟩
/-- a field stored, the instance owned -/
theorem s_fld {f : Str} (h : E tb σ G L fun w G1 L1 => E ta σ G1 L1 fun x G2 L2 => ∃ a C dx fs, x = .ref a ∧ L2 a = some (.ins C dx fs) ∧ Cls K C ∧ NoAttr K C f ∧ fs.length < 1000 ∧ d.nx σ G2 (upd L2 a (.ins C dx (putF f w fs)))) : S (sFld K ta tb f) d σ G L := fun H D' s k =>
  h H _ s fun w G1 L1 H1 q s1 => q H1 _ s1 fun x G2 L2 H2 ⟨a, C, dx, fs, e, ha, c, n, l, q2⟩ s2 => ⟨a, C, dx, fs, e, s2.l _ _ ha, c, n, l, k.nx _ _ _ _ q2 (s2.mut ha)⟩
/-- an item stored, the list owned -/
theorem g_setL {to ti : TE} {N : L2.St → Hp → Hp → Prop} (h : E to σ G L fun o G1 L1 => E ti σ G1 L1 fun i G2 L2 => ∃ p xs k j, o = .ref p ∧ i = .int k ∧ L2 p = some (.lst xs) ∧ ixN xs.length k = some j ∧ N σ G2 (upd L2 p (.lst (xs.set j v)))) : Tg (gSub to ti rSetL) v σ G L N := fun H Q s k =>
  h H _ s fun o G1 L1 H1 q s1 => q H1 _ s1 fun i G2 L2 H2 ⟨p, xs, z, j, e1, e2, hl, hj, q2⟩ s2 => ⟨p, xs, z, j, e1, e2, s2.l _ _ hl, hj, k _ _ _ _ q2 (s2.mut hl)⟩
theorem s_while (W : Nat → L2.St → Hp → Hp → Prop) (m0 : Nat) (h0 : W m0 σ G L)
    (hs : ∀ m σ G L, W m σ G L → B t σ G L fun b G1 L1 => (b = true → S ts { d with nx := fun σ' G' L' => ∃ m', m' < m ∧ W m' σ' G' L', ct := fun σ' G' L' => ∃ m', m' < m ∧ W m' σ' G' L', bk := d.nx } σ G1 L1) ∧ (b = false → d.nx σ G1 L1)) :
    S (tWhile t ts) d σ G L := fun H D' s k => by
  refine ⟨fun m σ' H' => ∃ G' L', Sep G' L' H' ∧ W m σ' G' L', ⟨m0, G, L, s, h0⟩, ?_⟩
  rintro m σ' H' ⟨G', L', s', w⟩
  refine hs m σ' G' L' w H' _ s' fun b G1 L1 H1 q s1 => ?_
  cases b with
  | true =>
    rw [if_pos rfl]
    refine ⟨fun σ2 H2 => ∃ m', m' < m ∧ ∃ G2 L2, Sep G2 L2 H2 ∧ W m' σ2 G2 L2, fun σ2 H2 ⟨m', hm, q⟩ => ⟨m', hm, q⟩, ?_⟩
    exact q.1 rfl H1 _ s1 ⟨fun σ2 G2 L2 H2 ⟨m', hm, w2⟩ s2 => ⟨m', hm, G2, L2, s2, w2⟩, k.rt, k.nx, fun σ2 G2 L2 H2 ⟨m', hm, w2⟩ s2 => ⟨m', hm, G2, L2, s2, w2⟩⟩
  | false =>
    rw [if_neg Bool.false_ne_true]
    exact k.nx _ _ _ _ (q.2 rfl) s1
theorem s_for {wi : TI} {g : TG} (h : Wk wi σ G L fun n item G1 L1 => ∃ Pv : Nat → L2.St → Hp → Hp → Prop, Pv 0 σ G1 L1 ∧
      (∀ i σ G2 L2, i < n → Ex G1 G2 → Pv i σ G2 L2 → item i G2 L2 fun x G3 L3 => Tg g x σ G3 L3 fun σ4 G4 L4 => S ts { d with nx := fun σ' G' L' => Ex G1 G' ∧ Pv (i + 1) σ' G' L', ct := fun σ' G' L' => Ex G1 G' ∧ Pv (i + 1) σ' G' L', bk := d.nx } σ4 G4 L4) ∧
      (∀ σ G2 L2, Ex G1 G2 → Pv n σ G2 L2 → d.nx σ G2 L2)) : S (tFor wi g ts) d σ G L := fun H D' s k => by
  refine h H _ s fun n item G1 L1 H1 J ⟨Pv, h0, hs, hd⟩ s1 go stop => ?_
  refine ⟨fun i m σ' H' => m = n - i ∧ i ≤ n ∧ ∃ G' L', Sep G' L' H' ∧ Ex G1 G' ∧ Pv i σ' G' L', ⟨n, by simp, Nat.zero_le _, G1, L1, s1, Ex.refl _, h0⟩, ?_⟩
  rintro i m σ' H' ⟨rfl, hi, G', L', s', ex, p⟩
  by_cases hlt : i < n
  · obtain ⟨g1, g2⟩ := go i G' L' H' hlt ex s'
    refine .inr ⟨g1, fun σ2 H2 => ∃ G2 L2, Sep G2 L2 H2 ∧ Ex G1 G2 ∧ Pv (i + 1) σ2 G2 L2, fun σ2 H2 q => ⟨n - (i + 1), by omega, rfl, hlt, q⟩, fun x H3 y => ?_⟩
    obtain ⟨G3, L3, s3, q3⟩ := g2 x H3 y _ (hs i σ' G' L' hlt ex p)
    refine q3 H3 _ s3 fun σ4 G4 L4 H4 q4 s4 => ?_
    exact q4 H4 _ s4 ⟨fun σ5 G5 L5 H5 ⟨e5, w5⟩ s5 => ⟨G5, L5, s5, e5, w5⟩, k.rt, k.nx, fun σ5 G5 L5 H5 ⟨e5, w5⟩ s5 => ⟨G5, L5, s5, e5, w5⟩⟩
  · have e : i = n := by omega
    subst e
    exact .inl ⟨stop G' L' H' ex s', k.nx _ _ _ _ (hd σ' G' L' ex p) s'⟩
/-- a comprehension: D the new list, owned while it is made -/
theorem e_lc {wi : TI} {g : TG} {tt : TT} {ws : List Nat} (h : Wk wi σ G L fun n item G1 L1 => ∃ Pv : Nat → List V → Hp → Hp → Prop, Pv 0 [] G1 L1 ∧
      (∀ i vs G2 L2 D, i < n → Ex G1 G2 → Pv i vs G2 L2 → G2 D = none → L2 D = none → item i G2 (upd L2 D (.lst vs)) fun x G3 L3 => Tg g x (wipe σ ws) G3 L3 fun σ4 G4 L4 => wipe σ4 ws = wipe σ ws ∧ B tt σ4 G4 L4 fun b G5 L5 =>
        (b = true → E te σ4 G5 L5 fun y G6 L6 => vs.length < sizeLine ∧ ∃ L7, L6 = upd L7 D (.lst vs) ∧ L7 D = none ∧ Ex G1 G6 ∧ Pv (i + 1) (vs ++ [y]) G6 L7) ∧
        (b = false → ∃ L7, L5 = upd L7 D (.lst vs) ∧ L7 D = none ∧ Ex G1 G5 ∧ Pv (i + 1) vs G5 L7)) ∧
      (∀ vs G2 L2 D, Ex G1 G2 → Pv n vs G2 L2 → G2 D = none → L2 D = none → R (.ref D) G2 (upd L2 D (.lst vs)))) : E (tLc wi g tt te ws) σ G L R := fun H Q s k => by
  refine h H _ s fun n item G1 L1 H1 J ⟨Pv, h0, hs, hd⟩ s1 go stop D hD => ?_
  refine ⟨fun i m H' => m = n - i ∧ i ≤ n ∧ ∃ vs G' L', Sep G' (upd L' D (.lst vs)) H' ∧ L' D = none ∧ Ex G1 G' ∧ Pv i vs G' L', ⟨n, by simp, Nat.zero_le _, [], G1, L1, s1.newL hD, (s1.free hD).2, Ex.refl _, h0⟩, ?_⟩
  rintro i m H' ⟨rfl, hi, vs, G', L', s', l', ex, p⟩
  have g' : G' D = none := s'.og upd_same
  by_cases hlt : i < n
  · obtain ⟨g1, g2⟩ := go i G' _ H' hlt ex s'
    refine .inr ⟨g1, fun H2 => ∃ vs G2 L2, Sep G2 (upd L2 D (.lst vs)) H2 ∧ L2 D = none ∧ Ex G1 G2 ∧ Pv (i + 1) vs G2 L2, fun H2 q => ⟨n - (i + 1), by omega, rfl, hlt, q⟩, fun x H3 y => ?_⟩
    obtain ⟨G3, L3, s3, q3⟩ := g2 x H3 y _ (hs i vs G' L' D hlt ex p g' l')
    refine q3 H3 _ s3 fun σ4 G4 L4 H4 ⟨w4, q4⟩ s4 => ⟨w4, ?_⟩
    refine q4 H4 _ s4 fun b G5 L5 H5 q5 s5 => ?_
    cases b with
    | true =>
      rw [if_pos rfl]
      refine q5.1 rfl H5 _ s5 fun y G6 L6 H6 ⟨hz, L7, e7, l7, ex7, p7⟩ s6 => ?_
      subst e7
      refine ⟨vs, s6.l _ _ upd_same, hz, vs ++ [y], G6, L7, ?_, l7, ex7, p7⟩
      have q := s6.mut (o := .lst (vs ++ [y])) (upd_same (H := L7))
      rw [upd_upd] at q
      exact q
    | false =>
      rw [if_neg Bool.false_ne_true]
      obtain ⟨L7, e7, l7, ex7, p7⟩ := q5.2 rfl
      subst e7
      exact ⟨vs, G5, L7, s5, l7, ex7, p7⟩
  · have e : i = n := by omega
    subst e
    exact .inl ⟨stop G' _ H' ex s', k _ _ _ _ (hd vs G' L' D ex p g' l') s'⟩

/-- .. known when it is made -/
theorem e_lcG {wi : TI} {g : TG} {tt : TT} {ws : List Nat} (h : Wk wi σ G L fun n item G1 L1 => ∃ Pv : Nat → List V → Hp → Hp → Prop, Pv 0 [] G1 L1 ∧
      (∀ i vs G2 L2 D, i < n → Ex G1 G2 → Pv i vs G2 L2 → G2 D = none → L2 D = none → item i G2 (upd L2 D (.lst vs)) fun x G3 L3 => Tg g x (wipe σ ws) G3 L3 fun σ4 G4 L4 => wipe σ4 ws = wipe σ ws ∧ B tt σ4 G4 L4 fun b G5 L5 =>
        (b = true → E te σ4 G5 L5 fun y G6 L6 => vs.length < sizeLine ∧ ∃ L7, L6 = upd L7 D (.lst vs) ∧ L7 D = none ∧ Ex G1 G6 ∧ Pv (i + 1) (vs ++ [y]) G6 L7) ∧
        (b = false → ∃ L7, L5 = upd L7 D (.lst vs) ∧ L7 D = none ∧ Ex G1 G5 ∧ Pv (i + 1) vs G5 L7)) ∧
      (∀ vs G2 L2 D G3, Ex G1 G2 → Pv n vs G2 L2 → Ex G2 G3 → G3 D = some (.lst vs) → R (.ref D) G3 L2)) : E (tLc wi g tt te ws) σ G L R := fun H Q s k => by
  refine h H _ s fun n item G1 L1 H1 J ⟨Pv, h0, hs, hd⟩ s1 go stop D hD => ?_
  refine ⟨fun i m H' => m = n - i ∧ i ≤ n ∧ ∃ vs G' L', Sep G' (upd L' D (.lst vs)) H' ∧ L' D = none ∧ Ex G1 G' ∧ Pv i vs G' L', ⟨n, by simp, Nat.zero_le _, [], G1, L1, s1.newL hD, (s1.free hD).2, Ex.refl _, h0⟩, ?_⟩
  rintro i m H' ⟨rfl, hi, vs, G', L', s', l', ex, p⟩
  have g' : G' D = none := s'.og upd_same
  by_cases hlt : i < n
  · obtain ⟨g1, g2⟩ := go i G' _ H' hlt ex s'
    refine .inr ⟨g1, fun H2 => ∃ vs G2 L2, Sep G2 (upd L2 D (.lst vs)) H2 ∧ L2 D = none ∧ Ex G1 G2 ∧ Pv (i + 1) vs G2 L2, fun H2 q => ⟨n - (i + 1), by omega, rfl, hlt, q⟩, fun x H3 y => ?_⟩
    obtain ⟨G3, L3, s3, q3⟩ := g2 x H3 y _ (hs i vs G' L' D hlt ex p g' l')
    refine q3 H3 _ s3 fun σ4 G4 L4 H4 ⟨w4, q4⟩ s4 => ⟨w4, ?_⟩
    refine q4 H4 _ s4 fun b G5 L5 H5 q5 s5 => ?_
    cases b with
    | true =>
      rw [if_pos rfl]
      refine q5.1 rfl H5 _ s5 fun y G6 L6 H6 ⟨hz, L7, e7, l7, ex7, p7⟩ s6 => ?_
      subst e7
      refine ⟨vs, s6.l _ _ upd_same, hz, vs ++ [y], G6, L7, ?_, l7, ex7, p7⟩
      have q := s6.mut (o := .lst (vs ++ [y])) (upd_same (H := L7))
      rw [upd_upd] at q
      exact q
    | false =>
      rw [if_neg Bool.false_ne_true]
      obtain ⟨L7, e7, l7, ex7, p7⟩ := q5.2 rfl
      subst e7
      exact ⟨vs, G5, L7, s5, l7, ex7, p7⟩
  · have e : i = n := by omega
    subst e
    exact .inl ⟨stop G' _ H' ex s', k _ _ _ _ (hd vs G' L' D _ ex p (.new g') upd_same) (s'.freeze l')⟩

/-- an owned object is known from here on -/
theorem s_freeze {p : Addr} {o : HO} (lp : L p = none) (h : ∀ G', Ex G G' → G' p = some o → S ts d σ G' L) : S ts d σ G (upd L p o) := fun H D' s k =>
  h (upd G p o) (.new (s.og upd_same)) upd_same H D' (s.freeze lp) k
theorem e_freeze {p : Addr} {o : HO} (lp : L p = none) (h : ∀ G', Ex G G' → G' p = some o → E te σ G' L R) : E te σ G (upd L p o) R := fun H Q s k =>
  h (upd G p o) (.new (s.og upd_same)) upd_same H Q (s.freeze lp) k
/-- what is owned is not known -/
theorem s_own {p : Addr} {o : HO} (lp : L p = some o) (h : G p = none → S ts d σ G L) : S ts d σ G L := fun H D' s k => h (s.og lp) H D' s k
theorem e_own {p : Addr} {o : HO} (lp : L p = some o) (h : G p = none → E te σ G L R) : E te σ G L R := fun H Q s k => h (s.og lp) H Q s k
theorem b_own {p : Addr} {o : HO} (lp : L p = some o) (h : G p = none → B t σ G L RB) : B t σ G L RB := fun H Q s k => h (s.og lp) H Q s k

/-! ### what is walked -/
variable {RW : Nat → ItemW → Hp → Hp → Prop}
theorem wk_list (h : E te σ G L fun w G1 L1 => ∃ a xs, w = .ref a ∧ SqL K G1 a xs ∧ RW xs.length (fun i G L Q => ∀ x, xs[i]? = some x → Q x G L) G1 L1) : Wk (iList K te) σ G L RW := fun H R' s k =>
  h H _ s fun w G1 L1 H1 ⟨a, xs, e, hx, q⟩ s1 => ⟨a, e, ⟨xs, sql_ex s1.g hx⟩, k _ _ G1 L1 H1 _ q s1 (fun i G2 L2 H2 hi ex s2 => ⟨⟨xs, xs[i], sql_ex (ex.trans s2.g) hx, by simp [hi]⟩, fun x H3 y Q hq => by
    obtain ⟨rfl, y⟩ := y
    exact ⟨G2, L2, s2, hq x (y xs (sql_ex (ex.trans s2.g) hx))⟩⟩) fun G2 L2 H2 ex s2 => ⟨xs, sql_ex (ex.trans s2.g) hx, Nat.le_refl _⟩⟩
theorem wk_tup (h : E te σ G L fun w G1 L1 => ∃ a xs, w = .ref a ∧ SqT K G1 a xs ∧ RW xs.length (fun i G L Q => ∀ x, xs[i]? = some x → Q x G L) G1 L1) : Wk (iTup K te) σ G L RW := fun H R' s k =>
  h H _ s fun w G1 L1 H1 ⟨a, xs, e, hx, q⟩ s1 => ⟨a, e, ⟨xs, sqt_ex s1.g hx⟩, k _ _ G1 L1 H1 _ q s1 (fun i G2 L2 H2 hi ex s2 => ⟨⟨xs, xs[i], sqt_ex (ex.trans s2.g) hx, by simp [hi]⟩, fun x H3 y Q hq => by
    obtain ⟨rfl, y⟩ := y
    exact ⟨G2, L2, s2, hq x (y xs (sqt_ex (ex.trans s2.g) hx))⟩⟩) fun G2 L2 H2 ex s2 => ⟨xs, sqt_ex (ex.trans s2.g) hx, Nat.le_refl _⟩⟩
theorem wk_rng1 {tl : TA} (h : A tl σ G L fun vs G1 L1 => ∃ j : Int, vs = [.int j] ∧ -(2 ^ 62) ≤ j ∧ j < 2 ^ 62 ∧ RW j.toNat (fun i G L Q => Q (.int (i : Int)) G L) G1 L1) : Wk (iRng1 tl) σ G L RW := fun H R' s k =>
  h H _ s fun w G1 L1 H1 ⟨j, e, b1, b2, q⟩ s1 => ⟨j, e, b1, b2, k _ _ G1 L1 H1 _ q s1 (fun i G2 L2 H2 hi ex s2 => ⟨hi, fun x H3 y Q hq => by
    obtain ⟨rfl, rfl⟩ := y
    rw [Int.zero_add]
    exact ⟨G2, L2, s2, hq⟩⟩) fun G2 L2 H2 ex s2 => Nat.le_refl _⟩
theorem wk_rng2 {tl : TA} (h : A tl σ G L fun vs G1 L1 => ∃ a j : Int, vs = [.int a, .int j] ∧ (-(2 ^ 62) ≤ a ∧ a < 2 ^ 62 ∧ -(2 ^ 62) ≤ j ∧ j < 2 ^ 62) ∧ RW (j - a).toNat (fun i G L Q => Q (.int (a + (i : Int))) G L) G1 L1) : Wk (iRng2 tl) σ G L RW := fun H R' s k =>
  h H _ s fun w G1 L1 H1 ⟨a, j, e, b, q⟩ s1 => ⟨a, j, e, b, k _ _ G1 L1 H1 _ q s1 (fun i G2 L2 H2 hi ex s2 => ⟨hi, fun x H3 y Q hq => by
    obtain ⟨rfl, rfl⟩ := y
    exact ⟨G2, L2, s2, hq⟩⟩) fun G2 L2 H2 ex s2 => Nat.le_refl _⟩
theorem wk_rng3 {tl : TA} (h : A tl σ G L fun vs G1 L1 => ∃ (a j c : Int) (n : Nat), vs = [.int a, .int j, .int c] ∧ RgC a j c n ∧ RW n (fun i G L Q => Q (.int (a + (i : Int) * c)) G L) G1 L1) : Wk (iRng3 tl) σ G L RW := fun H R' s k =>
  h H _ s fun w G1 L1 H1 ⟨a, j, c, n, e, b, q⟩ s1 => ⟨a, j, c, n, e, b, k _ _ G1 L1 H1 _ q s1 (fun i G2 L2 H2 hi ex s2 => ⟨hi, fun x H3 y Q hq => by
    obtain ⟨rfl, rfl⟩ := y
    exact ⟨G2, L2, s2, hq⟩⟩) fun G2 L2 H2 ex s2 => Nat.le_refl _⟩
theorem wk_str (h : E te σ G L fun w G1 L1 => ∃ x : Str, w = .str x ∧ RW x.cps.size (fun i G L Q => ∀ c, x.cps[i]? = some c → Q (.str ⟨#[c]⟩) G L) G1 L1) : Wk (iStr te) σ G L RW := fun H R' s k =>
  h H _ s fun w G1 L1 H1 ⟨x, e, q⟩ s1 => ⟨x, e, k _ _ G1 L1 H1 _ q s1 (fun i G2 L2 H2 hi ex s2 => ⟨hi, fun y H3 yy Q hq => by
    obtain ⟨rfl, c, hc, rfl⟩ := yy
    exact ⟨G2, L2, s2, hq c hc⟩⟩) fun G2 L2 H2 ex s2 => Nat.le_refl _⟩
theorem wk_enum {tl : TA} (h : A tl σ G L fun vs G1 L1 => ∃ a xs, vs = [.ref a] ∧ SqL K G1 a xs ∧ RW xs.length (fun i G L Q => ∀ x p G', xs[i]? = some x → Ex G G' → G' p = some (.tup [.int (i : Int), x]) → Q (.ref p) G' L) G1 L1) : Wk (iEnum K tl) σ G L RW := fun H R' s k =>
  h H _ s fun w G1 L1 H1 ⟨a, xs, e, hx, q⟩ s1 => ⟨a, xs, e, sql_ex s1.g hx, k _ _ G1 L1 H1 _ q s1 (fun i G2 L2 H2 hi ex s2 => ⟨⟨xs, xs[i], sql_ex (ex.trans s2.g) hx, by simp [hi]⟩, fun v H3 y Q hq => by
    obtain ⟨p, x, rfl, hp, rfl, hy⟩ := y
    have := s2.free hp
    exact ⟨upd G2 p (.tup [.int (i : Int), x]), L2, s2.newG hp, hq x p _ (hy xs (sql_ex (ex.trans s2.g) hx)) (.new this.1) upd_same⟩⟩) fun G2 L2 H2 ex s2 => ⟨xs, sql_ex (ex.trans s2.g) hx, Nat.le_refl _⟩⟩

/-! ### operators by values -/
theorem o_I0 {g : Int → Int → V} {i j : Int} (q : R (g i j) G L) : O (rI0 g) (.int i) (.int j) G L R := fun H Q s k => ⟨i, j, rfl, rfl, k _ _ _ _ q s⟩
theorem u_neg {i : Int} (q : R (.int (-i)) G L) : U (rU fun i => .int (-i)) (.int i) G L R := fun H Q s k => ⟨i, rfl, k _ _ _ _ q s⟩
theorem o_I {c : Int → Int → Prop} {g : Int → Int → V} {i j : Int} (hc : c i j) (q : R (g i j) G L) : O (rI c g) (.int i) (.int j) G L R := fun H Q s k => ⟨i, j, rfl, rfl, hc, k _ _ _ _ q s⟩
theorem o_eq (h : scal x y = true) (q : R (.bl (decide (x = y))) G L) : O rEq x y G L R := fun H Q s k => ⟨h, k _ _ _ _ q s⟩
theorem o_ne (h : scal x y = true) (q : R (.bl (!decide (x = y))) G L) : O rNe x y G L R := fun H Q s k => ⟨h, k _ _ _ _ q s⟩
theorem o_eqD {a b : PyData} (h1 : Dp K (Un G L) x a) (h2 : Dp K (Un G L) y b) (sa : SeqAt.shaped a = true) (sb : SeqAt.shaped b = true) (q : R (.bl (PyData.eqv a b)) G L) : O (rEqD K) x y G L R := fun H Q s k => ⟨a, b, dp_ex s.u _ _ h1, dp_ex s.u _ _ h2, sa, sb, k _ _ _ _ q s⟩
theorem o_neD {a b : PyData} (h1 : Dp K (Un G L) x a) (h2 : Dp K (Un G L) y b) (sa : SeqAt.shaped a = true) (sb : SeqAt.shaped b = true) (q : R (.bl (!PyData.eqv a b)) G L) : O (rNeD K) x y G L R := fun H Q s k => ⟨a, b, dp_ex s.u _ _ h1, dp_ex s.u _ _ h2, sa, sb, k _ _ _ _ q s⟩
theorem o_inD {a : PyData} {bs : List PyData} (h1 : Dp K (Un G L) x a) (h2 : Dp K (Un G L) y (.list bs)) (sa : SeqAt.shaped a = true) (sb : SeqAt.shaped (.list bs) = true) (q : R (.bl (bs.any fun z => PyData.eqv z a)) G L) : O (rInD K) x y G L R := fun H Q s k => ⟨a, bs, dp_ex s.u _ _ h1, dp_ex s.u _ _ h2, sa, sb, k _ _ _ _ q s⟩
theorem o_notInD {a : PyData} {bs : List PyData} (h1 : Dp K (Un G L) x a) (h2 : Dp K (Un G L) y (.list bs)) (sa : SeqAt.shaped a = true) (sb : SeqAt.shaped (.list bs) = true) (q : R (.bl (!bs.any fun z => PyData.eqv z a)) G L) : O (rNotInD K) x y G L R := fun H Q s k => ⟨a, bs, dp_ex s.u _ _ h1, dp_ex s.u _ _ h2, sa, sb, k _ _ _ _ q s⟩
/-- in, not in, over flat things -/
theorem o_in {neg : Bool} {p : Addr} {xs : List V} (h : SqL K (Un G L) p xs ∨ SqT K (Un G L) p xs) (hx : flatV x = true) (ha : xs.all flatV = true) (q : R (.bl (if neg then !inV x xs else inV x xs)) G L) : O (rIn K neg) x (.ref p) G L R := fun H Q s k =>
  ⟨p, xs, rfl, h.elim (fun z => .inl (sql_ex s.u z)) (fun z => .inr (sqt_ex s.u z)), hx, ha, k _ _ _ _ q s⟩
theorem o_ixL {p : Addr} {xs : List V} {i : Int} (h : SqL K (Un G L) p xs) (ha : atI xs i = some v) (q : R v G L) : O (rIxL K) (.ref p) (.int i) G L R := fun H Q s k => ⟨p, xs, i, v, rfl, rfl, sql_ex s.u h, ha, k _ _ _ _ q s⟩
theorem o_ixT {p : Addr} {xs : List V} {i : Int} (h : SqT K (Un G L) p xs) (ha : atI xs i = some v) (q : R v G L) : O (rIxT K) (.ref p) (.int i) G L R := fun H Q s k => ⟨p, xs, i, v, rfl, rfl, sqt_ex s.u h, ha, k _ _ _ _ q s⟩
theorem o_ixS {z : Str} {i : Int} {c : Nat} (h : z.length ≤ sizeLine) (ha : atI z.cps.toList i = some c) (q : R (.str ⟨#[c]⟩) G L) : O rIxS (.str z) (.int i) G L R := fun H Q s k => ⟨z, i, c, rfl, rfl, h, ha, k _ _ _ _ q s⟩
/-- t + u of tuples, known -/
theorem o_catA {a b : Addr} {xs ys : List V} (ha : SqT K G a xs) (hb : SqT K G b ys) (hz : xs.length + ys.length ≤ sizeLine) (q : ∀ p G', Ex G G' → SqT K G' p (xs ++ ys) → R (.ref p) G' L) : O (rCatA K) (.ref a) (.ref b) G L R := fun H Q s k =>
  ⟨a, b, xs, ys, rfl, rfl, sqt_ex s.g ha, sqt_ex s.g hb, hz, fun e => k _ _ _ _ (q b G (Ex.refl G) (by rw [e]; exact hb)) s, fun _ e => k _ _ _ _ (q a G (Ex.refl G) (by rw [e, List.append_nil]; exact ha)) s,
    fun _ _ p hp => k _ _ _ _ (q p (upd G p (.tup (xs ++ ys))) (.new (s.free hp).1) (.of upd_same)) (s.newG hp)⟩
/-- xs + ys of lists: to a known one | to an owned one -/
theorem o_catG {a b : Addr} {xs ys : List V} (ha : Un G L a = some (.lst xs)) (hb : Un G L b = some (.lst ys)) (hz : xs.length + ys.length ≤ sizeLine) (q : ∀ p G', Ex G G' → G' p = some (.lst (xs ++ ys)) → R (.ref p) G' L) : O rCat (.ref a) (.ref b) G L R := fun H Q s k =>
  ⟨a, b, xs, ys, rfl, rfl, s.u _ _ ha, s.u _ _ hb, hz, fun p hp => k _ _ _ _ (q p (upd G p (.lst (xs ++ ys))) (.new (s.free hp).1) upd_same) (s.newG hp)⟩
theorem o_catL {a b : Addr} {xs ys : List V} (ha : Un G L a = some (.lst xs)) (hb : Un G L b = some (.lst ys)) (hz : xs.length + ys.length ≤ sizeLine) (q : ∀ p, G p = none → L p = none → R (.ref p) G (upd L p (.lst (xs ++ ys)))) : O rCat (.ref a) (.ref b) G L R := fun H Q s k =>
  ⟨a, b, xs, ys, rfl, rfl, s.u _ _ ha, s.u _ _ hb, hz, fun p hp => k _ _ _ _ (q p (s.free hp).1 (s.free hp).2) (s.newL hp)⟩
theorem z_list {a : Addr} {xs : List V} {lo hi : Option Int} (ha : SqL K (Un G L) a xs) (q : ∀ p G', Ex G G' → G' p = some (.lst (cutV xs lo hi)) → R (.ref p) G' L) : Z (rSlL K) (.ref a) lo hi G L R := fun H Q s k =>
  ⟨a, xs, rfl, sql_ex s.u ha, fun p hp => k _ _ _ _ (q p (upd G p (.lst (cutV xs lo hi))) (.new (s.free hp).1) upd_same) (s.newG hp)⟩
theorem z_str {z : Str} {lo hi : Option Int} (hz : z.length ≤ sizeLine) (q : R (.str (cutS z lo hi)) G L) : Z rSlS (.str z) lo hi G L R := fun H Q s k => ⟨z, rfl, hz, k _ _ _ _ q s⟩
/-- append, pop at a place, of an owned list -/
theorem m_append {l : Addr} {xs : List V} (hl : L l = some (.lst xs)) (hz : xs.length < sizeLine) (q : R .non G (upd L l (.lst (xs ++ [y])))) : M rAppend (.ref l) [y] G L R := fun H Q s k => ⟨l, xs, y, rfl, rfl, s.l _ _ hl, hz, k _ _ _ _ q (s.mut hl)⟩
theorem m_extend {l b : Addr} {xs ys : List V} (hl : L l = some (.lst xs)) (hb : Un G L b = some (.lst ys)) (hz : xs.length + ys.length ≤ sizeLine) (q : R .non G (upd L l (.lst (xs ++ ys)))) : M rExtend (.ref l) [.ref b] G L R := fun H Q s k => ⟨l, b, xs, ys, rfl, rfl, s.l _ _ hl, s.u _ _ hb, hz, k _ _ _ _ q (s.mut hl)⟩
theorem m_popAt {l : Addr} {xs : List V} {i : Int} {j : Nat} (hl : L l = some (.lst xs)) (h1 : -(2 ^ 63) ≤ i) (h2 : i < 2 ^ 63) (hj : seqIndex? i xs.length = some j) (hy : xs[j]? = some y) (q : R y G (upd L l (.lst (xs.eraseIdx j)))) : M rPopAt (.ref l) [.int i] G L R := fun H Q s k =>
  ⟨l, xs, i, j, y, rfl, rfl, s.l _ _ hl, h1, h2, hj, hy, k _ _ _ _ q (s.mut hl)⟩
theorem ty_list {p : Addr} {xs : List V} (h : SqL K G p xs) : tyV K "list" (.ref p) G := .inl ⟨rfl, xs, h⟩
end

/-! ### a def by its body -/
section
variable {Pg : Program} {w : World} {K : PySem.W.Frag} {mg : Str → Option Value} {base : Heap}
theorem okT {x qual : Str} {st : Stmt} {f : Addr} {fd : FuncData} {N ps : List Str} {k : Nat} {pm : Pm} (F : Fun K x qual st f fd) (Sc : FnScope N ps (defScope st)) (len : ∀ vs G L R, pm vs G L R → vs.length = ps.length)
    (hbody : ∀ (cdv : Value) (A : Around) (outer : List Env) (s : Shared) (H : Hp) (vs : List V) (Q : VK) (E : XK), Room k (A.deeper (envOfC qual (defScope st) s.heap.objs.size f cdv)) →
      ∃ t, PSs (cxOf CX0 Pg w K mg base N qual (defScope st) f cdv A outer s H E).nox (defBody st) t ∧ ∀ G L R, pm vs G L R → S t { nx := fun _ G L => R .non G L, rt := R } (start N vs) G L) : FnOk Pg w K mg base CX0 (k + 1) f fd ps (Spt pm) := by
  refine F.ok Sc (fun vs H Q E ⟨G, L, R, _, h, _⟩ => len vs G L R h) fun cdv A outer s H vs Q E hr ⟨G, L, R, hs, h, hk⟩ => ?_
  obtain ⟨t, ht, hb⟩ := hbody cdv A outer s H vs Q E hr
  exact ⟨t, ht, hb G L R h H _ hs ⟨fun σ G' L' H' r s' => hk _ _ _ _ r s', fun v G' L' H' r s' => hk _ _ _ _ r s', fun _ _ _ _ z => z.elim, fun _ _ _ _ z => z.elim⟩⟩
end
end T

set_option Elab.async false
set_option linter.all false
set_option maxRecDepth 100000
set_option maxHeartbeats 4000000
/-! Rules over data of any depth: ==, !=, in, not in, <, list.remove; and the values of built-ins in the two-heap layer. -/
namespace T
open PySem PySem.Spec PyProof.Rows L2

/-! ### data: order, equality -/
mutual
def ltb : PyData → PyData → Bool
  | .int i, .int j => decide (i < j)
  | .str x, .str y => decide (x.cps.toList < y.cps.toList)
  | .tuple xs, .tuple ys => ltbAll xs ys
  | _, _ => false
def ltbAll : List PyData → List PyData → Bool
  | [], [] => false
  | [], _ :: _ => true
  | _ :: _, [] => false
  | x :: xs, y :: ys => if PyData.eqv x y = true then ltbAll xs ys else ltb x y
end
mutual
def cmpb : PyData → PyData → Bool
  | .int _, .int _ => true
  | .str _, .str _ => true
  | .tuple xs, .tuple ys => cmpbAll xs ys
  | _, _ => false
def cmpbAll : List PyData → List PyData → Bool
  | [], _ => true
  | _ :: _, [] => true
  | x :: xs, y :: ys => cmpb x y && cmpbAll xs ys
end
mutual
/-- no truth value in it -/
def nob : PyData → Bool
  | .none => true
  | .bool _ => false
  | .int _ => true
  | .str _ => true
  | .list xs => nobAll xs
  | .tuple xs => nobAll xs
  | .dict _ => false
def nobAll : List PyData → Bool
  | [] => true
  | x :: xs => nob x && nobAll xs
end
mutual
theorem eqv_iff : ∀ (d e : PyData), nob d = true → nob e = true → (PyData.eqv d e = true ↔ d = e)
  | .none, e, _, he => by cases e <;> simp_all [PyData.eqv, nob]
  | .bool _, e, hd, _ => by simp [nob] at hd
  | .int i, e, _, he => by cases e <;> simp_all [PyData.eqv, nob]
  | .str x, e, _, he => by cases e <;> simp_all [PyData.eqv, nob]
  | .list xs, e, hd, he => by
    cases e with
    | list ys =>
      have h := eqvAll_iff xs ys (by simpa [nob] using hd) (by simpa [nob] using he)
      simp only [PyData.eqv, PyData.list.injEq]
      exact h
    | _ => simp_all [PyData.eqv, nob]
  | .tuple xs, e, hd, he => by
    cases e with
    | tuple ys =>
      have h := eqvAll_iff xs ys (by simpa [nob] using hd) (by simpa [nob] using he)
      simp only [PyData.eqv, PyData.tuple.injEq]
      exact h
    | _ => simp_all [PyData.eqv, nob]
  | .dict _, e, hd, _ => by simp [nob] at hd
theorem eqvAll_iff : ∀ (xs ys : List PyData), nobAll xs = true → nobAll ys = true → (PyData.eqvAll xs ys = true ↔ xs = ys)
  | [], ys, _, _ => by cases ys <;> simp [PyData.eqvAll]
  | x :: xs, ys, hx, hy => by
    cases ys with
    | nil => simp [PyData.eqvAll]
    | cons y ys =>
      have hx' : nob x = true ∧ nobAll xs = true := by simpa [nobAll] using hx
      have hy' : nob y = true ∧ nobAll ys = true := by simpa [nobAll] using hy
      have h1 := eqv_iff x y hx'.1 hy'.1
      have h2 := eqvAll_iff xs ys hx'.2 hy'.2
      simp only [PyData.eqvAll, Bool.and_eq_true, List.cons.injEq]
      rw [h1, h2]
end
theorem eqv_dec {d e : PyData} {p : Prop} [Decidable p] (hd : nob d = true) (he : nob e = true) (h : d = e ↔ p) : PyData.eqv d e = decide p := by
  by_cases q : p
  · rw [decide_eq_true q]
    exact (eqv_iff d e hd he).mpr (h.mpr q)
  · rw [decide_eq_false q]
    exact Bool.eq_false_iff.mpr fun z => q (h.mp ((eqv_iff d e hd he).mp z))

/-- every item reads as its datum -/
theorem readsAll_get {h : Heap} : ∀ {vs : List Value} {ds : List PyData} {as : List Addr}, ReadsAll h vs ds as → ∀ (j : Nat) (h1 : j < vs.length), ∃ d bs, ds[j]? = some d ∧ Reads h vs[j] d bs
  | _, _, _, .nil, j, h1 => absurd h1 (by simp)
  | _, _, _, .cons r _, 0, _ => ⟨_, _, rfl, r⟩
  | _, _, _, .cons _ t, j + 1, h1 => by
    obtain ⟨d, bs, e, r⟩ := readsAll_get t j (by simpa using h1)
    exact ⟨d, bs, by simpa using e, by simpa using r⟩
theorem readsAll_len {h : Heap} : ∀ {vs : List Value} {ds : List PyData} {as : List Addr}, ReadsAll h vs ds as → vs.length = ds.length
  | _, _, _, .nil => rfl
  | _, _, _, .cons _ t => by rw [List.length_cons, List.length_cons, readsAll_len t]
theorem plainAll_get : ∀ {ds : List PyData} {j : Nat} {d : PyData}, PyData.plainAll ds = true → ds[j]? = some d → d.plain = true ∧ d.depth ≤ PyData.depthAll ds
  | [], j, d, _, e => by simp at e
  | x :: xs, 0, d, h, e => by
    have e : x = d := by simpa using e
    subst e
    have h' : x.plain = true ∧ PyData.plainAll xs = true := by simpa [PyData.plainAll] using h
    exact ⟨h'.1, by simp only [PyData.depthAll]; omega⟩
  | x :: xs, j + 1, d, h, e => by
    have h' : x.plain = true ∧ PyData.plainAll xs = true := by simpa [PyData.plainAll] using h
    have q := plainAll_get (j := j) h'.2 (by simpa using e)
    exact ⟨q.1, by simp only [PyData.depthAll]; omega⟩
theorem cmpbAll_get : ∀ {xs ys : List PyData} {j : Nat} {x y : PyData}, cmpbAll xs ys = true → xs[j]? = some x → ys[j]? = some y → cmpb x y = true
  | [], ys, j, x, y, _, e, _ => by simp at e
  | a :: xs, [], j, x, y, _, _, e => by simp at e
  | a :: xs, b :: ys, 0, x, y, h, e1, e2 => by
    have e1 : a = x := by simpa using e1
    have e2 : b = y := by simpa using e2
    subst e1 e2
    have h' : cmpb a b = true ∧ cmpbAll xs ys = true := by simpa [cmpbAll] using h
    exact h'.1
  | a :: xs, b :: ys, j + 1, x, y, h, e1, e2 => by
    have h' : cmpb a b = true ∧ cmpbAll xs ys = true := by simpa [cmpbAll] using h
    exact cmpbAll_get (j := j) h'.2 (by simpa using e1) (by simpa using e2)
theorem lexAt_off {e r : Nat → Bool} {z : Bool} : ∀ (k i : Nat), Ob.lexAt e r z (i + 1) k = Ob.lexAt (fun j => e (j + 1)) (fun j => r (j + 1)) z i k
  | 0, i => rfl
  | k + 1, i => by
    rw [Ob.lexAt_succ, Ob.lexAt_succ, lexAt_off k (i + 1)]
theorem lexAt_ltb : ∀ (xs ys : List PyData), Ob.lexAt (fun j => PyData.eqv (xs.getD j .none) (ys.getD j .none)) (fun j => ltb (xs.getD j .none) (ys.getD j .none)) (decide (xs.length < ys.length)) 0 (min xs.length ys.length) = ltbAll xs ys
  | [], [] => by simp [Ob.lexAt, ltbAll]
  | [], y :: ys => by simp [Ob.lexAt, ltbAll]
  | x :: xs, [] => by simp [Ob.lexAt, ltbAll]
  | x :: xs, y :: ys => by
    have ih := lexAt_ltb xs ys
    have e1 : min (x :: xs).length (y :: ys).length = min xs.length ys.length + 1 := by simp only [List.length_cons]; omega
    have e2 : decide ((x :: xs).length < (y :: ys).length) = decide (xs.length < ys.length) := by simp
    rw [e1, e2, Ob.lexAt_succ, lexAt_off]
    show (if PyData.eqv x y = true then Ob.lexAt (fun j => PyData.eqv ((x :: xs).getD (j + 1) .none) ((y :: ys).getD (j + 1) .none)) (fun j => ltb ((x :: xs).getD (j + 1) .none) ((y :: ys).getD (j + 1) .none)) (decide (xs.length < ys.length)) 0 (min xs.length ys.length) else ltb x y) = ltbAll (x :: xs) (y :: ys)
    simp only [List.getD_cons_succ, ltbAll]
    rw [ih]
/-- v < u over data -/
theorem rc_lt : ∀ (n : Nat) (d e : PyData) (A : Around) (s : Shared) (v u : Value) (as bs : List Addr), d.depth ≤ n → Reads s.heap v d as → Reads s.heap u e bs → d.plain = true → e.plain = true → cmpb d e = true → A.units + 1 + n < cLine → Ob.RcOp .Lt A s v u (ltb d e) := by
  intro n
  induction n with
  | zero =>
    intro d e A s v u as bs hn rv ru pd pe hc hu
    cases rv with
    | int i t =>
      cases ru with
      | int j t' => simp only [ltb]; exact Ob.RcOp.lt_int _ _ _ _
      | _ => simp [cmpb] at hc
    | str x t =>
      cases ru with
      | str y t' => simp only [ltb]; exact fun _ _ _ _ h => PyProof.Rows.lt_str (by simpa using h)
      | _ => simp [cmpb] at hc
    | tuple => simp [PyData.depth] at hn
    | _ => simp [cmpb] at hc
  | succ n ih =>
    intro d e A s v u as bs hn rv ru pd pe hc hu
    cases rv with
    | int i t =>
      cases ru with
      | int j t' => simp only [ltb]; exact Ob.RcOp.lt_int _ _ _ _
      | _ => simp [cmpb] at hc
    | str x t =>
      cases ru with
      | str y t' => simp only [ltb]; exact fun _ _ _ _ h => PyProof.Rows.lt_str (by simpa using h)
      | _ => simp [cmpb] at hc
    | @tuple l o its n1 xs as1 h1 h2 h3 h4 =>
      cases ru with
      | @tuple b o2 its2 n2 ys bs1 k1 k2 k3 k4 =>
        have p1 : PyData.plainAll xs = true := by simpa [PyData.plain] using pd
        have p2 : PyData.plainAll ys = true := by simpa [PyData.plain] using pe
        have c1 : cmpbAll xs ys = true := by simpa [cmpb] using hc
        have d1 : PyData.depthAll xs ≤ n := by simp [PyData.depth] at hn; omega
        have l1 := readsAll_len h4
        have l2 := readsAll_len k4
        simp only [Array.length_toList] at l1 l2
        have R := Ob.RcOp.tuples_lt (A := A) (s := s) (l := l) (b := b) (items := its) (items2 := its2) (e := fun j => PyData.eqv (xs.getD j .none) (ys.getD j .none)) (r := fun j => ltb (xs.getD j .none) (ys.getD j .none)) ⟨o, h1, h2, n1, h3⟩ ⟨o2, k1, k2, n2, k3⟩ (by omega)
          (fun j j1 j2 => by
            obtain ⟨x, as', ex, rx⟩ := readsAll_get h4 j (by simpa using j1)
            obtain ⟨y, bs', ey, ry⟩ := readsAll_get k4 j (by simpa using j2)
            have ex' : xs.getD j .none = x := by rw [List.getD_eq_getElem?_getD, ex]; rfl
            have ey' : ys.getD j .none = y := by rw [List.getD_eq_getElem?_getD, ey]; rfl
            rw [ex', ey']
            have q1 := plainAll_get p1 ex
            have q2 := plainAll_get p2 ey
            refine SeqAt.eqAt_plain x y A.in1 s _ _ as' bs' (by simpa using rx) (by simpa using ry) q1.1 q2.1 ?_
            show A.units + 1 + min x.depth y.depth < cLine
            omega) (fun j j1 j2 _ => by
            obtain ⟨x, as', ex, rx⟩ := readsAll_get h4 j (by simpa using j1)
            obtain ⟨y, bs', ey, ry⟩ := readsAll_get k4 j (by simpa using j2)
            have ex' : xs.getD j .none = x := by rw [List.getD_eq_getElem?_getD, ex]; rfl
            have ey' : ys.getD j .none = y := by rw [List.getD_eq_getElem?_getD, ey]; rfl
            rw [ex', ey']
            have q1 := plainAll_get p1 ex
            have q2 := plainAll_get p2 ey
            refine ih x y A.in1 s _ _ as' bs' (by omega) (by simpa using rx) (by simpa using ry) q1.1 q2.1 (cmpbAll_get c1 ex ey) ?_
            show A.units + 1 + 1 + n < cLine
            omega)
        rw [l1, l2, lexAt_ltb] at R
        simp only [ltb]
        exact R
      | _ => simp [cmpb] at hc
    | _ => simp [cmpb] at hc

/-! ### the operators -/
def okD (d : PyData) : Prop := d.plain = true ∧ d.depth ≤ 60
section
variable {X : Cx}
def rEqP (K : PySem.W.Frag) : R2 := fun x y H Q => ∃ d e, Dp K H x d ∧ Dp K H y e ∧ okD d ∧ okD e ∧ Q (.bl (PyData.eqv d e)) H
def rNeP (K : PySem.W.Frag) : R2 := fun x y H Q => ∃ d e, Dp K H x d ∧ Dp K H y e ∧ okD d ∧ okD e ∧ Q (.bl (!PyData.eqv d e)) H
def rInP (K : PySem.W.Frag) : R2 := fun x y H Q => ∃ d ds, Dp K H x d ∧ (Dp K H y (.list ds) ∨ Dp K H y (.tuple ds)) ∧ okD d ∧ PyData.plainAll ds = true ∧ Q (.bl (ds.any fun z => PyData.eqv z d)) H
def rNotInP (K : PySem.W.Frag) : R2 := fun x y H Q => ∃ d ds, Dp K H x d ∧ (Dp K H y (.list ds) ∨ Dp K H y (.tuple ds)) ∧ okD d ∧ PyData.plainAll ds = true ∧ Q (.bl (!ds.any fun z => PyData.eqv z d)) H
def rLtP (K : PySem.W.Frag) : R2 := fun x y H Q => ∃ d e, Dp K H x d ∧ Dp K H y e ∧ okD d ∧ okD e ∧ cmpb d e = true ∧ Q (.bl (ltb d e)) H
theorem op_eqP (hu : X.A.units + 64 < cLine) : OpR X (compareOp .Eq) (rEqP X.K) := by
  intro pins s σ H x y v u Q I rx ry h
  obtain ⟨d, e, hd, he, ⟨pd, dd⟩, ⟨pe, de⟩, q⟩ := h
  obtain ⟨as, r1⟩ := Dp.reads I d x v hd rx
  obtain ⟨bs, r2⟩ := Dp.reads I e y u he ry
  exact SeqAt.eq_plain r1 r2 pd pe (by omega) ⟨.bl _, H, I, rfl, q⟩
theorem op_neP (hu : X.A.units + 64 < cLine) : OpR X (compareOp .NotEq) (rNeP X.K) := by
  intro pins s σ H x y v u Q I rx ry h
  obtain ⟨d, e, hd, he, ⟨pd, dd⟩, ⟨pe, de⟩, q⟩ := h
  obtain ⟨as, r1⟩ := Dp.reads I d x v hd rx
  obtain ⟨bs, r2⟩ := Dp.reads I e y u he ry
  exact SeqAt.ne_plain r1 r2 pd pe (by omega) ⟨.bl _, H, I, rfl, q⟩
theorem op_inP (hu : X.A.units + 64 < cLine) : OpR X (compareOp .In) (rInP X.K) := by
  intro pins s σ H x y v u Q I rx ry h
  obtain ⟨d, ds, hd, he, ⟨pd, dd⟩, pe, q⟩ := h
  obtain ⟨as, r1⟩ := Dp.reads I d x v hd rx
  rcases he with he | he
  · obtain ⟨bs, r2⟩ := Dp.reads I (.list ds) y u he ry
    exact SeqAt.in_list_data r2 r1 pe pd (by omega) ⟨.bl _, H, I, rfl, q⟩
  · obtain ⟨bs, r2⟩ := Dp.reads I (.tuple ds) y u he ry
    exact SeqAt.in_tuple_data r2 r1 pe pd (by omega) ⟨.bl _, H, I, rfl, q⟩
theorem op_notInP (hu : X.A.units + 64 < cLine) : OpR X (compareOp .NotIn) (rNotInP X.K) := by
  intro pins s σ H x y v u Q I rx ry h
  obtain ⟨d, ds, hd, he, ⟨pd, dd⟩, pe, q⟩ := h
  obtain ⟨as, r1⟩ := Dp.reads I d x v hd rx
  rcases he with he | he
  · obtain ⟨bs, r2⟩ := Dp.reads I (.list ds) y u he ry
    exact SeqAt.notIn_list_data r2 r1 pe pd (by omega) ⟨.bl _, H, I, rfl, q⟩
  · obtain ⟨bs, r2⟩ := Dp.reads I (.tuple ds) y u he ry
    exact SeqAt.notIn_tuple_data r2 r1 pe pd (by omega) ⟨.bl _, H, I, rfl, q⟩
theorem op_ltP (hu : X.A.units + 64 < cLine) : OpR X (compareOp .Lt) (rLtP X.K) := by
  intro pins s σ H x y v u Q I rx ry h
  obtain ⟨d, e, hd, he, ⟨pd, dd⟩, ⟨pe, de⟩, hc, q⟩ := h
  obtain ⟨as, r1⟩ := Dp.reads I d x v hd rx
  obtain ⟨bs, r2⟩ := Dp.reads I e y u he ry
  have z : wpAny (model X.prog X.w) X.A (compareOp .Lt v u) (EP X pins σ Q) X.xe s := rc_lt 60 d e X.A s v u as bs dd r1 r2 pd pe hc (by omega) X.prog X.w X.xe (EP X pins σ Q) ⟨.bl _, H, I, rfl, q⟩
  exact z
theorem op_mul_ib : OpR X (binaryOp .Mult) (fun x y H Q => ∃ i k, x = .int i ∧ y = .bl k ∧ Q (.int (i * if k = true then (1 : Int) else 0)) H) := by
  intro pins s σ H x y v u Q I rx ry h
  obtain ⟨i, k, rfl, rfl, q⟩ := h
  obtain ⟨t, rfl⟩ := rx
  cases ry
  exact IntBool.mul_int_bool ⟨.int _, H, I.tok _, ⟨_, rfl⟩, q⟩
/-- xs.remove(y), y in xs -/
def rRemP (K : PySem.W.Frag) : V → List V → Hp → VK → Prop := fun x vs H Q => ∃ (l : Addr) (xs : List V) (y : V) (ds : List PyData) (d : PyData) (j : Nat), x = .ref l ∧ vs = [y] ∧ H l = some (.lst xs) ∧ DpAll K H xs ds ∧ Dp K H y d ∧
  PyData.plainAll ds = true ∧ okD d ∧ SeqAt.dataPlace ds d = some j ∧ Q .non (upd H l (.lst (xs.eraseIdx j)))
theorem mt_removeP (hu : X.A.units + 64 < cLine) : MtR X "list.remove" (rRemP X.K) := by
  intro pins s σ H x vs v us Q I rx rv h
  obtain ⟨l, xs, y, ds, d, j, rfl, rfl, hH, hds, hy, pds, ⟨pd, dd⟩, hj, q⟩ := h
  cases rx
  cases rv with
  | cons ry rt =>
    cases rt
    rename_i uy
    obtain ⟨z, its, n, r, hl, e⟩ := I.lstM hH
    obtain ⟨as, r1⟩ := Dp.readsAll I ds xs its hds r
    obtain ⟨bs, r2⟩ := Dp.reads I d y uy hy ry
    refine SeqAt.remove_list_data (j := j) (l := l) (vs := its.toArray) (PySem.IsL.isList e) (by simpa using r1) r2 pds pd (by omega) hj (by rw [List.size_toArray, ← hl]; exact z) ?_
    refine ⟨.non, _, I.lset (its' := its.eraseIdx j) (t' := s.toks) hH e ?_ (r.eraseIdx j) ?_, rfl, q⟩
    · show its.toArray.eraseIdxIfInBounds j = (its.eraseIdx j).toArray
      rw [List.eraseIdxIfInBounds_toArray]
    · have := len_erase xs j
      omega
end
section
variable {K : PySem.W.Frag} {σ : L2.St} {G L : Hp} {v x y : V} {R : V → Hp → Hp → Prop}
theorem o_eqP {a b : PyData} (h1 : Dp K (Un G L) x a) (h2 : Dp K (Un G L) y b) (sa : okD a) (sb : okD b) (q : R (.bl (PyData.eqv a b)) G L) : O (rEqP K) x y G L R := fun H Q s k => ⟨a, b, dp_ex s.u _ _ h1, dp_ex s.u _ _ h2, sa, sb, k _ _ _ _ q s⟩
theorem o_neP {a b : PyData} (h1 : Dp K (Un G L) x a) (h2 : Dp K (Un G L) y b) (sa : okD a) (sb : okD b) (q : R (.bl (!PyData.eqv a b)) G L) : O (rNeP K) x y G L R := fun H Q s k => ⟨a, b, dp_ex s.u _ _ h1, dp_ex s.u _ _ h2, sa, sb, k _ _ _ _ q s⟩
theorem o_ltP {a b : PyData} (h1 : Dp K (Un G L) x a) (h2 : Dp K (Un G L) y b) (sa : okD a) (sb : okD b) (hc : cmpb a b = true) (q : R (.bl (ltb a b)) G L) : O (rLtP K) x y G L R := fun H Q s k => ⟨a, b, dp_ex s.u _ _ h1, dp_ex s.u _ _ h2, sa, sb, hc, k _ _ _ _ q s⟩
theorem o_inP {a : PyData} {bs : List PyData} (h1 : Dp K (Un G L) x a) (h2 : Dp K (Un G L) y (.list bs) ∨ Dp K (Un G L) y (.tuple bs)) (sa : okD a) (sb : PyData.plainAll bs = true) (q : R (.bl (bs.any fun z => PyData.eqv z a)) G L) : O (rInP K) x y G L R := fun H Q s k =>
  ⟨a, bs, dp_ex s.u _ _ h1, h2.elim (fun z => .inl (dp_ex s.u _ _ z)) (fun z => .inr (dp_ex s.u _ _ z)), sa, sb, k _ _ _ _ q s⟩
theorem o_notInP {a : PyData} {bs : List PyData} (h1 : Dp K (Un G L) x a) (h2 : Dp K (Un G L) y (.list bs) ∨ Dp K (Un G L) y (.tuple bs)) (sa : okD a) (sb : PyData.plainAll bs = true) (q : R (.bl (!bs.any fun z => PyData.eqv z a)) G L) : O (rNotInP K) x y G L R := fun H Q s k =>
  ⟨a, bs, dp_ex s.u _ _ h1, h2.elim (fun z => .inl (dp_ex s.u _ _ z)) (fun z => .inr (dp_ex s.u _ _ z)), sa, sb, k _ _ _ _ q s⟩
theorem o_add_ib {i : Int} {k : Bool} (q : R (.int (i + b2i k)) G L) : O (fun x y H Q => ∃ i k, x = .int i ∧ y = .bl k ∧ Q (.int (i + b2i k)) H) (.int i) (.bl k) G L R := fun H Q s kk => ⟨i, k, rfl, rfl, kk _ _ _ _ q s⟩
theorem o_mul_ib {i : Int} {k : Bool} (q : R (.int (i * if k = true then (1 : Int) else 0)) G L) : O (fun x y H Q => ∃ i k, x = .int i ∧ y = .bl k ∧ Q (.int (i * if k = true then (1 : Int) else 0)) H) (.int i) (.bl k) G L R := fun H Q s kk => ⟨i, k, rfl, rfl, kk _ _ _ _ q s⟩
theorem o_add_str {i j : Str} (hz : i.length + j.length ≤ sizeLine) (q : R (.str (i ++ j)) G L) : O (fun x y H Q => ∃ i j, x = .str i ∧ y = .str j ∧ i.length + j.length ≤ sizeLine ∧ Q (.str (i ++ j)) H) (.str i) (.str j) G L R := fun H Q s kk => ⟨i, j, rfl, rfl, hz, kk _ _ _ _ q s⟩
theorem o_le_str {i j : Str} (q : R (.bl (!decide (j.cps.toList < i.cps.toList))) G L) : O (fun x y H Q => ∃ i j, x = .str i ∧ y = .str j ∧ Q (.bl (!decide (j.cps.toList < i.cps.toList))) H) (.str i) (.str j) G L R := fun H Q s kk => ⟨i, j, rfl, rfl, kk _ _ _ _ q s⟩
theorem o_notIn_sign {c : Nat} {z : Str} (q : R (.bl (!decide (c ∈ z.cps.toList))) G L) : O (fun x y H Q => ∃ (c : Nat) (z : Str), x = .str ⟨#[c]⟩ ∧ y = .str z ∧ Q (.bl (!decide (c ∈ z.cps.toList))) H) (.str ⟨#[c]⟩) (.str z) G L R := fun H Q s kk => ⟨c, z, rfl, rfl, kk _ _ _ _ q s⟩
theorem o_isN (q : R (.bl (decide (x = .non))) G L) : O (fun x y H Q => y = .non ∧ Q (.bl (decide (x = .non))) H) x .non G L R := fun H Q s kk => ⟨rfl, kk _ _ _ _ q s⟩
theorem o_notN (q : R (.bl (!decide (x = .non))) G L) : O (fun x y H Q => y = .non ∧ Q (.bl (!decide (x = .non))) H) x .non G L R := fun H Q s kk => ⟨rfl, kk _ _ _ _ q s⟩
theorem m_removeP {l : Addr} {xs : List V} {ds : List PyData} {d : PyData} {j : Nat} (hl : L l = some (.lst xs)) (hds : DpAll K G xs ds) (hy : Dp K G y d) (pds : PyData.plainAll ds = true) (pd : okD d) (hj : SeqAt.dataPlace ds d = some j)
    (q : R .non G (upd L l (.lst (xs.eraseIdx j)))) : M (rRemP K) (.ref l) [y] G L R := fun H Q s k => ⟨l, xs, y, ds, d, j, rfl, rfl, s.l _ _ hl, dpAll_ex s.g _ _ hds, dp_ex s.g _ _ hy, pds, pd, hj, k _ _ _ _ q (s.mut hl)⟩
theorem m_insert {l : Addr} {xs : List V} {i : Int} (hl : L l = some (.lst xs)) (hz : xs.length < sizeLine) (h0 : 0 ≤ i) (h1 : i < 2 ^ 63) (q : R .non G (upd L l (.lst (xs.take i.toNat ++ [y] ++ xs.drop i.toNat)))) :
    M (fun x vs H Q => ∃ (l : Addr) (xs : List V) (i : Int) (y : V), x = .ref l ∧ vs = [.int i, y] ∧ H l = some (.lst xs) ∧ xs.length < sizeLine ∧ 0 ≤ i ∧ i < 2 ^ 63 ∧ Q .non (upd H l (.lst (xs.take i.toNat ++ [y] ++ xs.drop i.toNat)))) (.ref l) [.int i, y] G L R := fun H Q s k =>
  ⟨l, xs, i, y, rfl, rfl, s.l _ _ hl, hz, h0, h1, k _ _ _ _ q (s.mut hl)⟩
theorem m_join {a : Str} {p : Addr} {ys : List Str} (hp : SqL K (Un G L) p (ys.map V.str)) (hz : (ys.map (·.length)).sum + ys.length * a.length ≤ 16777216) (q : R (.str (Txt.join a ys)) G L) :
    M (fun x xs H Q => ∃ a p, ∃ ys : List Str, x = .str a ∧ xs = [.ref p] ∧ (SqL K H p (ys.map V.str) ∨ SqT K H p (ys.map V.str)) ∧ (ys.map (·.length)).sum + ys.length * a.length ≤ 16777216 ∧ Q (.str (Txt.join a ys)) H) (.str a) [.ref p] G L R := fun H Q s k =>
  ⟨a, p, ys, rfl, rfl, .inl (sql_ex s.u hp), hz, k _ _ _ _ q s⟩
theorem c_abs {i : Int} (q : R (.int (if i < 0 then -i else i)) G L) : C (fun xs H Q => ∃ i, xs = [.int i] ∧ Q (.int (if i < 0 then -i else i)) H) [.int i] G L R := fun H Q s k => ⟨i, rfl, k _ _ _ _ q s⟩
theorem c_int {i : Int} (q : R (.int i) G L) : C (fun xs H Q => (∃ i, xs = [.int i] ∧ Q (.int i) H) ∨ ∃ k, xs = [.bl k] ∧ Q (.int (if k then 1 else 0)) H) [.int i] G L R := fun H Q s k => .inl ⟨i, rfl, k _ _ _ _ q s⟩
theorem c_len_seq {p : Addr} {xs : List V} (h : SqL K (Un G L) p xs ∨ SqT K (Un G L) p xs) (q : R (.int xs.length) G L) : C (fun xs H Q => ∃ p ys, xs = [.ref p] ∧ (SqL K H p ys ∨ SqT K H p ys) ∧ Q (.int ys.length) H) [.ref p] G L R := fun H Q s k =>
  ⟨p, xs, rfl, h.elim (fun z => .inl (sql_ex s.u z)) (fun z => .inr (sqt_ex s.u z)), k _ _ _ _ q s⟩
theorem c_len_str {z : Str} (hz : z.length ≤ sizeLine) (q : R (.int z.length) G L) : C (fun xs H Q => ∃ z, xs = [.str z] ∧ z.length ≤ sizeLine ∧ Q (.int z.length) H) [.str z] G L R := fun H Q s k => ⟨z, rfl, hz, k _ _ _ _ q s⟩
theorem c_listG {p : Addr} {xs : List V} (h : SqL K (Un G L) p xs ∨ SqT K (Un G L) p xs) (q : ∀ l G', Ex G G' → G' l = some (.lst xs) → R (.ref l) G' L) : C (fun xs H Q => ∃ p ys, xs = [.ref p] ∧ (SqL K H p ys ∨ SqT K H p ys) ∧ ∀ l, H l = none → Q (.ref l) (upd H l (.lst ys))) [.ref p] G L R := fun H Q s k =>
  ⟨p, xs, rfl, h.elim (fun z => .inl (sql_ex s.u z)) (fun z => .inr (sqt_ex s.u z)), fun l hl => k _ _ _ _ (q l _ (.new (s.free hl).1) upd_same) (s.newG hl)⟩
theorem c_listL {p : Addr} {xs : List V} (h : SqL K (Un G L) p xs ∨ SqT K (Un G L) p xs) (q : ∀ l, G l = none → L l = none → R (.ref l) G (upd L l (.lst xs))) : C (fun xs H Q => ∃ p ys, xs = [.ref p] ∧ (SqL K H p ys ∨ SqT K H p ys) ∧ ∀ l, H l = none → Q (.ref l) (upd H l (.lst ys))) [.ref p] G L R := fun H Q s k =>
  ⟨p, xs, rfl, h.elim (fun z => .inl (sql_ex s.u z)) (fun z => .inr (sqt_ex s.u z)), fun l hl => k _ _ _ _ (q l (s.free hl).1 (s.free hl).2) (s.newL hl)⟩
/-- tuple(a list) -/
theorem c_tuple {p : Addr} {xs : List V} (h : SqL K (Un G L) p xs) (q : ∀ l G', Ex G G' → G' l = some (.tup xs) → R (.ref l) G' L) :
    C (fun xs H Q => ∃ p ys, xs = [.ref p] ∧ ((SqL K H p ys ∧ ∀ l, H l = none → Q (.ref l) (upd H l (.tup ys))) ∨ (SqT K H p ys ∧ Q (.ref p) H))) [.ref p] G L R := fun H Q s k =>
  ⟨p, xs, rfl, .inl ⟨sql_ex s.u h, fun l hl => k _ _ _ _ (q l _ (.new (s.free hl).1) upd_same) (s.newG hl)⟩⟩
theorem c_isi {c : V} {t u : Value} {b : Bool} (hk : ClsV c u) (ht : ∀ H, Ex (Un G L) H → TyX K H x t) (e : PySem.W.kitOne K t u = some b) (q : R (.bl b) G L) : C (rIsi K) [x, c] G L R := fun H Q s k => ⟨x, c, t, u, b, rfl, hk, ht H s.u, e, k _ _ _ _ q s⟩
end
/-! ### names of readings -/
abbrev rAddI : R2 := rI0 fun i j => .int (i + j)
abbrev rSubI : R2 := rI0 fun i j => .int (i - j)
abbrev rMulI : R2 := rI CMul fun i j => .int (i * j)
abbrev rModI : R2 := rI (fun _ j => 0 < j) fun i j => .int (i % j)
abbrev rDivI : R2 := rI CDiv fun i j => .int (i / j)
abbrev rPowI : R2 := rI CPow fun i j => .int (i ^ j.toNat)
abbrev rAndI : R2 := rI0 fun i j => .int (Builtin.bitAnd i j)
abbrev rNegI : V → Hp → VK → Prop := rU fun i => .int (-i)
abbrev rLtI : R2 := rI0 fun i j => .bl (decide (i < j))
abbrev rLeI : R2 := rI0 fun i j => .bl (decide (i ≤ j))
abbrev rGtI : R2 := rI0 fun i j => .bl (decide (j < i))
abbrev rGeI : R2 := rI0 fun i j => .bl (decide (j ≤ i))
abbrev rAddIB : R2 := fun x y H Q => ∃ i k, x = .int i ∧ y = .bl k ∧ Q (.int (i + b2i k)) H
abbrev rMulIB : R2 := fun x y H Q => ∃ i k, x = .int i ∧ y = .bl k ∧ Q (.int (i * if k = true then (1 : Int) else 0)) H
abbrev rAddS : R2 := fun x y H Q => ∃ i j, x = .str i ∧ y = .str j ∧ i.length + j.length ≤ sizeLine ∧ Q (.str (i ++ j)) H
abbrev rLeS : R2 := fun x y H Q => ∃ i j, x = .str i ∧ y = .str j ∧ Q (.bl (!decide (j.cps.toList < i.cps.toList))) H
abbrev rInSg : R2 := fun x y H Q => ∃ (c : Nat) (z : Str), x = .str ⟨#[c]⟩ ∧ y = .str z ∧ Q (.bl (decide (c ∈ z.cps.toList))) H
abbrev rNotInSg : R2 := fun x y H Q => ∃ (c : Nat) (z : Str), x = .str ⟨#[c]⟩ ∧ y = .str z ∧ Q (.bl (!decide (c ∈ z.cps.toList))) H
abbrev rIsN : R2 := fun x y H Q => y = .non ∧ Q (.bl (decide (x = .non))) H
abbrev rNotN : R2 := fun x y H Q => y = .non ∧ Q (.bl (!decide (x = .non))) H
abbrev rAbsI : List V → Hp → VK → Prop := fun xs H Q => ∃ i, xs = [.int i] ∧ Q (.int (if i < 0 then -i else i)) H
abbrev rIntI : List V → Hp → VK → Prop := fun xs H Q => (∃ i, xs = [.int i] ∧ Q (.int i) H) ∨ ∃ k, xs = [.bl k] ∧ Q (.int (if k then 1 else 0)) H
abbrev rLenQ (K : PySem.W.Frag) : List V → Hp → VK → Prop := fun xs H Q => ∃ p ys, xs = [.ref p] ∧ (SqL K H p ys ∨ SqT K H p ys) ∧ Q (.int ys.length) H
abbrev rLenS : List V → Hp → VK → Prop := fun xs H Q => ∃ z, xs = [.str z] ∧ z.length ≤ sizeLine ∧ Q (.int z.length) H
abbrev rListO (K : PySem.W.Frag) : List V → Hp → VK → Prop := fun xs H Q => ∃ p ys, xs = [.ref p] ∧ (SqL K H p ys ∨ SqT K H p ys) ∧ ∀ l, H l = none → Q (.ref l) (upd H l (.lst ys))
abbrev rTupO (K : PySem.W.Frag) : List V → Hp → VK → Prop := fun xs H Q => ∃ p ys, xs = [.ref p] ∧ ((SqL K H p ys ∧ ∀ l, H l = none → Q (.ref l) (upd H l (.tup ys))) ∨ (SqT K H p ys ∧ Q (.ref p) H))
abbrev rInsert : V → List V → Hp → VK → Prop := fun x vs H Q => ∃ (l : Addr) (xs : List V) (i : Int) (y : V), x = .ref l ∧ vs = [.int i, y] ∧ H l = some (.lst xs) ∧ xs.length < sizeLine ∧ 0 ≤ i ∧ i < 2 ^ 63 ∧ Q .non (upd H l (.lst (xs.take i.toNat ++ [y] ++ xs.drop i.toNat)))
abbrev rJoin (K : PySem.W.Frag) : V → List V → Hp → VK → Prop := fun x xs H Q => ∃ a p, ∃ ys : List Str, x = .str a ∧ xs = [.ref p] ∧ (SqL K H p (ys.map V.str) ∨ SqT K H p (ys.map V.str)) ∧ (ys.map (·.length)).sum + ys.length * a.length ≤ 16777216 ∧ Q (.str (Txt.join a ys)) H
abbrev tTru (K : PySem.W.Frag) (te : TE) : TT := fun σ H Q => te σ H fun x H' => ∃ k, TruV K x H' k ∧ Q k H'
/-! ### a def by its body, with defaults -/
section
variable {Pg : Program} {w : World} {K : PySem.W.Frag} {mg : Str → Option Value} {base : Heap}
theorem okF {x qual : Str} {st : Stmt} {f : Addr} {fd : FuncData} {N ps : List Str} {k : Nat} {pm : Pm} {dvs : List V} {kws : List (Str × V)} (F : FunD K x qual (defArgs st) (defBody st) (defScope st) dvs kws f fd) (Sc : FnScope N ps (defScope st)) (len : ∀ vs G L R, pm vs G L R → vs.length = ps.length) {t : TS}
    (run : ∀ (cdv : Value) (A : Around) (outer : List Env) (s : Shared) (H : Hp) (E : XK), Room k (A.deeper (envOfC qual (defScope st) s.heap.objs.size f cdv)) → PSs (cxOf CX0 Pg w K mg base N qual (defScope st) f cdv A outer s H E).nox (defBody st) t)
    (law : ∀ vs G L R, pm vs G L R → S t { nx := fun _ G L => R .non G L, rt := R } (start N vs) G L) : FnOk Pg w K mg base CX0 (k + 1) f fd ps (Spt pm) := by
  refine F.ok Sc (fun vs H Q E ⟨G, L, R, _, h, _⟩ => len vs G L R h) fun cdv A outer s H vs Q E hr ⟨G, L, R, hs, h, hk⟩ => ?_
  refine ⟨t, PSs.nox (run cdv A outer s H E hr), law vs G L R h H _ hs ⟨fun σ G' L' H' r s' => hk _ _ _ _ r s', fun v G' L' H' r s' => hk _ _ _ _ r s', fun _ _ _ _ z => z.elim, fun _ _ _ _ z => z.elim⟩⟩
theorem bindsFull {x qual : Str} {params : Arguments} {body : List Stmt} {scope : Scope} {dvs : List V} {kws : List (Str × V)} {f : Addr} {fd : FuncData} {ps : List Str} {n j : Nat} (F : FunD K x qual params body scope dvs kws f fd) (hd : dvs ≠ []) (hn : n = ps.length) (hj : dvs.length = j)
    (h : ∀ (T : Addr) (kV doc pm : Value) (an : Option Addr) (cdv ct : Value) (us its : List Value), us.length = n → its.length = j →
      ∃ k, bindArgs (PySem.W.fnOf x qual params body scope (.ref T) kV doc pm an cdv ct) ⟨us, []⟩ = seqItems? (.ref T) >>= k ∧ k (some its.toArray) = pure (ps.zip us)) : Binds K fd ps [] := by
  obtain ⟨ds, hv, hb⟩ := FunD.binds1 (ps := ps) F n j hd (by omega) (fun T kV doc pm an cdv ct us its h1 h2 => by
    obtain ⟨k, e1, e2⟩ := h T kV doc pm an cdv ct us its h1 (by omega)
    refine ⟨k, e1, ?_⟩
    have e3 : its.drop j = [] := List.drop_eq_nil_of_le (by omega)
    rw [e3, List.append_nil]
    exact e2)
  have e : dvs.drop j = [] := List.drop_eq_nil_of_le (by omega)
  rw [e] at hv
  cases hv
  exact hb
end
/-- the chain of what has grown -/
theorem un_of {G L G' : Hp} {K : PySem.W.Frag} {v : V} {d : PyData} (e : Ex G G') (h : Dp K G v d) : Dp K (Un G' L) v d := dp_ex (e.trans un_g) _ _ h
end T

set_option Elab.async false
set_option linter.all false
set_option maxRecDepth 100000
set_option maxHeartbeats 4000000
/-! A for whose body hands out, in a generator. -/
namespace L2
open PySem PySem.Spec PyProof.Rows GenW
section
variable {X : Cx} {tg iter : Expr} {body : List Stmt} {pos : Pos}
def tGFor (wi : TI) (g : TG) (tb : TGn) : TGn := fun D ys σ H => wi σ H fun J H1 => ∃ W : Nat → Nat → List V → St → Hp → Prop, (∃ m, W 0 m ys σ H1) ∧ ∀ i m ys σ H, W i m ys σ H →
  (J.stop i H ∧ D.nx ys σ H) ∨ (J.go i H ∧ ∃ N : List V → St → Hp → Prop, (∀ ys' σ' H', N ys' σ' H' → ∃ m', m' < m ∧ W (i + 1) m' ys' σ' H') ∧ ∀ x H', J.yld i H x H' → g x σ H' fun σ2 H2 => tb { D with nx := N, ct := N, bk := D.nx } ys σ2 H2)
theorem gs_for {wi : TI} {g : TG} {tb : TGn} (hp : PassesOwn (model X.prog X.w) X.A X.env X.xe) (hc : X.calm = true) (hi : PI X tg iter wi) (hg : PG X tg g) (hb : GSs X body tb)
    (hs : ∀ x, foldedSetIterable iter X.env x = pure x := by intro _; rfl) : GS X (.For tg iter body [] pos) (tGFor wi g tb) := by
  refine ⟨fun A S ip R n ys s₀ c fs K J gd lv s σ H D gc hn k hI ht => ?_⟩
  obtain ⟨acc, cc, r, I⟩ := hI
  rw [exec_For]
  refine seg_bind_wrap (wpAny_standAt ?_)
  have ex : ∀ (x : Value) (s' : Shared), X.xe x s' → Seg (model X.prog X.w) A R (GY X S) n s₀ c (J x) fs s' := fun x s' hx => k.exc n s₀ x s' hx
  refine seg_bind_wrap ?_
  rw [gc.over]
  refine wpAny_mono (hi.run _ s σ H _ I ht) (fun v s1 h1 => ?_) ex
  refine seg_bind_wrap (wpAny_of_eq (hs v) ?_)
  refine seg_bind_wrap (wpAny_standAt ?_)
  refine seg_bind_wrap ?_
  rw [gc.over]
  refine wpAny_holding (wpAny_mono h1 (fun itv s2 h2 => ?_) ex)
  obtain ⟨it, fp, tn, Ji, H2, e, I2, T, st2, f2, W, ⟨m0, w0⟩, turn⟩ := h2
  subst e
  refine seg_call fun p => ?_
  have hfS : ∀ b ∈ fp, b ≠ S := fun b hb e => (f2 b hb).2.2.2.2.2 (S, lstObj acc cc) (List.mem_append_right _ List.mem_cons_self) e.symm
  -- what stays true of the iterator's objects through the loop
  have stat : ∀ {H' : Hp} {acc' : Array Value} {cc' : Nat}, (∀ b ∈ fp, H' b = none) → ∀ b ∈ fp, FpOk X ((S, lstObj acc' cc') :: ip) H' b := fun {H' acc' cc'} hn b hb => by
    obtain ⟨f0, f1, f2', f3, f4, f5⟩ := f2 b hb
    refine ⟨hn b hb, f1, f2', f3, f4, fun p hp => ?_⟩
    rcases List.mem_append.mp hp with hp | hp
    · exact f5 p (List.mem_append_left _ hp)
    · rcases List.mem_cons.mp hp with hp | hp
      · rw [hp]
        exact Ne.symm (hfS b hb)
      · exact f5 p (List.mem_append_right _ (List.mem_cons_of_mem _ hp))
  have gl := fun (kk : Result → Sem PySem.Fin) (l : List Value) => gc_loop (k := kk) (c' := .forLoop tg (.ref it) body [] X.env) (l := l) (kp := []) (p := p) gc rfl rfl
  have loop : ∀ (m i n : Nat) (ys : List V) (s₀ s : Shared) (σ : St) (H : Hp), n + ys.length = sizeLine → W i m ys σ H → GI X S ip ys σ H s → tn i s.heap → (∀ b ∈ fp, H b = none) →
      Seg (model X.prog X.w) A R (GY X S) n s₀ (.forLoop tg (.ref it) body [] X.env) ((model X.prog X.w).den (.forLoop tg (.ref it) body [] X.env))
        (.ret (fun r => ((match r with | .ok f => (.pure f : Sem Flow) | .error e => .raise e).onRaise (cameBack X.env)).wrap K J gd lv) none (gd false) (lv []) c p [] :: fs) s := by
    intro m
    induction m using Nat.strongRecOn with
    | ind m ih =>
      intro i n ys s₀ s σ H hn w hI st fr
      have ee : ∀ (n : Nat) (s₀ : Shared) (x : Value) (s' : Shared), X.xe x s' → Seg (model X.prog X.w) A R (GY X S) n s₀ (.forLoop tg (.ref it) body [] X.env)
          ((do noteFrame x X.env; theTreesLotGoes x : Sem Unit).wrap (fun _ => .raise x) .raise id id)
          (.ret (fun r => ((match r with | .ok f => (.pure f : Sem Flow) | .error e => .raise e).onRaise (cameBack X.env)).wrap K J gd lv) none (gd false) (lv []) c p [] :: fs) s' := fun n s₀ x s' hx => by
        refine seg_wrap ?_
        rw [(gl _ _).over]
        refine wpAny_bind (wpAny_mono (hp x s' hx) (fun _ s'' hcb => wpAny_theTreesLotGoes ?_) fun y s'' hcb => ?_)
        · exact seg_leaf (.error x) (seg_cameBack gc k hcb)
        · exact seg_leaf (.error y) (seg_cameBack gc k hcb)
      have ee2 : ∀ (n : Nat) (s₀ : Shared) (x : Value) (s' : Shared), X.xe x s' → Seg (model X.prog X.w) A R (GY X S) n s₀ (.forLoop tg (.ref it) body [] X.env)
          (((do noteFrame x X.env; theTreesLotGoes x : Sem Unit)).bind fun _ => .raise x)
          (.ret (fun r => ((match r with | .ok f => (.pure f : Sem Flow) | .error e => .raise e).onRaise (cameBack X.env)).wrap K J gd lv) none (gd false) (lv []) c p [] :: fs) s' := fun n s₀ x s' hx => by
        rw [Sem.bind_eq_wrap]
        exact ee n s₀ x s' hx
      obtain ⟨acc, cc, r, I⟩ := hI
      show Seg _ A R (GY X S) n s₀ _ ((forTurn tg (.ref it) body [] X.env).onRaise (fun x => do noteFrame x X.env; theTreesLotGoes x)) _ s
      unfold forTurn
      rw [Sem.onRaise_eq_wrap]
      refine seg_bind_wrap (wpAny_standAt ?_)
      refine seg_bind_wrap ?_
      rw [(gl _ _).over]
      rcases turn i m ys σ H w with ⟨stop, qn⟩ | ⟨go, N, hN, step⟩
      · refine wpAny_onRaise (wpAny_mono (T.done X rfl rfl rfl hc i _ s σ H X.xe I (stat fr) st stop) (fun r' s4 ⟨hr, I4⟩ => ?_) fun x s' hx => wpAny_standAt (ee2 n s₀ x s' hx))
        subst hr
        refine seg_again rfl ?_
        exact seg_leaf (.ok .next) (k.ok n ys s₀ s4 .next hn ⟨σ, H, ⟨acc, cc, r, I4⟩, qn⟩)
      · refine wpAny_onRaise (wpAny_mono (T.item X rfl rfl rfl hc i _ s σ H X.xe I (stat fr) st go) (fun r' s4 ⟨u, hr, h4⟩ => ?_) fun x s' hx => wpAny_standAt (ee2 n s₀ x s' hx))
        subst hr
        refine seg_bind_wrap ?_
        rw [(gl _ _).over]
        refine wpAny_mono h4 (fun _ s5 ⟨x, H5, I5, r5, y5, st5, fr5⟩ => ?_) fun x s' hx => ee2 n s₀ x s' hx
        have I5' := I5.pinned (stat fr5) (T.obj _ _ st5)
        refine seg_bind_wrap ?_
        rw [(gl _ _).over]
        refine wpAny_mono (hg.run _ s5 σ H5 x u _ I5' r5 (step x H5 y5)) (fun _ s6 ⟨σ6, H6, I6, q6⟩ => ?_) fun x s' hx => ee2 n s₀ x s' hx
        rw [Sem.bind_eq_wrap', Sem.wrap_wrap]
        have gl2 : GC X S (ip ++ pinsAt fp s5.heap) A (.forLoop tg (.ref it) body [] X.env) (.ret (fun r => ((match r with | .ok f => (.pure f : Sem Flow) | .error e => .raise e).onRaise (cameBack X.env)).wrap K J gd lv) none (gd false) (lv []) c p [] :: fs) id := by
          have q := gl (fun r => ((match r with | .ok f => (.pure f : Sem Flow) | .error e => .raise e).onRaise (cameBack X.env)).wrap K J gd lv) (lv [])
          refine ⟨q.pn, fun p hp => ?_, q.apart, q.over, q.split, q.guard, q.gd⟩
          rcases List.mem_append.mp hp with hp | hp
          · exact gc.ip p hp
          · exact hfS _ (of_pinsAt hp).1
        refine hb.run A S (ip ++ pinsAt fp s5.heap) R n ys s₀ _ _ _ _ _ _ s6 σ6 H6 { D with nx := N, ct := N, bk := D.nx } gl2 hn ⟨fun n' ys' s₀' s7 f hn' hs => ?_, fun n' s₀' x s7 hx => ?_⟩ ⟨acc, cc, r, I6⟩ q6
        · have un : ∀ {ys' : List V} {σ7 : St} {H7 : Hp}, GI X S (ip ++ pinsAt fp s5.heap) ys' σ7 H7 s7 → GI X S ip ys' σ7 H7 s7 := fun ⟨acc7, cc7, r7, I7⟩ => ⟨acc7, cc7, r7, I7.pins_of fun p hp => I7.pin p (by
            rcases List.mem_cons.mp hp with hp | hp
            · exact List.mem_append_right _ (by rw [hp]; exact List.mem_cons_self)
            · exact List.mem_append_right _ (List.mem_cons_of_mem _ (List.mem_append_left _ hp)))⟩
          have again : ∀ {σ7 : St} {H7 : Hp}, GI X S (ip ++ pinsAt fp s5.heap) ys' σ7 H7 s7 → N ys' σ7 H7 → Seg (model X.prog X.w) A R (GY X S) n' s₀' (.forLoop tg (.ref it) body [] X.env) (.pure (.again (.forLoop tg (.ref it) body [] X.env)))
              (.ret (fun r => ((match r with | .ok f => (.pure f : Sem Flow) | .error e => .raise e).onRaise (cameBack X.env)).wrap K J gd lv) none (gd false) (lv []) c p [] :: fs) s7 := fun {σ7 H7} G7 n7 => by
            obtain ⟨m', hm, w7⟩ := hN ys' σ7 H7 n7
            obtain ⟨acc7, cc7, r7, I7⟩ := G7
            refine seg_again rfl (ih m' hm (i + 1) n' ys' s₀' s7 σ7 H7 hn' w7 (un ⟨acc7, cc7, r7, I7⟩) ?_ fun b hb => ?_)
            · exact T.keep _ _ _ st5 fun b hb o e => (I7.pin (b, o) (List.mem_append_right _ (List.mem_cons_of_mem _ (List.mem_append_right _ (mem_pinsAt hb e))))).1
            · obtain ⟨o, e, d⟩ := T.obj _ _ st5 b hb
              exact (I7.pin (b, o) (List.mem_append_right _ (List.mem_cons_of_mem _ (List.mem_append_right _ (mem_pinsAt hb e))))).2.1
          cases f with
          | next =>
            obtain ⟨σ7, H7, G7, n7⟩ := hs
            exact again G7 n7
          | cont =>
            obtain ⟨σ7, H7, G7, n7⟩ := hs
            exact again G7 n7
          | brk =>
            obtain ⟨σ7, H7, G7, n7⟩ := hs
            exact seg_leaf (.ok .next) (k.ok n' ys' s₀' s7 .next hn' ⟨σ7, H7, un G7, n7⟩)
          | ret v =>
            obtain ⟨x7, σ7, H7, G7, r7, q7⟩ := hs
            exact seg_leaf (.ok (.ret v)) (k.ok n' ys' s₀' s7 (.ret v) hn' ⟨x7, σ7, H7, un G7, r7, q7⟩)
        · exact ee2 n' s₀' x s7 hx
  exact loop m0 0 n ys s₀ s2 σ H2 hn w0 ⟨acc, cc, r, I2⟩ st2 fun b hb => (f2 b hb).1
end
end L2
namespace T
open PySem PySem.Spec PyProof.Rows L2 GenW
structure DG where
  nx : List V → L2.St → Hp → Hp → Prop
  rt : List V → V → Hp → Hp → Prop
  bk : List V → L2.St → Hp → Hp → Prop := fun _ _ _ _ => False
  ct : List V → L2.St → Hp → Hp → Prop := fun _ _ _ _ => False
structure LeG (d : DG) (d' : GEnds) : Prop where
  nx : ∀ ys σ G L H, d.nx ys σ G L → Sep G L H → d'.nx ys σ H
  rt : ∀ ys v G L H, d.rt ys v G L → Sep G L H → d'.rt ys v H
  bk : ∀ ys σ G L H, d.bk ys σ G L → Sep G L H → d'.bk ys σ H
  ct : ∀ ys σ G L H, d.ct ys σ G L → Sep G L H → d'.ct ys σ H
def DG.at (d : DG) (ys : List V) : D := { nx := d.nx ys, rt := d.rt ys, bk := d.bk ys, ct := d.ct ys }
def SG (t : TGn) (d : DG) (ys : List V) (σ : L2.St) (G L : Hp) : Prop := ∀ H (d' : GEnds), Sep G L H → LeG d d' → t d' ys σ H
section
variable {K : PySem.W.Frag} {σ : L2.St} {G L : Hp} {te : TE} {R : V → Hp → Hp → Prop} {d : DG} {ts : TS} {t u : TGn} {ys : List V}
theorem gn_then (h : SG t { d with nx := fun ys' σ' G' L' => SG u d ys' σ' G' L' } ys σ G L) : SG (tGThen t u) d ys σ G L := fun H D' s k =>
  h H _ s ⟨fun ys' σ' G' L' H' q s' => q H' D' s' k, k.rt, k.bk, k.ct⟩
theorem gn_plain (h : S ts (d.at ys) σ G L) : SG (tPlain ts) d ys σ G L := fun H D' s k => h H _ s ⟨k.nx ys, k.rt ys, k.bk ys, k.ct ys⟩
theorem gn_nil (h : d.nx ys σ G L) : SG tG0 d ys σ G L := fun H D' s k => k.nx _ _ _ _ _ h s
theorem gn_yield (hl : ys.length < sizeLine) (h : E te σ G L fun x G1 L1 => d.nx (ys ++ [x]) σ G1 L1) : SG (tGYield te) d ys σ G L := fun H D' s k => ⟨hl, h H _ s fun x G1 L1 H1 q s1 => k.nx _ _ _ _ _ q s1⟩
theorem gn_for {wi : TI} {g : TG} (h : Wk wi σ G L fun n item G1 L1 => ∃ Pv : Nat → List V → L2.St → Hp → Hp → Prop, Pv 0 ys σ G1 L1 ∧
      (∀ i ys σ G2 L2, i < n → Ex G1 G2 → Pv i ys σ G2 L2 → item i G2 L2 fun x G3 L3 => Tg g x σ G3 L3 fun σ4 G4 L4 => SG t { d with nx := fun ys' σ' G' L' => Ex G1 G' ∧ Pv (i + 1) ys' σ' G' L', ct := fun ys' σ' G' L' => Ex G1 G' ∧ Pv (i + 1) ys' σ' G' L', bk := d.nx } ys σ4 G4 L4) ∧
      (∀ ys σ G2 L2, Ex G1 G2 → Pv n ys σ G2 L2 → d.nx ys σ G2 L2)) : SG (tGFor wi g t) d ys σ G L := fun H D' s k => by
  refine h H _ s fun n item G1 L1 H1 J ⟨Pv, h0, hs, hd⟩ s1 go stop => ?_
  refine ⟨fun i m ys' σ' H' => m = n - i ∧ i ≤ n ∧ ∃ G' L', Sep G' L' H' ∧ Ex G1 G' ∧ Pv i ys' σ' G' L', ⟨n, by simp, Nat.zero_le _, G1, L1, s1, Ex.refl _, h0⟩, ?_⟩
  rintro i m ys' σ' H' ⟨rfl, hi, G', L', s', ex, p⟩
  by_cases hlt : i < n
  · obtain ⟨g1, g2⟩ := go i G' L' H' hlt ex s'
    refine .inr ⟨g1, fun ys2 σ2 H2 => ∃ G2 L2, Sep G2 L2 H2 ∧ Ex G1 G2 ∧ Pv (i + 1) ys2 σ2 G2 L2, fun ys2 σ2 H2 q => ⟨n - (i + 1), by omega, rfl, hlt, q⟩, fun x H3 y => ?_⟩
    obtain ⟨G3, L3, s3, q3⟩ := g2 x H3 y _ (hs i ys' σ' G' L' hlt ex p)
    refine q3 H3 _ s3 fun σ4 G4 L4 H4 q4 s4 => ?_
    exact q4 H4 _ s4 ⟨fun ys5 σ5 G5 L5 H5 ⟨e5, w5⟩ s5 => ⟨G5, L5, s5, e5, w5⟩, k.rt, k.nx, fun ys5 σ5 G5 L5 H5 ⟨e5, w5⟩ s5 => ⟨G5, L5, s5, e5, w5⟩⟩
  · have e : i = n := by omega
    subst e
    exact .inl ⟨stop G' L' H' ex s', k.nx _ _ _ _ _ (hd ys' σ' G' L' ex p) s'⟩
theorem gn_while {tc : TT} (W : Nat → List V → L2.St → Hp → Hp → Prop) (m0 : Nat) (h0 : W m0 ys σ G L)
    (hs : ∀ m ys σ G L, W m ys σ G L → B tc σ G L fun b G1 L1 => (b = true → SG t { d with nx := fun ys' σ' G' L' => ∃ m', m' < m ∧ W m' ys' σ' G' L', ct := fun ys' σ' G' L' => ∃ m', m' < m ∧ W m' ys' σ' G' L', bk := d.nx } ys σ G1 L1) ∧ (b = false → d.nx ys σ G1 L1)) :
    SG (tGWhile tc t) d ys σ G L := fun H D' s k => by
  refine ⟨fun m ys' σ' H' => ∃ G' L', Sep G' L' H' ∧ W m ys' σ' G' L', ⟨m0, G, L, s, h0⟩, ?_⟩
  rintro m ys' σ' H' ⟨G', L', s', w⟩
  refine hs m ys' σ' G' L' w H' _ s' fun b G1 L1 H1 q s1 => ?_
  cases b with
  | true =>
    rw [if_pos rfl]
    refine ⟨fun ys2 σ2 H2 => ∃ m', m' < m ∧ ∃ G2 L2, Sep G2 L2 H2 ∧ W m' ys2 σ2 G2 L2, fun ys2 σ2 H2 ⟨m', hm, q⟩ => ⟨m', hm, q⟩, ?_⟩
    exact q.1 rfl H1 _ s1 ⟨fun ys2 σ2 G2 L2 H2 ⟨m', hm, w2⟩ s2 => ⟨m', hm, G2, L2, s2, w2⟩, k.rt, k.nx, fun ys2 σ2 G2 L2 H2 ⟨m', hm, w2⟩ s2 => ⟨m', hm, G2, L2, s2, w2⟩⟩
  | false =>
    rw [if_neg Bool.false_ne_true]
    exact k.nx _ _ _ _ _ (q.2 rfl) s1
/-! promises of generators -/
abbrev Pmg := List V → Hp → Hp → (List V → Hp → Hp → Prop) → Prop
def SptG (f : Pmg) : SpG := fun vs H cont _ => ∃ G L R, Sep G L H ∧ f vs G L R ∧ ∀ ys G' L' H', R ys G' L' → Sep G' L' H' → cont ys H'
/-- list(f(..)), known -/
theorem e_listG {f : Pmg} {dvs : List V} {Ee : XK} {tl : TA} (h : A tl σ G L fun vs G1 L1 => f (vs ++ dvs) G1 L1 fun ys G2 L2 => ∀ p G3, G2 p = none → Ex G2 G3 → G3 p = some (.lst ys) → R (.ref p) G3 L2) : E (tListG (tCallG (SptG f) dvs Ee tl)) σ G L R := fun H Q s k =>
  h H _ s fun vs G1 L1 H1 q s1 => ⟨G1, L1, _, s1, q, fun ys G2 L2 H2 q2 s2 p hp => k _ _ _ _ (q2 p (upd G2 p (.lst ys)) (s2.free hp).1 (.new (s2.free hp).1) upd_same) (s2.newG hp)⟩
end
section
variable {Pg : Program} {w : World} {K : PySem.W.Frag} {mg : Str → Option Value} {base : Heap}
theorem okG {x qual : Str} {st : Stmt} {f : Addr} {fd : FuncData} {N ps : List Str} {k : Nat} {pm : Pmg} {dvs : List V} {kws : List (Str × V)} (F : FunD K x qual (defArgs st) (defBody st) (defScope st) dvs kws f fd) (Sc : GScope N ps (defScope st)) (len : ∀ vs G L R, pm vs G L R → vs.length = ps.length) {t : TGn}
    (run : ∀ (cdv : Value) (A : Around) (outer : List Env) (s : Shared) (H : Hp) (E : XK) (pn : List (Addr × Obj)), Room k (A.deeper (envOfC qual (defScope st) s.heap.objs.size f cdv)) → GSs (gcxOf Pg w K mg base N qual (defScope st) f cdv A outer s H E pn) (defBody st) t)
    (law : ∀ vs G L R, pm vs G L R → SG t { nx := fun ys _ G L => R ys G L, rt := fun ys v G L => v = .non ∧ R ys G L } [] (start N vs) G L) : GFn Pg w K mg base (k + 1) f fd ps (SptG pm) := by
  obtain ⟨oc, od, dV, kV, doc, pm', an, cdv, ct, osl, rfl, lk, hcd, _, _⟩ := F.ex
  refine gfn_of lk hcd Sc (fun vs H Q E ⟨G, L, R, _, h, _⟩ => len vs G L R h) fun A outer s H vs Q E pn hr ⟨G, L, R, hs, h, hk⟩ => ?_
  exact ⟨t, run cdv A outer s H E pn hr, law vs G L R h H _ hs ⟨fun ys σ G' L' H' r s' => hk _ _ _ _ r s', fun ys v G' L' H' r s' => ⟨r.1, hk _ _ _ _ r.2 s'⟩, fun _ _ _ _ _ z => z.elim, fun _ _ _ _ _ z => z.elim⟩⟩
end
end T

set_option linter.all false
/-! Plain mathematics: linear orders and sorting; letters between offices. -/
namespace KM

/-- a strict linear order -/
structure LO (α : Type) where
  lt : α → α → Bool
  irr : ∀ a, lt a a = false
  tr : ∀ a b c, lt a b = true → lt b c = true → lt a c = true
  tri : ∀ a b, lt a b = false → lt b a = false → a = b

namespace LO
variable {α β : Type} (o : LO α)
theorem asym {a b : α} (h : o.lt a b = true) : o.lt b a = false := by
  cases q : o.lt b a with
  | false => rfl
  | true =>
    have := o.tr _ _ _ h q
    rw [o.irr] at this
    cases this
/-- not above: a total preorder -/
theorem ntr {a b c : α} (h1 : o.lt b a = false) (h2 : o.lt c b = false) : o.lt c a = false := by
  cases q : o.lt c a with
  | false => rfl
  | true =>
    cases r : o.lt a b with
    | true =>
      have := o.tr _ _ _ q r
      rw [h2] at this
      cases this
    | false =>
      have e := o.tri _ _ r h1
      subst e
      rw [h2] at q
      cases q
/-- insert behind the equal ones -/
def ins (x : α) : List α → List α
  | [] => [x]
  | y :: ys => if o.lt x y = true then x :: y :: ys else y :: ins x ys
def sort : List α → List α
  | [] => []
  | x :: xs => o.ins x (sort xs)
abbrev Srt (xs : List α) : Prop := xs.Pairwise fun x y => o.lt y x = false
theorem ins_perm (x : α) : ∀ ys : List α, (o.ins x ys).Perm (x :: ys)
  | [] => .refl _
  | y :: ys => by
    unfold ins
    split
    · exact .refl _
    · exact ((ins_perm x ys).cons y).trans (.swap x y ys)
theorem sort_perm : ∀ xs : List α, (o.sort xs).Perm xs
  | [] => .refl _
  | x :: xs => (ins_perm o x _).trans ((sort_perm xs).cons x)
theorem ins_srt (x : α) : ∀ {ys : List α}, o.Srt ys → o.Srt (o.ins x ys)
  | [], _ => List.pairwise_singleton _ _
  | y :: ys, h => by
    unfold ins
    have h' := List.pairwise_cons.mp h
    split
    · rename_i c
      refine List.pairwise_cons.mpr ⟨fun z hz => ?_, h⟩
      rcases List.mem_cons.mp hz with e | hz
      · subst e
        exact o.asym c
      · exact o.ntr (o.asym c) (h'.1 z hz)
    · rename_i c
      have c' : o.lt x y = false := by simpa using c
      refine List.pairwise_cons.mpr ⟨fun z hz => ?_, ins_srt x h'.2⟩
      rcases List.mem_cons.mp ((ins_perm o x ys).mem_iff.mp hz) with e | hz
      · subst e
        exact c'
      · exact h'.1 z hz
theorem sort_srt : ∀ xs : List α, o.Srt (o.sort xs)
  | [] => .nil
  | x :: xs => ins_srt o x (sort_srt xs)
/-- sorted lists with the same items are one -/
theorem srt_uniq : ∀ {xs ys : List α}, xs.Perm ys → o.Srt xs → o.Srt ys → xs = ys
  | [], ys, p, _, _ => by simpa using p.symm
  | x :: xs, ys, p, h1, h2 => by
    cases ys with
    | nil => simpa using p
    | cons y ys =>
      have h1' := List.pairwise_cons.mp h1
      have h2' := List.pairwise_cons.mp h2
      have e : x = y := by
        have m1 : x ∈ y :: ys := p.mem_iff.mp List.mem_cons_self
        have m2 : y ∈ x :: xs := p.mem_iff.mpr List.mem_cons_self
        rcases List.mem_cons.mp m1 with e | m1
        · exact e
        · rcases List.mem_cons.mp m2 with e | m2
          · exact e.symm
          · exact o.tri _ _ (h2'.1 x m1) (h1'.1 y m2)
      subst e
      rw [srt_uniq (List.Perm.cons_inv p) h1'.2 h2'.2]
theorem sort_of {xs ys : List α} (p : ys.Perm xs) (h : o.Srt ys) : ys = o.sort xs := o.srt_uniq (p.trans (o.sort_perm xs).symm) h (o.sort_srt xs)
theorem sort_congr {xs ys : List α} (p : xs.Perm ys) : o.sort xs = o.sort ys := o.sort_of ((o.sort_perm xs).trans p) (o.sort_srt xs)
/-- merging two sorted lists -/
def merge : List α → List α → List α
  | [], ys => ys
  | x :: xs, [] => x :: xs
  | x :: xs, y :: ys => if o.lt y x = true then y :: merge (x :: xs) ys else x :: merge xs (y :: ys)
termination_by xs ys => xs.length + ys.length
theorem merge_perm : ∀ (n : Nat) (xs ys : List α), xs.length + ys.length ≤ n → (o.merge xs ys).Perm (xs ++ ys)
  | n, [], ys, _ => by unfold merge; exact .refl _
  | n, x :: xs, [], _ => by unfold merge; simp
  | 0, x :: xs, y :: ys, h => by simp at h
  | n + 1, x :: xs, y :: ys, h => by
    unfold merge
    split
    · refine ((merge_perm n (x :: xs) ys (by simp at h ⊢; omega)).cons y).trans ?_
      exact (List.perm_middle (a := y) (l₁ := x :: xs) (l₂ := ys)).symm
    · exact (merge_perm n xs (y :: ys) (by simp at h ⊢; omega)).cons x
theorem merge_srt : ∀ (n : Nat) (xs ys : List α), xs.length + ys.length ≤ n → o.Srt xs → o.Srt ys → o.Srt (o.merge xs ys)
  | n, [], ys, _, _, h => by unfold merge; exact h
  | n, x :: xs, [], _, h, _ => by unfold merge; exact h
  | 0, x :: xs, y :: ys, h, _, _ => by simp at h
  | n + 1, x :: xs, y :: ys, h, h1, h2 => by
    unfold merge
    have h1' := List.pairwise_cons.mp h1
    have h2' := List.pairwise_cons.mp h2
    split
    · rename_i c
      refine List.pairwise_cons.mpr ⟨fun z hz => ?_, merge_srt n (x :: xs) ys (by simp at h ⊢; omega) h1 h2'.2⟩
      rcases List.mem_append.mp ((o.merge_perm n (x :: xs) ys (by simp at h ⊢; omega)).mem_iff.mp hz) with hz | hz
      · rcases List.mem_cons.mp hz with e | hz
        · subst e
          exact o.asym c
        · exact o.ntr (o.asym c) (h1'.1 z hz)
      · exact h2'.1 z hz
    · rename_i c
      have c' : o.lt y x = false := by simpa using c
      refine List.pairwise_cons.mpr ⟨fun z hz => ?_, merge_srt n xs (y :: ys) (by simp at h ⊢; omega) h1'.2 h2⟩
      rcases List.mem_append.mp ((o.merge_perm n xs (y :: ys) (by simp at h ⊢; omega)).mem_iff.mp hz) with hz | hz
      · exact h1'.1 z hz
      · rcases List.mem_cons.mp hz with e | hz
        · subst e
          exact c'
        · exact o.ntr c' (h2'.1 z hz)
/-- pairs, the first one counts first -/
def prod (p : LO β) : LO (α × β) where
  lt := fun x y => if o.lt x.1 y.1 = true then true else if o.lt y.1 x.1 = true then false else p.lt x.2 y.2
  irr := fun a => by simp [o.irr, p.irr]
  tr := fun a b c h1 h2 => by
    by_cases q1 : o.lt a.1 b.1 = true
    · by_cases q2 : o.lt b.1 c.1 = true
      · simp [o.tr _ _ _ q1 q2]
      · by_cases q3 : o.lt c.1 b.1 = true
        · simp [q2, q3] at h2
        · have e := o.tri _ _ (by simpa using q2) (by simpa using q3)
          rw [← e]
          simp [q1]
    · by_cases q4 : o.lt b.1 a.1 = true
      · simp [q1, q4] at h1
      · have e := o.tri _ _ (by simpa using q1) (by simpa using q4)
        rw [e]
        by_cases q2 : o.lt b.1 c.1 = true
        · simp [q2]
        · by_cases q3 : o.lt c.1 b.1 = true
          · simp [q2, q3] at h2
          · simp only [q1, q4, q2, q3, if_false] at h1 h2 ⊢
            exact p.tr _ _ _ h1 h2
  tri := fun a b h1 h2 => by
    by_cases q1 : o.lt a.1 b.1 = true
    · simp [q1] at h1
    · by_cases q2 : o.lt b.1 a.1 = true
      · simp [q2] at h2
      · simp only [q1, q2, if_false] at h1 h2
        exact Prod.ext (o.tri _ _ (by simpa using q1) (by simpa using q2)) (p.tri _ _ (by simpa using h1) (by simpa using h2))
/-- lists, the first difference counts -/
def lexb : List α → List α → Bool
  | [], [] => false
  | [], _ :: _ => true
  | _ :: _, [] => false
  | x :: xs, y :: ys => if o.lt x y = true then true else if o.lt y x = true then false else lexb xs ys
theorem lexb_irr : ∀ xs : List α, o.lexb xs xs = false
  | [] => rfl
  | x :: xs => by simp [lexb, o.irr, lexb_irr xs]
theorem lexb_snoc_lt : ∀ {xs ys : List α} (x y : α), xs.length = ys.length → o.lexb xs ys = true → o.lexb (xs ++ [x]) (ys ++ [y]) = true
  | [], [], _, _, _, h => by simp [lexb] at h
  | [], _ :: _, _, _, e, _ => by simp at e
  | _ :: _, [], _, _, e, _ => by simp at e
  | a :: xs, b :: ys, x, y, e, h => by
    simp only [List.cons_append, lexb] at h ⊢
    by_cases q1 : o.lt a b = true
    · simp [q1]
    · by_cases q2 : o.lt b a = true
      · simp [q1, q2] at h
      · simp only [q1, q2, if_false] at h ⊢
        exact lexb_snoc_lt x y (by simpa using e) h
theorem lexb_snoc_same : ∀ (xs : List α) {x y : α}, o.lt x y = true → o.lexb (xs ++ [x]) (xs ++ [y]) = true
  | [], x, y, h => by simp [lexb, h]
  | a :: xs, x, y, h => by
    simp only [List.cons_append, lexb, o.irr]
    exact lexb_snoc_same xs h
end LO

/-! ### letters -/
section
variable {α : Type} [DecidableEq α]
theorem nodup_le : ∀ {l m : List α}, l.Nodup → (∀ x ∈ l, x ∈ m) → l.length ≤ m.length
  | [], _, _, _ => Nat.zero_le _
  | x :: l, m, h, s => by
    have h' := List.nodup_cons.mp h
    have hx : x ∈ m := s x List.mem_cons_self
    have q := nodup_le (m := m.erase x) h'.2 fun y hy => (List.mem_erase_of_ne (fun (e : y = x) => h'.1 (e ▸ hy))).mpr (s y (List.mem_cons_of_mem _ hy))
    have e := List.length_erase_of_mem hx
    have := List.length_pos_of_mem hx
    simp only [List.length_cons]
    omega
/-- the letters that an office writes -/
def outs (ps : List (α × α)) (a : α) : List (α × α) := ps.filter fun p => decide (p.1 = a)
/-- one letter is read -/
def stepM (ps : List (α × α)) (s : List α × List (α × α)) (x : α × α) : List α × List (α × α) :=
  if x.2 ∈ s.1 then (s.1, s.2.erase x) else (s.1 ++ [x.2], s.2.erase x ++ outs ps x.2)
def runM (ps : List (α × α)) : List (α × α) → List α × List (α × α) → Option (List α × List (α × α))
  | [], s => some s
  | x :: xs, s => if x ∈ s.2 then runM ps xs (stepM ps s x) else none
def init (ps : List (α × α)) (a : α) : List α × List (α × α) := ([a], outs ps a)
theorem runM_snoc {ps : List (α × α)} : ∀ (ord : List (α × α)) (s : List α × List (α × α)) (x : α × α), runM ps (ord ++ [x]) s = (runM ps ord s).bind fun s' => if x ∈ s'.2 then some (stepM ps s' x) else none
  | [], s, x => by
    simp only [List.nil_append, runM, Option.bind_some]
  | y :: ord, s, x => by
    simp only [List.cons_append, runM]
    split
    · exact runM_snoc ord _ x
    · rfl
/-- what stays true of a run -/
structure Good (ps : List (α × α)) (a : α) (ord : List (α × α)) (s : List α × List (α × α)) : Prop where
  nd : s.1.Nodup
  me : a ∈ s.1
  all : (ord ++ s.2).Perm (ps.filter fun p => decide (p.1 ∈ s.1))
  rd : ∀ p ∈ ord, p.2 ∈ s.1
inductive Reach (ps : List (α × α)) (a : α) : α → Prop
  | me : Reach ps a a
  | go {b c : α} : Reach ps a b → (b, c) ∈ ps → Reach ps a c
theorem filter_new {ps : List (α × α)} {l : List α} {b : α} (h : b ∉ l) : (ps.filter fun p => decide (p.1 ∈ l ++ [b])).Perm ((ps.filter fun p => decide (p.1 ∈ l)) ++ outs ps b) := by
  induction ps with
  | nil => exact .refl _
  | cons p ps ih =>
    unfold outs at ih ⊢
    by_cases q1 : p.1 ∈ l
    · have q2 : ¬ p.1 = b := fun e => h (e ▸ q1)
      have q3 : p.1 ∈ l ++ [b] := List.mem_append_left _ q1
      simp only [List.filter_cons, q1, q2, q3, decide_true, decide_false, if_true, List.cons_append]
      exact ih.cons p
    · by_cases q2 : p.1 = b
      · have q3 : p.1 ∈ l ++ [b] := by rw [q2]; simp
        simp only [List.filter_cons, q1, q2, q3, decide_true, decide_false, if_true]
        have q4 : b ∈ l ++ [b] := by simp
        simp only [q4, h, decide_true, decide_false, if_true]
        refine (ih.cons p).trans ?_
        exact (List.perm_middle).symm
      · have q3 : ¬ p.1 ∈ l ++ [b] := by simp [q1, q2]
        simp only [List.filter_cons, q1, q2, q3, decide_false]
        exact ih
theorem good_init (ps : List (α × α)) (a : α) : Good ps a [] (init ps a) := by
  refine ⟨by simp [init], by simp [init], ?_, fun p hp => by simp at hp⟩
  simp only [init, List.nil_append, outs, List.mem_singleton]
  exact .refl _
theorem good_step {ps : List (α × α)} {a : α} {ord : List (α × α)} {s : List α × List (α × α)} {x : α × α} (g : Good ps a ord s) (hx : x ∈ s.2) : Good ps a (ord ++ [x]) (stepM ps s x) := by
  have pe : (x :: s.2.erase x).Perm s.2 := (List.perm_cons_erase hx).symm
  have p1 : (ord ++ [x] ++ s.2.erase x).Perm (ord ++ s.2) := by
    rw [List.append_assoc]
    exact pe.append_left ord
  unfold stepM
  split
  · rename_i c
    exact ⟨g.nd, g.me, p1.trans g.all, fun p hp => by
      rcases List.mem_append.mp hp with h | h
      · exact g.rd p h
      · have e : p = x := by simpa using h
        rw [e]
        exact c⟩
  · rename_i c
    refine ⟨?_, List.mem_append_left _ g.me, ?_, fun p hp => ?_⟩
    · exact List.nodup_append.mpr ⟨g.nd, by simp, fun y hy z hz e => by
        have e2 : z = x.2 := by simpa using hz
        subst e
        exact c (e2 ▸ hy)⟩
    · show (ord ++ [x] ++ (s.2.erase x ++ outs ps x.2)).Perm _
      rw [← List.append_assoc]
      exact ((p1.trans g.all).append_right _).trans (filter_new c).symm
    · rcases List.mem_append.mp hp with h | h
      · exact List.mem_append_left _ (g.rd p h)
      · have e : p = x := by simpa using h
        rw [e]
        simp
theorem good_run {ps : List (α × α)} {a : α} : ∀ (ord ord0 : List (α × α)) (s s' : List α × List (α × α)), Good ps a ord0 s → runM ps ord s = some s' → Good ps a (ord0 ++ ord) s'
  | [], ord0, s, s', g, h => by
    simp only [runM, Option.some.injEq] at h
    subst h
    rw [List.append_nil]
    exact g
  | x :: ord, ord0, s, s', g, h => by
    simp only [runM] at h
    split at h
    · rename_i c
      have q := good_run ord (ord0 ++ [x]) _ s' (good_step g c) h
      rw [List.append_assoc] at q
      exact q
    · cases h
/-- all who have learnt are reached -/
theorem reach_run {ps : List (α × α)} {a : α} : ∀ (ord : List (α × α)) (s s' : List α × List (α × α)), (∀ b ∈ s.1, Reach ps a b) → (∀ p ∈ s.2, p.1 ∈ s.1 ∧ p ∈ ps) → runM ps ord s = some s' → (∀ b ∈ s'.1, Reach ps a b)
  | [], s, s', h1, h2, h => by
    simp only [runM, Option.some.injEq] at h
    subst h
    exact h1
  | x :: ord, s, s', h1, h2, h => by
    simp only [runM] at h
    split at h
    · rename_i c
      refine reach_run ord _ s' ?_ ?_ h
      · intro b hb
        unfold stepM at hb
        split at hb
        · exact h1 b hb
        · rcases List.mem_append.mp hb with hb | hb
          · exact h1 b hb
          · have e : b = x.2 := by simpa using hb
            subst e
            exact .go (h1 _ (h2 x c).1) (h2 x c).2
      · intro p hp
        unfold stepM at hp ⊢
        split at hp
        · rename_i c2
          rw [if_pos c2]
          exact h2 p (List.mem_of_mem_erase hp)
        · rename_i c2
          rw [if_neg c2]
          rcases List.mem_append.mp hp with hp | hp
          · have q := h2 p (List.mem_of_mem_erase hp)
            exact ⟨List.mem_append_left _ q.1, q.2⟩
          · have q := List.mem_filter.mp hp
            have e : p.1 = x.2 := by simpa using q.2
            exact ⟨by rw [e]; simp, q.1⟩
    · cases h
theorem reach_of {ps : List (α × α)} {a : α} {ord : List (α × α)} {s : List α × List (α × α)} (h : runM ps ord (init ps a) = some s) : ∀ b ∈ s.1, Reach ps a b := by
  refine reach_run ord (init ps a) s ?_ ?_ h
  · intro b hb
    have e : b = a := by simpa [init] using hb
    subst e
    exact .me
  · intro p hp
    have q := List.mem_filter.mp (show p ∈ ps.filter _ from hp)
    exact ⟨by simpa [init] using q.2, q.1⟩
/-- no letter waits: just those who are reached have learnt -/
theorem learnt_iff {ps : List (α × α)} {a : α} {ord : List (α × α)} {s : List α × List (α × α)} (h : runM ps ord (init ps a) = some s) (he : s.2 = []) (b : α) : b ∈ s.1 ↔ Reach ps a b := by
  refine ⟨reach_of h b, fun r => ?_⟩
  have g := good_run ord [] _ s (good_init ps a) h
  rw [List.nil_append] at g
  induction r with
  | me => exact g.me
  | @go c d r hp ih =>
    have m : (c, d) ∈ ps.filter fun p => decide (p.1 ∈ s.1) := List.mem_filter.mpr ⟨hp, by simpa using ih⟩
    have m2 := g.all.mem_iff.mpr m
    rw [he, List.append_nil] at m2
    exact g.rd _ m2
/-- lengths: never more letters than ways -/
theorem run_len {ps : List (α × α)} {a : α} {ord : List (α × α)} {s : List α × List (α × α)} (h : runM ps ord (init ps a) = some s) : ord.length + s.2.length = (ps.filter fun p => decide (p.1 ∈ s.1)).length := by
  have g := good_run ord [] _ s (good_init ps a) h
  have := g.all.length_eq
  simpa using this
theorem filter_sub_len {ps : List (α × α)} {p q : α × α → Bool} (h : ∀ x, p x = true → q x = true) : (ps.filter p).length ≤ (ps.filter q).length := by
  induction ps with
  | nil => exact Nat.le_refl _
  | cons x ps ih =>
    cases e1 : p x with
    | true =>
      simp only [List.filter_cons, e1, h x e1, if_true, List.length_cons]
      omega
    | false =>
      cases e2 : q x with
      | true =>
        simp only [List.filter_cons, e1, e2, if_true, List.length_cons]
        simp
        omega
      | false =>
        simp only [List.filter_cons, e1, e2]
        simpa using ih
/-- one run has ended: no run of the same length has a letter left -/
theorem end_all {ps : List (α × α)} {a : α} {ord ord' : List (α × α)} {s s' : List α × List (α × α)} (h : runM ps ord (init ps a) = some s) (he : s.2 = []) (h' : runM ps ord' (init ps a) = some s') (hl : ord.length ≤ ord'.length) : s'.2 = [] := by
  have e1 := run_len h
  have e2 := run_len h'
  have le : (ps.filter fun p => decide (p.1 ∈ s'.1)).length ≤ (ps.filter fun p => decide (p.1 ∈ s.1)).length := filter_sub_len fun x hx => by
    have hx' : x.1 ∈ s'.1 := by simpa using hx
    have := (learnt_iff h he x.1).mpr (reach_of h' _ hx')
    simpa using this
  rw [he] at e1
  simp only [List.length_nil] at e1
  exact List.eq_nil_of_length_eq_zero (by omega)
/-- a run with its letters in another order -/
theorem step_perm {ps : List (α × α)} {s s' : List α × List (α × α)} {x : α × α} (e : s.1 = s'.1) (p : s.2.Perm s'.2) : (stepM ps s x).1 = (stepM ps s' x).1 ∧ (stepM ps s x).2.Perm (stepM ps s' x).2 := by
  unfold stepM
  rw [e]
  split
  · exact ⟨rfl, p.erase x⟩
  · exact ⟨rfl, (p.erase x).append_right _⟩
theorem outs_nodup {ps : List (α × α)} {a : α} (h : ps.Nodup) : (outs ps a).Nodup := h.filter _
/-- the letters of a run are different ones -/
theorem run_nodup {ps : List (α × α)} (hp : ps.Nodup) {a : α} {ord : List (α × α)} {s : List α × List (α × α)} (h : runM ps ord (init ps a) = some s) : (ord ++ s.2).Nodup := by
  have g := good_run ord [] _ s (good_init ps a) h
  rw [List.nil_append] at g
  exact g.all.nodup_iff.mpr (hp.filter _)

/-! ### who hears whom -/
/-- one round over the ways -/
def roundM (ps : List (α × α)) (heard : List α) : List α := ps.foldl (fun h p => if p.2 ∈ h ∧ p.1 ∉ h then h ++ [p.1] else h) heard
def roundsM (ps : List (α × α)) : Nat → List α → List α
  | 0, h => h
  | n + 1, h => roundsM ps n (roundM ps h)
theorem fold_sub (qs : List (α × α)) : ∀ (h : List α), ∀ b ∈ h, b ∈ qs.foldl (fun h p => if p.2 ∈ h ∧ p.1 ∉ h then h ++ [p.1] else h) h := by
  induction qs with
  | nil => intro h b hb; exact hb
  | cons p qs ih =>
    intro h b hb
    rw [List.foldl_cons]
    refine ih _ b ?_
    split
    · exact List.mem_append_left _ hb
    · exact hb
theorem fold_nd (qs : List (α × α)) : ∀ (h : List α), h.Nodup → (qs.foldl (fun h p => if p.2 ∈ h ∧ p.1 ∉ h then h ++ [p.1] else h) h).Nodup := by
  induction qs with
  | nil => intro h hb; exact hb
  | cons p qs ih =>
    intro h hb
    rw [List.foldl_cons]
    refine ih _ ?_
    split
    · rename_i c
      exact List.nodup_append.mpr ⟨hb, by simp, fun y hy z hz e => by
        have e2 : z = p.1 := by simpa using hz
        subst e
        exact c.2 (e2 ▸ hy)⟩
    · exact hb
/-- what is added reaches -/
theorem fold_reach {ps : List (α × α)} {a : α} (qs : List (α × α)) (hq : ∀ p ∈ qs, p ∈ ps) : ∀ (h : List α), (∀ b ∈ h, Reach ps b a) → ∀ b ∈ qs.foldl (fun h p => if p.2 ∈ h ∧ p.1 ∉ h then h ++ [p.1] else h) h, Reach ps b a := by
  have tr : ∀ {b c : α}, (b, c) ∈ ps → Reach ps c a → Reach ps b a := fun {b c} hp r => by
    induction r with
    | me => exact .go .me hp
    | go _ h2 ih => exact .go ih h2
  induction qs with
  | nil => intro h hh b hb; exact hh b hb
  | cons p qs ih =>
    intro h hh b hb
    rw [List.foldl_cons] at hb
    refine ih (fun p hp => hq p (List.mem_cons_of_mem _ hp)) _ ?_ b hb
    intro c hc
    split at hc
    · rename_i q
      rcases List.mem_append.mp hc with hc | hc
      · exact hh c hc
      · have e : c = p.1 := by simpa using hc
        rw [e]
        exact tr (hq p List.mem_cons_self) (hh _ q.1)
    · exact hh c hc
/-- nothing new in a round: closed -/
theorem fold_closed (qs : List (α × α)) : ∀ (h : List α), (qs.foldl (fun h p => if p.2 ∈ h ∧ p.1 ∉ h then h ++ [p.1] else h) h).length ≤ h.length → ∀ p ∈ qs, p.2 ∈ h → p.1 ∈ h := by
  have mono : ∀ (qs : List (α × α)) (h : List α), h.length ≤ (qs.foldl (fun h p => if p.2 ∈ h ∧ p.1 ∉ h then h ++ [p.1] else h) h).length := by
    intro qs
    induction qs with
    | nil => intro h; exact Nat.le_refl _
    | cons p qs ih =>
      intro h
      rw [List.foldl_cons]
      refine Nat.le_trans ?_ (ih _)
      split
      · simp
      · exact Nat.le_refl _
  induction qs with
  | nil => intro h _ p hp; cases hp
  | cons q qs ih =>
    intro h hl p hp hm
    rw [List.foldl_cons] at hl
    by_cases c : q.2 ∈ h ∧ q.1 ∉ h
    · rw [if_pos c] at hl
      have := mono qs (h ++ [q.1])
      simp only [List.length_append, List.length_singleton] at this
      omega
    · rw [if_neg c] at hl
      rcases List.mem_cons.mp hp with e | hp
      · subst e
        exact Decidable.byContradiction fun z => c ⟨hm, z⟩
      · exact ih h hl p hp hm
theorem rounds_facts {ps : List (α × α)} {a : α} : ∀ (n : Nat) (h : List α), h.Nodup → a ∈ h → (∀ b ∈ h, Reach ps b a) → (roundsM ps n h).Nodup ∧ a ∈ roundsM ps n h ∧ (∀ b ∈ roundsM ps n h, Reach ps b a) ∧ ((∀ p ∈ ps, p.2 ∈ roundsM ps n h → p.1 ∈ roundsM ps n h) ∨ h.length + n ≤ (roundsM ps n h).length)
  | 0, h, h1, h2, h3 => ⟨h1, h2, h3, .inr (Nat.le_refl _)⟩
  | n + 1, h, h1, h2, h3 => by
    have q1 := fold_nd ps h h1
    have q2 := fold_sub ps h a h2
    have q3 := fold_reach ps (fun p hp => hp) h h3
    obtain ⟨r1, r2, r3, r4⟩ := rounds_facts n (roundM ps h) q1 q2 q3
    refine ⟨r1, r2, r3, ?_⟩
    show (∀ p ∈ ps, p.2 ∈ roundsM ps n (roundM ps h) → p.1 ∈ roundsM ps n (roundM ps h)) ∨ h.length + (n + 1) ≤ (roundsM ps n (roundM ps h)).length
    rcases r4 with r4 | r4
    · exact .inl r4
    · by_cases c : (roundM ps h).length ≤ h.length
      · -- closed from here on: the rounds stay
        have cl := fold_closed ps h c
        have st : ∀ (qs : List (α × α)), (∀ p ∈ qs, p ∈ ps) → qs.foldl (fun h p => if p.2 ∈ h ∧ p.1 ∉ h then h ++ [p.1] else h) h = h := by
          intro qs
          induction qs with
          | nil => intro _; rfl
          | cons q qs ih =>
            intro hq
            rw [List.foldl_cons, if_neg (fun z => z.2 (cl q (hq q List.mem_cons_self) z.1))]
            exact ih fun p hp => hq p (List.mem_cons_of_mem _ hp)
        have e : roundM ps h = h := st ps fun p hp => hp
        have e2 : ∀ m, roundsM ps m h = h := by
          intro m
          induction m with
          | zero => rfl
          | succ m ih => show roundsM ps m (roundM ps h) = h; rw [e, ih]
        rw [e, e2]
        exact .inl cl
      · exact .inr (by omega)
/-- an office hears just those from which it is reached -/
theorem hears_iff {ps : List (α × α)} {names : List α} {a : α} (ha : a ∈ names) (hn : names.Nodup) (hp : ∀ p ∈ ps, p.1 ∈ names) (b : α) : b ∈ roundsM ps names.length [a] ↔ Reach ps b a := by
  obtain ⟨r1, r2, r3, r4⟩ := rounds_facts (ps := ps) (a := a) names.length [a] (by simp) (by simp) (fun b hb => by
    have e : b = a := by simpa using hb
    subst e
    exact .me)
  refine ⟨r3 b, fun r => ?_⟩
  have cl : ∀ p ∈ ps, p.2 ∈ roundsM ps names.length [a] → p.1 ∈ roundsM ps names.length [a] := by
    rcases r4 with r4 | r4
    · exact r4
    · exfalso
      -- more different names than there are
      have sub : ∀ c ∈ roundsM ps names.length [a], c ∈ names := fun c hc => by
        have := r3 c hc
        cases e : decide (c = a) with
        | true => rw [of_decide_eq_true e]; exact ha
        | false =>
          have ne : c ≠ a := of_decide_eq_false e
          -- c is a writer
          have wr : ∀ {c d : α}, Reach ps c d → c ≠ d → c ∈ names := fun {c d} r => by
            induction r with
            | me => intro z; exact absurd rfl z
            | @go x y r1 h1 ih =>
              intro _
              by_cases q : c = x
              · subst q
                exact hp _ h1
              · exact ih q
          exact wr this ne
      have le : (roundsM ps names.length [a]).length ≤ names.length := by
        exact nodup_le r1 sub
      simp only [List.length_singleton] at r4
      omega
  have go : ∀ {c d : α}, Reach ps c d → d ∈ roundsM ps names.length [a] → c ∈ roundsM ps names.length [a] := fun {c d} r => by
    induction r with
    | me => exact fun z => z
    | @go x y r1 h1 ih => exact fun z => ih (cl _ h1 z)
  exact go r r2

/-! ### all orders, level by level -/
abbrev Row (α : Type) := List (α × α) × List α × List (α × α)
def rowStep (lo : LO (α × α)) (ps : List (α × α)) (r : Row α) (x : α × α) : Row α :=
  if x.2 ∈ r.2.1 then (r.1 ++ [x], r.2.1, r.2.2.filter fun y => decide (y ≠ x))
  else (r.1 ++ [x], r.2.1 ++ [x.2], lo.sort ((r.2.2.filter fun y => decide (y ≠ x)) ++ outs ps x.2))
def rowsNext (lo : LO (α × α)) (ps : List (α × α)) (rows : List (Row α)) : List (Row α) := rows.flatMap fun r => r.2.2.map (rowStep lo ps r)
structure Lv (lo : LO (α × α)) (ps : List (α × α)) (a : α) (n : Nat) (rows : List (Row α)) : Prop where
  ne : rows ≠ []
  row : ∀ r ∈ rows, r.1.length = n ∧ lo.Srt r.2.2 ∧ ∃ t, runM ps r.1 (init ps a) = some (r.2.1, t) ∧ t.Perm r.2.2
  all : ∀ ord s, ord.length = n → runM ps ord (init ps a) = some s → ∃ r ∈ rows, r.1 = ord
  asc : rows.Pairwise fun r r' => lo.lexb r.1 r'.1 = true
theorem erase_filter {x : α × α} : ∀ {t : List (α × α)}, t.Nodup → t.erase x = t.filter fun y => decide (y ≠ x)
  | [], _ => rfl
  | y :: t, h => by
    have h' := List.nodup_cons.mp h
    by_cases e : y = x
    · subst e
      rw [List.erase_cons_head, List.filter_cons, if_neg (by simp)]
      refine (List.filter_eq_self.mpr fun z hz => ?_).symm
      have : z ≠ y := fun q => h'.1 (q ▸ hz)
      simpa using this
    · rw [List.erase_cons_tail (by simpa using e), List.filter_cons, if_pos (by simpa using e), erase_filter h'.2]
theorem row_step {lo : LO (α × α)} {ps : List (α × α)} {a : α} (hp : ps.Nodup) {n : Nat} {r : Row α} {x : α × α} (hr : r.1.length = n ∧ lo.Srt r.2.2 ∧ ∃ t, runM ps r.1 (init ps a) = some (r.2.1, t) ∧ t.Perm r.2.2) (hx : x ∈ r.2.2) :
    (rowStep lo ps r x).1 = r.1 ++ [x] ∧ (rowStep lo ps r x).1.length = n + 1 ∧ lo.Srt (rowStep lo ps r x).2.2 ∧ ∃ t, runM ps (rowStep lo ps r x).1 (init ps a) = some ((rowStep lo ps r x).2.1, t) ∧ t.Perm (rowStep lo ps r x).2.2 := by
  obtain ⟨h1, h2, t, h3, h4⟩ := hr
  have hxt : x ∈ t := h4.mem_iff.mpr hx
  have nd := run_nodup hp h3
  have ndt : t.Nodup := (List.nodup_append.mp nd).2.1
  have ndr : r.2.2.Nodup := h4.nodup_iff.mp ndt
  have run : runM ps (r.1 ++ [x]) (init ps a) = some (stepM ps (r.2.1, t) x) := by
    rw [runM_snoc, h3]
    simp only [Option.bind_some, hxt, if_true]
  have pf : (t.erase x).Perm (r.2.2.filter fun y => decide (y ≠ x)) := by
    rw [← erase_filter ndr]
    exact h4.erase x
  have sf : lo.Srt (r.2.2.filter fun y => decide (y ≠ x)) := h2.filter _
  unfold rowStep
  split
  · rename_i c
    refine ⟨rfl, by simp [h1], sf, t.erase x, ?_, pf⟩
    rw [run]
    unfold stepM
    rw [if_pos c]
  · rename_i c
    refine ⟨rfl, by simp [h1], lo.sort_srt _, t.erase x ++ outs ps x.2, ?_, (pf.append_right _).trans (lo.sort_perm _).symm⟩
    rw [run]
    unfold stepM
    rw [if_neg c]
theorem lv_zero {lo : LO (α × α)} {ps : List (α × α)} {a : α} (hs : lo.Srt ps) : Lv lo ps a 0 [([], [a], outs ps a)] := by
  refine ⟨by simp, fun r hr => ?_, fun ord s h _ => ⟨_, List.mem_cons_self, ?_⟩, List.pairwise_singleton _ _⟩
  · have e : r = ([], [a], outs ps a) := by simpa using hr
    subst e
    exact ⟨rfl, hs.filter _, outs ps a, rfl, .refl _⟩
  · exact (List.eq_nil_of_length_eq_zero h).symm
theorem lv_next {lo : LO (α × α)} {ps : List (α × α)} {a : α} (hp : ps.Nodup) {n : Nat} {r0 : Row α} {rest : List (Row α)} (h : Lv lo ps a n (r0 :: rest)) (ht : r0.2.2 ≠ []) :
    Lv lo ps a (n + 1) (rowsNext lo ps (r0 :: rest)) ∧ n + 1 ≤ ps.length := by
  have h0 := h.row r0 List.mem_cons_self
  refine ⟨⟨?_, fun r hr => ?_, fun ord s hl hrun => ?_, ?_⟩, ?_⟩
  · cases e : r0.2.2 with
    | nil => exact absurd e ht
    | cons x t =>
      intro z
      have m : rowStep lo ps r0 x ∈ rowsNext lo ps (r0 :: rest) := List.mem_flatMap.mpr ⟨r0, List.mem_cons_self, List.mem_map.mpr ⟨x, by rw [e]; simp, rfl⟩⟩
      rw [z] at m
      cases m
  · obtain ⟨q, hq, hm⟩ := List.mem_flatMap.mp hr
    obtain ⟨x, hx, rfl⟩ := List.mem_map.mp hm
    exact (row_step hp (h.row q hq) hx).2
  · -- the run's last letter
    have hne : ord ≠ [] := fun z => by rw [z] at hl; simp at hl
    obtain ⟨ord0, x, rfl⟩ : ∃ o x, ord = o ++ [x] := ⟨ord.dropLast, ord.getLast hne, (List.dropLast_concat_getLast hne).symm⟩
    rw [runM_snoc] at hrun
    cases e : runM ps ord0 (init ps a) with
    | none => rw [e] at hrun; cases hrun
    | some s0 =>
      rw [e] at hrun
      simp only [Option.bind_some] at hrun
      split at hrun
      · rename_i hx
        obtain ⟨r, hr, er⟩ := h.all ord0 s0 (by simp at hl; exact hl) e
        obtain ⟨h1, h2, t, h3, h4⟩ := h.row r hr
        rw [er, e] at h3
        have e2 : s0 = (r.2.1, t) := Option.some.inj h3
        have hx2 : x ∈ r.2.2 := h4.mem_iff.mp (by rw [e2] at hx; exact hx)
        refine ⟨rowStep lo ps r x, List.mem_flatMap.mpr ⟨r, hr, List.mem_map.mpr ⟨x, hx2, rfl⟩⟩, ?_⟩
        rw [(row_step hp (h.row r hr) hx2).1, er]
      · cases hrun
  · refine List.pairwise_flatMap.mpr ⟨fun r hr => ?_, ?_⟩
    · -- the children of one row
      obtain ⟨h1, h2, t, h3, h4⟩ := h.row r hr
      have nd : r.2.2.Nodup := h4.nodup_iff.mp (List.nodup_append.mp (run_nodup hp h3)).2.1
      rw [List.pairwise_map]
      have p2 : r.2.2.Pairwise fun x y => lo.lt y x = false ∧ x ≠ y := h2.and nd
      refine List.Pairwise.imp_of_mem (fun {x y} hx hy q => ?_) p2
      rw [(row_step hp (h.row r hr) hx).1, (row_step hp (h.row r hr) hy).1]
      refine lo.lexb_snoc_same r.1 ?_
      cases z : lo.lt x y with
      | true => rfl
      | false => exact absurd (lo.tri _ _ z q.1) q.2
    · refine List.Pairwise.imp_of_mem (fun {r r'} hr hr' q => ?_) h.asc
      intro c hc c' hc'
      obtain ⟨x, hx, rfl⟩ := List.mem_map.mp hc
      obtain ⟨y, hy, rfl⟩ := List.mem_map.mp hc'
      rw [(row_step hp (h.row r hr) hx).1, (row_step hp (h.row r' hr') hy).1]
      exact lo.lexb_snoc_lt x y ((h.row r hr).1.trans (h.row r' hr').1.symm) q
  · obtain ⟨h1, h2, t, h3, h4⟩ := h0
    have e := run_len h3
    have := List.length_filter_le (fun p => decide (p.1 ∈ r0.2.1)) ps
    have hl : 0 < r0.2.2.length := List.length_pos_iff.mpr ht
    have := h4.length_eq
    simp only at e
    omega
theorem lv_end {lo : LO (α × α)} {ps : List (α × α)} {a : α} {n : Nat} {r0 : Row α} {rest : List (Row α)} (h : Lv lo ps a n (r0 :: rest)) (ht : r0.2.2 = []) : ∀ r ∈ r0 :: rest, r.2.2 = [] ∧ ∃ t, runM ps r.1 (init ps a) = some (r.2.1, t) ∧ t = [] := fun r hr => by
  obtain ⟨h1, h2, t, h3, h4⟩ := h.row r0 List.mem_cons_self
  obtain ⟨k1, k2, t', k3, k4⟩ := h.row r hr
  have et : t = [] := by
    rw [ht] at h4
    exact h4.eq_nil
  have e : t' = [] := end_all h3 et k3 (by omega)
  refine ⟨?_, t', k3, e⟩
  rw [e] at k4
  exact k4.symm.eq_nil
/-- a run of just so many letters as an ended one has ended -/
theorem run_max {ps : List (α × α)} {a : α} {ord : List (α × α)} {s : List α × List (α × α)} (h : runM ps ord (init ps a) = some s) : ord.length ≤ ps.length := by
  have e := run_len h
  have := List.length_filter_le (fun p => decide (p.1 ∈ s.1)) ps
  omega
theorem same_len {ps : List (α × α)} {a : α} {ord ord' : List (α × α)} {s s' : List α × List (α × α)} (h : runM ps ord (init ps a) = some s) (he : s.2 = []) (h' : runM ps ord' (init ps a) = some s') (he' : s'.2 = []) : ord.length = ord'.length := by
  have e1 := run_len h
  have e2 := run_len h'
  have f : (ps.filter fun p => decide (p.1 ∈ s.1)) = (ps.filter fun p => decide (p.1 ∈ s'.1)) := List.filter_congr fun x _ => by
    rw [decide_eq_decide, learnt_iff h he, learnt_iff h' he']
  rw [he] at e1
  rw [he'] at e2
  rw [f] at e1
  simp only [List.length_nil] at e1 e2
  omega
end
end KM

set_option Elab.async false
set_option linter.all false
set_option maxRecDepth 100000
set_option maxHeartbeats 8000000
namespace T
open PySem PySem.Spec PyProof.Rows L2
/-! the text by places -/
def top (i : Nat) : Stmt := PySem.Challenge.pw_backpayhall_k53_whole_all_orders_learn.main.body.getD i (.Pass ⟨0, 0, 0, 0⟩)
abbrev s_is_name : Stmt := top 10
abbrev s_check_names : Stmt := top 11
abbrev s_merged : Stmt := top 12
abbrev s_ascending : Stmt := top 13
abbrev s_Ways_known : Stmt := inClass (top 15) 2
abbrev s_Ways_begin : Stmt := inClass (top 15) 3
abbrev s_Ways___init__ : Stmt := inClass (top 15) 0
abbrev s_Ways_writes : Stmt := inClass (top 15) 5
abbrev s_Ways_hears : Stmt := inClass (top 15) 6
abbrev s_Ways_lacking : Stmt := inClass (top 15) 7
abbrev s_letter_read : Stmt := top 16
abbrev s_deliveries : Stmt := top 17
abbrev s__law_mixed : Stmt := top 19
abbrev s__law_bag : Stmt := top 20
abbrev s__law_pick : Stmt := top 21
abbrev s__law_mingled : Stmt := top 22
abbrev s__law_sorted : Stmt := top 23
abbrev s__law_new_name : Stmt := top 24
abbrev s__law_every : Stmt := top 25
abbrev s__law_shape : Stmt := top 26
abbrev s__law_walked : Stmt := top 27
abbrev s__law_read_through : Stmt := top 28
abbrev s__law_told_well : Stmt := top 29
abbrev s_law : Stmt := top 30
theorem sc_is_name : FnScope ["thing", "letter"] ["thing"] (defScope s_is_name) := ⟨rfl, rfl, rfl, by decide +kernel, rfl, by decide +kernel, by decide +kernel⟩
theorem sc_check_names : FnScope ["things", "at", "thing"] ["things"] (defScope s_check_names) := ⟨rfl, rfl, rfl, by decide +kernel, rfl, by decide +kernel, by decide +kernel⟩
theorem sc_merged : FnScope ["left", "right", "found", "first", "second"] ["left", "right"] (defScope s_merged) := ⟨rfl, rfl, rfl, by decide +kernel, rfl, by decide +kernel, by decide +kernel⟩
theorem sc_ascending : FnScope ["things", "rows", "joined", "at", "thing"] ["things"] (defScope s_ascending) := ⟨rfl, rfl, rfl, by decide +kernel, rfl, by decide +kernel, by decide +kernel⟩
theorem sc_Ways_known : FnScope ["self", "office"] ["self", "office"] (defScope s_Ways_known) := ⟨rfl, rfl, rfl, by decide +kernel, rfl, by decide +kernel, by decide +kernel⟩
theorem sc_Ways_begin : FnScope ["self", "writer", "reader"] ["self", "writer", "reader"] (defScope s_Ways_begin) := ⟨rfl, rfl, rfl, by decide +kernel, rfl, by decide +kernel, by decide +kernel⟩
theorem sc_Ways___init__ : FnScope ["self", "offices", "pairs", "names", "writer", "reader"] ["self", "offices", "pairs"] (defScope s_Ways___init__) := ⟨rfl, rfl, rfl, by decide +kernel, rfl, by decide +kernel, by decide +kernel⟩
theorem sc_Ways_writes : FnScope ["self", "office", "pair"] ["self", "office"] (defScope s_Ways_writes) := ⟨rfl, rfl, rfl, by decide +kernel, rfl, by decide +kernel, by decide +kernel⟩
theorem sc_Ways_hears : FnScope ["self", "office", "heard", "times", "writer", "reader"] ["self", "office"] (defScope s_Ways_hears) := ⟨rfl, rfl, rfl, by decide +kernel, rfl, by decide +kernel, by decide +kernel⟩
theorem sc_Ways_lacking : FnScope ["self", "found", "office", "heard", "other"] ["self"] (defScope s_Ways_lacking) := ⟨rfl, rfl, rfl, by decide +kernel, rfl, by decide +kernel, by decide +kernel⟩
theorem sc_letter_read : FnScope ["ways", "order", "learnt", "letters", "letter", "left", "reader", "other", "name"] ["ways", "order", "learnt", "letters", "letter"] (defScope s_letter_read) := ⟨rfl, rfl, rfl, by decide +kernel, rfl, by decide +kernel, by decide +kernel⟩
theorem sc_deliveries : GScope ["ways", "office", "rows", "longer", "order", "learnt", "letters", "letter", "row", "name"] ["ways", "office"] (defScope s_deliveries) := ⟨rfl, rfl, rfl, by decide +kernel, rfl, by decide +kernel, by decide +kernel⟩
theorem sc__law_mixed : FnScope ["number", "turn", "low", "high"] ["number", "turn"] (defScope s__law_mixed) := ⟨rfl, rfl, rfl, by decide +kernel, rfl, by decide +kernel, by decide +kernel⟩
theorem sc__law_bag : FnScope ["script", "cell", "numbers", "seed", "at"] ["script"] (defScope s__law_bag) := ⟨rfl, rfl, rfl, by decide +kernel, rfl, by decide +kernel, by decide +kernel⟩
theorem sc__law_pick : FnScope ["bag", "many", "turn", "cell", "worth"] ["bag", "many"] (defScope s__law_pick) := ⟨rfl, rfl, rfl, by decide +kernel, rfl, by decide +kernel, by decide +kernel⟩
theorem sc__law_mingled : FnScope ["bag", "things", "left", "out", "step"] ["bag", "things"] (defScope s__law_mingled) := ⟨rfl, rfl, rfl, by decide +kernel, rfl, by decide +kernel, by decide +kernel⟩
theorem sc__law_sorted : FnScope ["things", "out", "thing", "at"] ["things"] (defScope s__law_sorted) := ⟨rfl, rfl, rfl, by decide +kernel, rfl, by decide +kernel, by decide +kernel⟩
theorem sc__law_new_name : FnScope ["bag", "used", "letters", "told", "near", "at", "tails", "step", "k", "tail"] ["bag", "used"] (defScope s__law_new_name) := ⟨rfl, rfl, rfl, by decide +kernel, rfl, by decide +kernel, by decide +kernel⟩
theorem sc__law_every : FnScope ["names", "out", "one", "two"] ["names"] (defScope s__law_every) := ⟨rfl, rfl, rfl, by decide +kernel, rfl, by decide +kernel, by decide +kernel⟩
theorem sc__law_shape : FnScope ["bag", "names", "way", "out", "pair", "k"] ["bag", "names"] (defScope s__law_shape) := ⟨rfl, rfl, rfl, by decide +kernel, rfl, by decide +kernel, by decide +kernel⟩
theorem sc__law_walked : FnScope ["pairs", "office", "order", "learnt", "letters", "letter", "pair"] ["pairs", "office", "order"] (defScope s__law_walked) := ⟨rfl, rfl, rfl, by decide +kernel, rfl, by decide +kernel, by decide +kernel⟩
theorem sc__law_read_through : FnScope ["bag", "pairs", "office", "learnt", "letters", "order", "step", "letter", "pair"] ["bag", "pairs", "office"] (defScope s__law_read_through) := ⟨rfl, rfl, rfl, by decide +kernel, rfl, by decide +kernel, by decide +kernel⟩
theorem sc__law_told_well : FnScope ["bag", "box", "names", "pairs", "office", "told", "lacking", "hearers", "name", "heard", "at", "order", "learnt", "step"] ["bag", "box", "names", "pairs", "office"] (defScope s__law_told_well) := ⟨rfl, rfl, rfl, by decide +kernel, rfl, by decide +kernel, by decide +kernel⟩
theorem sc_law : FnScope ["script", "bag", "names", "k", "pairs", "box", "office"] ["script"] (defScope s_law) := ⟨rfl, rfl, rfl, by decide +kernel, rfl, by decide +kernel, by decide +kernel⟩
/-! facts -/
def d_is_name : He.DefD := ⟨("is_name", none), "is_name", "is_name", defArgs s_is_name, defBody s_is_name, defScope s_is_name, [], []⟩
def d_check_names : He.DefD := ⟨("check_names", none), "check_names", "check_names", defArgs s_check_names, defBody s_check_names, defScope s_check_names, [], []⟩
def d_merged : He.DefD := ⟨("merged", none), "merged", "merged", defArgs s_merged, defBody s_merged, defScope s_merged, [], []⟩
def d_ascending : He.DefD := ⟨("ascending", none), "ascending", "ascending", defArgs s_ascending, defBody s_ascending, defScope s_ascending, [], []⟩
def d_Ways_known : He.DefD := ⟨("Ways", some "known"), "known", "Ways.known", defArgs s_Ways_known, defBody s_Ways_known, defScope s_Ways_known, [], []⟩
def d_Ways_begin : He.DefD := ⟨("Ways", some "begin"), "begin", "Ways.begin", defArgs s_Ways_begin, defBody s_Ways_begin, defScope s_Ways_begin, [], []⟩
def d_Ways___init__ : He.DefD := ⟨("Ways", some "__init__"), "__init__", "Ways.__init__", defArgs s_Ways___init__, defBody s_Ways___init__, defScope s_Ways___init__, [.adr (He.dflAt ("Ways", some "__init__") 0)], []⟩
def d_Ways_writes : He.DefD := ⟨("Ways", some "writes"), "writes", "Ways.writes", defArgs s_Ways_writes, defBody s_Ways_writes, defScope s_Ways_writes, [], []⟩
def d_Ways_hears : He.DefD := ⟨("Ways", some "hears"), "hears", "Ways.hears", defArgs s_Ways_hears, defBody s_Ways_hears, defScope s_Ways_hears, [], []⟩
def d_Ways_lacking : He.DefD := ⟨("Ways", some "lacking"), "lacking", "Ways.lacking", defArgs s_Ways_lacking, defBody s_Ways_lacking, defScope s_Ways_lacking, [], []⟩
def d_letter_read : He.DefD := ⟨("letter_read", none), "letter_read", "letter_read", defArgs s_letter_read, defBody s_letter_read, defScope s_letter_read, [], []⟩
def d_deliveries : He.DefD := ⟨("deliveries", none), "deliveries", "deliveries", defArgs s_deliveries, defBody s_deliveries, defScope s_deliveries, [], []⟩
def d__law_mixed : He.DefD := ⟨("_law_mixed", none), "_law_mixed", "_law_mixed", defArgs s__law_mixed, defBody s__law_mixed, defScope s__law_mixed, [], []⟩
def d__law_bag : He.DefD := ⟨("_law_bag", none), "_law_bag", "_law_bag", defArgs s__law_bag, defBody s__law_bag, defScope s__law_bag, [], []⟩
def d__law_pick : He.DefD := ⟨("_law_pick", none), "_law_pick", "_law_pick", defArgs s__law_pick, defBody s__law_pick, defScope s__law_pick, [], []⟩
def d__law_mingled : He.DefD := ⟨("_law_mingled", none), "_law_mingled", "_law_mingled", defArgs s__law_mingled, defBody s__law_mingled, defScope s__law_mingled, [], []⟩
def d__law_sorted : He.DefD := ⟨("_law_sorted", none), "_law_sorted", "_law_sorted", defArgs s__law_sorted, defBody s__law_sorted, defScope s__law_sorted, [], []⟩
def d__law_new_name : He.DefD := ⟨("_law_new_name", none), "_law_new_name", "_law_new_name", defArgs s__law_new_name, defBody s__law_new_name, defScope s__law_new_name, [], []⟩
def d__law_every : He.DefD := ⟨("_law_every", none), "_law_every", "_law_every", defArgs s__law_every, defBody s__law_every, defScope s__law_every, [], []⟩
def d__law_shape : He.DefD := ⟨("_law_shape", none), "_law_shape", "_law_shape", defArgs s__law_shape, defBody s__law_shape, defScope s__law_shape, [], []⟩
def d__law_walked : He.DefD := ⟨("_law_walked", none), "_law_walked", "_law_walked", defArgs s__law_walked, defBody s__law_walked, defScope s__law_walked, [], []⟩
def d__law_read_through : He.DefD := ⟨("_law_read_through", none), "_law_read_through", "_law_read_through", defArgs s__law_read_through, defBody s__law_read_through, defScope s__law_read_through, [], []⟩
def d__law_told_well : He.DefD := ⟨("_law_told_well", none), "_law_told_well", "_law_told_well", defArgs s__law_told_well, defBody s__law_told_well, defScope s__law_told_well, [], []⟩
def d_law : He.DefD := ⟨("law", none), "law", "law", defArgs s_law, defBody s_law, defScope s_law, [], []⟩
def fn : List He.DefD := [d_is_name, d_check_names, d_merged, d_ascending, d_Ways_known, d_Ways_begin, d_Ways___init__, d_Ways_writes, d_Ways_hears, d_Ways_lacking, d_letter_read, d_deliveries, d__law_mixed, d__law_bag, d__law_pick, d__law_mingled, d__law_sorted, d__law_new_name, d__law_every, d__law_shape, d__law_walked, d__law_read_through, d__law_told_well, d_law]
def fa : List He.Fa := [.glo "is_name", .glo "check_names", .glo "merged", .glo "ascending", .glo "letter_read", .glo "deliveries", .glo "_law_mixed", .glo "_law_bag", .glo "_law_pick", .glo "_law_mingled", .glo "_law_sorted", .glo "_law_new_name", .glo "_law_every", .glo "_law_shape", .glo "_law_walked", .glo "_law_read_through", .glo "_law_told_well", .glo "law", .cls "Ways", .glo "Ways", .mkr "Ways", .meth "Ways" "begin", .meth "Ways" "hears", .meth "Ways" "known", .meth "Ways" "lacking", .meth "Ways" "writes", .noat "Ways" "offices", .noat "Ways" "pairs", .free "abs", .free "enumerate", .free "int", .free "isinstance", .free "len", .free "list", .free "range", .free "str", .free "tuple", .str "LETTERS" "abcdefghijklmnopqrstuvwxyz"]
abbrev FnP (K : PySem.W.Frag) (d : He.DefD) (f : Addr) (fd : FuncData) : Prop := FunD K d.name d.qual d.params d.body d.scope (d.dvs K) (d.kws K) f fd
/-- what the top has left -/
structure Tx (K : PySem.W.Frag) (mg : Str → Option Value) where
  e_is_name : FuncData
  F_is_name : FunD K "is_name" "is_name" (defArgs s_is_name) (defBody s_is_name) (defScope s_is_name) [] [] (He.fAd K d_is_name.at_) e_is_name
  e_check_names : FuncData
  F_check_names : FunD K "check_names" "check_names" (defArgs s_check_names) (defBody s_check_names) (defScope s_check_names) [] [] (He.fAd K d_check_names.at_) e_check_names
  e_merged : FuncData
  F_merged : FunD K "merged" "merged" (defArgs s_merged) (defBody s_merged) (defScope s_merged) [] [] (He.fAd K d_merged.at_) e_merged
  e_ascending : FuncData
  F_ascending : FunD K "ascending" "ascending" (defArgs s_ascending) (defBody s_ascending) (defScope s_ascending) [] [] (He.fAd K d_ascending.at_) e_ascending
  e_Ways_known : FuncData
  F_Ways_known : FunD K "known" "Ways.known" (defArgs s_Ways_known) (defBody s_Ways_known) (defScope s_Ways_known) [] [] (He.fAd K d_Ways_known.at_) e_Ways_known
  e_Ways_begin : FuncData
  F_Ways_begin : FunD K "begin" "Ways.begin" (defArgs s_Ways_begin) (defBody s_Ways_begin) (defScope s_Ways_begin) [] [] (He.fAd K d_Ways_begin.at_) e_Ways_begin
  e_Ways___init__ : FuncData
  F_Ways___init__ : FunD K "__init__" "Ways.__init__" (defArgs s_Ways___init__) (defBody s_Ways___init__) (defScope s_Ways___init__) (d_Ways___init__.dvs K) [] (He.fAd K d_Ways___init__.at_) e_Ways___init__
  e_Ways_writes : FuncData
  F_Ways_writes : FunD K "writes" "Ways.writes" (defArgs s_Ways_writes) (defBody s_Ways_writes) (defScope s_Ways_writes) [] [] (He.fAd K d_Ways_writes.at_) e_Ways_writes
  e_Ways_hears : FuncData
  F_Ways_hears : FunD K "hears" "Ways.hears" (defArgs s_Ways_hears) (defBody s_Ways_hears) (defScope s_Ways_hears) [] [] (He.fAd K d_Ways_hears.at_) e_Ways_hears
  e_Ways_lacking : FuncData
  F_Ways_lacking : FunD K "lacking" "Ways.lacking" (defArgs s_Ways_lacking) (defBody s_Ways_lacking) (defScope s_Ways_lacking) [] [] (He.fAd K d_Ways_lacking.at_) e_Ways_lacking
  e_letter_read : FuncData
  F_letter_read : FunD K "letter_read" "letter_read" (defArgs s_letter_read) (defBody s_letter_read) (defScope s_letter_read) [] [] (He.fAd K d_letter_read.at_) e_letter_read
  e_deliveries : FuncData
  F_deliveries : FunD K "deliveries" "deliveries" (defArgs s_deliveries) (defBody s_deliveries) (defScope s_deliveries) [] [] (He.fAd K d_deliveries.at_) e_deliveries
  e__law_mixed : FuncData
  F__law_mixed : FunD K "_law_mixed" "_law_mixed" (defArgs s__law_mixed) (defBody s__law_mixed) (defScope s__law_mixed) [] [] (He.fAd K d__law_mixed.at_) e__law_mixed
  e__law_bag : FuncData
  F__law_bag : FunD K "_law_bag" "_law_bag" (defArgs s__law_bag) (defBody s__law_bag) (defScope s__law_bag) [] [] (He.fAd K d__law_bag.at_) e__law_bag
  e__law_pick : FuncData
  F__law_pick : FunD K "_law_pick" "_law_pick" (defArgs s__law_pick) (defBody s__law_pick) (defScope s__law_pick) [] [] (He.fAd K d__law_pick.at_) e__law_pick
  e__law_mingled : FuncData
  F__law_mingled : FunD K "_law_mingled" "_law_mingled" (defArgs s__law_mingled) (defBody s__law_mingled) (defScope s__law_mingled) [] [] (He.fAd K d__law_mingled.at_) e__law_mingled
  e__law_sorted : FuncData
  F__law_sorted : FunD K "_law_sorted" "_law_sorted" (defArgs s__law_sorted) (defBody s__law_sorted) (defScope s__law_sorted) [] [] (He.fAd K d__law_sorted.at_) e__law_sorted
  e__law_new_name : FuncData
  F__law_new_name : FunD K "_law_new_name" "_law_new_name" (defArgs s__law_new_name) (defBody s__law_new_name) (defScope s__law_new_name) [] [] (He.fAd K d__law_new_name.at_) e__law_new_name
  e__law_every : FuncData
  F__law_every : FunD K "_law_every" "_law_every" (defArgs s__law_every) (defBody s__law_every) (defScope s__law_every) [] [] (He.fAd K d__law_every.at_) e__law_every
  e__law_shape : FuncData
  F__law_shape : FunD K "_law_shape" "_law_shape" (defArgs s__law_shape) (defBody s__law_shape) (defScope s__law_shape) [] [] (He.fAd K d__law_shape.at_) e__law_shape
  e__law_walked : FuncData
  F__law_walked : FunD K "_law_walked" "_law_walked" (defArgs s__law_walked) (defBody s__law_walked) (defScope s__law_walked) [] [] (He.fAd K d__law_walked.at_) e__law_walked
  e__law_read_through : FuncData
  F__law_read_through : FunD K "_law_read_through" "_law_read_through" (defArgs s__law_read_through) (defBody s__law_read_through) (defScope s__law_read_through) [] [] (He.fAd K d__law_read_through.at_) e__law_read_through
  e__law_told_well : FuncData
  F__law_told_well : FunD K "_law_told_well" "_law_told_well" (defArgs s__law_told_well) (defBody s__law_told_well) (defScope s__law_told_well) [] [] (He.fAd K d__law_told_well.at_) e__law_told_well
  e_law : FuncData
  F_law : FunD K "law" "law" (defArgs s_law) (defBody s_law) (defScope s_law) [] [] (He.fAd K d_law.at_) e_law
  g_is_name : mg "is_name" = some (.ref (He.ga K "is_name"))
  g_check_names : mg "check_names" = some (.ref (He.ga K "check_names"))
  g_merged : mg "merged" = some (.ref (He.ga K "merged"))
  g_ascending : mg "ascending" = some (.ref (He.ga K "ascending"))
  g_letter_read : mg "letter_read" = some (.ref (He.ga K "letter_read"))
  g_deliveries : mg "deliveries" = some (.ref (He.ga K "deliveries"))
  g__law_mixed : mg "_law_mixed" = some (.ref (He.ga K "_law_mixed"))
  g__law_bag : mg "_law_bag" = some (.ref (He.ga K "_law_bag"))
  g__law_pick : mg "_law_pick" = some (.ref (He.ga K "_law_pick"))
  g__law_mingled : mg "_law_mingled" = some (.ref (He.ga K "_law_mingled"))
  g__law_sorted : mg "_law_sorted" = some (.ref (He.ga K "_law_sorted"))
  g__law_new_name : mg "_law_new_name" = some (.ref (He.ga K "_law_new_name"))
  g__law_every : mg "_law_every" = some (.ref (He.ga K "_law_every"))
  g__law_shape : mg "_law_shape" = some (.ref (He.ga K "_law_shape"))
  g__law_walked : mg "_law_walked" = some (.ref (He.ga K "_law_walked"))
  g__law_read_through : mg "_law_read_through" = some (.ref (He.ga K "_law_read_through"))
  g__law_told_well : mg "_law_told_well" = some (.ref (He.ga K "_law_told_well"))
  g_law : mg "law" = some (.ref (He.ga K "law"))
  l_Ways : Cls K (He.ga K "Ways")
  g_Ways : mg "Ways" = some (.ref (He.ga K "Ways"))
  k_Ways : Mk K (He.ga K "Ways") (He.ma K (He.ga K "Ways") "__init__")
  m_Ways_begin : Meth K (He.ga K "Ways") "begin" (He.ma K (He.ga K "Ways") "begin")
  m_Ways_hears : Meth K (He.ga K "Ways") "hears" (He.ma K (He.ga K "Ways") "hears")
  m_Ways_known : Meth K (He.ga K "Ways") "known" (He.ma K (He.ga K "Ways") "known")
  m_Ways_lacking : Meth K (He.ga K "Ways") "lacking" (He.ma K (He.ga K "Ways") "lacking")
  m_Ways_writes : Meth K (He.ga K "Ways") "writes" (He.ma K (He.ga K "Ways") "writes")
  n_Ways_offices : NoAttr K (He.ga K "Ways") "offices"
  n_Ways_pairs : NoAttr K (He.ga K "Ways") "pairs"
  f_abs : mg "abs" = none
  f_enumerate : mg "enumerate" = none
  f_int : mg "int" = none
  f_isinstance : mg "isinstance" = none
  f_len : mg "len" = none
  f_list : mg "list" = none
  f_range : mg "range" = none
  f_str : mg "str" = none
  f_tuple : mg "tuple" = none
  c_LETTERS : ∃ t, mg "LETTERS" = some (.str "abcdefghijklmnopqrstuvwxyz" t)
section
variable {K : PySem.W.Frag} {mg : Str → Option Value}
theorem Tx.b_is_name (T : Tx K mg) : Binds K T.e_is_name ["thing"] [] := T.F_is_name.bindsN fun _ _ _ _ _ _ us hl => match us, hl with | [_], _ => rfl
theorem Tx.b_check_names (T : Tx K mg) : Binds K T.e_check_names ["things"] [] := T.F_check_names.bindsN fun _ _ _ _ _ _ us hl => match us, hl with | [_], _ => rfl
theorem Tx.b_merged (T : Tx K mg) : Binds K T.e_merged ["left", "right"] [] := T.F_merged.bindsN fun _ _ _ _ _ _ us hl => match us, hl with | [_, _], _ => rfl
theorem Tx.b_ascending (T : Tx K mg) : Binds K T.e_ascending ["things"] [] := T.F_ascending.bindsN fun _ _ _ _ _ _ us hl => match us, hl with | [_], _ => rfl
theorem Tx.b_Ways_known (T : Tx K mg) : Binds K T.e_Ways_known ["self", "office"] [] := T.F_Ways_known.bindsN fun _ _ _ _ _ _ us hl => match us, hl with | [_, _], _ => rfl
theorem Tx.b_Ways_begin (T : Tx K mg) : Binds K T.e_Ways_begin ["self", "writer", "reader"] [] := T.F_Ways_begin.bindsN fun _ _ _ _ _ _ us hl => match us, hl with | [_, _, _], _ => rfl
/-- all parameters written -/
theorem Tx.b_Ways___init__ (T : Tx K mg) : Binds K T.e_Ways___init__ ["self", "offices", "pairs"] [] := bindsFull (n := 3) (j := 1) T.F_Ways___init__ (List.cons_ne_nil _ _) rfl rfl fun _ _ _ _ _ _ _ us its h1 h2 => match us, its, h1, h2 with | [_, _, _], [_], _, _ => ⟨_, rfl, rfl⟩
theorem Tx.b_Ways_writes (T : Tx K mg) : Binds K T.e_Ways_writes ["self", "office"] [] := T.F_Ways_writes.bindsN fun _ _ _ _ _ _ us hl => match us, hl with | [_, _], _ => rfl
theorem Tx.b_Ways_hears (T : Tx K mg) : Binds K T.e_Ways_hears ["self", "office"] [] := T.F_Ways_hears.bindsN fun _ _ _ _ _ _ us hl => match us, hl with | [_, _], _ => rfl
theorem Tx.b_Ways_lacking (T : Tx K mg) : Binds K T.e_Ways_lacking ["self"] [] := T.F_Ways_lacking.bindsN fun _ _ _ _ _ _ us hl => match us, hl with | [_], _ => rfl
theorem Tx.b_letter_read (T : Tx K mg) : Binds K T.e_letter_read ["ways", "order", "learnt", "letters", "letter"] [] := T.F_letter_read.bindsN fun _ _ _ _ _ _ us hl => match us, hl with | [_, _, _, _, _], _ => rfl
theorem Tx.b_deliveries (T : Tx K mg) : Binds K T.e_deliveries ["ways", "office"] [] := T.F_deliveries.bindsN fun _ _ _ _ _ _ us hl => match us, hl with | [_, _], _ => rfl
theorem Tx.b__law_mixed (T : Tx K mg) : Binds K T.e__law_mixed ["number", "turn"] [] := T.F__law_mixed.bindsN fun _ _ _ _ _ _ us hl => match us, hl with | [_, _], _ => rfl
theorem Tx.b__law_bag (T : Tx K mg) : Binds K T.e__law_bag ["script"] [] := T.F__law_bag.bindsN fun _ _ _ _ _ _ us hl => match us, hl with | [_], _ => rfl
theorem Tx.b__law_pick (T : Tx K mg) : Binds K T.e__law_pick ["bag", "many"] [] := T.F__law_pick.bindsN fun _ _ _ _ _ _ us hl => match us, hl with | [_, _], _ => rfl
theorem Tx.b__law_mingled (T : Tx K mg) : Binds K T.e__law_mingled ["bag", "things"] [] := T.F__law_mingled.bindsN fun _ _ _ _ _ _ us hl => match us, hl with | [_, _], _ => rfl
theorem Tx.b__law_sorted (T : Tx K mg) : Binds K T.e__law_sorted ["things"] [] := T.F__law_sorted.bindsN fun _ _ _ _ _ _ us hl => match us, hl with | [_], _ => rfl
theorem Tx.b__law_new_name (T : Tx K mg) : Binds K T.e__law_new_name ["bag", "used"] [] := T.F__law_new_name.bindsN fun _ _ _ _ _ _ us hl => match us, hl with | [_, _], _ => rfl
theorem Tx.b__law_every (T : Tx K mg) : Binds K T.e__law_every ["names"] [] := T.F__law_every.bindsN fun _ _ _ _ _ _ us hl => match us, hl with | [_], _ => rfl
theorem Tx.b__law_shape (T : Tx K mg) : Binds K T.e__law_shape ["bag", "names"] [] := T.F__law_shape.bindsN fun _ _ _ _ _ _ us hl => match us, hl with | [_, _], _ => rfl
theorem Tx.b__law_walked (T : Tx K mg) : Binds K T.e__law_walked ["pairs", "office", "order"] [] := T.F__law_walked.bindsN fun _ _ _ _ _ _ us hl => match us, hl with | [_, _, _], _ => rfl
theorem Tx.b__law_read_through (T : Tx K mg) : Binds K T.e__law_read_through ["bag", "pairs", "office"] [] := T.F__law_read_through.bindsN fun _ _ _ _ _ _ us hl => match us, hl with | [_, _, _], _ => rfl
theorem Tx.b__law_told_well (T : Tx K mg) : Binds K T.e__law_told_well ["bag", "box", "names", "pairs", "office"] [] := T.F__law_told_well.bindsN fun _ _ _ _ _ _ us hl => match us, hl with | [_, _, _, _, _], _ => rfl
theorem Tx.b_law (T : Tx K mg) : Binds K T.e_law ["script"] [] := T.F_law.bindsN fun _ _ _ _ _ _ us hl => match us, hl with | [_], _ => rfl
theorem tx_of {h : Heap} (X : K.In h) (G : h.Ns mainGlobals mg) (c : He.SaysD fa fn K) : Nonempty (Tx K mg) := by
  obtain ⟨e_is_name, F_is_name⟩ := c.def_ 0 (d := d_is_name) rfl
  obtain ⟨e_check_names, F_check_names⟩ := c.def_ 1 (d := d_check_names) rfl
  obtain ⟨e_merged, F_merged⟩ := c.def_ 2 (d := d_merged) rfl
  obtain ⟨e_ascending, F_ascending⟩ := c.def_ 3 (d := d_ascending) rfl
  obtain ⟨e_Ways_known, F_Ways_known⟩ := c.def_ 4 (d := d_Ways_known) rfl
  obtain ⟨e_Ways_begin, F_Ways_begin⟩ := c.def_ 5 (d := d_Ways_begin) rfl
  obtain ⟨e_Ways___init__, F_Ways___init__⟩ := c.def_ 6 (d := d_Ways___init__) rfl
  obtain ⟨e_Ways_writes, F_Ways_writes⟩ := c.def_ 7 (d := d_Ways_writes) rfl
  obtain ⟨e_Ways_hears, F_Ways_hears⟩ := c.def_ 8 (d := d_Ways_hears) rfl
  obtain ⟨e_Ways_lacking, F_Ways_lacking⟩ := c.def_ 9 (d := d_Ways_lacking) rfl
  obtain ⟨e_letter_read, F_letter_read⟩ := c.def_ 10 (d := d_letter_read) rfl
  obtain ⟨e_deliveries, F_deliveries⟩ := c.def_ 11 (d := d_deliveries) rfl
  obtain ⟨e__law_mixed, F__law_mixed⟩ := c.def_ 12 (d := d__law_mixed) rfl
  obtain ⟨e__law_bag, F__law_bag⟩ := c.def_ 13 (d := d__law_bag) rfl
  obtain ⟨e__law_pick, F__law_pick⟩ := c.def_ 14 (d := d__law_pick) rfl
  obtain ⟨e__law_mingled, F__law_mingled⟩ := c.def_ 15 (d := d__law_mingled) rfl
  obtain ⟨e__law_sorted, F__law_sorted⟩ := c.def_ 16 (d := d__law_sorted) rfl
  obtain ⟨e__law_new_name, F__law_new_name⟩ := c.def_ 17 (d := d__law_new_name) rfl
  obtain ⟨e__law_every, F__law_every⟩ := c.def_ 18 (d := d__law_every) rfl
  obtain ⟨e__law_shape, F__law_shape⟩ := c.def_ 19 (d := d__law_shape) rfl
  obtain ⟨e__law_walked, F__law_walked⟩ := c.def_ 20 (d := d__law_walked) rfl
  obtain ⟨e__law_read_through, F__law_read_through⟩ := c.def_ 21 (d := d__law_read_through) rfl
  obtain ⟨e__law_told_well, F__law_told_well⟩ := c.def_ 22 (d := d__law_told_well) rfl
  obtain ⟨e_law, F_law⟩ := c.def_ 23 (d := d_law) rfl
  exact ⟨{
    e_is_name := e_is_name
    F_is_name := F_is_name
    e_check_names := e_check_names
    F_check_names := F_check_names
    e_merged := e_merged
    F_merged := F_merged
    e_ascending := e_ascending
    F_ascending := F_ascending
    e_Ways_known := e_Ways_known
    F_Ways_known := F_Ways_known
    e_Ways_begin := e_Ways_begin
    F_Ways_begin := F_Ways_begin
    e_Ways___init__ := e_Ways___init__
    F_Ways___init__ := F_Ways___init__
    e_Ways_writes := e_Ways_writes
    F_Ways_writes := F_Ways_writes
    e_Ways_hears := e_Ways_hears
    F_Ways_hears := F_Ways_hears
    e_Ways_lacking := e_Ways_lacking
    F_Ways_lacking := F_Ways_lacking
    e_letter_read := e_letter_read
    F_letter_read := F_letter_read
    e_deliveries := e_deliveries
    F_deliveries := F_deliveries
    e__law_mixed := e__law_mixed
    F__law_mixed := F__law_mixed
    e__law_bag := e__law_bag
    F__law_bag := F__law_bag
    e__law_pick := e__law_pick
    F__law_pick := F__law_pick
    e__law_mingled := e__law_mingled
    F__law_mingled := F__law_mingled
    e__law_sorted := e__law_sorted
    F__law_sorted := F__law_sorted
    e__law_new_name := e__law_new_name
    F__law_new_name := F__law_new_name
    e__law_every := e__law_every
    F__law_every := F__law_every
    e__law_shape := e__law_shape
    F__law_shape := F__law_shape
    e__law_walked := e__law_walked
    F__law_walked := F__law_walked
    e__law_read_through := e__law_read_through
    F__law_read_through := F__law_read_through
    e__law_told_well := e__law_told_well
    F__law_told_well := F__law_told_well
    e_law := e_law
    F_law := F_law
    g_is_name := He.glo_ok X G (c.fact 0 (f := .glo "is_name") rfl)
    g_check_names := He.glo_ok X G (c.fact 1 (f := .glo "check_names") rfl)
    g_merged := He.glo_ok X G (c.fact 2 (f := .glo "merged") rfl)
    g_ascending := He.glo_ok X G (c.fact 3 (f := .glo "ascending") rfl)
    g_letter_read := He.glo_ok X G (c.fact 4 (f := .glo "letter_read") rfl)
    g_deliveries := He.glo_ok X G (c.fact 5 (f := .glo "deliveries") rfl)
    g__law_mixed := He.glo_ok X G (c.fact 6 (f := .glo "_law_mixed") rfl)
    g__law_bag := He.glo_ok X G (c.fact 7 (f := .glo "_law_bag") rfl)
    g__law_pick := He.glo_ok X G (c.fact 8 (f := .glo "_law_pick") rfl)
    g__law_mingled := He.glo_ok X G (c.fact 9 (f := .glo "_law_mingled") rfl)
    g__law_sorted := He.glo_ok X G (c.fact 10 (f := .glo "_law_sorted") rfl)
    g__law_new_name := He.glo_ok X G (c.fact 11 (f := .glo "_law_new_name") rfl)
    g__law_every := He.glo_ok X G (c.fact 12 (f := .glo "_law_every") rfl)
    g__law_shape := He.glo_ok X G (c.fact 13 (f := .glo "_law_shape") rfl)
    g__law_walked := He.glo_ok X G (c.fact 14 (f := .glo "_law_walked") rfl)
    g__law_read_through := He.glo_ok X G (c.fact 15 (f := .glo "_law_read_through") rfl)
    g__law_told_well := He.glo_ok X G (c.fact 16 (f := .glo "_law_told_well") rfl)
    g_law := He.glo_ok X G (c.fact 17 (f := .glo "law") rfl)
    l_Ways := He.cls_ok (c.fact 18 (f := .cls "Ways") rfl)
    g_Ways := He.glo_ok X G (c.fact 19 (f := .glo "Ways") rfl)
    k_Ways := He.mkr_ok (c.fact 20 (f := .mkr "Ways") rfl)
    m_Ways_begin := He.meth_ok (c.fact 21 (f := .meth "Ways" "begin") rfl)
    m_Ways_hears := He.meth_ok (c.fact 22 (f := .meth "Ways" "hears") rfl)
    m_Ways_known := He.meth_ok (c.fact 23 (f := .meth "Ways" "known") rfl)
    m_Ways_lacking := He.meth_ok (c.fact 24 (f := .meth "Ways" "lacking") rfl)
    m_Ways_writes := He.meth_ok (c.fact 25 (f := .meth "Ways" "writes") rfl)
    n_Ways_offices := He.noat_ok (c.fact 26 (f := .noat "Ways" "offices") rfl)
    n_Ways_pairs := He.noat_ok (c.fact 27 (f := .noat "Ways" "pairs") rfl)
    f_abs := He.free_ok X G (c.fact 28 (f := .free "abs") rfl)
    f_enumerate := He.free_ok X G (c.fact 29 (f := .free "enumerate") rfl)
    f_int := He.free_ok X G (c.fact 30 (f := .free "int") rfl)
    f_isinstance := He.free_ok X G (c.fact 31 (f := .free "isinstance") rfl)
    f_len := He.free_ok X G (c.fact 32 (f := .free "len") rfl)
    f_list := He.free_ok X G (c.fact 33 (f := .free "list") rfl)
    f_range := He.free_ok X G (c.fact 34 (f := .free "range") rfl)
    f_str := He.free_ok X G (c.fact 35 (f := .free "str") rfl)
    f_tuple := He.free_ok X G (c.fact 36 (f := .free "tuple") rfl)
    c_LETTERS := He.str_ok X G (c.fact 37 (f := .str "LETTERS" "abcdefghijklmnopqrstuvwxyz") rfl) }⟩
end
end T

set_option Elab.async false
set_option linter.all false
set_option maxRecDepth 100000
set_option maxHeartbeats 4000000
namespace T
open PySem PySem.Spec PyProof.Rows L2 KM

/-! ### data with an order -/
structure OD (α : Type) where
  lo : LO α
  enc : α → PyData
  ok : ∀ a, okD (enc a)
  nb : ∀ a, nob (enc a) = true
  inj : ∀ a b, enc a = enc b → a = b
  cmp : ∀ a b, cmpb (enc a) (enc b) = true
  ltb : ∀ a b, ltb (enc a) (enc b) = lo.lt a b
theorem OD.eqv {α : Type} [DecidableEq α] (o : OD α) (a b : α) : PyData.eqv (o.enc a) (o.enc b) = decide (a = b) := eqv_dec (o.nb a) (o.nb b) ⟨o.inj a b, fun e => by rw [e]⟩
theorem OD.plain {α : Type} (o : OD α) : ∀ xs : List α, PyData.plainAll (xs.map o.enc) = true
  | [] => by simp [PyData.plainAll]
  | x :: xs => by simp [PyData.plainAll, (o.ok x).1, o.plain xs]
theorem OD.nball {α : Type} (o : OD α) : ∀ xs : List α, nobAll (xs.map o.enc) = true
  | [] => by simp [nobAll]
  | x :: xs => by simp [nobAll, o.nb x, o.nball xs]
theorem OD.map_inj {α : Type} (o : OD α) : ∀ {xs ys : List α}, xs.map o.enc = ys.map o.enc → xs = ys
  | [], [], _ => rfl
  | [], _ :: _, h => by simp at h
  | _ :: _, [], h => by simp at h
  | x :: xs, y :: ys, h => by
    simp only [List.map_cons, List.cons.injEq] at h
    rw [o.inj _ _ h.1, OD.map_inj o h.2]
theorem str_ext' {a b : Str} (h : a.cps.toList = b.cps.toList) : a = b := by
  obtain ⟨a⟩ := a
  obtain ⟨b⟩ := b
  simp only at h
  rw [Array.toList_inj.mp h]
def strLO : LO Str where
  lt := fun a b => decide (a.cps.toList < b.cps.toList)
  irr := fun a => by simpa using List.lt_irrefl _
  tr := fun a b c h1 h2 => by
    simp only [decide_eq_true_eq] at *
    exact List.lt_trans h1 h2
  tri := fun a b h1 h2 => by
    simp only [decide_eq_false_iff_not] at *
    exact str_ext' (List.le_antisymm (List.not_lt.mp h2) (List.not_lt.mp h1))
def strO : OD Str where
  lo := strLO
  enc := .str
  ok := fun a => ⟨by simp [PyData.plain], by simp [PyData.depth]⟩
  nb := fun a => by simp [nob]
  inj := fun a b h => by simpa using h
  cmp := fun a b => by simp [cmpb]
  ltb := fun a b => by simp [T.ltb, strLO]
def encP (p : Str × Str) : PyData := .tuple [.str p.1, .str p.2]
def pairO : OD (Str × Str) where
  lo := LO.prod strLO strLO
  enc := encP
  ok := fun a => ⟨by simp [encP, PyData.plain, PyData.plainAll], by simp [encP, PyData.depth, PyData.depthAll]⟩
  nb := fun a => by simp [encP, nob, nobAll]
  inj := fun a b h => by
    simp only [encP, PyData.tuple.injEq, List.cons.injEq, PyData.str.injEq, and_true] at h
    exact Prod.ext h.1 h.2
  cmp := fun a b => by simp [encP, cmpb, cmpbAll]
  ltb := fun a b => by
    simp only [encP, T.ltb, ltbAll, LO.prod, strLO, PyData.eqv]
    by_cases h : a.1 = b.1
    · have h1 : (a.1 == b.1) = true := by simpa using h
      have h2 : ¬ a.1.cps.toList < b.1.cps.toList := by rw [h]; exact List.lt_irrefl _
      have h3 : ¬ b.1.cps.toList < a.1.cps.toList := by rw [h]; exact List.lt_irrefl _
      simp only [h1, if_true, h2, h3, decide_false, if_false, Bool.false_eq_true]
      by_cases k : a.2 = b.2
      · have k1 : (a.2 == b.2) = true := by simpa using k
        have k2 : ¬ a.2.cps.toList < b.2.cps.toList := by rw [k]; exact List.lt_irrefl _
        simp [k1, k2]
      · have k1 : (a.2 == b.2) = false := by simpa using k
        simp [k1]
    · have h1 : (a.1 == b.1) = false := by simpa using h
      simp only [h1, Bool.false_eq_true, if_false]
      by_cases h2 : a.1.cps.toList < b.1.cps.toList
      · simp [h2]
      · by_cases h3 : b.1.cps.toList < a.1.cps.toList
        · simp [h2, h3]
        · exact absurd (str_ext' (List.le_antisymm (List.not_lt.mp h3) (List.not_lt.mp h2))) h
/-- an order in which letters are read: a tuple of pairs -/
def encO (o : List (Str × Str)) : PyData := .tuple (o.map encP)
def encR (r : Row Str) : PyData := .tuple [encO r.1, .tuple (r.2.1.map .str), .list (r.2.2.map encP)]

/-- a list of data, tracked -/
def Dl (K : PySem.W.Frag) (G : Hp) (v : V) (ds : List PyData) : Prop := ∃ a xs, v = .ref a ∧ G a = some (.lst xs) ∧ DpAll K G xs ds
/-! ### names, the bag, Ways -/
def letters : Str := "abcdefghijklmnopqrstuvwxyz"
def nmOk (x : Str) : Prop := (1 ≤ x.length ∧ x.length ≤ 8) ∧ ∀ c ∈ x.cps.toList, c ∈ letters.cps.toList
instance (x : Str) : Decidable (nmOk x) := by unfold nmOk; infer_instance
/-- the list that draws the numbers -/
def BagO (K : PySem.W.Frag) (G : Hp) (o : HO) : Prop := ∃ (nb : Addr) (ns : List Int) (i : Nat) (c t s : Int), o = .lst [.ref nb, .int i, .int c, .int t, .int s] ∧ SqL K G nb (ns.map V.int) ∧ i ≤ ns.length ∧ 0 ≤ c ∧ 0 ≤ t ∧ 0 ≤ s
def wfs (a p : Addr) : List (Str × V) := putF "pairs" (.ref p) (putF "offices" (.ref a) [])
abbrev CW (K : PySem.W.Frag) : Addr := He.ga K "Ways"
/-- Ways with these names and ways, known -/
def BoxG (K : PySem.W.Frag) (G : Hp) (x : Addr) (names : List Str) (ps : List (Str × Str)) : Prop := ∃ dx a p, G x = some (.ins (CW K) dx (wfs a p)) ∧ SqT K G a (names.map V.str) ∧ Dl K G (.ref p) (ps.map encP)

def pm_is_name (K : PySem.W.Frag) : Pm := fun vs G L R => ∃ x : Str, vs = [.str x] ∧ x.length ≤ sizeLine ∧ R (.bl (decide (nmOk x))) G L
def pm_check_names (K : PySem.W.Frag) : Pm := fun vs G L R => ∃ (v : V) (names : List Str), vs = [v] ∧ Dl K G v (names.map .str) ∧ (∀ n ∈ names, nmOk n) ∧ names.Nodup ∧ names.length ≤ 1000 ∧ ∀ G', Ex G G' → R .non G' L
def pm_merged (K : PySem.W.Frag) : Pm := fun vs G L R => ∃ (α : Type) (o : OD α) (xs ys : List α) (v u : V), vs = [v, u] ∧ Dl K G v (xs.map o.enc) ∧ Dl K G u (ys.map o.enc) ∧ xs.length + ys.length ≤ 10000 ∧ ∀ z G', Ex G G' → Dl K G' z ((o.lo.merge xs ys).map o.enc) → R z G' L
def pm_ascending (K : PySem.W.Frag) : Pm := fun vs G L R => ∃ (α : Type) (o : OD α) (xs : List α) (v : V), vs = [v] ∧ Dl K G v (xs.map o.enc) ∧ xs.length ≤ 10000 ∧ ∀ z G', Ex G G' → Dl K G' z ((o.lo.sort xs).map o.enc) → R z G' L
def pm_Ways_known (K : PySem.W.Frag) : Pm := fun vs G L R => ∃ (x dx a : Addr) (fs : List (Str × V)) (names : List Str) (n : Str), vs = [.ref x, .str n] ∧ (G x = some (.ins (CW K) dx fs) ∨ L x = some (.ins (CW K) dx fs)) ∧ fs.lookup ("offices" : Str) = some (.ref a) ∧ SqT K G a (names.map V.str) ∧ n ∈ names ∧ R .non G L
def pm_Ways_begin (K : PySem.W.Frag) : Pm := fun vs G L R => ∃ (x dx a p : Addr) (names : List Str) (ps : List (Str × Str)) (w r : Str), vs = [.ref x, .str w, .str r] ∧ L x = some (.ins (CW K) dx (wfs a p)) ∧ SqT K G a (names.map V.str) ∧ Dl K G (.ref p) (ps.map encP) ∧ ps.length ≤ 1000 ∧
  w ∈ names ∧ r ∈ names ∧ w ≠ r ∧ (w, r) ∉ ps ∧ ∀ p' G', Ex G G' → Dl K G' (.ref p') ((pairO.lo.sort (ps ++ [(w, r)])).map encP) → R .non G' (upd L x (.ins (CW K) dx (wfs a p')))
def pm_Ways___init__ (K : PySem.W.Frag) : Pm := fun vs G L R => ∃ (x dx : Addr) (v u : V) (names : List Str) (ps : List (Str × Str)), vs = [.ref x, v, u] ∧ L x = some (.ins (CW K) dx []) ∧ Dl K G v (names.map .str) ∧ Dl K G u (ps.map encP) ∧
  (∀ n ∈ names, nmOk n) ∧ names.Nodup ∧ 1 ≤ names.length ∧ names.length ≤ 3 ∧ ps.Nodup ∧ ps.length ≤ 900 ∧ (∀ q ∈ ps, q.1 ∈ names ∧ q.2 ∈ names ∧ q.1 ≠ q.2) ∧
  ∀ a p G', Ex G G' → SqT K G' a (names.map V.str) → Dl K G' (.ref p) ((pairO.lo.sort ps).map encP) → R .non G' (upd L x (.ins (CW K) dx (wfs a p)))
def pm_Ways_writes (K : PySem.W.Frag) : Pm := fun vs G L R => ∃ (x : Addr) (names : List Str) (ps : List (Str × Str)) (n : Str), vs = [.ref x, .str n] ∧ BoxG K G x names ps ∧ ps.length ≤ 1000 ∧ n ∈ names ∧
  ∀ v G', Ex G G' → Dp K G' v (.tuple (((outs ps n).map (·.2)).map .str)) → R v G' L
def pm_Ways_hears (K : PySem.W.Frag) : Pm := fun vs G L R => ∃ (x : Addr) (names : List Str) (ps : List (Str × Str)) (n : Str), vs = [.ref x, .str n] ∧ BoxG K G x names ps ∧ ps.length ≤ 1000 ∧ names.length ≤ 3 ∧ (∀ q ∈ ps, q.1 ∈ names) ∧ n ∈ names ∧
  ∀ v G', Ex G G' → Dp K G' v (.tuple ((strLO.sort (roundsM ps names.length [n])).map .str)) → R v G' L
def lackM (names : List Str) (ps : List (Str × Str)) : List (Str × Str) := names.flatMap fun o => (names.filter fun n => decide (n ∉ roundsM ps names.length [o])).map fun n => (o, n)
def pm_Ways_lacking (K : PySem.W.Frag) : Pm := fun vs G L R => ∃ (x : Addr) (names : List Str) (ps : List (Str × Str)), vs = [.ref x] ∧ BoxG K G x names ps ∧ ps.length ≤ 1000 ∧ names.length ≤ 3 ∧ (∀ q ∈ ps, q.1 ∈ names) ∧
  ∀ v G', Ex G G' → Dl K G' v ((lackM names ps).map encP) → R v G' L
def pm_letter_read (K : PySem.W.Frag) : Pm := fun vs G L R => ∃ (x : Addr) (names : List Str) (ps : List (Str × Str)) (v1 v2 v3 v4 : V) (r : Row Str) (l : Str × Str), vs = [.ref x, v1, v2, v3, v4] ∧ BoxG K G x names ps ∧ ps.length ≤ 1000 ∧ l.2 ∈ names ∧
  Dp K G v1 (encO r.1) ∧ Dp K G v2 (.tuple (r.2.1.map .str)) ∧ Dp K G v3 (.list (r.2.2.map encP)) ∧ Dp K G v4 (encP l) ∧ r.1.length ≤ 1000 ∧ r.2.1.length ≤ 1000 ∧ r.2.2.length ≤ 1000 ∧
  ∀ v G', Ex G G' → Dp K G' v (encR (rowStep pairO.lo ps r l)) → R v G' L
/-- what deliveries hands out -/
def Told (ps : List (Str × Str)) (a : Str) (told : List (List (Str × Str))) : Prop := ∃ n rows, Lv pairO.lo ps a n rows ∧ (∀ r ∈ rows, r.2.2 = [] ∧ runM ps r.1 (init ps a) = some (r.2.1, [])) ∧ told = rows.map (·.1)
def pm__law_mixed (K : PySem.W.Frag) : Pm := fun vs G L R => ∃ a b : Int, vs = [.int a, .int b] ∧ ∀ r : Int, 0 ≤ r → R (.int r) G L
def pm__law_bag (K : PySem.W.Frag) : Pm := fun vs G L R => ∃ (a : Addr) (ns : List Int), vs = [.ref a] ∧ SqL K G a (ns.map V.int) ∧ ns.length ≤ 63 ∧ ∀ b G' o, Ex G G' → G' b = none → L b = none → BagO K G' o → R (.ref b) G' (upd L b o)
def pm__law_pick (K : PySem.W.Frag) : Pm := fun vs G L R => ∃ (b : Addr) (m : Int) (o : HO), vs = [.ref b, .int m] ∧ 0 < m ∧ m < 1073741824 ∧ L b = some o ∧ BagO K G o ∧ ∀ (r : Int) (o' : HO), 0 ≤ r → r < m → BagO K G o' → R (.int r) G (upd L b o')
def pm__law_mingled (K : PySem.W.Frag) : Pm := fun vs G L R => ∃ (b : Addr) (o : HO) (a : Addr) (xs : List V), vs = [.ref b, .ref a] ∧ L b = some o ∧ BagO K G o ∧ SqL K G a xs ∧ xs.length ≤ 1000 ∧ ∀ p G' o' ys, Ex G G' → BagO K G' o' → ys.Perm xs → G' p = some (.lst ys) → R (.ref p) G' (upd L b o')
def pm__law_sorted (K : PySem.W.Frag) : Pm := fun vs G L R => ∃ (v : V) (xs : List Str), vs = [v] ∧ Dl K G v (xs.map .str) ∧ xs.length ≤ 1000 ∧ ∀ z G', Ex G G' → Dl K G' z ((strLO.sort xs).map .str) → R z G' L
def pm__law_new_name (K : PySem.W.Frag) : Pm := fun vs G L R => ∃ (b : Addr) (o : HO) (u : Addr) (names : List Str), vs = [.ref b, .ref u] ∧ b ≠ u ∧ L b = some o ∧ BagO K G o ∧ L u = some (.lst (names.map V.str)) ∧ (∀ n ∈ names, nmOk n) ∧ names.length ≤ 100 ∧
  ∀ (x : Str) (G' : Hp) (o' : HO), Ex G G' → BagO K G' o' → nmOk x → x ∉ names → R (.str x) G' (upd (upd L b o') u (.lst ((names ++ [x]).map V.str)))
def everyM (names : List Str) : List (Str × Str) := names.flatMap fun a => (names.filter fun b => decide (b ≠ a)).map fun b => (a, b)
def pm__law_every (K : PySem.W.Frag) : Pm := fun vs G L R => ∃ (v : V) (names : List Str), vs = [v] ∧ Dl K G v (names.map .str) ∧ names.length ≤ 20 ∧ ∀ z G', Ex G G' → Dl K G' z ((everyM names).map encP) → R z G' L
def pm__law_shape (K : PySem.W.Frag) : Pm := fun vs G L R => ∃ (b : Addr) (o : HO) (v : V) (names : List Str), vs = [.ref b, v] ∧ L b = some o ∧ BagO K G o ∧ Dl K G v (names.map .str) ∧ names.Nodup ∧ 1 ≤ names.length ∧ names.length ≤ 3 ∧
  ∀ (z : V) (G' : Hp) (o' : HO) (ps : List (Str × Str)), Ex G G' → BagO K G' o' → Dl K G' z (ps.map encP) → ps.Nodup → ps.length ≤ 20 → (∀ q ∈ ps, q.1 ∈ names ∧ q.2 ∈ names ∧ q.1 ≠ q.2) → R z G' (upd L b o')
def pm__law_walked (K : PySem.W.Frag) : Pm := fun vs G L R => ∃ (v : V) (u : V) (ps : List (Str × Str)) (a : Str) (ord : List (Str × Str)) (l : List Str), vs = [v, .str a, u] ∧ Dl K G v (ps.map encP) ∧ Dp K G u (encO ord) ∧ ps.length ≤ 1000 ∧ runM ps ord (init ps a) = some (l, []) ∧
  ∀ z G', Ex G G' → Dl K G' z (l.map .str) → R z G' L
def pm__law_read_through (K : PySem.W.Frag) : Pm := fun vs G L R => ∃ (b : Addr) (o : HO) (v : V) (ps : List (Str × Str)) (a : Str), vs = [.ref b, v, .str a] ∧ L b = some o ∧ BagO K G o ∧ Dl K G v (ps.map encP) ∧ ps.length ≤ 1000 ∧
  ∀ z G' o' ord l, Ex G G' → BagO K G' o' → Dp K G' z (encO ord) → runM ps ord (init ps a) = some (l, []) → R z G' (upd L b o')
def pm__law_told_well (K : PySem.W.Frag) : Pm := fun vs G L R => ∃ (b : Addr) (o : HO) (x : Addr) (v u : V) (names : List Str) (ps qs : List (Str × Str)) (a : Str), vs = [.ref b, .ref x, v, u, .str a] ∧ L b = some o ∧ BagO K G o ∧ BoxG K G x names qs ∧ Dl K G v (names.map .str) ∧ Dl K G u (ps.map encP) ∧
  qs = pairO.lo.sort ps ∧ ps.Nodup ∧ ps.length ≤ 20 ∧ names.Nodup ∧ names.length ≤ 3 ∧ (∀ q ∈ ps, q.1 ∈ names ∧ q.2 ∈ names ∧ q.1 ≠ q.2) ∧ a ∈ names ∧
  ∀ G' o', Ex G G' → BagO K G' o' → R (.bl true) G' (upd L b o')
def pm_law (K : PySem.W.Frag) : Pm := fun vs G L R => ∃ (a : Addr) (ns : List Int), vs = [.ref a] ∧ SqL K G a (ns.map V.int) ∧ ns.length ≤ 63 ∧ ∀ G' L', R (.bl true) G' L'
/-- deliveries: what the generator gives out -/
def pmg_deliveries (K : PySem.W.Frag) : Pmg := fun vs G L R => ∃ (x : Addr) (names : List Str) (ps : List (Str × Str)) (a : Str), vs = [.ref x, .str a] ∧ BoxG K G x names ps ∧ ps.Nodup ∧ pairO.lo.Srt ps ∧ ps.length ≤ 6 ∧ (∀ q ∈ ps, q.2 ∈ names) ∧ a ∈ names ∧
  ∀ outs G' told, Ex G G' → DpAll K G' outs (told.map encO) → outs.length ≤ sizeLine → Told ps a told → R outs G' L
abbrev spg_deliveries (K : PySem.W.Frag) : SpG := SptG (pmg_deliveries K)
end T

set_option Elab.async false
set_option linter.all false
set_option maxRecDepth 100000
set_option maxHeartbeats 8000000
namespace T
open PySem PySem.Spec PyProof.Rows L2 KM
section
variable {Pg : Program} {w : World} {K : PySem.W.Frag} {mg : Str → Option Value} {base : Heap}
-- LEVEL is_name 1 uses []
def t_is_name (K : PySem.W.Frag) : TS :=
  (tSeq (tIfS (tOr (tNot (tB (tCB (rIsi K) (tCons (tVar 0) (tCons (tC (.ty "str")) tNil))))) (tNot (tTest (tChain rLeI rLeI (tC (.int 1)) (tCB rLenS (tCons (tVar 0) tNil)) (tC (.int 8))))))
  (tRet (tC (.bl false)))
  tNext)
  (tSeq (tFor (iStr (tVar 0)) (gName 1)
  (tIfS (tTest (tOp rNotInSg (tVar 1) (tC (.str "abcdefghijklmnopqrstuvwxyz"))))
  (tRet (tC (.bl false)))
  tNext))
  (tRet (tC (.bl true)))))
theorem run_is_name (T : Tx K mg)  (cdv : Value) (A : Around) (outer : List Env) (s : Shared) (H : Hp) (E : XK) (hr : Room 0 (A.deeper (envOfC "is_name" (defScope s_is_name) s.heap.objs.size (He.fAd K d_is_name.at_) cdv))) :
    PSs (cxOf CX0 Pg w K mg base ["thing", "letter"] "is_name" (defScope s_is_name) (He.fAd K d_is_name.at_) cdv A outer s H E).nox (defBody s_is_name) (t_is_name K) := by
  exact (pss_cons (ps_if (PW.pt (pw_or (pt_not (pt_val (pe_callB call_isi rfl T.f_isinstance (by decide +kernel) (pa_cons (pv 0) (pa_cons (pe_bltn rfl T.f_str (by decide +kernel) rfl) pa_nil))))) (pw_or1 (pt_not (pt_chain op_le op_le pe_int (pe_callB call_len_str rfl T.f_len (by decide +kernel) (pa_cons (pv 0) pa_nil)) pe_int))))) (pss_one (ps_ret pe_bl)) pss_nil)
      (pss_cons (ps_for PassesOwn.never rfl (pi_str (pv 0)) (pg_name (i := 1) sc_is_name.nd rfl (by first | exact Or.inl rfl | exact Or.inr rfl))
      (pss_one (ps_if (pt_cmpR op_notIn_sign (pv 1) (pe_glob rfl T.c_LETTERS.choose_spec ⟨_, rfl⟩) rfl) (pss_one (ps_ret pe_bl)) pss_nil)))
      (pss_one (ps_ret pe_bl))))
-- LEVEL check_names 2 uses ['is_name']
def t_check_names (K : PySem.W.Frag) : TS :=
  (tFor (iEnum K (tCons (tVar 0) tNil)) (gTup K 2 (gCons (gName 1) (gCons (gName 2) gNil)))
  (tSeq (tIfS (tNot (tB (tCall (Spt (pm_is_name K)) [] E0 (tCons (tVar 2) tNil))))
  tNever
  tNext)
  (tIfS (tTest (tOp (rInP K) (tVar 2) (tSl (rSlL K) (tVar 0) tNoPart (tPart (tVar 1)))))
  tNever
  tNext)))
theorem run_check_names (T : Tx K mg) (G_is_name : FnOk Pg w K mg base CX0 1 (He.fAd K d_is_name.at_) T.e_is_name ["thing"] (Spt (pm_is_name K))) (cdv : Value) (A : Around) (outer : List Env) (s : Shared) (H : Hp) (E : XK) (hr : Room 1 (A.deeper (envOfC "check_names" (defScope s_check_names) s.heap.objs.size (He.fAd K d_check_names.at_) cdv))) :
    PSs (cxOf CX0 Pg w K mg base ["things", "at", "thing"] "check_names" (defScope s_check_names) (He.fAd K d_check_names.at_) cdv A outer s H E).nox (defBody s_check_names) (t_check_names K) := by
  have hu := hr.units
  exact (pss_one (ps_for PassesOwn.never rfl (pi_enum rfl T.f_enumerate (pa_cons (pv 0) pa_nil)) (pg_tup rfl (pgs_cons (pg_name (i := 1) sc_check_names.nd rfl (by first | exact Or.inl rfl | exact Or.inr rfl)) (pgs_cons (pg_name (i := 2) sc_check_names.nd rfl (by first | exact Or.inl rfl | exact Or.inr rfl)) pgs_nil)))
      (pss_cons (ps_if (pt_not (pt_val (pe_call G_is_name (hr.mono (by decide)) rfl T.g_is_name T.F_is_name.kp T.b_is_name .nil pass0 (pa_cons (pv 2) pa_nil)))) (pss_one ps_never) pss_nil)
      (pss_one (ps_if (pt_cmpR (op_inP hu) (pv 2) (pe_slice sl_list (pv 0) po_none (po_some (pv 1))) rfl) (pss_one ps_never) pss_nil)))))
-- LEVEL merged 1 uses []
def t_merged (K : PySem.W.Frag) : TS :=
  (tSeq (tAsg (tLst tNil) (gName 2))
  (tSeq (tAsg (tC (.int 0)) (gName 3))
  (tSeq (tAsg (tC (.int 0)) (gName 4))
  (tSeq (tWhile (tAnd (tTest (tOp rLtI (tVar 3) (tCB (rLenQ K) (tCons (tVar 0) tNil)))) (tTest (tOp rLtI (tVar 4) (tCB (rLenQ K) (tCons (tVar 1) tNil)))))
  (tIfS (tTest (tOp (rLtP K) (tOp (rIxL K) (tVar 1) (tVar 4)) (tOp (rIxL K) (tVar 0) (tVar 3))))
  (tSeq (tDrop (tBM K "list" rAppend (tVar 2) (tCons (tOp (rIxL K) (tVar 1) (tVar 4)) tNil)))
  (tAsg (tOp rAddI (tVar 4) (tC (.int 1))) (gName 4)))
  (tSeq (tDrop (tBM K "list" rAppend (tVar 2) (tCons (tOp (rIxL K) (tVar 0) (tVar 3)) tNil)))
  (tAsg (tOp rAddI (tVar 3) (tC (.int 1))) (gName 3)))))
  (tRet (tOp rCat (tOp rCat (tVar 2) (tSl (rSlL K) (tVar 0) (tPart (tVar 3)) tNoPart)) (tSl (rSlL K) (tVar 1) (tPart (tVar 4)) tNoPart)))))))
theorem run_merged (T : Tx K mg)  (cdv : Value) (A : Around) (outer : List Env) (s : Shared) (H : Hp) (E : XK) (hr : Room 0 (A.deeper (envOfC "merged" (defScope s_merged) s.heap.objs.size (He.fAd K d_merged.at_) cdv))) :
    PSs (cxOf CX0 Pg w K mg base ["left", "right", "found", "first", "second"] "merged" (defScope s_merged) (He.fAd K d_merged.at_) cdv A outer s H E).nox (defBody s_merged) (t_merged K) := by
  have hu := hr.units
  exact (pss_cons (ps_set (i := 2) sc_merged.nd rfl (by first | exact Or.inl rfl | exact Or.inr rfl) (pe_lst pa_nil))
      (pss_cons (ps_set (i := 3) sc_merged.nd rfl (by first | exact Or.inl rfl | exact Or.inr rfl) pe_int)
      (pss_cons (ps_set (i := 4) sc_merged.nd rfl (by first | exact Or.inl rfl | exact Or.inr rfl) pe_int)
      (pss_cons (ps_while PassesOwn.never (PW.pt (pw_and (pt_cmpR op_lt (pv 3) (pe_callB call_len_seq rfl T.f_len (by decide +kernel) (pa_cons (pv 0) pa_nil)) (nomark _)) (pw_and1 (pt_cmpR op_lt (pv 4) (pe_callB call_len_seq rfl T.f_len (by decide +kernel) (pa_cons (pv 1) pa_nil)) (nomark _))))) (pss_one (ps_if (pt_cmpR (op_ltP hu) (pe_ix ix_list (pv 1) (pv 4) (fun _ _ => rfl)) (pe_ix ix_list (pv 0) (pv 3) (fun _ _ => rfl)) (nomark _)) (pss_cons (ps_expr (pe_bm PySem.F.plainAttrs_list PySem.F.slot_list_append PySem.F.type_list_append mt_append (pv 2) (pa_cons (pe_ix ix_list (pv 1) (pv 4) (fun _ _ => rfl)) pa_nil)))
      (pss_one (ps_set (i := 4) sc_merged.nd rfl (by first | exact Or.inl rfl | exact Or.inr rfl) (pe_op op_add (pv 4) pe_int)))) (pss_cons (ps_expr (pe_bm PySem.F.plainAttrs_list PySem.F.slot_list_append PySem.F.type_list_append mt_append (pv 2) (pa_cons (pe_ix ix_list (pv 0) (pv 3) (fun _ _ => rfl)) pa_nil)))
      (pss_one (ps_set (i := 3) sc_merged.nd rfl (by first | exact Or.inl rfl | exact Or.inr rfl) (pe_op op_add (pv 3) pe_int)))))))
      (pss_one (ps_ret (pe_op op_cat (pe_op op_cat (pv 2) (pe_slice sl_list (pv 0) (po_some (pv 3)) po_none)) (pe_slice sl_list (pv 1) (po_some (pv 4)) po_none))))))))
-- LEVEL ascending 2 uses ['merged']
def t_ascending (K : PySem.W.Frag) : TS :=
  (tSeq (tAsg (tLc (iList K (tVar 0)) (gName 4) tYes (tLst (tCons (tVar 4) tNil)) [4]) (gName 1))
  (tSeq (tWhile (tTest (tOp rGtI (tCB (rLenQ K) (tCons (tVar 1) tNil)) (tC (.int 1))))
  (tSeq (tAsg (tLst tNil) (gName 2))
  (tSeq (tFor (iRng3 (tCons (tC (.int 0)) (tCons (tOp rSubI (tCB (rLenQ K) (tCons (tVar 1) tNil)) (tC (.int 1))) (tCons (tC (.int 2)) tNil)))) (gName 3)
  (tDrop (tBM K "list" rAppend (tVar 2) (tCons (tCall (Spt (pm_merged K)) [] E0 (tCons (tOp (rIxL K) (tVar 1) (tVar 3)) (tCons (tOp (rIxL K) (tVar 1) (tOp rAddI (tVar 3) (tC (.int 1)))) tNil))) tNil))))
  (tSeq (tIfS (tTest (tOp rEq (tOp rAndI (tCB (rLenQ K) (tCons (tVar 1) tNil)) (tC (.int 1))) (tC (.int 1))))
  (tDrop (tBM K "list" rAppend (tVar 2) (tCons (tOp (rIxL K) (tVar 1) (tUn rNegI (tC (.int 1)))) tNil)))
  tNext)
  (tAsg (tVar 2) (gName 1))))))
  (tSeq (tIfS (tNot (tTru K (tVar 1)))
  (tRet (tLst tNil))
  tNext)
  (tRet (tOp (rIxL K) (tVar 1) (tC (.int 0)))))))
theorem run_ascending (T : Tx K mg) (G_merged : FnOk Pg w K mg base CX0 1 (He.fAd K d_merged.at_) T.e_merged ["left", "right"] (Spt (pm_merged K))) (cdv : Value) (A : Around) (outer : List Env) (s : Shared) (H : Hp) (E : XK) (hr : Room 1 (A.deeper (envOfC "ascending" (defScope s_ascending) s.heap.objs.size (He.fAd K d_ascending.at_) cdv))) :
    PSs (cxOf CX0 Pg w K mg base ["things", "rows", "joined", "at", "thing"] "ascending" (defScope s_ascending) (He.fAd K d_ascending.at_) cdv A outer s H E).nox (defBody s_ascending) (t_ascending K) := by
  exact (pss_cons (ps_setLc (i := 1) (own := [("thing", 4)]) (g := (gName 4)) (tt := tYes) rfl sc_ascending.nd rfl rfl (sw_true rfl rfl rfl (by decide +kernel)) (pi_list (pv 0)) (blkOk_by (own := [("thing", 4)]) (N := ["things", "rows", "joined", "at", "thing"]) (sc := defScope s_ascending) (by decide +kernel)) (fun _ _ _ _ _ => (pg_name (i := 4) sc_ascending.nd rfl (by first | exact Or.inl rfl | exact Or.inr rfl))) (fun _ _ _ _ _ => pts_nil) (fun _ _ _ _ _ => (pe_lst (pa_cons (pv 4) pa_nil))))
      (pss_cons (ps_while PassesOwn.never (pt_cmpR op_gt (pe_callB call_len_seq rfl T.f_len (by decide +kernel) (pa_cons (pv 1) pa_nil)) pe_int (nomark _)) (pss_cons (ps_set (i := 2) sc_ascending.nd rfl (by first | exact Or.inl rfl | exact Or.inr rfl) (pe_lst pa_nil))
      (pss_cons (ps_for PassesOwn.never rfl (pi_range3 rfl T.f_range (pa_cons pe_int (pa_cons (pe_op op_sub (pe_callB call_len_seq rfl T.f_len (by decide +kernel) (pa_cons (pv 1) pa_nil)) pe_int) (pa_cons pe_int pa_nil)))) (pg_name (i := 3) sc_ascending.nd rfl (by first | exact Or.inl rfl | exact Or.inr rfl))
      (pss_one (ps_expr (pe_bm PySem.F.plainAttrs_list PySem.F.slot_list_append PySem.F.type_list_append mt_append (pv 2) (pa_cons (pe_call G_merged (hr.mono (by decide)) rfl T.g_merged T.F_merged.kp T.b_merged .nil pass0 (pa_cons (pe_ix ix_list (pv 1) (pv 3) (fun _ _ => rfl)) (pa_cons (pe_ix ix_list (pv 1) (pe_op op_add (pv 3) pe_int) (fun _ _ => rfl)) pa_nil))) pa_nil)))))
      (pss_cons (ps_if (pt_cmpR op_eq (pe_op op_and (pe_callB call_len_seq rfl T.f_len (by decide +kernel) (pa_cons (pv 1) pa_nil)) pe_int) pe_int (nomark _)) (pss_one (ps_expr (pe_bm PySem.F.plainAttrs_list PySem.F.slot_list_append PySem.F.type_list_append mt_append (pv 2) (pa_cons (pe_ix ix_list (pv 1) (pe_un un_neg pe_int) (fun _ _ => rfl)) pa_nil)))) pss_nil)
      (pss_one (ps_set (i := 1) sc_ascending.nd rfl (by first | exact Or.inl rfl | exact Or.inr rfl) (pv 2)))))))
      (pss_cons (ps_if (pt_not (pt_truth (pv 1) (by intro _; rfl))) (pss_one (ps_ret (pe_lst pa_nil))) pss_nil)
      (pss_one (ps_ret (pe_ix ix_list (pv 1) pe_int (fun _ _ => rfl)))))))
-- LEVEL Ways.known 1 uses []
def t_Ways_known (K : PySem.W.Frag) : TS :=
  (tIfS (tTest (tOp (rNotInP K) (tVar 1) (tFld K (tVar 0) "offices")))
  tNever
  tNext)
theorem run_Ways_known (T : Tx K mg)  (cdv : Value) (A : Around) (outer : List Env) (s : Shared) (H : Hp) (E : XK) (hr : Room 0 (A.deeper (envOfC "Ways.known" (defScope s_Ways_known) s.heap.objs.size (He.fAd K d_Ways_known.at_) cdv))) :
    PSs (cxOf CX0 Pg w K mg base ["self", "office"] "Ways.known" (defScope s_Ways_known) (He.fAd K d_Ways_known.at_) cdv A outer s H E).nox (defBody s_Ways_known) (t_Ways_known K) := by
  have hu := hr.units
  exact (pss_one (ps_if (pt_cmpR (op_notInP hu) (pv 1) (pe_fld (pv 0) rfl) rfl) (pss_one ps_never) pss_nil))
-- LEVEL Ways.begin 3 uses ['Ways.known', 'ascending']
def t_Ways_begin (K : PySem.W.Frag) : TS :=
  (tSeq (tDrop (tMeth (He.ga K "Ways") "known" (Spt (pm_Ways_known K)) [] E0 (tVar 0) (tCons (tVar 1) tNil)))
  (tSeq (tDrop (tMeth (He.ga K "Ways") "known" (Spt (pm_Ways_known K)) [] E0 (tVar 0) (tCons (tVar 2) tNil)))
  (tSeq (tIfS (tTest (tOp rEq (tVar 1) (tVar 2)))
  tNever
  tNext)
  (tIfS (tTest (tOp (rNotInP K) (tTup (tCons (tVar 1) (tCons (tVar 2) tNil))) (tFld K (tVar 0) "pairs")))
  (sFld K (tVar 0) (tCall (Spt (pm_ascending K)) [] E0 (tCons (tOp rCat (tFld K (tVar 0) "pairs") (tLst (tCons (tTup (tCons (tVar 1) (tCons (tVar 2) tNil))) tNil))) tNil)) "pairs")
  tNext))))
theorem run_Ways_begin (T : Tx K mg) (G_Ways_known : FnOk Pg w K mg base CX0 1 (He.fAd K d_Ways_known.at_) T.e_Ways_known ["self", "office"] (Spt (pm_Ways_known K))) (G_ascending : FnOk Pg w K mg base CX0 2 (He.fAd K d_ascending.at_) T.e_ascending ["things"] (Spt (pm_ascending K))) (cdv : Value) (A : Around) (outer : List Env) (s : Shared) (H : Hp) (E : XK) (hr : Room 2 (A.deeper (envOfC "Ways.begin" (defScope s_Ways_begin) s.heap.objs.size (He.fAd K d_Ways_begin.at_) cdv))) :
    PSs (cxOf CX0 Pg w K mg base ["self", "writer", "reader"] "Ways.begin" (defScope s_Ways_begin) (He.fAd K d_Ways_begin.at_) cdv A outer s H E).nox (defBody s_Ways_begin) (t_Ways_begin K) := by
  have hu := hr.units
  exact (pss_cons (ps_expr (pe_meth (pv 0) T.l_Ways T.m_Ways_known G_Ways_known (hr.mono (by decide)) T.b_Ways_known .nil pass0 (pa_cons (pv 1) pa_nil)))
      (pss_cons (ps_expr (pe_meth (pv 0) T.l_Ways T.m_Ways_known G_Ways_known (hr.mono (by decide)) T.b_Ways_known .nil pass0 (pa_cons (pv 2) pa_nil)))
      (pss_cons (ps_if (pt_cmpR op_eq (pv 1) (pv 2) (nomark _)) (pss_one ps_never) pss_nil)
      (pss_one (ps_if (pt_cmpR (op_notInP hu) (pe_tup (pa_cons (pv 1) (pa_cons (pv 2) pa_nil))) (pe_fld (pv 0) rfl) rfl) (pss_one (ps_fld (pv 0) (pe_call G_ascending (hr.mono (by decide)) rfl T.g_ascending T.F_ascending.kp T.b_ascending .nil pass0 (pa_cons (pe_op op_cat (pe_fld (pv 0) rfl) (pe_lst (pa_cons (pe_tup (pa_cons (pv 1) (pa_cons (pv 2) pa_nil))) pa_nil))) pa_nil)) rfl)) pss_nil)))))
-- LEVEL Ways.__init__ 4 uses ['Ways.begin', 'check_names']
def t_Ways___init__ (K : PySem.W.Frag) : TS :=
  (tSeq (tAsg (tCB (rListO K) (tCons (tVar 1) tNil)) (gName 3))
  (tSeq (tIfS (tNot (tTest (tChain rLeI rLeI (tC (.int 1)) (tCB (rLenQ K) (tCons (tVar 3) tNil)) (tC (.int 3)))))
  tNever
  tNext)
  (tSeq (tDrop (tCall (Spt (pm_check_names K)) [] E0 (tCons (tVar 3) tNil)))
  (tSeq (sFld K (tVar 0) (tCB (rTupO K) (tCons (tVar 3) tNil)) "offices")
  (tSeq (sFld K (tVar 0) (tLst tNil) "pairs")
  (tFor (iList K (tVar 2)) (gTup K 2 (gCons (gName 4) (gCons (gName 5) gNil)))
  (tDrop (tMeth (He.ga K "Ways") "begin" (Spt (pm_Ways_begin K)) [] E0 (tVar 0) (tCons (tVar 4) (tCons (tVar 5) tNil))))))))))
theorem run_Ways___init__ (T : Tx K mg) (G_Ways_begin : FnOk Pg w K mg base CX0 3 (He.fAd K d_Ways_begin.at_) T.e_Ways_begin ["self", "writer", "reader"] (Spt (pm_Ways_begin K))) (G_check_names : FnOk Pg w K mg base CX0 2 (He.fAd K d_check_names.at_) T.e_check_names ["things"] (Spt (pm_check_names K))) (cdv : Value) (A : Around) (outer : List Env) (s : Shared) (H : Hp) (E : XK) (hr : Room 3 (A.deeper (envOfC "Ways.__init__" (defScope s_Ways___init__) s.heap.objs.size (He.fAd K d_Ways___init__.at_) cdv))) :
    PSs (cxOf CX0 Pg w K mg base ["self", "offices", "pairs", "names", "writer", "reader"] "Ways.__init__" (defScope s_Ways___init__) (He.fAd K d_Ways___init__.at_) cdv A outer s H E).nox (defBody s_Ways___init__) (t_Ways___init__ K) := by
  exact (pss_cons (ps_set (i := 3) sc_Ways___init__.nd rfl (by first | exact Or.inl rfl | exact Or.inr rfl) (pe_callTy call_list_of rfl T.f_list (by decide +kernel) (pa_cons (pv 1) pa_nil)))
      (pss_cons (ps_if (pt_not (pt_chain op_le op_le pe_int (pe_callB call_len_seq rfl T.f_len (by decide +kernel) (pa_cons (pv 3) pa_nil)) pe_int)) (pss_one ps_never) pss_nil)
      (pss_cons (ps_expr (pe_call G_check_names (hr.mono (by decide)) rfl T.g_check_names T.F_check_names.kp T.b_check_names .nil pass0 (pa_cons (pv 3) pa_nil)))
      (pss_cons (ps_fld (pv 0) (pe_callTy call_tuple_of rfl T.f_tuple (by decide +kernel) (pa_cons (pv 3) pa_nil)) rfl)
      (pss_cons (ps_fld (pv 0) (pe_lst pa_nil) rfl)
      (pss_one (ps_for PassesOwn.never rfl (pi_list (pv 2)) (pg_tup rfl (pgs_cons (pg_name (i := 4) sc_Ways___init__.nd rfl (by first | exact Or.inl rfl | exact Or.inr rfl)) (pgs_cons (pg_name (i := 5) sc_Ways___init__.nd rfl (by first | exact Or.inl rfl | exact Or.inr rfl)) pgs_nil)))
      (pss_one (ps_expr (pe_meth (pv 0) T.l_Ways T.m_Ways_begin G_Ways_begin (hr.mono (by decide)) T.b_Ways_begin .nil pass0 (pa_cons (pv 4) (pa_cons (pv 5) pa_nil))))))))))))
-- LEVEL Ways.writes 2 uses ['Ways.known']
def t_Ways_writes (K : PySem.W.Frag) : TS :=
  (tSeq (tDrop (tMeth (He.ga K "Ways") "known" (Spt (pm_Ways_known K)) [] E0 (tVar 0) (tCons (tVar 1) tNil)))
  (tRet (tCB (rTupO K) (tCons (tLc (iList K (tFld K (tVar 0) "pairs")) (gName 2) (tTest (tOp rEq (tOp (rIxT K) (tVar 2) (tC (.int 0))) (tVar 1))) (tOp (rIxT K) (tVar 2) (tC (.int 1))) [2]) tNil))))
theorem run_Ways_writes (T : Tx K mg) (G_Ways_known : FnOk Pg w K mg base CX0 1 (He.fAd K d_Ways_known.at_) T.e_Ways_known ["self", "office"] (Spt (pm_Ways_known K))) (cdv : Value) (A : Around) (outer : List Env) (s : Shared) (H : Hp) (E : XK) (hr : Room 1 (A.deeper (envOfC "Ways.writes" (defScope s_Ways_writes) s.heap.objs.size (He.fAd K d_Ways_writes.at_) cdv))) :
    PSs (cxOf CX0 Pg w K mg base ["self", "office", "pair"] "Ways.writes" (defScope s_Ways_writes) (He.fAd K d_Ways_writes.at_) cdv A outer s H E).nox (defBody s_Ways_writes) (t_Ways_writes K) := by
  exact (pss_cons (ps_expr (pe_meth (pv 0) T.l_Ways T.m_Ways_known G_Ways_known (hr.mono (by decide)) T.b_Ways_known .nil pass0 (pa_cons (pv 1) pa_nil)))
      (pss_one (ps_ret (pe_callTy call_tuple_of rfl T.f_tuple (by decide +kernel) (pa_cons (pe_lc (own := [("pair", 2)]) (g := (gName 2)) (tt := (tTest (tOp rEq (tOp (rIxT K) (tVar 2) (tC (.int 0))) (tVar 1)))) rfl sc_Ways_writes.nd (pi_list (pe_fld (pv 0) rfl)) (blkOk_by (own := [("pair", 2)]) (N := ["self", "office", "pair"]) (sc := defScope s_Ways_writes) (by decide +kernel)) (fun _ _ _ _ _ => (pg_name (i := 2) sc_Ways_writes.nd rfl (by first | exact Or.inl rfl | exact Or.inr rfl))) (fun _ _ _ _ _ => (pts_one (pt_cmpR op_eq (pe_ix ix_tup (pv 2) pe_int (fun _ _ => rfl)) (pv 1) (nomark _)))) (fun _ _ _ _ _ => (pe_ix ix_tup (pv 2) pe_int (fun _ _ => rfl)))) pa_nil)))))
-- LEVEL Ways.hears 3 uses ['Ways.known', 'ascending']
def t_Ways_hears (K : PySem.W.Frag) : TS :=
  (tSeq (tDrop (tMeth (He.ga K "Ways") "known" (Spt (pm_Ways_known K)) [] E0 (tVar 0) (tCons (tVar 1) tNil)))
  (tSeq (tAsg (tLst (tCons (tVar 1) tNil)) (gName 2))
  (tSeq (tFor (iRng1 (tCons (tCB (rLenQ K) (tCons (tFld K (tVar 0) "offices") tNil)) tNil)) (gName 3)
  (tFor (iList K (tFld K (tVar 0) "pairs")) (gTup K 2 (gCons (gName 4) (gCons (gName 5) gNil)))
  (tIfS (tAnd (tTest (tOp (rInP K) (tVar 5) (tVar 2))) (tTest (tOp (rNotInP K) (tVar 4) (tVar 2))))
  (tDrop (tBM K "list" rAppend (tVar 2) (tCons (tVar 4) tNil)))
  tNext)))
  (tRet (tCB (rTupO K) (tCons (tCall (Spt (pm_ascending K)) [] E0 (tCons (tVar 2) tNil)) tNil))))))
theorem run_Ways_hears (T : Tx K mg) (G_Ways_known : FnOk Pg w K mg base CX0 1 (He.fAd K d_Ways_known.at_) T.e_Ways_known ["self", "office"] (Spt (pm_Ways_known K))) (G_ascending : FnOk Pg w K mg base CX0 2 (He.fAd K d_ascending.at_) T.e_ascending ["things"] (Spt (pm_ascending K))) (cdv : Value) (A : Around) (outer : List Env) (s : Shared) (H : Hp) (E : XK) (hr : Room 2 (A.deeper (envOfC "Ways.hears" (defScope s_Ways_hears) s.heap.objs.size (He.fAd K d_Ways_hears.at_) cdv))) :
    PSs (cxOf CX0 Pg w K mg base ["self", "office", "heard", "times", "writer", "reader"] "Ways.hears" (defScope s_Ways_hears) (He.fAd K d_Ways_hears.at_) cdv A outer s H E).nox (defBody s_Ways_hears) (t_Ways_hears K) := by
  have hu := hr.units
  exact (pss_cons (ps_expr (pe_meth (pv 0) T.l_Ways T.m_Ways_known G_Ways_known (hr.mono (by decide)) T.b_Ways_known .nil pass0 (pa_cons (pv 1) pa_nil)))
      (pss_cons (ps_set (i := 2) sc_Ways_hears.nd rfl (by first | exact Or.inl rfl | exact Or.inr rfl) (pe_lst (pa_cons (pv 1) pa_nil)))
      (pss_cons (ps_for PassesOwn.never rfl (pi_range1 rfl T.f_range (pa_cons (pe_callB call_len_seq rfl T.f_len (by decide +kernel) (pa_cons (pe_fld (pv 0) rfl) pa_nil)) pa_nil)) (pg_name (i := 3) sc_Ways_hears.nd rfl (by first | exact Or.inl rfl | exact Or.inr rfl))
      (pss_one (ps_for PassesOwn.never rfl (pi_list (pe_fld (pv 0) rfl)) (pg_tup rfl (pgs_cons (pg_name (i := 4) sc_Ways_hears.nd rfl (by first | exact Or.inl rfl | exact Or.inr rfl)) (pgs_cons (pg_name (i := 5) sc_Ways_hears.nd rfl (by first | exact Or.inl rfl | exact Or.inr rfl)) pgs_nil)))
      (pss_one (ps_if (PW.pt (pw_and (pt_cmpR (op_inP hu) (pv 5) (pv 2) rfl) (pw_and1 (pt_cmpR (op_notInP hu) (pv 4) (pv 2) rfl)))) (pss_one (ps_expr (pe_bm PySem.F.plainAttrs_list PySem.F.slot_list_append PySem.F.type_list_append mt_append (pv 2) (pa_cons (pv 4) pa_nil)))) pss_nil)))))
      (pss_one (ps_ret (pe_callTy call_tuple_of rfl T.f_tuple (by decide +kernel) (pa_cons (pe_call G_ascending (hr.mono (by decide)) rfl T.g_ascending T.F_ascending.kp T.b_ascending .nil pass0 (pa_cons (pv 2) pa_nil)) pa_nil)))))))
-- LEVEL Ways.lacking 4 uses ['Ways.hears']
def t_Ways_lacking (K : PySem.W.Frag) : TS :=
  (tSeq (tAsg (tLst tNil) (gName 1))
  (tSeq (tFor (iTup K (tFld K (tVar 0) "offices")) (gName 2)
  (tSeq (tAsg (tMeth (He.ga K "Ways") "hears" (Spt (pm_Ways_hears K)) [] E0 (tVar 0) (tCons (tVar 2) tNil)) (gName 3))
  (tFor (iTup K (tFld K (tVar 0) "offices")) (gName 4)
  (tIfS (tTest (tOp (rNotInP K) (tVar 4) (tVar 3)))
  (tDrop (tBM K "list" rAppend (tVar 1) (tCons (tTup (tCons (tVar 2) (tCons (tVar 4) tNil))) tNil)))
  tNext))))
  (tRet (tVar 1))))
theorem run_Ways_lacking (T : Tx K mg) (G_Ways_hears : FnOk Pg w K mg base CX0 3 (He.fAd K d_Ways_hears.at_) T.e_Ways_hears ["self", "office"] (Spt (pm_Ways_hears K))) (cdv : Value) (A : Around) (outer : List Env) (s : Shared) (H : Hp) (E : XK) (hr : Room 3 (A.deeper (envOfC "Ways.lacking" (defScope s_Ways_lacking) s.heap.objs.size (He.fAd K d_Ways_lacking.at_) cdv))) :
    PSs (cxOf CX0 Pg w K mg base ["self", "found", "office", "heard", "other"] "Ways.lacking" (defScope s_Ways_lacking) (He.fAd K d_Ways_lacking.at_) cdv A outer s H E).nox (defBody s_Ways_lacking) (t_Ways_lacking K) := by
  have hu := hr.units
  exact (pss_cons (ps_set (i := 1) sc_Ways_lacking.nd rfl (by first | exact Or.inl rfl | exact Or.inr rfl) (pe_lst pa_nil))
      (pss_cons (ps_for PassesOwn.never rfl (pi_tup (pe_fld (pv 0) rfl)) (pg_name (i := 2) sc_Ways_lacking.nd rfl (by first | exact Or.inl rfl | exact Or.inr rfl))
      (pss_cons (ps_set (i := 3) sc_Ways_lacking.nd rfl (by first | exact Or.inl rfl | exact Or.inr rfl) (pe_meth (pv 0) T.l_Ways T.m_Ways_hears G_Ways_hears (hr.mono (by decide)) T.b_Ways_hears .nil pass0 (pa_cons (pv 2) pa_nil)))
      (pss_one (ps_for PassesOwn.never rfl (pi_tup (pe_fld (pv 0) rfl)) (pg_name (i := 4) sc_Ways_lacking.nd rfl (by first | exact Or.inl rfl | exact Or.inr rfl))
      (pss_one (ps_if (pt_cmpR (op_notInP hu) (pv 4) (pv 3) rfl) (pss_one (ps_expr (pe_bm PySem.F.plainAttrs_list PySem.F.slot_list_append PySem.F.type_list_append mt_append (pv 1) (pa_cons (pe_tup (pa_cons (pv 2) (pa_cons (pv 4) pa_nil))) pa_nil)))) pss_nil))))))
      (pss_one (ps_ret (pv 1)))))
-- LEVEL letter_read 3 uses ['Ways.writes', 'ascending']
def t_letter_read (K : PySem.W.Frag) : TS :=
  (tSeq (tAsg (tLc (iList K (tVar 3)) (gName 7) (tTest (tOp (rNeP K) (tVar 7) (tVar 4))) (tVar 7) [7]) (gName 5))
  (tSeq (tAsg (tOp (rIxT K) (tVar 4) (tC (.int 1))) (gName 6))
  (tSeq (tIfS (tTest (tOp (rNotInP K) (tVar 6) (tVar 2)))
  (tSeq (tAsg (tOp (rCatA K) (tVar 2) (tTup (tCons (tVar 6) tNil))) (gName 2))
  (tAsg (tCall (Spt (pm_ascending K)) [] E0 (tCons (tOp rCat (tVar 5) (tLc (iTup K (tMeth (He.ga K "Ways") "writes" (Spt (pm_Ways_writes K)) [] E0 (tVar 0) (tCons (tVar 6) tNil))) (gName 8) tYes (tTup (tCons (tVar 6) (tCons (tVar 8) tNil))) [8])) tNil)) (gName 5)))
  tNext)
  (tRet (tTup (tCons (tOp (rCatA K) (tVar 1) (tTup (tCons (tVar 4) tNil))) (tCons (tVar 2) (tCons (tVar 5) tNil))))))))
theorem run_letter_read (T : Tx K mg) (G_Ways_writes : FnOk Pg w K mg base CX0 2 (He.fAd K d_Ways_writes.at_) T.e_Ways_writes ["self", "office"] (Spt (pm_Ways_writes K))) (G_ascending : FnOk Pg w K mg base CX0 2 (He.fAd K d_ascending.at_) T.e_ascending ["things"] (Spt (pm_ascending K))) (cdv : Value) (A : Around) (outer : List Env) (s : Shared) (H : Hp) (E : XK) (hr : Room 2 (A.deeper (envOfC "letter_read" (defScope s_letter_read) s.heap.objs.size (He.fAd K d_letter_read.at_) cdv))) :
    PSs (cxOf CX0 Pg w K mg base ["ways", "order", "learnt", "letters", "letter", "left", "reader", "other", "name"] "letter_read" (defScope s_letter_read) (He.fAd K d_letter_read.at_) cdv A outer s H E).nox (defBody s_letter_read) (t_letter_read K) := by
  have hu := hr.units
  exact (pss_cons (ps_setLc (i := 5) (own := [("other", 7)]) (g := (gName 7)) (tt := (tTest (tOp (rNeP K) (tVar 7) (tVar 4)))) rfl sc_letter_read.nd rfl rfl (sw_true rfl rfl rfl (by decide +kernel)) (pi_list (pv 3)) (blkOk_by (own := [("other", 7)]) (N := ["ways", "order", "learnt", "letters", "letter", "left", "reader", "other", "name"]) (sc := defScope s_letter_read) (by decide +kernel)) (fun _ _ _ _ _ => (pg_name (i := 7) sc_letter_read.nd rfl (by first | exact Or.inl rfl | exact Or.inr rfl))) (fun _ _ _ _ _ => (pts_one (pt_cmpR (op_neP hu) (pv 7) (pv 4) (nomark _)))) (fun _ _ _ _ _ => (pv 7)))
      (pss_cons (ps_set (i := 6) sc_letter_read.nd rfl (by first | exact Or.inl rfl | exact Or.inr rfl) (pe_ix ix_tup (pv 4) pe_int (fun _ _ => rfl)))
      (pss_cons (ps_if (pt_cmpR (op_notInP hu) (pv 6) (pv 2) rfl) (pss_cons (ps_set (i := 2) sc_letter_read.nd rfl (by first | exact Or.inl rfl | exact Or.inr rfl) (pe_op op_catA (pv 2) (pe_tup (pa_cons (pv 6) pa_nil))))
      (pss_one (ps_set (i := 5) sc_letter_read.nd rfl (by first | exact Or.inl rfl | exact Or.inr rfl) (pe_call G_ascending (hr.mono (by decide)) rfl T.g_ascending T.F_ascending.kp T.b_ascending .nil pass0 (pa_cons (pe_op op_cat (pv 5) (pe_lc (own := [("name", 8)]) (g := (gName 8)) (tt := tYes) rfl sc_letter_read.nd (pi_tup (pe_meth (pv 0) T.l_Ways T.m_Ways_writes G_Ways_writes (hr.mono (by decide)) T.b_Ways_writes .nil pass0 (pa_cons (pv 6) pa_nil))) (blkOk_by (own := [("name", 8)]) (N := ["ways", "order", "learnt", "letters", "letter", "left", "reader", "other", "name"]) (sc := defScope s_letter_read) (by decide +kernel)) (fun _ _ _ _ _ => (pg_name (i := 8) sc_letter_read.nd rfl (by first | exact Or.inl rfl | exact Or.inr rfl))) (fun _ _ _ _ _ => pts_nil) (fun _ _ _ _ _ => (pe_tup (pa_cons (pv 6) (pa_cons (pv 8) pa_nil)))))) pa_nil))))) pss_nil)
      (pss_one (ps_ret (pe_tup (pa_cons (pe_op op_catA (pv 1) (pe_tup (pa_cons (pv 4) pa_nil))) (pa_cons (pv 2) (pa_cons (pv 5) pa_nil)))))))))
-- LEVEL deliveries 4 uses ['Ways.writes', 'letter_read']
def t_deliveries (K : PySem.W.Frag) : TGn :=
  (tGThen (tPlain (tAsg (tLst (tCons (tTup (tCons (tTup tNil) (tCons (tTup (tCons (tVar 1) tNil)) (tCons (tLc (iTup K (tMeth (He.ga K "Ways") "writes" (Spt (pm_Ways_writes K)) [] E0 (tVar 0) (tCons (tVar 1) tNil))) (gName 9) tYes (tTup (tCons (tVar 1) (tCons (tVar 9) tNil))) [9]) tNil)))) tNil)) (gName 2)))
  (tGThen (tPlain (tWhile (tTru K (tOp (rIxT K) (tOp (rIxL K) (tVar 2) (tC (.int 0))) (tC (.int 2))))
  (tSeq (tAsg (tLst tNil) (gName 3))
  (tSeq (tFor (iList K (tCB (rListO K) (tCons (tVar 2) tNil))) (gTup K 3 (gCons (gName 4) (gCons (gName 5) (gCons (gName 6) gNil))))
  (tFor (iList K (tVar 6)) (gName 7)
  (tDrop (tBM K "list" rAppend (tVar 3) (tCons (tCall (Spt (pm_letter_read K)) [] E0 (tCons (tVar 0) (tCons (tVar 4) (tCons (tVar 5) (tCons (tVar 6) (tCons (tVar 7) tNil)))))) tNil)))))
  (tAsg (tVar 3) (gName 2))))))
  (tGThen (tGFor (iList K (tVar 2)) (gName 8)
  (tGThen (tGYield (tOp (rIxT K) (tVar 8) (tC (.int 0))))
  tG0))
  tG0)))
theorem run_deliveries (T : Tx K mg) (G_Ways_writes : FnOk Pg w K mg base CX0 2 (He.fAd K d_Ways_writes.at_) T.e_Ways_writes ["self", "office"] (Spt (pm_Ways_writes K))) (G_letter_read : FnOk Pg w K mg base CX0 3 (He.fAd K d_letter_read.at_) T.e_letter_read ["ways", "order", "learnt", "letters", "letter"] (Spt (pm_letter_read K))) (cdv : Value) (A : Around) (outer : List Env) (s : Shared) (H : Hp) (E : XK) (pn : List (Addr × Obj)) (hr : Room 3 (A.deeper (envOfC "deliveries" (defScope s_deliveries) s.heap.objs.size (He.fAd K d_deliveries.at_) cdv))) :
    GSs (gcxOf Pg w K mg base ["ways", "office", "rows", "longer", "order", "learnt", "letters", "letter", "row", "name"] "deliveries" (defScope s_deliveries) (He.fAd K d_deliveries.at_) cdv A outer s H E pn) (defBody s_deliveries) (t_deliveries K) := by
  exact (gss_cons (gs_ps (ps_set (i := 2) sc_deliveries.nd rfl (by first | exact Or.inl rfl | exact Or.inr rfl) (pe_lst (pa_cons (pe_tup (pa_cons (pe_tup pa_nil) (pa_cons (pe_tup (pa_cons (pv 1) pa_nil)) (pa_cons (pe_lc (own := [("name", 9)]) (g := (gName 9)) (tt := tYes) rfl sc_deliveries.nd (pi_tup (pe_meth (pv 0) T.l_Ways T.m_Ways_writes G_Ways_writes (hr.mono (by decide)) T.b_Ways_writes .nil pass0 (pa_cons (pv 1) pa_nil))) (blkOk_by (own := [("name", 9)]) (N := ["ways", "office", "rows", "longer", "order", "learnt", "letters", "letter", "row", "name"]) (sc := defScope s_deliveries) (by decide +kernel)) (fun _ _ _ _ _ => (pg_name (i := 9) sc_deliveries.nd rfl (by first | exact Or.inl rfl | exact Or.inr rfl))) (fun _ _ _ _ _ => pts_nil) (fun _ _ _ _ _ => (pe_tup (pa_cons (pv 1) (pa_cons (pv 9) pa_nil))))) pa_nil)))) pa_nil))))
      (gss_cons (gs_ps (ps_while (passes_of rfl) (pt_truth (pe_ix ix_tup (pe_ix ix_list (pv 2) pe_int (fun _ _ => rfl)) pe_int (fun _ _ => rfl)) (by intro _; rfl)) (pss_cons (ps_set (i := 3) sc_deliveries.nd rfl (by first | exact Or.inl rfl | exact Or.inr rfl) (pe_lst pa_nil))
      (pss_cons (ps_for (passes_of rfl) rfl (pi_list (pe_callTy call_list_of rfl T.f_list (by decide +kernel) (pa_cons (pv 2) pa_nil))) (pg_tup rfl (pgs_cons (pg_name (i := 4) sc_deliveries.nd rfl (by first | exact Or.inl rfl | exact Or.inr rfl)) (pgs_cons (pg_name (i := 5) sc_deliveries.nd rfl (by first | exact Or.inl rfl | exact Or.inr rfl)) (pgs_cons (pg_name (i := 6) sc_deliveries.nd rfl (by first | exact Or.inl rfl | exact Or.inr rfl)) pgs_nil))))
      (pss_one (ps_for (passes_of rfl) rfl (pi_list (pv 6)) (pg_name (i := 7) sc_deliveries.nd rfl (by first | exact Or.inl rfl | exact Or.inr rfl))
      (pss_one (ps_expr (pe_bm PySem.F.plainAttrs_list PySem.F.slot_list_append PySem.F.type_list_append mt_append (pv 3) (pa_cons (pe_call G_letter_read (hr.mono (by decide)) rfl T.g_letter_read T.F_letter_read.kp T.b_letter_read .nil pass0 (pa_cons (pv 0) (pa_cons (pv 4) (pa_cons (pv 5) (pa_cons (pv 6) (pa_cons (pv 7) pa_nil)))))) pa_nil)))))))
      (pss_one (ps_set (i := 2) sc_deliveries.nd rfl (by first | exact Or.inl rfl | exact Or.inr rfl) (pv 3)))))))
      (gss_cons (gs_for (passes_of rfl) rfl (pi_list (pv 2)) (pg_name (i := 8) sc_deliveries.nd rfl (by first | exact Or.inl rfl | exact Or.inr rfl))
      (gss_cons (gs_yield (pe_ix ix_tup (pv 8) pe_int (fun _ _ => rfl)))
      gss_nil))
      gss_nil)))
-- LEVEL _law_mixed 1 uses []
def t__law_mixed (K : PySem.W.Frag) : TS :=
  (tSeq (tAsg (tOp rModI (tCB rIntI (tCons (tOp rAddI (tOp rMulI (tOp rAddI (tVar 0) (tC (.int 1))) (tC (.int 48271))) (tOp rMulI (tOp rAddI (tVar 1) (tC (.int 1))) (tC (.int 1103515245)))) tNil)) (tC (.int 2147483647))) (gName 2))
  (tSeq (tAsg (tOp rModI (tCB rIntI (tCons (tOp rAddI (tOp rAddI (tOp rMulI (tVar 2) (tVar 2)) (tOp rMulI (tVar 2) (tC (.int 69621)))) (tOp rMulI (tOp rAddI (tVar 1) (tC (.int 3))) (tC (.int 40692)))) tNil)) (tC (.int 2147483629))) (gName 3))
  (tRet (tOp rModI (tCB rIntI (tCons (tOp rAddI (tOp rAddI (tOp rDivI (tVar 3) (tC (.int 11))) (tOp rMulI (tVar 3) (tC (.int 16807)))) (tVar 1)) tNil)) (tC (.int 2147483587))))))
theorem run__law_mixed (T : Tx K mg)  (cdv : Value) (A : Around) (outer : List Env) (s : Shared) (H : Hp) (E : XK) (hr : Room 0 (A.deeper (envOfC "_law_mixed" (defScope s__law_mixed) s.heap.objs.size (He.fAd K d__law_mixed.at_) cdv))) :
    PSs (cxOf CX0 Pg w K mg base ["number", "turn", "low", "high"] "_law_mixed" (defScope s__law_mixed) (He.fAd K d__law_mixed.at_) cdv A outer s H E).nox (defBody s__law_mixed) (t__law_mixed K) := by
  exact (pss_cons (ps_set (i := 2) sc__law_mixed.nd rfl (by first | exact Or.inl rfl | exact Or.inr rfl) (pe_op op_mod (pe_callTy call_int1 rfl T.f_int (by decide +kernel) (pa_cons (pe_op op_add (pe_op op_mul (pe_op op_add (pv 0) pe_int) pe_int) (pe_op op_mul (pe_op op_add (pv 1) pe_int) pe_int)) pa_nil)) pe_int))
      (pss_cons (ps_set (i := 3) sc__law_mixed.nd rfl (by first | exact Or.inl rfl | exact Or.inr rfl) (pe_op op_mod (pe_callTy call_int1 rfl T.f_int (by decide +kernel) (pa_cons (pe_op op_add (pe_op op_add (pe_op op_mul (pv 2) (pv 2)) (pe_op op_mul (pv 2) pe_int)) (pe_op op_mul (pe_op op_add (pv 1) pe_int) pe_int)) pa_nil)) pe_int))
      (pss_one (ps_ret (pe_op op_mod (pe_callTy call_int1 rfl T.f_int (by decide +kernel) (pa_cons (pe_op op_add (pe_op op_add (pe_op op_fdiv (pv 3) pe_int) (pe_op op_mul (pv 3) pe_int)) (pv 1)) pa_nil)) pe_int)))))
-- LEVEL _law_bag 1 uses []
def t__law_bag (K : PySem.W.Frag) : TS :=
  (tSeq (tAsg (tLc (iList K (tVar 0)) (gName 1) tYes (tCB rIntI (tCons (tVar 1) tNil)) [1]) (gName 2))
  (tSeq (tAsg (tCB (rLenQ K) (tCons (tVar 2) tNil)) (gName 3))
  (tSeq (tFor (iEnum K (tCons (tSl (rSlL K) (tVar 2) tNoPart (tPart (tC (.int 63)))) tNil)) (gTup K 2 (gCons (gName 4) (gCons (gName 1) gNil)))
  (tAsg (tOp rModI (tCB rIntI (tCons (tOp rAddI (tOp rAddI (tOp rMulI (tVar 3) (tC (.int 31))) (tOp rModI (tCB rIntI (tCons (tCB rAbsI (tCons (tVar 1) tNil)) tNil)) (tC (.int 1000000007)))) (tOp rMulIB (tOp rAddI (tVar 4) (tC (.int 1))) (tOp rLtI (tVar 1) (tC (.int 0))))) tNil)) (tC (.int 1000000007))) (gName 3)))
  (tRet (tLst (tCons (tVar 2) (tCons (tC (.int 0)) (tCons (tC (.int 0)) (tCons (tC (.int 0)) (tCons (tVar 3) tNil))))))))))
theorem run__law_bag (T : Tx K mg)  (cdv : Value) (A : Around) (outer : List Env) (s : Shared) (H : Hp) (E : XK) (hr : Room 0 (A.deeper (envOfC "_law_bag" (defScope s__law_bag) s.heap.objs.size (He.fAd K d__law_bag.at_) cdv))) :
    PSs (cxOf CX0 Pg w K mg base ["script", "cell", "numbers", "seed", "at"] "_law_bag" (defScope s__law_bag) (He.fAd K d__law_bag.at_) cdv A outer s H E).nox (defBody s__law_bag) (t__law_bag K) := by
  exact (pss_cons (ps_setLc (i := 2) (own := [("cell", 1)]) (g := (gName 1)) (tt := tYes) rfl sc__law_bag.nd rfl rfl (sw_true rfl rfl rfl (by decide +kernel)) (pi_list (pv 0)) (blkOk_by (own := [("cell", 1)]) (N := ["script", "cell", "numbers", "seed", "at"]) (sc := defScope s__law_bag) (by decide +kernel)) (fun _ _ _ _ _ => (pg_name (i := 1) sc__law_bag.nd rfl (by first | exact Or.inl rfl | exact Or.inr rfl))) (fun _ _ _ _ _ => pts_nil) (fun _ _ _ _ _ => (pe_callTy call_int1 rfl T.f_int (by decide +kernel) (pa_cons (pv 1) pa_nil))))
      (pss_cons (ps_set (i := 3) sc__law_bag.nd rfl (by first | exact Or.inl rfl | exact Or.inr rfl) (pe_callB call_len_seq rfl T.f_len (by decide +kernel) (pa_cons (pv 2) pa_nil)))
      (pss_cons (ps_for PassesOwn.never rfl (pi_enum rfl T.f_enumerate (pa_cons (pe_slice sl_list (pv 2) po_none (po_some pe_int)) pa_nil)) (pg_tup rfl (pgs_cons (pg_name (i := 4) sc__law_bag.nd rfl (by first | exact Or.inl rfl | exact Or.inr rfl)) (pgs_cons (pg_name (i := 1) sc__law_bag.nd rfl (by first | exact Or.inl rfl | exact Or.inr rfl)) pgs_nil)))
      (pss_one (ps_set (i := 3) sc__law_bag.nd rfl (by first | exact Or.inl rfl | exact Or.inr rfl) (pe_op op_mod (pe_callTy call_int1 rfl T.f_int (by decide +kernel) (pa_cons (pe_op op_add (pe_op op_add (pe_op op_mul (pv 3) pe_int) (pe_op op_mod (pe_callTy call_int1 rfl T.f_int (by decide +kernel) (pa_cons (pe_callB call_abs rfl T.f_abs (by decide +kernel) (pa_cons (pv 1) pa_nil)) pa_nil)) pe_int)) (pe_op op_mul_ib (pe_op op_add (pv 4) pe_int) (pe_cmpR op_lt (pv 1) pe_int (nomark _)))) pa_nil)) pe_int))))
      (pss_one (ps_ret (pe_lst (pa_cons (pv 2) (pa_cons pe_int (pa_cons pe_int (pa_cons pe_int (pa_cons (pv 3) pa_nil)))))))))))
-- LEVEL _law_pick 2 uses ['_law_mixed']
def t__law_pick (K : PySem.W.Frag) : TS :=
  (tSeq (tAsg (tOp (rIxL K) (tVar 0) (tC (.int 3))) (gName 2))
  (tSeq (tAsg (tOp rAddI (tVar 2) (tC (.int 1))) (gSub (tVar 0) (tC (.int 3)) rSetL))
  (tSeq (tIfS (tAnd (tTest (tOp rEq (tOp (rIxL K) (tVar 0) (tC (.int 2))) (tC (.int 0)))) (tTest (tOp rLtI (tOp (rIxL K) (tVar 0) (tC (.int 1))) (tCB (rLenQ K) (tCons (tOp (rIxL K) (tVar 0) (tC (.int 0))) tNil)))))
  (tSeq (tAsg (tOp (rIxL K) (tOp (rIxL K) (tVar 0) (tC (.int 0))) (tOp (rIxL K) (tVar 0) (tC (.int 1)))) (gName 3))
  (tSeq (tAsg (tOp rAddI (tOp (rIxL K) (tVar 0) (tC (.int 1))) (tC (.int 1))) (gSub (tVar 0) (tC (.int 1)) rSetL))
  (tSeq (tIfS (tTest (tOp rLtI (tCB rAbsI (tCons (tVar 3) tNil)) (tOp rPowI (tC (.int 10)) (tC (.int 18)))))
  (tRet (tOp rModI (tCB rIntI (tCons (tCall (Spt (pm__law_mixed K)) [] E0 (tCons (tOp rAddIB (tOp rMulI (tC (.int 2)) (tCB rAbsI (tCons (tVar 3) tNil))) (tOp rLtI (tVar 3) (tC (.int 0)))) (tCons (tVar 2) tNil))) tNil)) (tVar 1)))
  tNext)
  (tAsg (tCB rAbsI (tCons (tVar 3) tNil)) (gSub (tVar 0) (tC (.int 2)) rSetL)))))
  tNext)
  (tSeq (tIfS (tTest (tOp rEq (tOp (rIxL K) (tVar 0) (tC (.int 2))) (tC (.int 0))))
  (tRet (tOp rModI (tCB rIntI (tCons (tCall (Spt (pm__law_mixed K)) [] E0 (tCons (tOp (rIxL K) (tVar 0) (tC (.int 4))) (tCons (tVar 2) tNil))) tNil)) (tVar 1)))
  tNext)
  (tSeq (tAsg (tOp rModI (tCB rIntI (tCons (tOp (rIxL K) (tVar 0) (tC (.int 2))) tNil)) (tVar 1)) (gName 4))
  (tSeq (tAsg (tOp rDivI (tOp (rIxL K) (tVar 0) (tC (.int 2))) (tVar 1)) (gSub (tVar 0) (tC (.int 2)) rSetL))
  (tRet (tVar 4))))))))
theorem run__law_pick (T : Tx K mg) (G__law_mixed : FnOk Pg w K mg base CX0 1 (He.fAd K d__law_mixed.at_) T.e__law_mixed ["number", "turn"] (Spt (pm__law_mixed K))) (cdv : Value) (A : Around) (outer : List Env) (s : Shared) (H : Hp) (E : XK) (hr : Room 1 (A.deeper (envOfC "_law_pick" (defScope s__law_pick) s.heap.objs.size (He.fAd K d__law_pick.at_) cdv))) :
    PSs (cxOf CX0 Pg w K mg base ["bag", "many", "turn", "cell", "worth"] "_law_pick" (defScope s__law_pick) (He.fAd K d__law_pick.at_) cdv A outer s H E).nox (defBody s__law_pick) (t__law_pick K) := by
  exact (pss_cons (ps_set (i := 2) sc__law_pick.nd rfl (by first | exact Or.inl rfl | exact Or.inr rfl) (pe_ix ix_list (pv 0) pe_int (fun _ _ => rfl)))
      (pss_cons (ps_asg (pe_op op_add (pv 2) pe_int) (pg_sub (pv 0) pe_int set_list))
      (pss_cons (ps_if (PW.pt (pw_and (pt_cmpR op_eq (pe_ix ix_list (pv 0) pe_int (fun _ _ => rfl)) pe_int (nomark _)) (pw_and1 (pt_cmpR op_lt (pe_ix ix_list (pv 0) pe_int (fun _ _ => rfl)) (pe_callB call_len_seq rfl T.f_len (by decide +kernel) (pa_cons (pe_ix ix_list (pv 0) pe_int (fun _ _ => rfl)) pa_nil)) (nomark _))))) (pss_cons (ps_set (i := 3) sc__law_pick.nd rfl (by first | exact Or.inl rfl | exact Or.inr rfl) (pe_ix ix_list (pe_ix ix_list (pv 0) pe_int (fun _ _ => rfl)) (pe_ix ix_list (pv 0) pe_int (fun _ _ => rfl)) (fun _ _ => rfl)))
      (pss_cons (ps_asg (pe_op op_add (pe_ix ix_list (pv 0) pe_int (fun _ _ => rfl)) pe_int) (pg_sub (pv 0) pe_int set_list))
      (pss_cons (ps_if (pt_cmpR op_lt (pe_callB call_abs rfl T.f_abs (by decide +kernel) (pa_cons (pv 3) pa_nil)) (pe_op op_pow pe_int pe_int) (nomark _)) (pss_one (ps_ret (pe_op op_mod (pe_callTy call_int1 rfl T.f_int (by decide +kernel) (pa_cons (pe_call G__law_mixed (hr.mono (by decide)) rfl T.g__law_mixed T.F__law_mixed.kp T.b__law_mixed .nil pass0 (pa_cons (pe_op op_add_ib (pe_op op_mul pe_int (pe_callB call_abs rfl T.f_abs (by decide +kernel) (pa_cons (pv 3) pa_nil))) (pe_cmpR op_lt (pv 3) pe_int (nomark _))) (pa_cons (pv 2) pa_nil))) pa_nil)) (pv 1)))) pss_nil)
      (pss_one (ps_asg (pe_callB call_abs rfl T.f_abs (by decide +kernel) (pa_cons (pv 3) pa_nil)) (pg_sub (pv 0) pe_int set_list)))))) pss_nil)
      (pss_cons (ps_if (pt_cmpR op_eq (pe_ix ix_list (pv 0) pe_int (fun _ _ => rfl)) pe_int (nomark _)) (pss_one (ps_ret (pe_op op_mod (pe_callTy call_int1 rfl T.f_int (by decide +kernel) (pa_cons (pe_call G__law_mixed (hr.mono (by decide)) rfl T.g__law_mixed T.F__law_mixed.kp T.b__law_mixed .nil pass0 (pa_cons (pe_ix ix_list (pv 0) pe_int (fun _ _ => rfl)) (pa_cons (pv 2) pa_nil))) pa_nil)) (pv 1)))) pss_nil)
      (pss_cons (ps_set (i := 4) sc__law_pick.nd rfl (by first | exact Or.inl rfl | exact Or.inr rfl) (pe_op op_mod (pe_callTy call_int1 rfl T.f_int (by decide +kernel) (pa_cons (pe_ix ix_list (pv 0) pe_int (fun _ _ => rfl)) pa_nil)) (pv 1)))
      (pss_cons (ps_asg (pe_op op_fdiv (pe_ix ix_list (pv 0) pe_int (fun _ _ => rfl)) (pv 1)) (pg_sub (pv 0) pe_int set_list))
      (pss_one (ps_ret (pv 4)))))))))
-- LEVEL _law_mingled 3 uses ['_law_pick']
def t__law_mingled (K : PySem.W.Frag) : TS :=
  (tSeq (tAsg (tCB (rListO K) (tCons (tVar 1) tNil)) (gName 2))
  (tSeq (tAsg (tLst tNil) (gName 3))
  (tSeq (tFor (iRng1 (tCons (tCB (rLenQ K) (tCons (tVar 1) tNil)) tNil)) (gName 4)
  (tDrop (tBM K "list" rAppend (tVar 3) (tCons (tBM K "list" rPopAt (tVar 2) (tCons (tCall (Spt (pm__law_pick K)) [] E0 (tCons (tVar 0) (tCons (tCB (rLenQ K) (tCons (tVar 2) tNil)) tNil))) tNil)) tNil))))
  (tRet (tVar 3)))))
theorem run__law_mingled (T : Tx K mg) (G__law_pick : FnOk Pg w K mg base CX0 2 (He.fAd K d__law_pick.at_) T.e__law_pick ["bag", "many"] (Spt (pm__law_pick K))) (cdv : Value) (A : Around) (outer : List Env) (s : Shared) (H : Hp) (E : XK) (hr : Room 2 (A.deeper (envOfC "_law_mingled" (defScope s__law_mingled) s.heap.objs.size (He.fAd K d__law_mingled.at_) cdv))) :
    PSs (cxOf CX0 Pg w K mg base ["bag", "things", "left", "out", "step"] "_law_mingled" (defScope s__law_mingled) (He.fAd K d__law_mingled.at_) cdv A outer s H E).nox (defBody s__law_mingled) (t__law_mingled K) := by
  exact (pss_cons (ps_set (i := 2) sc__law_mingled.nd rfl (by first | exact Or.inl rfl | exact Or.inr rfl) (pe_callTy call_list_of rfl T.f_list (by decide +kernel) (pa_cons (pv 1) pa_nil)))
      (pss_cons (ps_set (i := 3) sc__law_mingled.nd rfl (by first | exact Or.inl rfl | exact Or.inr rfl) (pe_lst pa_nil))
      (pss_cons (ps_for PassesOwn.never rfl (pi_range1 rfl T.f_range (pa_cons (pe_callB call_len_seq rfl T.f_len (by decide +kernel) (pa_cons (pv 1) pa_nil)) pa_nil)) (pg_name (i := 4) sc__law_mingled.nd rfl (by first | exact Or.inl rfl | exact Or.inr rfl))
      (pss_one (ps_expr (pe_bm PySem.F.plainAttrs_list PySem.F.slot_list_append PySem.F.type_list_append mt_append (pv 3) (pa_cons (pe_bm PySem.F.plainAttrs_list PySem.F.slot_list_pop PySem.F.type_list_pop mt_popAt (pv 2) (pa_cons (pe_call G__law_pick (hr.mono (by decide)) rfl T.g__law_pick T.F__law_pick.kp T.b__law_pick .nil pass0 (pa_cons (pv 0) (pa_cons (pe_callB call_len_seq rfl T.f_len (by decide +kernel) (pa_cons (pv 2) pa_nil)) pa_nil))) pa_nil)) pa_nil)))))
      (pss_one (ps_ret (pv 3))))))
-- LEVEL _law_sorted 1 uses []
def t__law_sorted (K : PySem.W.Frag) : TS :=
  (tSeq (tAsg (tLst tNil) (gName 1))
  (tSeq (tFor (iList K (tVar 0)) (gName 2)
  (tSeq (tAsg (tC (.int 0)) (gName 3))
  (tSeq (tWhile (tAnd (tTest (tOp rLtI (tVar 3) (tCB (rLenQ K) (tCons (tVar 1) tNil)))) (tTest (tOp rLeS (tOp (rIxL K) (tVar 1) (tVar 3)) (tVar 2))))
  (tAug 3 (tC (.int 1)) (ipI fun i j => i + j)))
  (tDrop (tBM K "list" rInsert (tVar 1) (tCons (tVar 3) (tCons (tVar 2) tNil)))))))
  (tRet (tVar 1))))
theorem run__law_sorted (T : Tx K mg)  (cdv : Value) (A : Around) (outer : List Env) (s : Shared) (H : Hp) (E : XK) (hr : Room 0 (A.deeper (envOfC "_law_sorted" (defScope s__law_sorted) s.heap.objs.size (He.fAd K d__law_sorted.at_) cdv))) :
    PSs (cxOf CX0 Pg w K mg base ["things", "out", "thing", "at"] "_law_sorted" (defScope s__law_sorted) (He.fAd K d__law_sorted.at_) cdv A outer s H E).nox (defBody s__law_sorted) (t__law_sorted K) := by
  exact (pss_cons (ps_set (i := 1) sc__law_sorted.nd rfl (by first | exact Or.inl rfl | exact Or.inr rfl) (pe_lst pa_nil))
      (pss_cons (ps_for PassesOwn.never rfl (pi_list (pv 0)) (pg_name (i := 2) sc__law_sorted.nd rfl (by first | exact Or.inl rfl | exact Or.inr rfl))
      (pss_cons (ps_set (i := 3) sc__law_sorted.nd rfl (by first | exact Or.inl rfl | exact Or.inr rfl) pe_int)
      (pss_cons (ps_while PassesOwn.never (PW.pt (pw_and (pt_cmpR op_lt (pv 3) (pe_callB call_len_seq rfl T.f_len (by decide +kernel) (pa_cons (pv 1) pa_nil)) (nomark _)) (pw_and1 (pt_cmpR op_le_str (pe_ix ix_list (pv 1) (pv 3) (fun _ _ => rfl)) (pv 2) (nomark _))))) (pss_one (ps_aug (i := 3) sc__law_sorted.nd rfl (by first | exact Or.inl rfl | exact Or.inr rfl) pe_int ip_add)))
      (pss_one (ps_expr (pe_bm PySem.F.plainAttrs_list PySem.F.slot_list_insert PySem.F.type_list_insert mt_insert (pv 1) (pa_cons (pv 3) (pa_cons (pv 2) pa_nil))))))))
      (pss_one (ps_ret (pv 1)))))
-- LEVEL _law_new_name 3 uses ['_law_pick']
def t__law_new_name (K : PySem.W.Frag) : TS :=
  (tSeq (tAsg (tC (.str "abcdefghijklmnopqrstuvwxyz")) (gName 2))
  (tSeq (tAsg (tM1 (rJoin K) (tC (.str "")) (tLc (iRng1 (tCons (tOp rAddI (tC (.int 1)) (tCall (Spt (pm__law_pick K)) [] E0 (tCons (tVar 0) (tCons (tC (.int 6)) tNil)))) tNil)) (gName 7) tYes (tOp rIxS (tVar 2) (tCall (Spt (pm__law_pick K)) [] E0 (tCons (tVar 0) (tCons (tC (.int 26)) tNil)))) [7])) (gName 3))
  (tSeq (tIfS (tAnd (tTru K (tVar 1)) (tTest (tOp rEq (tCall (Spt (pm__law_pick K)) [] E0 (tCons (tVar 0) (tCons (tC (.int 3)) tNil))) (tC (.int 0)))))
  (tSeq (tAsg (tSl rSlS (tOp (rIxL K) (tVar 1) (tCall (Spt (pm__law_pick K)) [] E0 (tCons (tVar 0) (tCons (tCB (rLenQ K) (tCons (tVar 1) tNil)) tNil)))) tNoPart (tPart (tC (.int 6)))) (gName 4))
  (tSeq (tAsg (tCall (Spt (pm__law_pick K)) [] E0 (tCons (tVar 0) (tCons (tCB rLenS (tCons (tVar 4) tNil)) tNil))) (gName 5))
  (tAsg (tOp rAddS (tOp rAddS (tSl rSlS (tVar 4) tNoPart (tPart (tVar 5))) (tOp rIxS (tVar 2) (tCall (Spt (pm__law_pick K)) [] E0 (tCons (tVar 0) (tCons (tC (.int 26)) tNil))))) (tSl rSlS (tVar 4) (tPart (tOp rAddI (tVar 5) (tC (.int 1)))) tNoPart)) (gName 3))))
  tNext)
  (tSeq (tIfS (tTest (tOp (rInP K) (tVar 3) (tVar 1)))
  (tSeq (tAsg (tLc (iRng1 (tCons (tC (.int 676)) tNil)) (gName 8) tYes (tOp rAddS (tOp rIxS (tVar 2) (tOp rDivI (tVar 8) (tC (.int 26)))) (tOp rIxS (tVar 2) (tOp rModI (tCB rIntI (tCons (tVar 8) tNil)) (tC (.int 26))))) [8]) (gName 6))
  (tAsg (tOp (rIxL K) (tLc (iList K (tVar 6)) (gName 9) (tTest (tOp (rNotInP K) (tOp rAddS (tSl rSlS (tVar 3) tNoPart (tPart (tC (.int 6)))) (tVar 9)) (tVar 1))) (tOp rAddS (tSl rSlS (tVar 3) tNoPart (tPart (tC (.int 6)))) (tVar 9)) [9]) (tC (.int 0))) (gName 3)))
  tNext)
  (tSeq (tDrop (tBM K "list" rAppend (tVar 1) (tCons (tVar 3) tNil)))
  (tRet (tVar 3)))))))
theorem run__law_new_name (T : Tx K mg) (G__law_pick : FnOk Pg w K mg base CX0 2 (He.fAd K d__law_pick.at_) T.e__law_pick ["bag", "many"] (Spt (pm__law_pick K))) (cdv : Value) (A : Around) (outer : List Env) (s : Shared) (H : Hp) (E : XK) (hr : Room 2 (A.deeper (envOfC "_law_new_name" (defScope s__law_new_name) s.heap.objs.size (He.fAd K d__law_new_name.at_) cdv))) :
    PSs (cxOf CX0 Pg w K mg base ["bag", "used", "letters", "told", "near", "at", "tails", "step", "k", "tail"] "_law_new_name" (defScope s__law_new_name) (He.fAd K d__law_new_name.at_) cdv A outer s H E).nox (defBody s__law_new_name) (t__law_new_name K) := by
  have hu := hr.units
  exact (pss_cons (ps_set (i := 2) sc__law_new_name.nd rfl (by first | exact Or.inl rfl | exact Or.inr rfl) pe_str)
      (pss_cons (ps_set (i := 3) sc__law_new_name.nd rfl (by first | exact Or.inl rfl | exact Or.inr rfl) (pe_join pe_str (pe_lc (own := [("step", 7)]) (g := (gName 7)) (tt := tYes) rfl sc__law_new_name.nd (pi_range1 rfl T.f_range (pa_cons (pe_op op_add pe_int (pe_call G__law_pick (hr.mono (by decide)) rfl T.g__law_pick T.F__law_pick.kp T.b__law_pick .nil pass0 (pa_cons (pv 0) (pa_cons pe_int pa_nil)))) pa_nil)) (blkOk_by (own := [("step", 7)]) (N := ["bag", "used", "letters", "told", "near", "at", "tails", "step", "k", "tail"]) (sc := defScope s__law_new_name) (by decide +kernel)) (fun _ _ _ _ _ => (pg_name (i := 7) sc__law_new_name.nd rfl (by first | exact Or.inl rfl | exact Or.inr rfl))) (fun _ _ _ _ _ => pts_nil) (fun _ _ _ _ _ => (pe_ix ix_str (pv 2) (pe_call G__law_pick (hr.mono (by decide)) rfl T.g__law_pick T.F__law_pick.kp T.b__law_pick .nil pass0 (pa_cons (pv 0) (pa_cons pe_int pa_nil))) (fun _ _ => rfl))))))
      (pss_cons (ps_if (PW.pt (pw_and (pt_truth (pv 1) (by intro _; rfl)) (pw_and1 (pt_cmpR op_eq (pe_call G__law_pick (hr.mono (by decide)) rfl T.g__law_pick T.F__law_pick.kp T.b__law_pick .nil pass0 (pa_cons (pv 0) (pa_cons pe_int pa_nil))) pe_int (nomark _))))) (pss_cons (ps_set (i := 4) sc__law_new_name.nd rfl (by first | exact Or.inl rfl | exact Or.inr rfl) (pe_slice sl_str (pe_ix ix_list (pv 1) (pe_call G__law_pick (hr.mono (by decide)) rfl T.g__law_pick T.F__law_pick.kp T.b__law_pick .nil pass0 (pa_cons (pv 0) (pa_cons (pe_callB call_len_seq rfl T.f_len (by decide +kernel) (pa_cons (pv 1) pa_nil)) pa_nil))) (fun _ _ => rfl)) po_none (po_some pe_int)))
      (pss_cons (ps_set (i := 5) sc__law_new_name.nd rfl (by first | exact Or.inl rfl | exact Or.inr rfl) (pe_call G__law_pick (hr.mono (by decide)) rfl T.g__law_pick T.F__law_pick.kp T.b__law_pick .nil pass0 (pa_cons (pv 0) (pa_cons (pe_callB call_len_str rfl T.f_len (by decide +kernel) (pa_cons (pv 4) pa_nil)) pa_nil))))
      (pss_one (ps_set (i := 3) sc__law_new_name.nd rfl (by first | exact Or.inl rfl | exact Or.inr rfl) (pe_op op_add_str (pe_op op_add_str (pe_slice sl_str (pv 4) po_none (po_some (pv 5))) (pe_ix ix_str (pv 2) (pe_call G__law_pick (hr.mono (by decide)) rfl T.g__law_pick T.F__law_pick.kp T.b__law_pick .nil pass0 (pa_cons (pv 0) (pa_cons pe_int pa_nil))) (fun _ _ => rfl))) (pe_slice sl_str (pv 4) (po_some (pe_op op_add (pv 5) pe_int)) po_none)))))) pss_nil)
      (pss_cons (ps_if (pt_cmpR (op_inP hu) (pv 3) (pv 1) rfl) (pss_cons (ps_setLc (i := 6) (own := [("k", 8)]) (g := (gName 8)) (tt := tYes) rfl sc__law_new_name.nd rfl rfl (sw_true rfl rfl rfl (by decide +kernel)) (pi_range1 rfl T.f_range (pa_cons pe_int pa_nil)) (blkOk_by (own := [("k", 8)]) (N := ["bag", "used", "letters", "told", "near", "at", "tails", "step", "k", "tail"]) (sc := defScope s__law_new_name) (by decide +kernel)) (fun _ _ _ _ _ => (pg_name (i := 8) sc__law_new_name.nd rfl (by first | exact Or.inl rfl | exact Or.inr rfl))) (fun _ _ _ _ _ => pts_nil) (fun _ _ _ _ _ => (pe_op op_add_str (pe_ix ix_str (pv 2) (pe_op op_fdiv (pv 8) pe_int) (fun _ _ => rfl)) (pe_ix ix_str (pv 2) (pe_op op_mod (pe_callTy call_int1 rfl T.f_int (by decide +kernel) (pa_cons (pv 8) pa_nil)) pe_int) (fun _ _ => rfl)))))
      (pss_one (ps_set (i := 3) sc__law_new_name.nd rfl (by first | exact Or.inl rfl | exact Or.inr rfl) (pe_ix ix_list (pe_lc (own := [("tail", 9)]) (g := (gName 9)) (tt := (tTest (tOp (rNotInP K) (tOp rAddS (tSl rSlS (tVar 3) tNoPart (tPart (tC (.int 6)))) (tVar 9)) (tVar 1)))) rfl sc__law_new_name.nd (pi_list (pv 6)) (blkOk_by (own := [("tail", 9)]) (N := ["bag", "used", "letters", "told", "near", "at", "tails", "step", "k", "tail"]) (sc := defScope s__law_new_name) (by decide +kernel)) (fun _ _ _ _ _ => (pg_name (i := 9) sc__law_new_name.nd rfl (by first | exact Or.inl rfl | exact Or.inr rfl))) (fun _ _ _ _ _ => (pts_one (pt_cmpR (op_notInP hu) (pe_op op_add_str (pe_slice sl_str (pv 3) po_none (po_some pe_int)) (pv 9)) (pv 1) rfl))) (fun _ _ _ _ _ => (pe_op op_add_str (pe_slice sl_str (pv 3) po_none (po_some pe_int)) (pv 9)))) pe_int (fun _ _ => rfl))))) pss_nil)
      (pss_cons (ps_expr (pe_bm PySem.F.plainAttrs_list PySem.F.slot_list_append PySem.F.type_list_append mt_append (pv 1) (pa_cons (pv 3) pa_nil)))
      (pss_one (ps_ret (pv 3))))))))
-- LEVEL _law_every 1 uses []
def t__law_every (K : PySem.W.Frag) : TS :=
  (tSeq (tAsg (tLst tNil) (gName 1))
  (tSeq (tFor (iList K (tVar 0)) (gName 2)
  (tDrop (tBM K "list" rExtend (tVar 1) (tCons (tLc (iList K (tVar 0)) (gName 3) (tTest (tOp rNe (tVar 3) (tVar 2))) (tTup (tCons (tVar 2) (tCons (tVar 3) tNil))) [3]) tNil))))
  (tRet (tVar 1))))
theorem run__law_every (T : Tx K mg)  (cdv : Value) (A : Around) (outer : List Env) (s : Shared) (H : Hp) (E : XK) (hr : Room 0 (A.deeper (envOfC "_law_every" (defScope s__law_every) s.heap.objs.size (He.fAd K d__law_every.at_) cdv))) :
    PSs (cxOf CX0 Pg w K mg base ["names", "out", "one", "two"] "_law_every" (defScope s__law_every) (He.fAd K d__law_every.at_) cdv A outer s H E).nox (defBody s__law_every) (t__law_every K) := by
  exact (pss_cons (ps_set (i := 1) sc__law_every.nd rfl (by first | exact Or.inl rfl | exact Or.inr rfl) (pe_lst pa_nil))
      (pss_cons (ps_for PassesOwn.never rfl (pi_list (pv 0)) (pg_name (i := 2) sc__law_every.nd rfl (by first | exact Or.inl rfl | exact Or.inr rfl))
      (pss_one (ps_expr (pe_bm PySem.F.plainAttrs_list PySem.F.slot_list_extend PySem.F.type_list_extend mt_extend (pv 1) (pa_cons (pe_lc (own := [("two", 3)]) (g := (gName 3)) (tt := (tTest (tOp rNe (tVar 3) (tVar 2)))) rfl sc__law_every.nd (pi_list (pv 0)) (blkOk_by (own := [("two", 3)]) (N := ["names", "out", "one", "two"]) (sc := defScope s__law_every) (by decide +kernel)) (fun _ _ _ _ _ => (pg_name (i := 3) sc__law_every.nd rfl (by first | exact Or.inl rfl | exact Or.inr rfl))) (fun _ _ _ _ _ => (pts_one (pt_cmpR op_ne (pv 3) (pv 2) (nomark _)))) (fun _ _ _ _ _ => (pe_tup (pa_cons (pv 2) (pa_cons (pv 3) pa_nil))))) pa_nil)))))
      (pss_one (ps_ret (pv 1)))))
-- LEVEL _law_shape 3 uses ['_law_every', '_law_pick']
def t__law_shape (K : PySem.W.Frag) : TS :=
  (tSeq (tAsg (tCall (Spt (pm__law_pick K)) [] E0 (tCons (tVar 0) (tCons (tC (.int 6)) tNil))) (gName 2))
  (tSeq (tIfS (tTest (tOp rEq (tVar 2) (tC (.int 0))))
  (tRet (tCall (Spt (pm__law_every K)) [] E0 (tCons (tVar 1) tNil)))
  tNext)
  (tSeq (tIfS (tTest (tOp rLtI (tVar 2) (tC (.int 3))))
  (tSeq (tAsg (tLc (iRng1 (tCons (tOp rSubI (tCB (rLenQ K) (tCons (tVar 1) tNil)) (tC (.int 1))) tNil)) (gName 5) tYes (tTup (tCons (tOp (rIxL K) (tVar 1) (tVar 5)) (tCons (tOp (rIxL K) (tVar 1) (tOp rAddI (tVar 5) (tC (.int 1)))) tNil))) [5]) (gName 3))
  (tSeq (tIfS (tAnd (tTest (tOp rEq (tVar 2) (tC (.int 2)))) (tTest (tOp rGtI (tCB (rLenQ K) (tCons (tVar 1) tNil)) (tC (.int 1)))))
  (tDrop (tBM K "list" rAppend (tVar 3) (tCons (tTup (tCons (tOp (rIxL K) (tVar 1) (tOp rSubI (tCB (rLenQ K) (tCons (tVar 1) tNil)) (tC (.int 1)))) (tCons (tOp (rIxL K) (tVar 1) (tC (.int 0))) tNil))) tNil)))
  tNext)
  (tRet (tVar 3))))
  tNext)
  (tSeq (tAsg (tLst tNil) (gName 3))
  (tSeq (tFor (iList K (tCall (Spt (pm__law_every K)) [] E0 (tCons (tVar 1) tNil))) (gName 4)
  (tIfS (tTest (tOp rNe (tCall (Spt (pm__law_pick K)) [] E0 (tCons (tVar 0) (tCons (tC (.int 3)) tNil))) (tC (.int 0))))
  (tDrop (tBM K "list" rAppend (tVar 3) (tCons (tVar 4) tNil)))
  tNext))
  (tRet (tVar 3)))))))
theorem run__law_shape (T : Tx K mg) (G__law_every : FnOk Pg w K mg base CX0 1 (He.fAd K d__law_every.at_) T.e__law_every ["names"] (Spt (pm__law_every K))) (G__law_pick : FnOk Pg w K mg base CX0 2 (He.fAd K d__law_pick.at_) T.e__law_pick ["bag", "many"] (Spt (pm__law_pick K))) (cdv : Value) (A : Around) (outer : List Env) (s : Shared) (H : Hp) (E : XK) (hr : Room 2 (A.deeper (envOfC "_law_shape" (defScope s__law_shape) s.heap.objs.size (He.fAd K d__law_shape.at_) cdv))) :
    PSs (cxOf CX0 Pg w K mg base ["bag", "names", "way", "out", "pair", "k"] "_law_shape" (defScope s__law_shape) (He.fAd K d__law_shape.at_) cdv A outer s H E).nox (defBody s__law_shape) (t__law_shape K) := by
  exact (pss_cons (ps_set (i := 2) sc__law_shape.nd rfl (by first | exact Or.inl rfl | exact Or.inr rfl) (pe_call G__law_pick (hr.mono (by decide)) rfl T.g__law_pick T.F__law_pick.kp T.b__law_pick .nil pass0 (pa_cons (pv 0) (pa_cons pe_int pa_nil))))
      (pss_cons (ps_if (pt_cmpR op_eq (pv 2) pe_int (nomark _)) (pss_one (ps_ret (pe_call G__law_every (hr.mono (by decide)) rfl T.g__law_every T.F__law_every.kp T.b__law_every .nil pass0 (pa_cons (pv 1) pa_nil)))) pss_nil)
      (pss_cons (ps_if (pt_cmpR op_lt (pv 2) pe_int (nomark _)) (pss_cons (ps_setLc (i := 3) (own := [("k", 5)]) (g := (gName 5)) (tt := tYes) rfl sc__law_shape.nd rfl rfl (sw_true rfl rfl rfl (by decide +kernel)) (pi_range1 rfl T.f_range (pa_cons (pe_op op_sub (pe_callB call_len_seq rfl T.f_len (by decide +kernel) (pa_cons (pv 1) pa_nil)) pe_int) pa_nil)) (blkOk_by (own := [("k", 5)]) (N := ["bag", "names", "way", "out", "pair", "k"]) (sc := defScope s__law_shape) (by decide +kernel)) (fun _ _ _ _ _ => (pg_name (i := 5) sc__law_shape.nd rfl (by first | exact Or.inl rfl | exact Or.inr rfl))) (fun _ _ _ _ _ => pts_nil) (fun _ _ _ _ _ => (pe_tup (pa_cons (pe_ix ix_list (pv 1) (pv 5) (fun _ _ => rfl)) (pa_cons (pe_ix ix_list (pv 1) (pe_op op_add (pv 5) pe_int) (fun _ _ => rfl)) pa_nil)))))
      (pss_cons (ps_if (PW.pt (pw_and (pt_cmpR op_eq (pv 2) pe_int (nomark _)) (pw_and1 (pt_cmpR op_gt (pe_callB call_len_seq rfl T.f_len (by decide +kernel) (pa_cons (pv 1) pa_nil)) pe_int (nomark _))))) (pss_one (ps_expr (pe_bm PySem.F.plainAttrs_list PySem.F.slot_list_append PySem.F.type_list_append mt_append (pv 3) (pa_cons (pe_tup (pa_cons (pe_ix ix_list (pv 1) (pe_op op_sub (pe_callB call_len_seq rfl T.f_len (by decide +kernel) (pa_cons (pv 1) pa_nil)) pe_int) (fun _ _ => rfl)) (pa_cons (pe_ix ix_list (pv 1) pe_int (fun _ _ => rfl)) pa_nil))) pa_nil)))) pss_nil)
      (pss_one (ps_ret (pv 3))))) pss_nil)
      (pss_cons (ps_set (i := 3) sc__law_shape.nd rfl (by first | exact Or.inl rfl | exact Or.inr rfl) (pe_lst pa_nil))
      (pss_cons (ps_for PassesOwn.never rfl (pi_list (pe_call G__law_every (hr.mono (by decide)) rfl T.g__law_every T.F__law_every.kp T.b__law_every .nil pass0 (pa_cons (pv 1) pa_nil))) (pg_name (i := 4) sc__law_shape.nd rfl (by first | exact Or.inl rfl | exact Or.inr rfl))
      (pss_one (ps_if (pt_cmpR op_ne (pe_call G__law_pick (hr.mono (by decide)) rfl T.g__law_pick T.F__law_pick.kp T.b__law_pick .nil pass0 (pa_cons (pv 0) (pa_cons pe_int pa_nil))) pe_int (nomark _)) (pss_one (ps_expr (pe_bm PySem.F.plainAttrs_list PySem.F.slot_list_append PySem.F.type_list_append mt_append (pv 3) (pa_cons (pv 4) pa_nil)))) pss_nil)))
      (pss_one (ps_ret (pv 3))))))))
-- LEVEL _law_walked 1 uses []
def t__law_walked (K : PySem.W.Frag) : TS :=
  (tSeq (tAsg (tLst (tCons (tVar 1) tNil)) (gName 3))
  (tSeq (tAsg (tLc (iList K (tVar 0)) (gName 6) (tTest (tOp rEq (tOp (rIxT K) (tVar 6) (tC (.int 0))) (tVar 1))) (tVar 6) [6]) (gName 4))
  (tSeq (tFor (iTup K (tVar 2)) (gName 5)
  (tSeq (tIfS (tTest (tOp (rNotInP K) (tVar 5) (tVar 4)))
  (tRet (tC .non))
  tNext)
  (tSeq (tDrop (tBM K "list" (rRemP K) (tVar 4) (tCons (tVar 5) tNil)))
  (tIfS (tTest (tOp (rNotInP K) (tOp (rIxT K) (tVar 5) (tC (.int 1))) (tVar 3)))
  (tSeq (tDrop (tBM K "list" rAppend (tVar 3) (tCons (tOp (rIxT K) (tVar 5) (tC (.int 1))) tNil)))
  (tAsg (tOp rCat (tVar 4) (tLc (iList K (tVar 0)) (gName 6) (tTest (tOp rEq (tOp (rIxT K) (tVar 6) (tC (.int 0))) (tOp (rIxT K) (tVar 5) (tC (.int 1))))) (tVar 6) [6])) (gName 4)))
  tNext))))
  (tSeq (tIfS (tTru K (tVar 4))
  (tRet (tC .non))
  tNext)
  (tRet (tVar 3))))))
theorem run__law_walked (T : Tx K mg)  (cdv : Value) (A : Around) (outer : List Env) (s : Shared) (H : Hp) (E : XK) (hr : Room 0 (A.deeper (envOfC "_law_walked" (defScope s__law_walked) s.heap.objs.size (He.fAd K d__law_walked.at_) cdv))) :
    PSs (cxOf CX0 Pg w K mg base ["pairs", "office", "order", "learnt", "letters", "letter", "pair"] "_law_walked" (defScope s__law_walked) (He.fAd K d__law_walked.at_) cdv A outer s H E).nox (defBody s__law_walked) (t__law_walked K) := by
  have hu := hr.units
  exact (pss_cons (ps_set (i := 3) sc__law_walked.nd rfl (by first | exact Or.inl rfl | exact Or.inr rfl) (pe_lst (pa_cons (pv 1) pa_nil)))
      (pss_cons (ps_setLc (i := 4) (own := [("pair", 6)]) (g := (gName 6)) (tt := (tTest (tOp rEq (tOp (rIxT K) (tVar 6) (tC (.int 0))) (tVar 1)))) rfl sc__law_walked.nd rfl rfl (sw_true rfl rfl rfl (by decide +kernel)) (pi_list (pv 0)) (blkOk_by (own := [("pair", 6)]) (N := ["pairs", "office", "order", "learnt", "letters", "letter", "pair"]) (sc := defScope s__law_walked) (by decide +kernel)) (fun _ _ _ _ _ => (pg_name (i := 6) sc__law_walked.nd rfl (by first | exact Or.inl rfl | exact Or.inr rfl))) (fun _ _ _ _ _ => (pts_one (pt_cmpR op_eq (pe_ix ix_tup (pv 6) pe_int (fun _ _ => rfl)) (pv 1) (nomark _)))) (fun _ _ _ _ _ => (pv 6)))
      (pss_cons (ps_for PassesOwn.never rfl (pi_tup (pv 2)) (pg_name (i := 5) sc__law_walked.nd rfl (by first | exact Or.inl rfl | exact Or.inr rfl))
      (pss_cons (ps_if (pt_cmpR (op_notInP hu) (pv 5) (pv 4) rfl) (pss_one (ps_ret pe_non)) pss_nil)
      (pss_cons (ps_expr (pe_bm PySem.F.plainAttrs_list PySem.F.slot_list_remove PySem.F.type_list_remove (mt_removeP hu) (pv 4) (pa_cons (pv 5) pa_nil)))
      (pss_one (ps_if (pt_cmpR (op_notInP hu) (pe_ix ix_tup (pv 5) pe_int (fun _ _ => rfl)) (pv 3) rfl) (pss_cons (ps_expr (pe_bm PySem.F.plainAttrs_list PySem.F.slot_list_append PySem.F.type_list_append mt_append (pv 3) (pa_cons (pe_ix ix_tup (pv 5) pe_int (fun _ _ => rfl)) pa_nil)))
      (pss_one (ps_set (i := 4) sc__law_walked.nd rfl (by first | exact Or.inl rfl | exact Or.inr rfl) (pe_op op_cat (pv 4) (pe_lc (own := [("pair", 6)]) (g := (gName 6)) (tt := (tTest (tOp rEq (tOp (rIxT K) (tVar 6) (tC (.int 0))) (tOp (rIxT K) (tVar 5) (tC (.int 1)))))) rfl sc__law_walked.nd (pi_list (pv 0)) (blkOk_by (own := [("pair", 6)]) (N := ["pairs", "office", "order", "learnt", "letters", "letter", "pair"]) (sc := defScope s__law_walked) (by decide +kernel)) (fun _ _ _ _ _ => (pg_name (i := 6) sc__law_walked.nd rfl (by first | exact Or.inl rfl | exact Or.inr rfl))) (fun _ _ _ _ _ => (pts_one (pt_cmpR op_eq (pe_ix ix_tup (pv 6) pe_int (fun _ _ => rfl)) (pe_ix ix_tup (pv 5) pe_int (fun _ _ => rfl)) (nomark _)))) (fun _ _ _ _ _ => (pv 6))))))) pss_nil)))))
      (pss_cons (ps_if (pt_truth (pv 4) (by intro _; rfl)) (pss_one (ps_ret pe_non)) pss_nil)
      (pss_one (ps_ret (pv 3)))))))
-- LEVEL _law_read_through 3 uses ['_law_pick']
def t__law_read_through (K : PySem.W.Frag) : TS :=
  (tSeq (tAsg (tLst (tCons (tVar 2) tNil)) (gName 3))
  (tSeq (tAsg (tLc (iList K (tVar 1)) (gName 8) (tTest (tOp rEq (tOp (rIxT K) (tVar 8) (tC (.int 0))) (tVar 2))) (tVar 8) [8]) (gName 4))
  (tSeq (tAsg (tLst tNil) (gName 5))
  (tSeq (tFor (iRng1 (tCons (tCB (rLenQ K) (tCons (tVar 1) tNil)) tNil)) (gName 6)
  (tIfS (tTru K (tVar 4))
  (tSeq (tAsg (tBM K "list" rPopAt (tVar 4) (tCons (tCall (Spt (pm__law_pick K)) [] E0 (tCons (tVar 0) (tCons (tCB (rLenQ K) (tCons (tVar 4) tNil)) tNil))) tNil)) (gName 7))
  (tSeq (tDrop (tBM K "list" rAppend (tVar 5) (tCons (tVar 7) tNil)))
  (tIfS (tTest (tOp (rNotInP K) (tOp (rIxT K) (tVar 7) (tC (.int 1))) (tVar 3)))
  (tSeq (tDrop (tBM K "list" rAppend (tVar 3) (tCons (tOp (rIxT K) (tVar 7) (tC (.int 1))) tNil)))
  (tAsg (tOp rCat (tVar 4) (tLc (iList K (tVar 1)) (gName 8) (tTest (tOp rEq (tOp (rIxT K) (tVar 8) (tC (.int 0))) (tOp (rIxT K) (tVar 7) (tC (.int 1))))) (tVar 8) [8])) (gName 4)))
  tNext)))
  tNext))
  (tRet (tCB (rTupO K) (tCons (tVar 5) tNil)))))))
theorem run__law_read_through (T : Tx K mg) (G__law_pick : FnOk Pg w K mg base CX0 2 (He.fAd K d__law_pick.at_) T.e__law_pick ["bag", "many"] (Spt (pm__law_pick K))) (cdv : Value) (A : Around) (outer : List Env) (s : Shared) (H : Hp) (E : XK) (hr : Room 2 (A.deeper (envOfC "_law_read_through" (defScope s__law_read_through) s.heap.objs.size (He.fAd K d__law_read_through.at_) cdv))) :
    PSs (cxOf CX0 Pg w K mg base ["bag", "pairs", "office", "learnt", "letters", "order", "step", "letter", "pair"] "_law_read_through" (defScope s__law_read_through) (He.fAd K d__law_read_through.at_) cdv A outer s H E).nox (defBody s__law_read_through) (t__law_read_through K) := by
  have hu := hr.units
  exact (pss_cons (ps_set (i := 3) sc__law_read_through.nd rfl (by first | exact Or.inl rfl | exact Or.inr rfl) (pe_lst (pa_cons (pv 2) pa_nil)))
      (pss_cons (ps_setLc (i := 4) (own := [("pair", 8)]) (g := (gName 8)) (tt := (tTest (tOp rEq (tOp (rIxT K) (tVar 8) (tC (.int 0))) (tVar 2)))) rfl sc__law_read_through.nd rfl rfl (sw_true rfl rfl rfl (by decide +kernel)) (pi_list (pv 1)) (blkOk_by (own := [("pair", 8)]) (N := ["bag", "pairs", "office", "learnt", "letters", "order", "step", "letter", "pair"]) (sc := defScope s__law_read_through) (by decide +kernel)) (fun _ _ _ _ _ => (pg_name (i := 8) sc__law_read_through.nd rfl (by first | exact Or.inl rfl | exact Or.inr rfl))) (fun _ _ _ _ _ => (pts_one (pt_cmpR op_eq (pe_ix ix_tup (pv 8) pe_int (fun _ _ => rfl)) (pv 2) (nomark _)))) (fun _ _ _ _ _ => (pv 8)))
      (pss_cons (ps_set (i := 5) sc__law_read_through.nd rfl (by first | exact Or.inl rfl | exact Or.inr rfl) (pe_lst pa_nil))
      (pss_cons (ps_for PassesOwn.never rfl (pi_range1 rfl T.f_range (pa_cons (pe_callB call_len_seq rfl T.f_len (by decide +kernel) (pa_cons (pv 1) pa_nil)) pa_nil)) (pg_name (i := 6) sc__law_read_through.nd rfl (by first | exact Or.inl rfl | exact Or.inr rfl))
      (pss_one (ps_if (pt_truth (pv 4) (by intro _; rfl)) (pss_cons (ps_set (i := 7) sc__law_read_through.nd rfl (by first | exact Or.inl rfl | exact Or.inr rfl) (pe_bm PySem.F.plainAttrs_list PySem.F.slot_list_pop PySem.F.type_list_pop mt_popAt (pv 4) (pa_cons (pe_call G__law_pick (hr.mono (by decide)) rfl T.g__law_pick T.F__law_pick.kp T.b__law_pick .nil pass0 (pa_cons (pv 0) (pa_cons (pe_callB call_len_seq rfl T.f_len (by decide +kernel) (pa_cons (pv 4) pa_nil)) pa_nil))) pa_nil)))
      (pss_cons (ps_expr (pe_bm PySem.F.plainAttrs_list PySem.F.slot_list_append PySem.F.type_list_append mt_append (pv 5) (pa_cons (pv 7) pa_nil)))
      (pss_one (ps_if (pt_cmpR (op_notInP hu) (pe_ix ix_tup (pv 7) pe_int (fun _ _ => rfl)) (pv 3) rfl) (pss_cons (ps_expr (pe_bm PySem.F.plainAttrs_list PySem.F.slot_list_append PySem.F.type_list_append mt_append (pv 3) (pa_cons (pe_ix ix_tup (pv 7) pe_int (fun _ _ => rfl)) pa_nil)))
      (pss_one (ps_set (i := 4) sc__law_read_through.nd rfl (by first | exact Or.inl rfl | exact Or.inr rfl) (pe_op op_cat (pv 4) (pe_lc (own := [("pair", 8)]) (g := (gName 8)) (tt := (tTest (tOp rEq (tOp (rIxT K) (tVar 8) (tC (.int 0))) (tOp (rIxT K) (tVar 7) (tC (.int 1)))))) rfl sc__law_read_through.nd (pi_list (pv 1)) (blkOk_by (own := [("pair", 8)]) (N := ["bag", "pairs", "office", "learnt", "letters", "order", "step", "letter", "pair"]) (sc := defScope s__law_read_through) (by decide +kernel)) (fun _ _ _ _ _ => (pg_name (i := 8) sc__law_read_through.nd rfl (by first | exact Or.inl rfl | exact Or.inr rfl))) (fun _ _ _ _ _ => (pts_one (pt_cmpR op_eq (pe_ix ix_tup (pv 8) pe_int (fun _ _ => rfl)) (pe_ix ix_tup (pv 7) pe_int (fun _ _ => rfl)) (nomark _)))) (fun _ _ _ _ _ => (pv 8))))))) pss_nil)))) pss_nil)))
      (pss_one (ps_ret (pe_callTy call_tuple_of rfl T.f_tuple (by decide +kernel) (pa_cons (pv 5) pa_nil))))))))
-- LEVEL _law_told_well 9 uses ['Ways.hears', 'Ways.lacking', '_law_pick', '_law_read_through', '_law_sorted', '_law_walked', 'deliveries']
def t__law_told_well (K : PySem.W.Frag) : TS :=
  (tSeq (tAsg (tListG (tCallG (spg_deliveries K) [] E0 (tCons (tVar 1) (tCons (tVar 4) tNil)))) (gName 5))
  (tSeq (tAsg (tMeth (He.ga K "Ways") "lacking" (Spt (pm_Ways_lacking K)) [] E0 (tVar 1) tNil) (gName 6))
  (tSeq (tAsg (tLst tNil) (gName 7))
  (tSeq (tFor (iList K (tVar 2)) (gName 8)
  (tSeq (tAsg (tMeth (He.ga K "Ways") "hears" (Spt (pm_Ways_hears K)) [] E0 (tVar 1) (tCons (tVar 8) tNil)) (gName 9))
  (tSeq (tIfS (tOr (tNot (tB (tCB (rIsi K) (tCons (tVar 9) (tCons (tC (.ty "tuple")) tNil))))) (tTest (tOp rEq (tOp (rInP K) (tVar 4) (tVar 9)) (tOp (rInP K) (tTup (tCons (tVar 8) (tCons (tVar 4) tNil))) (tVar 6)))))
  (tRet (tC (.bl false)))
  tNext)
  (tIfS (tTest (tOp (rInP K) (tVar 4) (tVar 9)))
  (tDrop (tBM K "list" rAppend (tVar 7) (tCons (tVar 8) tNil)))
  tNext))))
  (tSeq (tIfS (tNot (tTru K (tVar 5)))
  (tRet (tC (.bl false)))
  tNext)
  (tSeq (tFor (iEnum K (tCons (tVar 5) tNil)) (gTup K 2 (gCons (gName 10) (gCons (gName 11) gNil)))
  (tSeq (tIfS (tNot (tB (tCB (rIsi K) (tCons (tVar 11) (tCons (tC (.ty "tuple")) tNil)))))
  (tRet (tC (.bl false)))
  tNext)
  (tSeq (tAsg (tCall (Spt (pm__law_walked K)) [] E0 (tCons (tVar 3) (tCons (tVar 4) (tCons (tVar 11) tNil)))) (gName 12))
  (tSeq (tIfS (tOr (tTest (tOp rIsN (tVar 12) (tC .non))) (tTest (tOp (rNeP K) (tCall (Spt (pm__law_sorted K)) [] E0 (tCons (tVar 12) tNil)) (tCall (Spt (pm__law_sorted K)) [] E0 (tCons (tVar 7) tNil)))))
  (tRet (tC (.bl false)))
  tNext)
  (tIfS (tAnd (tTest (tOp rGtI (tVar 10) (tC (.int 0)))) (tNot (tTest (tOp (rLtP K) (tOp (rIxL K) (tVar 5) (tOp rSubI (tVar 10) (tC (.int 1)))) (tVar 11)))))
  (tRet (tC (.bl false)))
  tNext)))))
  (tSeq (tFor (iRng1 (tCons (tOp rAddI (tC (.int 2)) (tCall (Spt (pm__law_pick K)) [] E0 (tCons (tVar 0) (tCons (tC (.int 2)) tNil)))) tNil)) (gName 13)
  (tIfS (tTest (tOp (rNotInP K) (tCall (Spt (pm__law_read_through K)) [] E0 (tCons (tVar 0) (tCons (tVar 3) (tCons (tVar 4) tNil)))) (tVar 5)))
  (tRet (tC (.bl false)))
  tNext))
  (tRet (tC (.bl true))))))))))
theorem run__law_told_well (T : Tx K mg) (G_Ways_hears : FnOk Pg w K mg base CX0 3 (He.fAd K d_Ways_hears.at_) T.e_Ways_hears ["self", "office"] (Spt (pm_Ways_hears K))) (G_Ways_lacking : FnOk Pg w K mg base CX0 4 (He.fAd K d_Ways_lacking.at_) T.e_Ways_lacking ["self"] (Spt (pm_Ways_lacking K))) (G__law_pick : FnOk Pg w K mg base CX0 2 (He.fAd K d__law_pick.at_) T.e__law_pick ["bag", "many"] (Spt (pm__law_pick K))) (G__law_read_through : FnOk Pg w K mg base CX0 3 (He.fAd K d__law_read_through.at_) T.e__law_read_through ["bag", "pairs", "office"] (Spt (pm__law_read_through K))) (G__law_sorted : FnOk Pg w K mg base CX0 1 (He.fAd K d__law_sorted.at_) T.e__law_sorted ["things"] (Spt (pm__law_sorted K))) (G__law_walked : FnOk Pg w K mg base CX0 1 (He.fAd K d__law_walked.at_) T.e__law_walked ["pairs", "office", "order"] (Spt (pm__law_walked K))) (G_deliveries : GFn Pg w K mg base 4 (He.fAd K d_deliveries.at_) T.e_deliveries ["ways", "office"] (spg_deliveries K)) (cdv : Value) (A : Around) (outer : List Env) (s : Shared) (H : Hp) (E : XK) (hr : Room 8 (A.deeper (envOfC "_law_told_well" (defScope s__law_told_well) s.heap.objs.size (He.fAd K d__law_told_well.at_) cdv))) :
    PSs (cxOf CX0 Pg w K mg base ["bag", "box", "names", "pairs", "office", "told", "lacking", "hearers", "name", "heard", "at", "order", "learnt", "step"] "_law_told_well" (defScope s__law_told_well) (He.fAd K d__law_told_well.at_) cdv A outer s H E).nox (defBody s__law_told_well) (t__law_told_well K) := by
  have hu := hr.units
  exact (pss_cons (ps_set (i := 5) sc__law_told_well.nd rfl (by first | exact Or.inl rfl | exact Or.inr rfl) (pe_listG (pgen_call G_deliveries (hr.mono (by decide)) rfl T.g_deliveries T.F_deliveries.kp T.b_deliveries .nil (pa_cons (pv 1) (pa_cons (pv 4) pa_nil))) passL (fun _ _ _ h => h.elim) (hr.mono (by decide)) rfl T.f_list (by decide +kernel)))
      (pss_cons (ps_set (i := 6) sc__law_told_well.nd rfl (by first | exact Or.inl rfl | exact Or.inr rfl) (pe_meth0 (pv 1) T.l_Ways T.m_Ways_lacking G_Ways_lacking (hr.mono (by decide)) T.b_Ways_lacking .nil pass0))
      (pss_cons (ps_set (i := 7) sc__law_told_well.nd rfl (by first | exact Or.inl rfl | exact Or.inr rfl) (pe_lst pa_nil))
      (pss_cons (ps_for PassesOwn.never rfl (pi_list (pv 2)) (pg_name (i := 8) sc__law_told_well.nd rfl (by first | exact Or.inl rfl | exact Or.inr rfl))
      (pss_cons (ps_set (i := 9) sc__law_told_well.nd rfl (by first | exact Or.inl rfl | exact Or.inr rfl) (pe_meth (pv 1) T.l_Ways T.m_Ways_hears G_Ways_hears (hr.mono (by decide)) T.b_Ways_hears .nil pass0 (pa_cons (pv 8) pa_nil)))
      (pss_cons (ps_if (PW.pt (pw_or (pt_not (pt_val (pe_callB call_isi rfl T.f_isinstance (by decide +kernel) (pa_cons (pv 9) (pa_cons (pe_bltn rfl T.f_tuple (by decide +kernel) rfl) pa_nil))))) (pw_or1 (pt_cmpR op_eq (pe_cmpR (op_inP hu) (pv 4) (pv 9) rfl) (pe_cmpR (op_inP hu) (pe_tup (pa_cons (pv 8) (pa_cons (pv 4) pa_nil))) (pv 6) rfl) (nomark _))))) (pss_one (ps_ret pe_bl)) pss_nil)
      (pss_one (ps_if (pt_cmpR (op_inP hu) (pv 4) (pv 9) rfl) (pss_one (ps_expr (pe_bm PySem.F.plainAttrs_list PySem.F.slot_list_append PySem.F.type_list_append mt_append (pv 7) (pa_cons (pv 8) pa_nil)))) pss_nil)))))
      (pss_cons (ps_if (pt_not (pt_truth (pv 5) (by intro _; rfl))) (pss_one (ps_ret pe_bl)) pss_nil)
      (pss_cons (ps_for PassesOwn.never rfl (pi_enum rfl T.f_enumerate (pa_cons (pv 5) pa_nil)) (pg_tup rfl (pgs_cons (pg_name (i := 10) sc__law_told_well.nd rfl (by first | exact Or.inl rfl | exact Or.inr rfl)) (pgs_cons (pg_name (i := 11) sc__law_told_well.nd rfl (by first | exact Or.inl rfl | exact Or.inr rfl)) pgs_nil)))
      (pss_cons (ps_if (pt_not (pt_val (pe_callB call_isi rfl T.f_isinstance (by decide +kernel) (pa_cons (pv 11) (pa_cons (pe_bltn rfl T.f_tuple (by decide +kernel) rfl) pa_nil))))) (pss_one (ps_ret pe_bl)) pss_nil)
      (pss_cons (ps_set (i := 12) sc__law_told_well.nd rfl (by first | exact Or.inl rfl | exact Or.inr rfl) (pe_call G__law_walked (hr.mono (by decide)) rfl T.g__law_walked T.F__law_walked.kp T.b__law_walked .nil pass0 (pa_cons (pv 3) (pa_cons (pv 4) (pa_cons (pv 11) pa_nil)))))
      (pss_cons (ps_if (PW.pt (pw_or (pt_cmpR op_isN (pv 12) pe_non (nomark _)) (pw_or1 (pt_cmpR (op_neP hu) (pe_call G__law_sorted (hr.mono (by decide)) rfl T.g__law_sorted T.F__law_sorted.kp T.b__law_sorted .nil pass0 (pa_cons (pv 12) pa_nil)) (pe_call G__law_sorted (hr.mono (by decide)) rfl T.g__law_sorted T.F__law_sorted.kp T.b__law_sorted .nil pass0 (pa_cons (pv 7) pa_nil)) (nomark _))))) (pss_one (ps_ret pe_bl)) pss_nil)
      (pss_one (ps_if (PW.pt (pw_and (pt_cmpR op_gt (pv 10) pe_int (nomark _)) (pw_and1 (pt_not (pt_cmpR (op_ltP hu) (pe_ix ix_list (pv 5) (pe_op op_sub (pv 10) pe_int) (fun _ _ => rfl)) (pv 11) (nomark _)))))) (pss_one (ps_ret pe_bl)) pss_nil))))))
      (pss_cons (ps_for PassesOwn.never rfl (pi_range1 rfl T.f_range (pa_cons (pe_op op_add pe_int (pe_call G__law_pick (hr.mono (by decide)) rfl T.g__law_pick T.F__law_pick.kp T.b__law_pick .nil pass0 (pa_cons (pv 0) (pa_cons pe_int pa_nil)))) pa_nil)) (pg_name (i := 13) sc__law_told_well.nd rfl (by first | exact Or.inl rfl | exact Or.inr rfl))
      (pss_one (ps_if (pt_cmpR (op_notInP hu) (pe_call G__law_read_through (hr.mono (by decide)) rfl T.g__law_read_through T.F__law_read_through.kp T.b__law_read_through .nil pass0 (pa_cons (pv 0) (pa_cons (pv 3) (pa_cons (pv 4) pa_nil)))) (pv 5) rfl) (pss_one (ps_ret pe_bl)) pss_nil)))
      (pss_one (ps_ret pe_bl)))))))))
-- LEVEL law 10 uses ['Ways.__init__', '_law_bag', '_law_mingled', '_law_new_name', '_law_pick', '_law_shape', '_law_told_well']
def t_law (K : PySem.W.Frag) : TS :=
  (tSeq (tAsg (tCall (Spt (pm__law_bag K)) [] E0 (tCons (tVar 0) tNil)) (gName 1))
  (tSeq (tAsg (tLst tNil) (gName 2))
  (tSeq (tFor (iRng1 (tCons (tOp rSubI (tC (.int 3)) (tOp (rIxL K) (tLst (tCons (tC (.int 0)) (tCons (tC (.int 0)) (tCons (tC (.int 0)) (tCons (tC (.int 1)) (tCons (tC (.int 1)) (tCons (tC (.int 2)) tNil))))))) (tCall (Spt (pm__law_pick K)) [] E0 (tCons (tVar 1) (tCons (tC (.int 6)) tNil))))) tNil)) (gName 3)
  (tDrop (tCall (Spt (pm__law_new_name K)) [] E0 (tCons (tVar 1) (tCons (tVar 2) tNil)))))
  (tSeq (tAsg (tCall (Spt (pm__law_shape K)) [] E0 (tCons (tVar 1) (tCons (tVar 2) tNil))) (gName 4))
  (tSeq (tAsg (tMake (He.ga K "Ways") (Spt (pm_Ways___init__ K)) [] E0 (tCons (tCB (rListO K) (tCons (tVar 2) tNil)) (tCons (tCall (Spt (pm__law_mingled K)) [] E0 (tCons (tVar 1) (tCons (tVar 4) tNil))) tNil))) (gName 5))
  (tSeq (tFor (iList K (tVar 2)) (gName 6)
  (tIfS (tNot (tB (tCall (Spt (pm__law_told_well K)) [] E0 (tCons (tVar 1) (tCons (tVar 5) (tCons (tVar 2) (tCons (tVar 4) (tCons (tVar 6) tNil))))))))
  (tRet (tC (.bl false)))
  tNext))
  (tRet (tC (.bl true)))))))))
theorem run_law (T : Tx K mg) (G_Ways___init__ : FnOk Pg w K mg base CX0 4 (He.fAd K d_Ways___init__.at_) T.e_Ways___init__ ["self", "offices", "pairs"] (Spt (pm_Ways___init__ K))) (G__law_bag : FnOk Pg w K mg base CX0 1 (He.fAd K d__law_bag.at_) T.e__law_bag ["script"] (Spt (pm__law_bag K))) (G__law_mingled : FnOk Pg w K mg base CX0 3 (He.fAd K d__law_mingled.at_) T.e__law_mingled ["bag", "things"] (Spt (pm__law_mingled K))) (G__law_new_name : FnOk Pg w K mg base CX0 3 (He.fAd K d__law_new_name.at_) T.e__law_new_name ["bag", "used"] (Spt (pm__law_new_name K))) (G__law_pick : FnOk Pg w K mg base CX0 2 (He.fAd K d__law_pick.at_) T.e__law_pick ["bag", "many"] (Spt (pm__law_pick K))) (G__law_shape : FnOk Pg w K mg base CX0 3 (He.fAd K d__law_shape.at_) T.e__law_shape ["bag", "names"] (Spt (pm__law_shape K))) (G__law_told_well : FnOk Pg w K mg base CX0 9 (He.fAd K d__law_told_well.at_) T.e__law_told_well ["bag", "box", "names", "pairs", "office"] (Spt (pm__law_told_well K))) (cdv : Value) (A : Around) (outer : List Env) (s : Shared) (H : Hp) (E : XK) (hr : Room 9 (A.deeper (envOfC "law" (defScope s_law) s.heap.objs.size (He.fAd K d_law.at_) cdv))) :
    PSs (cxOf CX0 Pg w K mg base ["script", "bag", "names", "k", "pairs", "box", "office"] "law" (defScope s_law) (He.fAd K d_law.at_) cdv A outer s H E).nox (defBody s_law) (t_law K) := by
  exact (pss_cons (ps_set (i := 1) sc_law.nd rfl (by first | exact Or.inl rfl | exact Or.inr rfl) (pe_call G__law_bag (hr.mono (by decide)) rfl T.g__law_bag T.F__law_bag.kp T.b__law_bag .nil pass0 (pa_cons (pv 0) pa_nil)))
      (pss_cons (ps_set (i := 2) sc_law.nd rfl (by first | exact Or.inl rfl | exact Or.inr rfl) (pe_lst pa_nil))
      (pss_cons (ps_for PassesOwn.never rfl (pi_range1 rfl T.f_range (pa_cons (pe_op op_sub pe_int (pe_ix ix_list (pe_lst (pa_cons pe_int (pa_cons pe_int (pa_cons pe_int (pa_cons pe_int (pa_cons pe_int (pa_cons pe_int pa_nil))))))) (pe_call G__law_pick (hr.mono (by decide)) rfl T.g__law_pick T.F__law_pick.kp T.b__law_pick .nil pass0 (pa_cons (pv 1) (pa_cons pe_int pa_nil))) (fun _ _ => rfl))) pa_nil)) (pg_name (i := 3) sc_law.nd rfl (by first | exact Or.inl rfl | exact Or.inr rfl))
      (pss_one (ps_expr (pe_call G__law_new_name (hr.mono (by decide)) rfl T.g__law_new_name T.F__law_new_name.kp T.b__law_new_name .nil pass0 (pa_cons (pv 1) (pa_cons (pv 2) pa_nil))))))
      (pss_cons (ps_set (i := 4) sc_law.nd rfl (by first | exact Or.inl rfl | exact Or.inr rfl) (pe_call G__law_shape (hr.mono (by decide)) rfl T.g__law_shape T.F__law_shape.kp T.b__law_shape .nil pass0 (pa_cons (pv 1) (pa_cons (pv 2) pa_nil))))
      (pss_cons (ps_set (i := 5) sc_law.nd rfl (by first | exact Or.inl rfl | exact Or.inr rfl) (pe_make T.k_Ways G_Ways___init__ (hr.mono (by decide)) rfl T.g_Ways T.b_Ways___init__ .nil pass0 (pa_cons (pe_callTy call_list_of rfl T.f_list (by decide +kernel) (pa_cons (pv 2) pa_nil)) (pa_cons (pe_call G__law_mingled (hr.mono (by decide)) rfl T.g__law_mingled T.F__law_mingled.kp T.b__law_mingled .nil pass0 (pa_cons (pv 1) (pa_cons (pv 4) pa_nil))) pa_nil))))
      (pss_cons (ps_for PassesOwn.never rfl (pi_list (pv 2)) (pg_name (i := 6) sc_law.nd rfl (by first | exact Or.inl rfl | exact Or.inr rfl))
      (pss_one (ps_if (pt_not (pt_val (pe_call G__law_told_well (hr.mono (by decide)) rfl T.g__law_told_well T.F__law_told_well.kp T.b__law_told_well .nil pass0 (pa_cons (pv 1) (pa_cons (pv 5) (pa_cons (pv 2) (pa_cons (pv 4) (pa_cons (pv 6) pa_nil)))))))) (pss_one (ps_ret pe_bl)) pss_nil)))
      (pss_one (ps_ret pe_bl))))))))
end
end T

set_option Elab.async false
set_option linter.all false
set_option maxRecDepth 100000
set_option maxHeartbeats 4000000
namespace T
open PySem PySem.Spec PyProof.Rows L2 KM
/-! the walk of readings -/
local macro_rules | `(tactic| walk_at "w1") => `(tactic| first | (with_reducible refine s_seq ?_) | (with_reducible refine s_asg ?_) | (with_reducible refine g_name ?_) | (with_reducible refine s_if ?_) | (with_reducible refine s_drop ?_) | (with_reducible refine s_ret ?_) | (with_reducible refine s_next ?_) | (with_reducible refine s_fld ?_) | (with_reducible refine b_test ?_) | (with_reducible refine b_B ?_) | (with_reducible refine b_and ?_) | (with_reducible refine b_or ?_) | (with_reducible refine b_not ?_) | (with_reducible refine b_truth ?_) | (with_reducible refine b_yes ?_) | (with_reducible refine e_c ?_) | (with_reducible refine e_op ?_) | (with_reducible refine e_un ?_) | (with_reducible refine e_cb ?_) | (with_reducible refine e_chain ?_) | (with_reducible refine e_if ?_) | (with_reducible refine e_andV ?_) | (with_reducible refine e_orV ?_) | (with_reducible refine e_notV ?_) | (with_reducible refine e_bmL ?_) | (with_reducible refine e_m1 ?_) | (with_reducible refine e_sl ?_) | (with_reducible refine e_tup ?_) | (with_reducible refine e_fld ?_) | (with_reducible refine e_call ?_) | (with_reducible refine e_meth ?_) | (with_reducible refine a_nil ?_) | (with_reducible refine a_cons ?_) | (with_reducible refine p_none ?_) | (with_reducible refine p_some ?_) | (with_reducible refine o_I0 ?_) | (with_reducible refine u_neg ?_) | (with_reducible refine c_int ?_) | (with_reducible refine c_abs ?_) | ((with_reducible refine' e_var ?hvar ?_); (case hvar => rfl)))
local macro_rules | `(tactic| walk_at "w") => `(tactic| repeat (walk_at "w1"))
local macro_rules | `(tactic| walk_at "ex") => `(tactic| first | assumption | exact Ex.refl _ | (refine Ex.trans ?_ (by assumption); walk_at "ex"))
section
variable {Pg : Program} {w : World} {K : PySem.W.Frag} {mg : Str → Option Value} {base : Heap} {G G' L : Hp}

theorem dpAll_len : ∀ {xs : List V} {ds : List PyData}, DpAll K G xs ds → xs.length = ds.length
  | _, _, .nil => rfl
  | _, _, .cons _ t => by rw [List.length_cons, List.length_cons, dpAll_len t]
theorem dpAll_get : ∀ {xs : List V} {ds : List PyData} {i : Nat} {x : V}, DpAll K G xs ds → xs[i]? = some x → ∃ d, ds[i]? = some d ∧ Dp K G x d
  | _, _, i, x, .nil, h => by simp at h
  | _, _, 0, x, .cons a _, h => by
    simp only [List.getElem?_cons_zero, Option.some.injEq] at h
    subst h
    exact ⟨_, rfl, a⟩
  | _, _, i + 1, x, .cons _ t, h => by
    obtain ⟨d, e, q⟩ := dpAll_get (i := i) t (by simpa using h)
    exact ⟨d, by simpa using e, q⟩
theorem dpAll_app : ∀ {xs ys : List V} {ds es : List PyData}, DpAll K G xs ds → DpAll K G ys es → DpAll K G (xs ++ ys) (ds ++ es)
  | _, _, _, _, .nil, h => h
  | _, _, _, _, .cons a t, h => .cons a (dpAll_app t h)
theorem dpAll_one {x : V} {d : PyData} (h : Dp K G x d) : DpAll K G [x] [d] := .cons h .nil
theorem dpAll_take : ∀ (n : Nat) {xs : List V} {ds : List PyData}, DpAll K G xs ds → DpAll K G (xs.take n) (ds.take n)
  | 0, _, _, _ => by simpa using DpAll.nil
  | n + 1, _, _, .nil => by simpa using DpAll.nil
  | n + 1, _, _, .cons a t => by
    simp only [List.take_succ_cons]
    exact .cons a (dpAll_take n t)
theorem dpAll_drop : ∀ (n : Nat) {xs : List V} {ds : List PyData}, DpAll K G xs ds → DpAll K G (xs.drop n) (ds.drop n)
  | 0, _, _, h => by simpa using h
  | n + 1, _, _, .nil => by simpa using DpAll.nil
  | n + 1, _, _, .cons a t => by
    simp only [List.drop_succ_cons]
    exact dpAll_drop n t
theorem dpAll_strs : ∀ {xs : List V} {ns : List Str}, DpAll K G xs (ns.map .str) → xs = ns.map V.str
  | _, [], h => by cases h; rfl
  | _, n :: ns, h => by
    cases h with
    | cons a t =>
      cases a
      rw [dpAll_strs t]
      rfl
theorem dpAll_of_strs : ∀ (ns : List Str), DpAll K G (ns.map V.str) (ns.map .str)
  | [] => .nil
  | n :: ns => .cons (.str n) (dpAll_of_strs ns)
theorem Dl.dp {v : V} {ds : List PyData} (h : Dl K G v ds) : Dp K G v (.list ds) := by
  obtain ⟨a, xs, rfl, e, q⟩ := h
  exact .lst (.of e) q
theorem Dl.ex {v : V} {ds : List PyData} (e : Ex G G') (h : Dl K G v ds) : Dl K G' v ds := by
  obtain ⟨a, xs, rfl, e1, q⟩ := h
  exact ⟨a, xs, rfl, e _ _ e1, dpAll_ex e _ _ q⟩
theorem Dl.len {v : V} {ds : List PyData} (h : Dl K G v ds) : ∃ a xs, v = .ref a ∧ G a = some (.lst xs) ∧ DpAll K G xs ds ∧ xs.length = ds.length := by
  obtain ⟨a, xs, rfl, e1, q⟩ := h
  exact ⟨a, xs, rfl, e1, q, dpAll_len q⟩
theorem Dl.strs {v : V} {ns : List Str} (h : Dl K G v (ns.map .str)) : ∃ a, v = .ref a ∧ G a = some (.lst (ns.map V.str)) := by
  obtain ⟨a, xs, rfl, e1, q⟩ := h
  rw [dpAll_strs q] at e1
  exact ⟨a, rfl, e1⟩
theorem tup_of {v : V} {ds : List PyData} (h : Dp K G v (.tuple ds)) : ∃ a xs, v = .ref a ∧ SqT K G a xs ∧ DpAll K G xs ds ∧ xs.length = ds.length := by
  cases h with
  | tup hs ha => exact ⟨_, _, rfl, hs, ha, dpAll_len ha⟩
theorem list_of {v : V} {ds : List PyData} (h : Dp K G v (.list ds)) : ∃ a xs, v = .ref a ∧ SqL K G a xs ∧ DpAll K G xs ds ∧ xs.length = ds.length := by
  cases h with
  | lst hs ha => exact ⟨_, _, rfl, hs, ha, dpAll_len ha⟩
theorem pair_of {v : V} {p : Str × Str} (h : Dp K G v (encP p)) : ∃ a, v = .ref a ∧ SqT K G a [.str p.1, .str p.2] := by
  obtain ⟨a, xs, rfl, hs, ha, _⟩ := tup_of h
  cases ha with
  | cons h1 t =>
    cases t with
    | cons h2 t =>
      cases t
      cases h1
      cases h2
      exact ⟨a, rfl, hs⟩
theorem get_of_lt {α : Type} {xs : List α} {i : Nat} (h : i < xs.length) : xs[i]? = some xs[i] := List.getElem?_eq_getElem h
theorem lt_of_get {α : Type} {xs : List α} {i : Nat} {x : α} (h : xs[i]? = some x) : i < xs.length := (List.getElem?_eq_some_iff.mp h).1
theorem line_ge {n : Nat} (h : n ≤ 10000000) : n ≤ sizeLine := by rw [sizeLine_eq]; omega
theorem line_gt {n : Nat} (h : n ≤ 10000000) : n < sizeLine := by rw [sizeLine_eq]; omega
theorem atI_of {α : Type} {xs : List α} {i : Nat} {x : α} (h : xs[i]? = some x) : atI xs (i : Int) = some x := atI_nat h
theorem cps_len (x : Str) : x.length = x.cps.toList.length := by simp [Str.length]

theorem ok_is_name (T : Tx K mg) : FnOk Pg w K mg base CX0 1 (He.fAd K d_is_name.at_) T.e_is_name ["thing"] (Spt (pm_is_name K)) := by
  refine okF T.F_is_name sc_is_name (fun vs G L R h => by obtain ⟨x, rfl, _⟩ := h; rfl) (run_is_name T) (fun vs G L R h => ?_)
  obtain ⟨x, rfl, hx, k⟩ := h
  show S (t_is_name K) _ [some (.str x), none] G L
  unfold t_is_name
  walk_at "w"
  refine c_isi (.ty "str") (fun H _ => .base (.str x)) (b := true) (kit_ty (by decide +kernel)) ?_
  refine ⟨_, rfl, ?_⟩
  refine ⟨fun e => absurd e (by decide), fun _ => ?_⟩
  walk_at "w"
  refine c_len_str hx ?_
  walk_at "w"
  refine ⟨_, rfl, fun h1 => ?_, fun h1 => ?_⟩
  · walk_at "w"
    refine ⟨_, rfl, ?_⟩
    refine ⟨fun h2 => ?_, fun h2 => ?_⟩
    · walk_at "w"
      have e : decide (nmOk x) = false := decide_eq_false fun z => by
        have z2 := z.1.2
        simp only [Bool.not_eq_true', decide_eq_false_iff_not] at h2
        omega
      rw [e] at k
      exact k
    · walk_at "w"
      refine s_for (wk_str (e_var rfl ⟨x, rfl, ?_⟩))
      refine ⟨fun i σ G2 L2 => G2 = G ∧ L2 = L ∧ (∃ v, σ = [some (.str x), v]) ∧ ∀ j, j < i → ∀ c, x.cps[j]? = some c → c ∈ letters.cps.toList, ⟨rfl, rfl, ⟨none, rfl⟩, fun j hj => absurd hj (by omega)⟩, ?_, ?_⟩
      · rintro i σ G2 L2 hi _ ⟨rfl, rfl, ⟨v, rfl⟩, hall⟩ c hc
        walk_at "w"
        refine o_notIn_sign (z := letters) ?_
        refine ⟨_, rfl, fun h3 => ?_, fun h3 => ?_⟩
        · walk_at "w"
          have e : decide (nmOk x) = false := decide_eq_false fun z => by
            have m : c ∈ x.cps.toList := List.mem_of_getElem? (by rw [Array.getElem?_toList]; exact hc)
            have := z.2 c m
            simp [this] at h3
          rw [e] at k
          exact k
        · walk_at "w"
          refine ⟨Ex.refl _, rfl, rfl, ⟨_, rfl⟩, fun j hj d hd => ?_⟩
          by_cases q : j = i
          · subst q
            rw [hc] at hd
            cases hd
            simpa using h3
          · exact hall j (by omega) d hd
      · rintro σ G2 L2 _ ⟨rfl, rfl, ⟨v, rfl⟩, hall⟩
        walk_at "w"
        have e : decide (nmOk x) = true := decide_eq_true ⟨by
          simp only [decide_eq_true_eq, Bool.not_eq_false', decide_eq_false_iff_not] at h1 h2
          omega, fun c hc => by
            obtain ⟨j, hj, e⟩ := List.mem_iff_getElem.mp hc
            exact hall j (by simpa using hj) c (by rw [← Array.getElem?_toList, List.getElem?_eq_getElem hj, e])⟩
        rw [e] at k
        exact k
  · refine ⟨_, rfl, ?_⟩
    refine ⟨fun h2 => ?_, fun h2 => absurd h2 (by decide)⟩
    walk_at "w"
    have e : decide (nmOk x) = false := decide_eq_false fun z => by
      have z2 := z.1.1
      simp only [decide_eq_false_iff_not] at h1
      omega
    rw [e] at k
    exact k
end
end T

set_option Elab.async false
set_option linter.all false
set_option maxRecDepth 100000
set_option maxHeartbeats 4000000
namespace T
open PySem PySem.Spec PyProof.Rows L2 KM
/-! the walk of readings -/
local macro_rules | `(tactic| walk_at "w1") => `(tactic| first | (with_reducible refine s_seq ?_) | (with_reducible refine s_asg ?_) | (with_reducible refine g_name ?_) | (with_reducible refine s_if ?_) | (with_reducible refine s_drop ?_) | (with_reducible refine s_ret ?_) | (with_reducible refine s_next ?_) | (with_reducible refine s_fld ?_) | (with_reducible refine b_test ?_) | (with_reducible refine b_B ?_) | (with_reducible refine b_and ?_) | (with_reducible refine b_or ?_) | (with_reducible refine b_not ?_) | (with_reducible refine b_truth ?_) | (with_reducible refine b_yes ?_) | (with_reducible refine e_c ?_) | (with_reducible refine e_op ?_) | (with_reducible refine e_un ?_) | (with_reducible refine e_cb ?_) | (with_reducible refine e_chain ?_) | (with_reducible refine e_if ?_) | (with_reducible refine e_andV ?_) | (with_reducible refine e_orV ?_) | (with_reducible refine e_notV ?_) | (with_reducible refine e_bmL ?_) | (with_reducible refine e_m1 ?_) | (with_reducible refine e_sl ?_) | (with_reducible refine e_tup ?_) | (with_reducible refine e_fld ?_) | (with_reducible refine e_call ?_) | (with_reducible refine e_meth ?_) | (with_reducible refine a_nil ?_) | (with_reducible refine a_cons ?_) | (with_reducible refine p_none ?_) | (with_reducible refine p_some ?_) | (with_reducible refine o_I0 ?_) | (with_reducible refine u_neg ?_) | (with_reducible refine c_int ?_) | (with_reducible refine c_abs ?_) | ((with_reducible refine' e_var ?hvar ?_); (case hvar => rfl)))
local macro_rules | `(tactic| walk_at "w") => `(tactic| repeat (walk_at "w1"))
local macro_rules | `(tactic| walk_at "ex") => `(tactic| first | assumption | exact Ex.refl _ | (refine Ex.trans ?_ (by assumption); walk_at "ex"))
section
variable {Pg : Program} {w : World} {K : PySem.W.Frag} {mg : Str → Option Value} {base : Heap} {G G' L : Hp}
theorem cutV_to (xs : List V) {i : Nat} (h : i ≤ xs.length) : cutV xs none (some (i : Int)) = xs.take i := by
  unfold cutV
  rw [HT.sIx_none, HT.sIx_nat, List.drop_zero]
  congr 1
  omega
theorem cutV_from (xs : List V) {i : Nat} (h : i ≤ xs.length) : cutV xs (some (i : Int)) none = xs.drop i := by
  unfold cutV
  rw [HT.sIx_none, HT.sIx_nat]
  have e : min i xs.length = i := by omega
  rw [e]
  exact List.take_of_length_le (by rw [List.length_drop]; omega)

theorem ok_check_names (T : Tx K mg) (G1 : FnOk Pg w K mg base CX0 1 (He.fAd K d_is_name.at_) T.e_is_name ["thing"] (Spt (pm_is_name K))) :
    FnOk Pg w K mg base CX0 2 (He.fAd K d_check_names.at_) T.e_check_names ["things"] (Spt (pm_check_names K)) := by
  refine okF T.F_check_names sc_check_names (fun vs G L R h => by obtain ⟨v, ns, rfl, _⟩ := h; rfl) (run_check_names T G1) (fun vs G L R h => ?_)
  obtain ⟨v, names, rfl, hv, hok, hnd, hlen, k⟩ := h
  obtain ⟨a, rfl, ha⟩ := hv.strs
  show S (t_check_names K) _ [some (.ref a), none, none] G L
  unfold t_check_names
  refine s_for (wk_enum (a_cons (e_var rfl (a_nil ⟨a, _, rfl, .of ha, ?_⟩))))
  refine ⟨fun i σ G2 L2 => L2 = L ∧ ∃ v1 v2, σ = [some (.ref a), v1, v2], ⟨rfl, none, none, rfl⟩, ?_, ?_⟩
  · rintro i σ G2 L2 hi ex ⟨rfl, v1, v2, rfl⟩ x p G3 hx ex3 hp
    refine g_tup (.of (un_g _ _ hp)) rfl (gs_cons (g_name (gs_cons (g_name (gs_nil ?_)))))
    rw [List.getElem?_map] at hx
    cases en : names[i]? with
    | none => rw [en] at hx; cases hx
    | some n =>
      rw [en] at hx
      cases hx
      have hn := hok n (List.mem_of_getElem? en)
      have hil : i < names.length := lt_of_get en
      show S _ _ [some (.ref a), some (.int (i : Int)), some (.str n)] G3 L2
      walk_at "w"
      refine ⟨n, rfl, line_ge (by have := hn.1.2; omega), _, rfl, ?_, fun _ => ?_⟩
      · rw [decide_eq_true hn]
        intro z
        cases z
      walk_at "w"
      refine ⟨_, rfl, ?_⟩
      refine z_list (.of (un_g _ _ (ex3 _ _ (ex _ _ ha)))) fun q G4 ex4 hq => ?_
      rw [cutV_to _ (by rw [List.length_map]; omega), ← List.map_take] at hq
      refine o_inP (a := .str n) (bs := (names.take i).map .str) (.str n) (.inl (.lst (.of (un_g _ _ hq)) (dpAll_of_strs _))) (strO.ok n) (strO.plain _) ?_
      have e : ((names.take i).map PyData.str).any (fun z => PyData.eqv z (.str n)) = false := by
        rw [List.any_eq_false]
        intro z hz
        obtain ⟨m, hm, rfl⟩ := List.mem_map.mp hz
        have := strO.eqv m n
        show ¬ PyData.eqv (.str m) (.str n) = true
        rw [show PyData.eqv (.str m) (.str n) = decide (m = n) from this]
        intro q
        have q := of_decide_eq_true q
        subst q
        obtain ⟨j, hj, ej⟩ := List.mem_iff_getElem.mp hm
        rw [List.length_take] at hj
        rw [List.getElem_take] at ej
        obtain ⟨h1, h2⟩ := List.getElem?_eq_some_iff.mp en
        have := (List.getElem_inj hnd).mp (ej.trans h2.symm)
        omega
      rw [e]
      refine ⟨_, rfl, (fun z => by cases z), fun _ => ?_⟩
      walk_at "w"
      exact ⟨ex.trans (ex3.trans ex4), rfl, _, _, rfl⟩
  · rintro σ G2 L2 ex ⟨rfl, v1, v2, rfl⟩
    exact k G2 ex

theorem merge_step {α : Type} (o : LO α) {xs ys : List α} {i j : Nat} {x y : α} (hx : xs[i]? = some x) (hy : ys[j]? = some y) :
    o.merge (xs.drop i) (ys.drop j) = if o.lt y x = true then y :: o.merge (xs.drop i) (ys.drop (j + 1)) else x :: o.merge (xs.drop (i + 1)) (ys.drop j) := by
  obtain ⟨h1, e1⟩ := List.getElem?_eq_some_iff.mp hx
  obtain ⟨h2, e2⟩ := List.getElem?_eq_some_iff.mp hy
  have d1 := List.drop_eq_getElem_cons h1
  have d2 := List.drop_eq_getElem_cons h2
  rw [e1] at d1
  rw [e2] at d2
  rw [d1, d2, LO.merge]
theorem merge_nilr {α : Type} (o : LO α) : ∀ xs : List α, o.merge xs [] = xs
  | [] => by rw [LO.merge]
  | x :: xs => by rw [LO.merge]
theorem merge_nill {α : Type} (o : LO α) (ys : List α) : o.merge [] ys = ys := by rw [LO.merge]
theorem ok_merged (T : Tx K mg) : FnOk Pg w K mg base CX0 1 (He.fAd K d_merged.at_) T.e_merged ["left", "right"] (Spt (pm_merged K)) := by
  refine okF T.F_merged sc_merged (fun vs G L R h => by obtain ⟨α, o, xs, ys, v, u, rfl, _⟩ := h; rfl) (run_merged T) (fun vs G L R h => ?_)
  obtain ⟨α, o, xs, ys, v, u, rfl, hv, hu, hz, k⟩ := h
  obtain ⟨a, vx, rfl, ha, dx, lx⟩ := hv.len
  obtain ⟨b, vy, rfl, hb, dy, ly⟩ := hu.len
  rw [List.length_map] at lx ly
  show S (t_merged K) _ [some (.ref a), some (.ref b), none, none, none] G L
  unfold t_merged
  walk_at "w"
  refine e_lstL (a_nil ⟨Nat.zero_le _, fun p gp lp => ?_⟩)
  walk_at "w"
  show S _ _ [some (.ref a), some (.ref b), some (.ref p), some (.int 0), some (.int 0)] G _
  -- found stands at p
  refine s_while (fun m σ G2 L2 => G2 = G ∧ ∃ (i j : Nat) (vf : List V) (ms : List α), σ = [some (.ref a), some (.ref b), some (.ref p), some (.int (i : Int)), some (.int (j : Int))] ∧ L2 = upd L p (.lst vf) ∧ DpAll K G vf (ms.map o.enc) ∧ i ≤ xs.length ∧ j ≤ ys.length ∧ ms.length = i + j ∧
    m = (xs.length - i) + (ys.length - j) ∧ o.lo.merge xs ys = ms ++ o.lo.merge (xs.drop i) (ys.drop j)) (xs.length + ys.length) ⟨rfl, 0, 0, [], [], rfl, rfl, .nil, Nat.zero_le _, Nat.zero_le _, rfl, rfl, by simp⟩ ?_
  rintro m σ G2 L2 ⟨rfl, i, j, vf, ms, rfl, rfl, df, hi, hj, hm, rfl, em⟩
  have lf := dpAll_len df
  rw [List.length_map] at lf
  -- behind the loop
  have fin : o.lo.merge xs ys = ms ++ xs.drop i ++ ys.drop j → S (tRet (tOp rCat (tOp rCat (tVar 2) (tSl (rSlL K) (tVar 0) (tPart (tVar 3)) tNoPart)) (tSl (rSlL K) (tVar 1) (tPart (tVar 4)) tNoPart)))
      { nx := fun _ G L => R .non G L, rt := R } [some (.ref a), some (.ref b), some (.ref p), some (.int (i : Int)), some (.int (j : Int))] G2 (upd L p (.lst vf)) := by
    intro ef
    refine s_freeze lp fun G3 e3 hp => ?_
    walk_at "w"
    refine ⟨_, rfl, ?_⟩
    walk_at "w"
    refine z_list (.of (un_g _ _ (e3 _ _ ha))) fun q1 G4 e4 h4 => ?_
    rw [cutV_from _ (by omega)] at h4
    refine o_catG (xs := vf) (ys := vx.drop i) (un_g _ _ (e4 _ _ hp)) (un_g _ _ h4) (line_ge (by rw [List.length_drop]; omega)) (fun q2 G5 e5 h5 => ?_)
    walk_at "w"
    refine ⟨_, rfl, ?_⟩
    walk_at "w"
    have e35 := e3.trans (e4.trans e5)
    refine z_list (.of (un_g _ _ (e35 _ _ hb))) fun q6 G6 e6 h6 => ?_
    rw [cutV_from _ (by omega)] at h6
    refine o_catG (xs := vf ++ vx.drop i) (ys := vy.drop j) (un_g _ _ (e6 _ _ h5)) (un_g _ _ h6) (line_ge (by rw [List.length_append, List.length_drop, List.length_drop]; omega)) fun q7 G7 e7 h7 => ?_
    have e37 := e35.trans (e6.trans e7)
    refine k _ G7 e37 ⟨q7, _, rfl, h7, ?_⟩
    rw [ef, List.map_append, List.map_append, List.map_drop, List.map_drop]
    exact dpAll_app (dpAll_app (dpAll_ex e37 _ _ df) (dpAll_drop i (dpAll_ex e37 _ _ dx))) (dpAll_drop j (dpAll_ex e37 _ _ dy))
  have gp2 : L p = none := lp
  walk_at "w"
  refine c_len_seq (.inl (.of (un_g _ _ ha))) ?_
  walk_at "w"
  refine ⟨_, rfl, fun h1 => ?_, fun h1 => ?_⟩
  · have hi2 : i < xs.length := by
      have := of_decide_eq_true h1
      omega
    walk_at "w"
    refine c_len_seq (.inl (.of (un_g _ _ hb))) ?_
    walk_at "w"
    refine ⟨_, rfl, fun h2 => ?_, fun h2 => ?_⟩
    · have hj2 : j < ys.length := by
        have := of_decide_eq_true h2
        omega
      have gx : xs[i]? = some xs[i] := get_of_lt hi2
      have gy : ys[j]? = some ys[j] := get_of_lt hj2
      have vgx : vx[i]? = some (vx[i]'(by omega)) := get_of_lt (by omega)
      have vgy : vy[j]? = some (vy[j]'(by omega)) := get_of_lt (by omega)
      generalize xs[i] = x at gx
      generalize ys[j] = y at gy
      generalize vx[i]'(by omega) = vxi at vgx
      generalize vy[j]'(by omega) = vyj at vgy
      have dxi : Dp K G2 vxi (o.enc x) := by
        obtain ⟨d, e, q⟩ := dpAll_get dx vgx
        rw [List.getElem?_map, gx] at e
        cases e
        exact q
      have dyj : Dp K G2 vyj (o.enc y) := by
        obtain ⟨d, e, q⟩ := dpAll_get dy vgy
        rw [List.getElem?_map, gy] at e
        cases e
        exact q
      have ms_ := merge_step o.lo gx gy
      walk_at "w"
      refine o_ixL (.of (un_g _ _ hb)) (atI_of vgy) ?_
      walk_at "w"
      refine o_ixL (.of (un_g _ _ ha)) (atI_of vgx) ?_
      refine o_ltP (dp_ex un_g _ _ dyj) (dp_ex un_g _ _ dxi) (o.ok y) (o.ok x) (o.cmp y x) ?_
      refine ⟨_, rfl, fun h3 => ?_, fun h3 => ?_⟩
      · rw [o.ltb] at h3
        rw [if_pos h3] at ms_
        walk_at "w"
        refine ⟨p, vf, rfl, upd_same, ?_⟩
        walk_at "w"
        refine o_ixL (.of (un_g _ _ hb)) (atI_of vgy) ?_
        walk_at "w"
        refine m_append upd_same (line_gt (by omega)) ?_
        walk_at "w"
        refine ⟨_, by omega, rfl, i, j + 1, vf ++ [vyj], ms ++ [y], rfl, upd_upd, ?_, hi, hj2, by simp; omega, rfl, ?_⟩
        · rw [List.map_append]
          exact dpAll_app df (dpAll_one dyj)
        · rw [em, ms_, List.append_assoc]
          rfl
      · rw [o.ltb] at h3
        rw [if_neg (by rw [h3]; decide)] at ms_
        walk_at "w"
        refine ⟨p, vf, rfl, upd_same, ?_⟩
        walk_at "w"
        refine o_ixL (.of (un_g _ _ ha)) (atI_of vgx) ?_
        walk_at "w"
        refine m_append upd_same (line_gt (by omega)) ?_
        walk_at "w"
        refine ⟨_, by omega, rfl, i + 1, j, vf ++ [vxi], ms ++ [x], rfl, upd_upd, ?_, hi2, hj, by simp; omega, rfl, ?_⟩
        · rw [List.map_append]
          exact dpAll_app df (dpAll_one dxi)
        · rw [em, ms_, List.append_assoc]
          rfl
    · have hj2 : ys.length ≤ j := by
        have := of_decide_eq_false h2
        omega
      refine fin ?_
      rw [em, List.drop_eq_nil_of_le hj2, merge_nilr, List.append_nil]
  · have hi2 : xs.length ≤ i := by
      have := of_decide_eq_false h1
      omega
    refine ⟨(fun z => by cases z), fun _ => fin ?_⟩
    rw [em, List.drop_eq_nil_of_le hi2, merge_nill, List.append_nil]
end
end T

set_option Elab.async false
set_option linter.all false
set_option maxRecDepth 100000
set_option maxHeartbeats 4000000
namespace T
open PySem PySem.Spec PyProof.Rows L2 KM
/-! the walk of readings -/
local macro_rules | `(tactic| walk_at "w1") => `(tactic| first | (with_reducible refine s_seq ?_) | (with_reducible refine s_asg ?_) | (with_reducible refine g_name ?_) | (with_reducible refine s_if ?_) | (with_reducible refine s_drop ?_) | (with_reducible refine s_ret ?_) | (with_reducible refine s_next ?_) | (with_reducible refine s_fld ?_) | (with_reducible refine b_test ?_) | (with_reducible refine b_B ?_) | (with_reducible refine b_and ?_) | (with_reducible refine b_or ?_) | (with_reducible refine b_not ?_) | (with_reducible refine b_truth ?_) | (with_reducible refine b_yes ?_) | (with_reducible refine e_c ?_) | (with_reducible refine e_op ?_) | (with_reducible refine e_un ?_) | (with_reducible refine e_cb ?_) | (with_reducible refine e_chain ?_) | (with_reducible refine e_if ?_) | (with_reducible refine e_andV ?_) | (with_reducible refine e_orV ?_) | (with_reducible refine e_notV ?_) | (with_reducible refine e_bmL ?_) | (with_reducible refine e_m1 ?_) | (with_reducible refine e_sl ?_) | (with_reducible refine e_tup ?_) | (with_reducible refine e_fld ?_) | (with_reducible refine e_call ?_) | (with_reducible refine e_meth ?_) | (with_reducible refine a_nil ?_) | (with_reducible refine a_cons ?_) | (with_reducible refine p_none ?_) | (with_reducible refine p_some ?_) | (with_reducible refine o_I0 ?_) | (with_reducible refine u_neg ?_) | (with_reducible refine c_int ?_) | (with_reducible refine c_abs ?_) | ((with_reducible refine' e_var ?hvar ?_); (case hvar => rfl)))
local macro_rules | `(tactic| walk_at "w") => `(tactic| repeat (walk_at "w1"))
local macro_rules | `(tactic| walk_at "ex") => `(tactic| first | assumption | exact Ex.refl _ | (refine Ex.trans ?_ (by assumption); walk_at "ex"))
section
variable {Pg : Program} {w : World} {K : PySem.W.Frag} {mg : Str → Option Value} {base : Heap} {G G' L : Hp}
/-- a list of lists -/
abbrev LL {α : Type} (K : PySem.W.Frag) (o : OD α) (G : Hp) (vr : List V) (rss : List (List α)) : Prop := Paired (fun v (zs : List α) => Dl K G v (zs.map o.enc)) vr rss
theorem LL.ex {α : Type} {o : OD α} {vr : List V} {rss : List (List α)} (e : Ex G G') (h : LL K o G vr rss) : LL K o G' vr rss := Paired.mapP h fun _ _ q => q.ex e
theorem paired_get {α β : Type} {F : α → β → Prop} : ∀ {xs : List α} {ys : List β} {i : Nat} {x : α}, Paired F xs ys → xs[i]? = some x → ∃ y, ys[i]? = some y ∧ F x y
  | _, _, i, x, .nil, h => by simp at h
  | _, _, 0, x, .cons a _, h => by
    simp only [List.getElem?_cons_zero, Option.some.injEq] at h
    subst h
    exact ⟨_, rfl, a⟩
  | _, _, i + 1, x, .cons _ t, h => by
    obtain ⟨y, e, q⟩ := paired_get (i := i) t (by simpa using h)
    exact ⟨y, by simpa using e, q⟩
theorem take_two {α : Type} {l : List (List α)} {i : Nat} {x y : List α} (h1 : l[i]? = some x) (h2 : l[i + 1]? = some y) : (l.take (i + 2)).flatten = (l.take i).flatten ++ (x ++ y) := by
  rw [List.take_add_one, List.take_add_one, h1, h2]
  simp
theorem rgc_two {m : Nat} (hm : 2 ≤ m) (hl : m ≤ 100000) : RgC 0 ((m : Int) - 1) 2 (m / 2) := by
  have e : Builtin.Range.rangeSize 0 ((m : Int) - 1) 2 = ((m / 2 : Nat) : Int) := by
    unfold Builtin.Range.rangeSize
    rw [if_pos (by decide), if_pos (by omega)]
    omega
  refine ⟨by decide, by decide, ?_, e⟩
  unfold Builtin.Range.small
  rw [e]
  simp only [Builtin.Range.rangeFitsLong, Bool.and_eq_true, Bool.or_eq_true, decide_eq_true_eq, beq_iff_eq, show (2 : Int) > 0 by decide, if_true]
  omega
theorem ok_ascending (T : Tx K mg) (G1 : FnOk Pg w K mg base CX0 1 (He.fAd K d_merged.at_) T.e_merged ["left", "right"] (Spt (pm_merged K))) :
    FnOk Pg w K mg base CX0 2 (He.fAd K d_ascending.at_) T.e_ascending ["things"] (Spt (pm_ascending K)) := by
  refine okF T.F_ascending sc_ascending (fun vs G L R h => by obtain ⟨α, o, xs, v, rfl, _⟩ := h; rfl) (run_ascending T G1) (fun vs G L R h => ?_)
  obtain ⟨α, o, xs, v, rfl, hv, hlen, k⟩ := h
  obtain ⟨a, vx, rfl, ha, dx, lx⟩ := hv.len
  rw [List.length_map] at lx
  show S (t_ascending K) _ [some (.ref a), none, none, none, none] G L
  unfold t_ascending
  walk_at "w"
  -- rows = [[thing] for thing in things]
  refine e_lc (wk_list (e_var rfl ⟨a, vx, rfl, .of ha, ?_⟩))
  refine ⟨fun i vs G2 L2 => L2 = L ∧ LL K o G2 vs ((xs.take i).map fun x => [x]), ⟨rfl, by simpa using Paired.nil⟩, ?_, ?_⟩
  · rintro i vs G2 L2 D hi ex ⟨rfl, hl⟩ gD lD x hx
    refine g_name ⟨rfl, b_yes ⟨fun _ => ?_, fun z => by cases z⟩⟩
    obtain ⟨d, ed, qd⟩ := dpAll_get dx hx
    rw [List.getElem?_map] at ed
    cases en : xs[i]? with
    | none => rw [en] at ed; cases ed
    | some n =>
      rw [en] at ed
      cases ed
      refine e_lstG ?_
      walk_at "w"
      refine ⟨by show 1 ≤ sizeLine; decide, fun p G3 gp e3 hp => ?_⟩
      have ll := hl.length
      have hin := lt_of_get en
      rw [List.length_map, List.length_take] at ll
      refine ⟨line_gt (by omega), L2, rfl, lD, ex.trans e3, rfl, ?_⟩
      rw [List.take_add_one, en]
      simp only [Option.toList, List.map_append, List.map_cons, List.map_nil]
      exact Paired.snoc (hl.ex e3) ⟨p, [x], rfl, hp, dpAll_one (dp_ex (ex.trans e3) _ _ qd)⟩
  rintro vs G2 L2 D ex ⟨rfl, hl⟩ gD lD
  rw [lx, List.take_length] at hl
  walk_at "w"
  refine s_freeze lD fun G3 e3 hD => ?_
  show S _ _ [some (.ref a), some (.ref D), none, none, none] G3 L2
  -- while len(rows) > 1
  refine s_while (fun m σ G4 L4 => L4 = L2 ∧ Ex G G4 ∧ ∃ (r : Addr) (vr : List V) (rss : List (List α)) (v1 v2 v3 : Option V), σ = [some (.ref a), some (.ref r), v1, v2, v3] ∧ G4 r = some (.lst vr) ∧ LL K o G4 vr rss ∧ (∀ zs ∈ rss, o.lo.Srt zs) ∧ rss.flatten.Perm xs ∧ rss.length ≤ 10000 ∧ m = rss.length) xs.length
    ⟨rfl, ex.trans e3, D, vs, xs.map fun x => [x], none, none, none, rfl, hD, hl.ex e3, fun zs hz => ?_, ?_, by rw [List.length_map]; exact hlen, by rw [List.length_map]⟩ ?_
  · obtain ⟨x, _, rfl⟩ := List.mem_map.mp hz
    exact List.pairwise_singleton _ _
  · rw [← List.flatMap_def]
    simp
  rintro m σ G4 L4 ⟨rfl, ex4, r, vr, rss, v1, v2, v3, rfl, hr, hll, hsrt, hperm, hsz, rfl⟩
  have lr := hll.length
  walk_at "w"
  refine c_len_seq (.inl (.of (un_g _ _ hr))) ?_
  walk_at "w"
  refine ⟨_, rfl, fun h1 => ?_, fun h1 => ?_⟩
  · have hm : 2 ≤ rss.length := by
      have := of_decide_eq_true h1
      omega
    walk_at "w"
    refine e_lstL (a_nil ⟨Nat.zero_le _, fun j gj lj => ?_⟩)
    walk_at "w"
    show S _ _ [some (.ref a), some (.ref r), some (.ref j), v2, v3] G4 _
    refine s_for (wk_rng3 ?_)
    walk_at "w"
    refine c_len_seq (.inl (.of (un_g _ _ hr))) ?_
    walk_at "w"
    refine ⟨0, _, 2, rss.length / 2, rfl, by rw [lr]; exact rgc_two hm (by omega), ?_⟩
    refine ⟨fun i σ G5 L5 => ∃ (vj : List V) (js : List (List α)) (v2 : Option V), σ = [some (.ref a), some (.ref r), some (.ref j), v2, v3] ∧ L5 = upd L4 j (.lst vj) ∧ LL K o G5 vj js ∧ (∀ zs ∈ js, o.lo.Srt zs) ∧ js.length = i ∧ js.flatten.Perm (rss.take (2 * i)).flatten, ⟨[], [], v2, rfl, rfl, .nil, fun zs hz => by simp at hz, rfl, by simp⟩, ?_, ?_⟩
    · rintro i σ G5 L5 hi e5 ⟨vj, js, v2, rfl, rfl, hlj, hsj, hjl, hjp⟩
      refine g_name ?_
      show S _ _ [some (.ref a), some (.ref r), some (.ref j), some (.int (0 + (i : Int) * 2)), v3] G5 _
      have g1 : vr[2 * i]? = some (vr[2 * i]'(by omega)) := get_of_lt (by omega)
      have g2 : vr[2 * i + 1]? = some (vr[2 * i + 1]'(by omega)) := get_of_lt (by omega)
      generalize vr[2 * i]'(by omega) = x1 at g1
      generalize vr[2 * i + 1]'(by omega) = x2 at g2
      obtain ⟨z1, q1, d1⟩ := paired_get hll g1
      obtain ⟨z2, q2, d2⟩ := paired_get hll g2
      walk_at "w"
      refine ⟨j, vj, rfl, upd_same, ?_⟩
      walk_at "w"
      refine o_ixL (.of (un_g _ _ (e5 _ _ hr))) (i := 0 + (i : Int) * 2) (v := x1) (by rw [show 0 + (i : Int) * 2 = ((2 * i : Nat) : Int) by omega]; exact atI_of g1) ?_
      walk_at "w"
      refine o_ixL (.of (un_g _ _ (e5 _ _ hr))) (i := 0 + (i : Int) * 2 + 1) (v := x2) (by rw [show 0 + (i : Int) * 2 + 1 = ((2 * i + 1 : Nat) : Int) by omega]; exact atI_of g2) ?_
      walk_at "w"
      have fl : (rss.flatten).length = xs.length := hperm.length_eq
      have sub := take_two q1 q2
      have le : z1.length + z2.length ≤ xs.length := by
        have : ((rss.take (2 * i + 2)).flatten).length ≤ rss.flatten.length := by
          have h := congrArg List.flatten (List.take_append_drop (2 * i + 2) rss)
          rw [List.flatten_append] at h
          have h := congrArg List.length h
          rw [List.length_append] at h
          omega
        rw [sub, List.length_append, List.length_append] at this
        omega
      refine ⟨α, o, z1, z2, x1, x2, rfl, d1.ex e5, d2.ex e5, by omega, fun z G6 e6 hz => ?_⟩
      walk_at "w"
      have ljl := hlj.length
      refine m_append upd_same (line_gt (by omega)) ?_
      walk_at "w"
      refine ⟨e5.trans e6, vj ++ [z], js ++ [o.lo.merge z1 z2], _, rfl, upd_upd, Paired.snoc (hlj.ex e6) hz, fun zs hzs => ?_, by simp [hjl], ?_⟩
      · rcases List.mem_append.mp hzs with h | h
        · exact hsj zs h
        · have e : zs = o.lo.merge z1 z2 := by simpa using h
          subst e
          exact o.lo.merge_srt _ z1 z2 (Nat.le_refl _) (hsrt z1 (List.mem_of_getElem? q1)) (hsrt z2 (List.mem_of_getElem? q2))
      · rw [show 2 * (i + 1) = 2 * i + 2 by omega, sub, List.flatten_append]
        refine hjp.append ?_
        simpa using o.lo.merge_perm _ z1 z2 (Nat.le_refl _)
    · rintro σ G5 L5 e5 ⟨vj, js, v2, rfl, rfl, hlj, hsj, hjl, hjp⟩
      walk_at "w"
      refine c_len_seq (.inl (.of (un_g _ _ (e5 _ _ hr)))) ?_
      walk_at "w"
      have ba : Builtin.bitAnd (vr.length : Int) 1 = (vr.length : Int) % 2 := by
        have := Bits.bitAnd_mask (x := (vr.length : Int)) 1 (by omega)
        simpa using this
      rw [ba]
      refine o_eq rfl ⟨_, rfl, fun h2 => ?_, fun h2 => ?_⟩
      · have h2 : (vr.length : Int) % 2 = 1 := by simpa using h2
        have ho : rss.length = 2 * (rss.length / 2) + 1 := by omega
        have g1 : vr[2 * (rss.length / 2)]? = some (vr[2 * (rss.length / 2)]'(by omega)) := get_of_lt (by omega)
        generalize vr[2 * (rss.length / 2)]'(by omega) = x1 at g1
        obtain ⟨z1, q1, d1⟩ := paired_get hll g1
        walk_at "w"
        refine ⟨j, vj, rfl, upd_same, ?_⟩
        walk_at "w"
        refine o_ixL (.of (un_g _ _ (e5 _ _ hr))) (i := -1) (v := x1) ?_ ?_
        · show atI vr (-1) = some x1
          unfold atI ixN
          rw [if_neg (by decide), if_pos (by omega)]
          show vr[((-1 : Int) + (vr.length : Int)).toNat]? = some x1
          rw [← g1]
          congr 1
          omega
        walk_at "w"
        have ljl := hlj.length
        refine m_append upd_same (line_gt (by omega)) ?_
        show S (tAsg (tVar 2) (gName 1)) _ _ _ _
        rw [upd_upd]
        refine s_freeze lj fun G6 e6 hj => ?_
        walk_at "w"
        refine ⟨_, ?_, rfl, ex4.trans (e5.trans e6), j, vj ++ [x1], js ++ [z1], _, _, _, rfl, hj, Paired.snoc (hlj.ex e6) (d1.ex (e5.trans e6)), fun zs hzs => ?_, ?_, ?_, rfl⟩
        · simp only [List.length_append, List.length_singleton]
          omega
        · rcases List.mem_append.mp hzs with h | h
          · exact hsj zs h
          · have e : zs = z1 := by simpa using h
            subst e
            exact hsrt zs (List.mem_of_getElem? q1)
        · rw [List.flatten_append]
          refine (hjp.append_right _).trans ?_
          refine List.Perm.trans ?_ hperm
          have e : rss.flatten = (rss.take (2 * (rss.length / 2) + 1)).flatten := by rw [← ho, List.take_length]
          rw [e, List.take_add_one, q1]
          simp
        · simp only [List.length_append, List.length_singleton]
          omega
      · have h2 : ¬ (vr.length : Int) % 2 = 1 := by simpa using h2
        have ho : rss.length = 2 * (rss.length / 2) := by omega
        refine s_next ?_
        refine s_freeze lj fun G6 e6 hj => ?_
        walk_at "w"
        refine ⟨_, ?_, rfl, ex4.trans (e5.trans e6), j, vj, js, _, _, _, rfl, hj, hlj.ex e6, hsj, ?_, ?_, rfl⟩
        · omega
        · refine hjp.trans ?_
          rw [← ho, List.take_length]
          exact hperm
        · omega
  · have hm : rss.length ≤ 1 := by
      have := of_decide_eq_false h1
      omega
    refine s_seq (s_if (b_not ?_))
    walk_at "w"
    refine ⟨!vr.isEmpty, .inl ⟨vr, .of (un_g _ _ hr), rfl⟩, fun h2 => ?_, fun h2 => ?_⟩
    · have e : vr = [] := by simpa using h2
      subst e
      have e2 : rss = [] := by
        cases rss with
        | nil => rfl
        | cons z t => simp at lr
      subst e2
      have e3 : xs = [] := by simpa using hperm.symm
      subst e3
      refine s_ret (e_lstG (a_nil ⟨Nat.zero_le _, fun p G6 gp e6 hp => ?_⟩))
      exact k (.ref p) G6 (ex4.trans e6) ⟨p, [], rfl, hp, .nil⟩
    · walk_at "w"
      cases rss with
      | nil =>
        cases vr with
        | nil => simp at h2
        | cons _ _ => simp at lr
      | cons z t =>
        have ht : t = [] := by
          cases t with
          | nil => rfl
          | cons _ _ => simp at hm
        subst ht
        cases hll with
        | cons h3 h4 =>
          rename_i x l
          refine o_ixL (.of (un_g _ _ hr)) (i := 0) (v := x) (by show atI (x :: l) ((0 : Nat) : Int) = some x; exact atI_of rfl) ?_
          refine k x G4 ex4 ?_
          have e : z = o.lo.sort xs := o.lo.sort_of (by simpa using hperm) (hsrt z List.mem_cons_self)
          rw [← e]
          exact h3
end
end T

set_option Elab.async false
set_option linter.all false
set_option maxRecDepth 100000
set_option maxHeartbeats 4000000
namespace T
open PySem PySem.Spec PyProof.Rows L2 KM
/-! the walk of readings -/
local macro_rules | `(tactic| walk_at "w1") => `(tactic| first | (with_reducible refine s_seq ?_) | (with_reducible refine s_asg ?_) | (with_reducible refine g_name ?_) | (with_reducible refine s_if ?_) | (with_reducible refine s_drop ?_) | (with_reducible refine s_ret ?_) | (with_reducible refine s_next ?_) | (with_reducible refine s_fld ?_) | (with_reducible refine b_test ?_) | (with_reducible refine b_B ?_) | (with_reducible refine b_and ?_) | (with_reducible refine b_or ?_) | (with_reducible refine b_not ?_) | (with_reducible refine b_truth ?_) | (with_reducible refine b_yes ?_) | (with_reducible refine e_c ?_) | (with_reducible refine e_op ?_) | (with_reducible refine e_un ?_) | (with_reducible refine e_cb ?_) | (with_reducible refine e_chain ?_) | (with_reducible refine e_if ?_) | (with_reducible refine e_andV ?_) | (with_reducible refine e_orV ?_) | (with_reducible refine e_notV ?_) | (with_reducible refine e_bmL ?_) | (with_reducible refine e_m1 ?_) | (with_reducible refine e_sl ?_) | (with_reducible refine e_tup ?_) | (with_reducible refine e_fld ?_) | (with_reducible refine e_call ?_) | (with_reducible refine e_meth ?_) | (with_reducible refine a_nil ?_) | (with_reducible refine a_cons ?_) | (with_reducible refine p_none ?_) | (with_reducible refine p_some ?_) | (with_reducible refine o_I0 ?_) | (with_reducible refine u_neg ?_) | (with_reducible refine c_int ?_) | (with_reducible refine c_abs ?_) | ((with_reducible refine' e_var ?hvar ?_); (case hvar => rfl)))
local macro_rules | `(tactic| walk_at "w") => `(tactic| repeat (walk_at "w1"))
local macro_rules | `(tactic| walk_at "ex") => `(tactic| first | assumption | exact Ex.refl _ | (refine Ex.trans ?_ (by assumption); walk_at "ex"))
section
variable {Pg : Program} {w : World} {K : PySem.W.Frag} {mg : Str → Option Value} {base : Heap} {G G' L : Hp}
theorem op_ne : ¬ (("offices" : Str) = "pairs") := by decide +kernel
theorem wfs_eq (a p : Addr) : wfs a p = ([("offices", V.ref a), ("pairs", V.ref p)] : List (Str × V)) := by
  show (if ("offices" : Str) = "pairs" then [(("offices" : Str), V.ref p)] else (("offices" : Str), V.ref a) :: putF "pairs" (V.ref p) []) = _
  rw [if_neg op_ne]
  rfl
theorem wfs_off (a p : Addr) : (wfs a p).lookup ("offices" : Str) = some (.ref a) := by
  unfold wfs
  rw [lookup_putF, if_neg op_ne, lookup_putF, if_pos rfl]
theorem wfs_pairs (a p : Addr) : (wfs a p).lookup ("pairs" : Str) = some (.ref p) := by
  unfold wfs
  rw [lookup_putF, if_pos rfl]
theorem wfs_no (a p : Addr) {m : Str} (h1 : ¬ m = "pairs") (h2 : ¬ m = "offices") : (wfs a p).lookup m = none := by
  unfold wfs
  rw [lookup_putF, if_neg h1, lookup_putF, if_neg h2]
  rfl
theorem wfs_put (a p q : Addr) : putF "pairs" (.ref q) (wfs a p) = wfs a q := by
  rw [wfs_eq, wfs_eq]
  show (if ("offices" : Str) = "pairs" then _ else (("offices" : Str), V.ref a) :: (if ("pairs" : Str) = "pairs" then [(("pairs" : Str), V.ref q)] else _)) = _
  rw [if_neg op_ne, if_pos rfl]
theorem strs_tup {a : Addr} {names : List Str} (h : SqT K G a (names.map V.str)) : Dp K G (.ref a) (.tuple (names.map .str)) := .tup h (dpAll_of_strs _)
theorem any_str {names : List Str} {n : Str} : (names.map PyData.str).any (fun z => PyData.eqv z (.str n)) = decide (n ∈ names) := by
  have e : ∀ m : Str, PyData.eqv (.str m) (.str n) = decide (m = n) := fun m => strO.eqv m n
  rw [List.any_map]
  show names.any (fun m => PyData.eqv (.str m) (.str n)) = _
  simp only [e]
  rw [Bool.eq_iff_iff]
  simp
theorem any_pair {ps : List (Str × Str)} {q : Str × Str} : (ps.map encP).any (fun z => PyData.eqv z (encP q)) = decide (q ∈ ps) := by
  have e : ∀ m : Str × Str, PyData.eqv (encP m) (encP q) = decide (m = q) := fun m => pairO.eqv m q
  rw [List.any_map]
  show ps.any (fun m => PyData.eqv (encP m) (encP q)) = _
  simp only [e]
  rw [Bool.eq_iff_iff]
  simp
theorem ok_known (T : Tx K mg) : FnOk Pg w K mg base CX0 1 (He.fAd K d_Ways_known.at_) T.e_Ways_known ["self", "office"] (Spt (pm_Ways_known K)) := by
  refine okF T.F_Ways_known sc_Ways_known (fun vs G L R h => by obtain ⟨x, dx, a, fs, names, n, rfl, _⟩ := h; rfl) (run_Ways_known T) (fun vs G L R h => ?_)
  obtain ⟨x, dx, a, fs, names, n, rfl, hx, hf, ha, hn, k⟩ := h
  show S (t_Ways_known K) _ [some (.ref x), some (.str n)] G L
  unfold t_Ways_known
  walk_at "w"
  refine ⟨x, CW K, dx, fs, .ref a, rfl, hx, T.l_Ways, T.n_Ways_offices, hf, ?_⟩
  refine o_notInP (a := .str n) (bs := names.map .str) (.str n) (.inr (strs_tup (sqt_ex un_g ha))) (strO.ok n) (strO.plain _) ?_
  rw [any_str, decide_eq_true hn]
  refine ⟨_, rfl, (fun z => by cases z), fun _ => ?_⟩
  walk_at "w"
  exact k

theorem ok_begin (T : Tx K mg) (G1 : FnOk Pg w K mg base CX0 1 (He.fAd K d_Ways_known.at_) T.e_Ways_known ["self", "office"] (Spt (pm_Ways_known K)))
    (G2 : FnOk Pg w K mg base CX0 2 (He.fAd K d_ascending.at_) T.e_ascending ["things"] (Spt (pm_ascending K))) : FnOk Pg w K mg base CX0 3 (He.fAd K d_Ways_begin.at_) T.e_Ways_begin ["self", "writer", "reader"] (Spt (pm_Ways_begin K)) := by
  refine okF T.F_Ways_begin sc_Ways_begin (fun vs G L R h => by obtain ⟨x, dx, a, p, names, ps, ww, r, rfl, _⟩ := h; rfl) (run_Ways_begin T G1 G2) (fun vs G L R h => ?_)
  obtain ⟨x, dx, a, p, names, ps, ww, r, rfl, hx, ha, hp, hlen, hw, hr, hwr, hno, k⟩ := h
  obtain ⟨p2, vp, e, hp1, dp, lp⟩ := hp.len
  cases e
  rw [List.length_map] at lp
  show S (t_Ways_begin K) _ [some (.ref x), some (.str ww), some (.str r)] G L
  unfold t_Ways_begin
  have nk : (wfs a p).lookup ("known" : Str) = none := wfs_no _ _ (by decide +kernel) (by decide +kernel)
  walk_at "w"
  refine ⟨x, dx, _, rfl, .inr hx, nk, ?_⟩
  walk_at "w"
  refine ⟨x, dx, a, _, names, ww, rfl, .inr hx, wfs_off _ _, ha, hw, ?_⟩
  walk_at "w"
  refine ⟨x, dx, _, rfl, .inr hx, nk, ?_⟩
  walk_at "w"
  refine ⟨x, dx, a, _, names, r, rfl, .inr hx, wfs_off _ _, ha, hr, ?_⟩
  walk_at "w"
  refine o_eq rfl ⟨_, rfl, fun h1 => absurd h1 (by simpa using hwr), fun _ => ?_⟩
  walk_at "w"
  refine ⟨by show 2 ≤ sizeLine; decide, fun t G3 gt e3 ht => ?_⟩
  walk_at "w"
  refine ⟨x, CW K, dx, _, _, rfl, .inr hx, T.l_Ways, T.n_Ways_pairs, wfs_pairs _ _, ?_⟩
  have htd : Dp K G3 (.ref t) (encP (ww, r)) := .tup (.of ht) (.cons (.str _) (.cons (.str _) .nil))
  refine o_notInP (a := encP (ww, r)) (bs := ps.map encP) (dp_ex un_g _ _ htd) (.inl (dp_ex un_g _ _ (hp.ex e3).dp)) (pairO.ok _) (pairO.plain _) ?_
  rw [any_pair, decide_eq_false hno]
  refine ⟨_, rfl, fun _ => ?_, (fun z => by cases z)⟩
  walk_at "w"
  refine ⟨x, CW K, dx, _, _, rfl, .inr hx, T.l_Ways, T.n_Ways_pairs, wfs_pairs _ _, ?_⟩
  refine e_lstG ?_
  walk_at "w"
  refine ⟨by show 2 ≤ sizeLine; decide, fun t2 G4 gt2 e4 ht2 => ?_⟩
  walk_at "w"
  refine ⟨by show 1 ≤ sizeLine; decide, fun l G5 gl e5 hl => ?_⟩
  have e35 := e3.trans (e4.trans e5)
  have htd2 : Dp K G5 (.ref t2) (encP (ww, r)) := .tup (.of (e5 _ _ ht2)) (.cons (.str _) (.cons (.str _) .nil))
  refine o_catG (xs := vp) (ys := [.ref t2]) (un_g _ _ (e35 _ _ hp1)) (un_g _ _ hl) (line_ge (by simp; omega)) fun q G6 e6 hq => ?_
  walk_at "w"
  have e36 := e35.trans e6
  refine ⟨_, pairO, ps ++ [(ww, r)], .ref q, rfl, ⟨q, _, rfl, hq, ?_⟩, by simp; omega, fun z G7 e7 hz => ?_⟩
  · rw [List.map_append]
    exact dpAll_app (dpAll_ex e36 _ _ dp) (dpAll_one (dp_ex e6 _ _ htd2))
  walk_at "w"
  refine ⟨x, CW K, dx, _, rfl, hx, T.l_Ways, T.n_Ways_pairs, by rw [wfs_eq]; show 2 < 1000; decide, ?_⟩
  obtain ⟨z1, _, ez, _⟩ := id hz
  subst ez
  rw [wfs_put]
  exact k z1 G7 (e36.trans e7) hz

theorem ok_init (T : Tx K mg) (G1 : FnOk Pg w K mg base CX0 3 (He.fAd K d_Ways_begin.at_) T.e_Ways_begin ["self", "writer", "reader"] (Spt (pm_Ways_begin K)))
    (G2 : FnOk Pg w K mg base CX0 2 (He.fAd K d_check_names.at_) T.e_check_names ["things"] (Spt (pm_check_names K))) : FnOk Pg w K mg base CX0 4 (He.fAd K d_Ways___init__.at_) T.e_Ways___init__ ["self", "offices", "pairs"] (Spt (pm_Ways___init__ K)) := by
  refine okF T.F_Ways___init__ sc_Ways___init__ (fun vs G L R h => by obtain ⟨x, dx, v, u, names, ps, rfl, _⟩ := h; rfl) (run_Ways___init__ T G1 G2) (fun vs G L R h => ?_)
  obtain ⟨x, dx, v, u, names, ps, rfl, hx, hv, hu, hok, hnd, h1, h3, pnd, plen, pin, k⟩ := h
  obtain ⟨a, rfl, ha⟩ := hv.strs
  obtain ⟨b, vp, rfl, hb, dp, lp⟩ := hu.len
  rw [List.length_map] at lp
  show S (t_Ways___init__ K) _ [some (.ref x), some (.ref a), some (.ref b), none, none, none] G L
  unfold t_Ways___init__
  walk_at "w"
  refine c_listG (.inl (.of (un_g _ _ ha))) fun q G3 e3 hq => ?_
  walk_at "w"
  refine c_len_seq (.inl (.of (un_g _ _ hq))) ?_
  walk_at "w"
  rw [List.length_map]
  refine ⟨_, rfl, fun _ => ?_, fun z => absurd z (by simp; omega)⟩
  walk_at "w"
  refine ⟨_, rfl, fun z => absurd z (by simp; omega), fun _ => ?_⟩
  walk_at "w"
  refine ⟨.ref q, names, rfl, ⟨q, _, rfl, hq, dpAll_of_strs _⟩, hok, hnd, by omega, fun G4 e4 => ?_⟩
  walk_at "w"
  refine c_tuple (.of (un_g _ _ (e4 _ _ hq))) fun t G5 e5 ht => ?_
  walk_at "w"
  refine ⟨x, CW K, dx, [], rfl, hx, T.l_Ways, T.n_Ways_offices, by show 0 < 1000; decide, ?_⟩
  walk_at "w"
  refine e_lstG (a_nil ⟨Nat.zero_le _, fun l G6 gl e6 hl => ?_⟩)
  walk_at "w"
  refine ⟨x, CW K, dx, _, rfl, upd_same, T.l_Ways, T.n_Ways_pairs, by show 1 < 1000; decide, ?_⟩
  rw [upd_upd]
  show S _ _ [some (.ref x), some (.ref a), some (.ref b), some (.ref q), none, none] G6 (upd L x (.ins (CW K) dx (wfs t l)))
  have e36 := e4.trans (e5.trans e6)
  have e06 := e3.trans e36
  refine s_for (wk_list (e_var rfl ⟨b, vp, rfl, .of (e06 _ _ hb), ?_⟩))
  refine ⟨fun i σ G7 L7 => ∃ (l : Addr) (v1 v2 : Option V), σ = [some (.ref x), some (.ref a), some (.ref b), some (.ref q), v1, v2] ∧ L7 = upd L x (.ins (CW K) dx (wfs t l)) ∧ Dl K G7 (.ref l) ((pairO.lo.sort (ps.take i)).map encP), ⟨l, none, none, rfl, rfl, ⟨l, [], rfl, hl, .nil⟩⟩, ?_, ?_⟩
  · rintro i σ G7 L7 hi e7 ⟨l, v1, v2, rfl, rfl, hl⟩ y hy
    obtain ⟨d, ed, qd⟩ := dpAll_get dp hy
    rw [List.getElem?_map] at ed
    cases en : ps[i]? with
    | none => rw [en] at ed; cases ed
    | some pr =>
      rw [en] at ed
      cases ed
      obtain ⟨ty, rfl, hty⟩ := pair_of (dp_ex (e06.trans e7) _ _ qd)
      refine g_tup (sqt_ex un_g hty) rfl (gs_cons (g_name (gs_cons (g_name (gs_nil ?_)))))
      show S _ _ [some (.ref x), some (.ref a), some (.ref b), some (.ref q), some (.str pr.1), some (.str pr.2)] G7 _
      have hil := lt_of_get en
      have pm := pin pr (List.mem_of_getElem? en)
      walk_at "w"
      refine ⟨x, dx, _, rfl, .inr upd_same, wfs_no _ _ (by decide +kernel) (by decide +kernel), ?_⟩
      walk_at "w"
      refine ⟨x, dx, t, l, names, pairO.lo.sort (ps.take i), pr.1, pr.2, rfl, upd_same, .of (e7 _ _ (e6 _ _ ht)), hl, ?_, pm.1, pm.2.1, pm.2.2, ?_, fun p' G8 e8 hp' => ?_⟩
      · rw [(pairO.lo.sort_perm _).length_eq, List.length_take]
        omega
      · intro z
        have z2 := (pairO.lo.sort_perm _).mem_iff.mp z
        obtain ⟨j, hj, ej⟩ := List.mem_iff_getElem.mp z2
        rw [List.length_take] at hj
        rw [List.getElem_take] at ej
        obtain ⟨g1, g2⟩ := List.getElem?_eq_some_iff.mp en
        have := (List.getElem_inj pnd).mp (ej.trans g2.symm)
        omega
      · refine ⟨e7.trans e8, p', _, _, rfl, by rw [upd_upd], ?_⟩
        have e : pairO.lo.sort (pairO.lo.sort (ps.take i) ++ [(pr.1, pr.2)]) = pairO.lo.sort (ps.take (i + 1)) := by
          refine pairO.lo.sort_congr ?_
          rw [List.take_add_one, en]
          exact (pairO.lo.sort_perm _).append_right _
        rw [e] at hp'
        exact hp'
  · rintro σ G7 L7 e7 ⟨l, v1, v2, rfl, rfl, hl⟩
    have e : ps.take vp.length = ps := by rw [lp, List.take_length]
    rw [e] at hl
    exact k t l G7 (e06.trans e7) (.of (e7 _ _ (e6 _ _ ht))) hl
end
end T

set_option Elab.async false
set_option linter.all false
set_option maxRecDepth 100000
set_option maxHeartbeats 4000000
namespace T
open PySem PySem.Spec PyProof.Rows L2 KM
/-! the walk of readings -/
local macro_rules | `(tactic| walk_at "w1") => `(tactic| first | (with_reducible refine s_seq ?_) | (with_reducible refine s_asg ?_) | (with_reducible refine g_name ?_) | (with_reducible refine s_if ?_) | (with_reducible refine s_drop ?_) | (with_reducible refine s_ret ?_) | (with_reducible refine s_next ?_) | (with_reducible refine s_fld ?_) | (with_reducible refine b_test ?_) | (with_reducible refine b_B ?_) | (with_reducible refine b_and ?_) | (with_reducible refine b_or ?_) | (with_reducible refine b_not ?_) | (with_reducible refine b_truth ?_) | (with_reducible refine b_yes ?_) | (with_reducible refine e_c ?_) | (with_reducible refine e_op ?_) | (with_reducible refine e_un ?_) | (with_reducible refine e_cb ?_) | (with_reducible refine e_chain ?_) | (with_reducible refine e_if ?_) | (with_reducible refine e_andV ?_) | (with_reducible refine e_orV ?_) | (with_reducible refine e_notV ?_) | (with_reducible refine e_bmL ?_) | (with_reducible refine e_m1 ?_) | (with_reducible refine e_sl ?_) | (with_reducible refine e_tup ?_) | (with_reducible refine e_fld ?_) | (with_reducible refine e_call ?_) | (with_reducible refine e_meth ?_) | (with_reducible refine a_nil ?_) | (with_reducible refine a_cons ?_) | (with_reducible refine p_none ?_) | (with_reducible refine p_some ?_) | (with_reducible refine o_I0 ?_) | (with_reducible refine u_neg ?_) | (with_reducible refine c_int ?_) | (with_reducible refine c_abs ?_) | ((with_reducible refine' e_var ?hvar ?_); (case hvar => rfl)))
local macro_rules | `(tactic| walk_at "w") => `(tactic| repeat (walk_at "w1"))
local macro_rules | `(tactic| walk_at "ex") => `(tactic| first | assumption | exact Ex.refl _ | (refine Ex.trans ?_ (by assumption); walk_at "ex"))
section
variable {Pg : Program} {w : World} {K : PySem.W.Frag} {mg : Str → Option Value} {base : Heap} {G G' L : Hp}
theorem BoxG.ex {x : Addr} {names : List Str} {ps : List (Str × Str)} (e : Ex G G') (h : BoxG K G x names ps) : BoxG K G' x names ps := by
  obtain ⟨dx, a, p, h1, h2, h3⟩ := h
  exact ⟨dx, a, p, e _ _ h1, sqt_ex e h2, h3.ex e⟩
theorem filter_take {α : Type} (f : α → Bool) {xs : List α} {i : Nat} {x : α} (h : xs[i]? = some x) : (xs.take (i + 1)).filter f = (xs.take i).filter f ++ (if f x = true then [x] else []) := by
  rw [List.take_add_one, h, List.filter_append]
  simp only [Option.toList, List.filter_cons, List.filter_nil]

theorem ok_writes (T : Tx K mg) (G1 : FnOk Pg w K mg base CX0 1 (He.fAd K d_Ways_known.at_) T.e_Ways_known ["self", "office"] (Spt (pm_Ways_known K))) :
    FnOk Pg w K mg base CX0 2 (He.fAd K d_Ways_writes.at_) T.e_Ways_writes ["self", "office"] (Spt (pm_Ways_writes K)) := by
  refine okF T.F_Ways_writes sc_Ways_writes (fun vs G L R h => by obtain ⟨x, names, ps, n, rfl, _⟩ := h; rfl) (run_Ways_writes T G1) (fun vs G L R h => ?_)
  obtain ⟨x, names, ps, n, rfl, hx, hl, hn, k⟩ := h
  obtain ⟨dx, a, p, hx, ha, hp⟩ := hx
  obtain ⟨p2, vp, e, hp1, dp, lp⟩ := hp.len
  cases e
  rw [List.length_map] at lp
  show S (t_Ways_writes K) _ [some (.ref x), some (.str n), none] G L
  unfold t_Ways_writes
  walk_at "w"
  refine ⟨x, dx, _, rfl, .inl hx, wfs_no _ _ (by decide +kernel) (by decide +kernel), ?_⟩
  walk_at "w"
  refine ⟨x, dx, a, _, names, n, rfl, .inl hx, wfs_off _ _, ha, hn, ?_⟩
  walk_at "w"
  refine e_lcG (wk_list (e_fld (e_var rfl ⟨x, CW K, dx, _, _, rfl, .inl hx, T.l_Ways, T.n_Ways_pairs, wfs_pairs _ _, p, vp, rfl, .of hp1, ?_⟩)))
  refine ⟨fun i vs G2 L2 => L2 = L ∧ DpAll K G2 vs (((outs (ps.take i) n).map (·.2)).map .str), ⟨rfl, by simpa [outs] using DpAll.nil⟩, ?_, ?_⟩
  · rintro i vs G2 L2 D hi ex ⟨rfl, hd⟩ gD lD y hy
    obtain ⟨d, ed, qd⟩ := dpAll_get dp hy
    rw [List.getElem?_map] at ed
    cases en : ps[i]? with
    | none => rw [en] at ed; cases ed
    | some pr =>
      rw [en] at ed
      cases ed
      obtain ⟨ty, rfl, hty⟩ := pair_of (dp_ex ex _ _ qd)
      refine g_name ⟨rfl, ?_⟩
      have ft := filter_take (fun q : Str × Str => decide (q.1 = n)) en
      have ll := dpAll_len hd
      have lo : (outs (ps.take i) n).length ≤ (ps.take i).length := List.length_filter_le _ _
      rw [List.length_map, List.length_map] at ll
      rw [List.length_take] at lo
      walk_at "w"
      refine o_ixT (sqt_ex un_g hty) (i := 0) (v := .str pr.1) rfl ?_
      walk_at "w"
      refine o_eq rfl ⟨_, rfl, fun h1 => ?_, fun h1 => ?_⟩
      · have h1 : pr.1 = n := by simpa using h1
        walk_at "w"
        refine o_ixT (sqt_ex un_g hty) (i := 1) (v := .str pr.2) rfl ?_
        refine ⟨line_gt (by omega), L2, rfl, lD, ex, rfl, ?_⟩
        unfold outs at hd ⊢
        rw [ft, if_pos (by simpa using h1)]
        simp only [List.map_append, List.map_cons, List.map_nil]
        exact dpAll_app hd (dpAll_one (.str _))
      · have h1 : ¬ pr.1 = n := by simpa using h1
        refine ⟨L2, rfl, lD, ex, rfl, ?_⟩
        unfold outs at hd ⊢
        rw [ft, if_neg (by simpa using h1), List.append_nil]
        exact hd
  · rintro vs G2 L2 D G3 ex ⟨rfl, hd⟩ e3 hD
    rw [lp, List.take_length] at hd
    walk_at "w"
    refine c_tuple (.of (un_g _ _ hD)) fun t G4 e4 ht => ?_
    exact k _ G4 (ex.trans (e3.trans e4)) (.tup (.of ht) (dpAll_ex (e3.trans e4) _ _ hd))

theorem roundM_take {α : Type} [DecidableEq α] {ps : List (α × α)} {h : List α} {i : Nat} {p : α × α} (e : ps[i]? = some p) : roundM (ps.take (i + 1)) h = if p.2 ∈ roundM (ps.take i) h ∧ p.1 ∉ roundM (ps.take i) h then roundM (ps.take i) h ++ [p.1] else roundM (ps.take i) h := by
  unfold roundM
  rw [List.take_add_one, e, List.foldl_append]
  rfl
theorem roundsM_succ {α : Type} [DecidableEq α] {ps : List (α × α)} : ∀ (n : Nat) (h : List α), roundsM ps (n + 1) h = roundM ps (roundsM ps n h)
  | 0, h => rfl
  | n + 1, h => by
    show roundsM ps (n + 1) (roundM ps h) = _
    rw [roundsM_succ n (roundM ps h)]
    rfl
theorem roundM_len {α : Type} [DecidableEq α] : ∀ (ps : List (α × α)) (h : List α), (roundM ps h).length ≤ h.length + ps.length
  | [], h => Nat.le_refl _
  | p :: ps, h => by
    show (roundM ps (if p.2 ∈ h ∧ p.1 ∉ h then h ++ [p.1] else h)).length ≤ _
    have := roundM_len ps (if p.2 ∈ h ∧ p.1 ∉ h then h ++ [p.1] else h)
    have l : (if p.2 ∈ h ∧ p.1 ∉ h then h ++ [p.1] else h).length ≤ h.length + 1 := by split <;> simp
    simp only [List.length_cons]
    omega
theorem roundsM_len {α : Type} [DecidableEq α] {ps : List (α × α)} : ∀ (n : Nat) (h : List α), (roundsM ps n h).length ≤ h.length + n * ps.length
  | 0, h => by simp [roundsM]
  | n + 1, h => by
    have h1 := roundsM_len (ps := ps) n (roundM ps h)
    have h2 := roundM_len ps h
    show (roundsM ps n (roundM ps h)).length ≤ _
    rw [Nat.add_mul]
    omega
theorem ok_hears (T : Tx K mg) (G1 : FnOk Pg w K mg base CX0 1 (He.fAd K d_Ways_known.at_) T.e_Ways_known ["self", "office"] (Spt (pm_Ways_known K)))
    (G2 : FnOk Pg w K mg base CX0 2 (He.fAd K d_ascending.at_) T.e_ascending ["things"] (Spt (pm_ascending K))) : FnOk Pg w K mg base CX0 3 (He.fAd K d_Ways_hears.at_) T.e_Ways_hears ["self", "office"] (Spt (pm_Ways_hears K)) := by
  refine okF T.F_Ways_hears sc_Ways_hears (fun vs G L R h => by obtain ⟨x, names, ps, n, rfl, _⟩ := h; rfl) (run_Ways_hears T G1 G2) (fun vs G L R h => ?_)
  obtain ⟨x, names, ps, n, rfl, hx, hl, hn3, hin, hn, k⟩ := h
  obtain ⟨dx, a, p, hx, ha, hp⟩ := hx
  obtain ⟨p2, vp, e, hp1, dp, lp⟩ := hp.len
  cases e
  rw [List.length_map] at lp
  show S (t_Ways_hears K) _ [some (.ref x), some (.str n), none, none, none, none] G L
  unfold t_Ways_hears
  walk_at "w"
  refine ⟨x, dx, _, rfl, .inl hx, wfs_no _ _ (by decide +kernel) (by decide +kernel), ?_⟩
  walk_at "w"
  refine ⟨x, dx, a, _, names, n, rfl, .inl hx, wfs_off _ _, ha, hn, ?_⟩
  walk_at "w"
  refine e_lstL ?_
  walk_at "w"
  refine ⟨by show 1 ≤ sizeLine; decide, fun j gj lj => ?_⟩
  walk_at "w"
  show S _ _ [some (.ref x), some (.str n), some (.ref j), none, none, none] G _
  refine s_for (wk_rng1 ?_)
  walk_at "w"
  refine ⟨x, CW K, dx, _, _, rfl, .inl hx, T.l_Ways, T.n_Ways_offices, wfs_off _ _, ?_⟩
  walk_at "w"
  refine c_len_seq (.inr (sqt_ex un_g ha)) ?_
  walk_at "w"
  rw [List.length_map]
  refine ⟨_, rfl, by omega, by omega, ?_⟩
  rw [Int.toNat_natCast]
  have lenb : ∀ i, i ≤ names.length → (roundsM ps i [n]).length ≤ 4000 := fun i hi => by
    have := roundsM_len (ps := ps) i [n]
    have : i * ps.length ≤ 3 * 1000 := Nat.mul_le_mul (by omega) hl
    simp only [List.length_singleton] at *
    omega
  refine ⟨fun i σ G3 L3 => ∃ (v1 v2 v3 : Option V), σ = [some (.ref x), some (.str n), some (.ref j), v1, v2, v3] ∧ L3 = upd L j (.lst ((roundsM ps i [n]).map V.str)), ⟨none, none, none, rfl, rfl⟩, ?_, ?_⟩
  · rintro i σ G3 L3 hi e3 ⟨v1, v2, v3, rfl, rfl⟩
    refine g_name ?_
    show S _ _ [some (.ref x), some (.str n), some (.ref j), some (.int (i : Int)), v2, v3] G3 _
    refine s_for (wk_list (e_fld (e_var rfl ⟨x, CW K, dx, _, _, rfl, .inl (e3 _ _ hx), T.l_Ways, T.n_Ways_pairs, wfs_pairs _ _, p, vp, rfl, .of (e3 _ _ hp1), ?_⟩)))
    refine ⟨fun m σ G4 L4 => ∃ (v2 v3 : Option V), σ = [some (.ref x), some (.str n), some (.ref j), some (.int (i : Int)), v2, v3] ∧ L4 = upd L j (.lst ((roundM (ps.take m) (roundsM ps i [n])).map V.str)), ⟨v2, v3, rfl, rfl⟩, ?_, ?_⟩
    · rintro m σ G4 L4 hm e4 ⟨v2, v3, rfl, rfl⟩ y hy
      obtain ⟨d, ed, qd⟩ := dpAll_get dp hy
      rw [List.getElem?_map] at ed
      cases en : ps[m]? with
      | none => rw [en] at ed; cases ed
      | some pr =>
        rw [en] at ed
        cases ed
        obtain ⟨ty, rfl, hty⟩ := pair_of (dp_ex (e3.trans e4) _ _ qd)
        refine g_tup (sqt_ex un_g hty) rfl (gs_cons (g_name (gs_cons (g_name (gs_nil ?_)))))
        show S _ _ [some (.ref x), some (.str n), some (.ref j), some (.int (i : Int)), some (.str pr.1), some (.str pr.2)] G4 _
        have rt := roundM_take (h := roundsM ps i [n]) en
        refine s_own upd_same fun gj4 => ?_
        have hd : Dp K (Un G4 (upd L j (.lst ((roundM (ps.take m) (roundsM ps i [n])).map V.str)))) (.ref j) (.list ((roundM (ps.take m) (roundsM ps i [n])).map .str)) := .lst (.of (un_l upd_same gj4)) (dpAll_of_strs _)
        walk_at "w"
        refine o_inP (a := .str pr.2) (bs := (roundM (ps.take m) (roundsM ps i [n])).map .str) (.str _) (.inl hd) (strO.ok _) (strO.plain _) ?_
        rw [any_str]
        refine ⟨_, rfl, fun h1 => ?_, fun h1 => ?_⟩
        · walk_at "w"
          refine o_notInP (a := .str pr.1) (bs := (roundM (ps.take m) (roundsM ps i [n])).map .str) (.str _) (.inl hd) (strO.ok _) (strO.plain _) ?_
          rw [any_str]
          refine ⟨_, rfl, fun h2 => ?_, fun h2 => ?_⟩
          · walk_at "w"
            refine ⟨j, _, rfl, upd_same, ?_⟩
            walk_at "w"
            refine m_append upd_same (line_gt ?_) ?_
            · rw [List.length_map]
              have b1 := roundM_len (ps.take m) (roundsM ps i [n])
              have b2 := lenb i (by omega)
              rw [List.length_take] at b1
              omega
            walk_at "w"
            refine ⟨e4, _, _, rfl, ?_⟩
            rw [upd_upd, rt, if_pos ⟨by simpa using h1, by simpa using h2⟩, List.map_append]
            rfl
          · walk_at "w"
            refine ⟨e4, _, _, rfl, ?_⟩
            rw [rt, if_neg (fun z => by simp [z.2] at h2)]
        · refine ⟨(fun z => by cases z), fun _ => ?_⟩
          walk_at "w"
          refine ⟨e4, _, _, rfl, ?_⟩
          rw [rt, if_neg (fun z => by simp [z.1] at h1)]
    · rintro σ G4 L4 e4 ⟨v2, v3, rfl, rfl⟩
      refine ⟨e3.trans e4, _, _, _, rfl, ?_⟩
      rw [lp, List.take_length, roundsM_succ]
  · rintro σ G3 L3 e3 ⟨v1, v2, v3, rfl, rfl⟩
    refine s_freeze lj fun G4 e4 hj => ?_
    walk_at "w"
    refine ⟨_, strO, roundsM ps names.length [n], .ref j, rfl, ⟨j, _, rfl, hj, dpAll_of_strs _⟩, by have := lenb names.length (Nat.le_refl _); omega, fun z G5 e5 hz => ?_⟩
    obtain ⟨z1, rfl, hz1⟩ := hz.strs
    walk_at "w"
    refine c_tuple (.of (un_g _ _ hz1)) fun t G6 e6 ht => ?_
    exact k _ G6 (e3.trans (e4.trans (e5.trans e6))) (.tup (.of ht) (dpAll_of_strs _))

theorem flat_take {α β : Type} (f : α → List β) {xs : List α} {i : Nat} {x : α} (h : xs[i]? = some x) : (xs.take (i + 1)).flatMap f = (xs.take i).flatMap f ++ f x := by
  rw [List.take_add_one, h, List.flatMap_append]
  simp
theorem dpAll_pair {q : Str × Str} {t : Addr} (h : G t = some (.tup [.str q.1, .str q.2])) : Dp K G (.ref t) (encP q) := .tup (.of h) (.cons (.str _) (.cons (.str _) .nil))
theorem ok_lacking (T : Tx K mg) (G1 : FnOk Pg w K mg base CX0 3 (He.fAd K d_Ways_hears.at_) T.e_Ways_hears ["self", "office"] (Spt (pm_Ways_hears K))) :
    FnOk Pg w K mg base CX0 4 (He.fAd K d_Ways_lacking.at_) T.e_Ways_lacking ["self"] (Spt (pm_Ways_lacking K)) := by
  refine okF T.F_Ways_lacking sc_Ways_lacking (fun vs G L R h => by obtain ⟨x, names, ps, rfl, _⟩ := h; rfl) (run_Ways_lacking T G1) (fun vs G L R h => ?_)
  obtain ⟨x, names, ps, rfl, hx, hl, hn3, hin, k⟩ := h
  have hx0 := hx
  obtain ⟨dx, a, p, hx, ha, hp⟩ := hx
  show S (t_Ways_lacking K) _ [some (.ref x), none, none, none, none] G L
  unfold t_Ways_lacking
  walk_at "w"
  refine e_lstL (a_nil ⟨Nat.zero_le _, fun j gj lj => ?_⟩)
  walk_at "w"
  show S _ _ [some (.ref x), some (.ref j), none, none, none] G _
  have hrow : ∀ o : Str, ((names.filter fun n => decide (n ∉ roundsM ps names.length [o])).map fun n => (o, n)).length ≤ 3 := fun o => by
    rw [List.length_map]
    have := List.length_filter_le (fun n => decide (n ∉ roundsM ps names.length [o])) names
    omega
  have bnd : ∀ l : List Str, (l.flatMap fun o => (names.filter fun n => decide (n ∉ roundsM ps names.length [o])).map fun n => (o, n)).length ≤ l.length * 3 := fun l => by
    induction l with
    | nil => simp
    | cons o l ih =>
      rw [List.flatMap_cons, List.length_append, List.length_cons, Nat.add_mul]
      have := hrow o
      omega
  refine s_for (wk_tup (e_fld (e_var rfl ⟨x, CW K, dx, _, _, rfl, .inl hx, T.l_Ways, T.n_Ways_offices, wfs_off _ _, a, _, rfl, ha, ?_⟩)))
  refine ⟨fun i σ G2 L2 => ∃ (vf : List V) (v1 v2 v3 : Option V), σ = [some (.ref x), some (.ref j), v1, v2, v3] ∧ L2 = upd L j (.lst vf) ∧ DpAll K G2 vf (((names.take i).flatMap fun o => (names.filter fun n => decide (n ∉ roundsM ps names.length [o])).map fun n => (o, n)).map encP),
    ⟨[], none, none, none, rfl, rfl, .nil⟩, ?_, ?_⟩
  · rintro i σ G2 L2 hi e2 ⟨vf, v1, v2, v3, rfl, rfl, hd⟩ y hy
    rw [List.getElem?_map] at hy
    cases en : names[i]? with
    | none => rw [en] at hy; cases hy
    | some o =>
      rw [en] at hy
      cases hy
      have hil := lt_of_get en
      refine g_name ?_
      show S _ _ [some (.ref x), some (.ref j), some (.str o), v2, v3] G2 _
      walk_at "w"
      refine ⟨x, dx, _, rfl, .inl (e2 _ _ hx), wfs_no _ _ (by decide +kernel) (by decide +kernel), ?_⟩
      walk_at "w"
      refine ⟨x, names, ps, o, rfl, hx0.ex e2, hl, hn3, hin, List.mem_of_getElem? en, fun v G3 e3 hv => ?_⟩
      walk_at "w"
      show S _ _ [some (.ref x), some (.ref j), some (.str o), some v, v3] G3 _
      refine s_for (wk_tup (e_fld (e_var rfl ⟨x, CW K, dx, _, _, rfl, .inl ((e2.trans e3) _ _ hx), T.l_Ways, T.n_Ways_offices, wfs_off _ _, a, _, rfl, sqt_ex (e2.trans e3) ha, ?_⟩)))
      refine ⟨fun m σ G4 L4 => ∃ (vf : List V) (v3 : Option V), σ = [some (.ref x), some (.ref j), some (.str o), some v, v3] ∧ L4 = upd L j (.lst vf) ∧ DpAll K G4 vf (((names.take i).flatMap fun o => (names.filter fun n => decide (n ∉ roundsM ps names.length [o])).map fun n => (o, n)).map encP ++ (((names.take m).filter fun n => decide (n ∉ roundsM ps names.length [o])).map fun n => (o, n)).map encP),
        ⟨vf, v3, rfl, rfl, by simpa using dpAll_ex e3 _ _ hd⟩, ?_, ?_⟩
      · rintro m σ G4 L4 hm e4 ⟨vf, v3, rfl, rfl, hd⟩ y hy
        rw [List.getElem?_map] at hy
        cases em : names[m]? with
        | none => rw [em] at hy; cases hy
        | some q =>
          rw [em] at hy
          cases hy
          have hml := lt_of_get em
          refine g_name ?_
          show S _ _ [some (.ref x), some (.ref j), some (.str o), some v, some (.str q)] G4 _
          have ft := filter_take (fun n : Str => decide (n ∉ roundsM ps names.length [o])) em
          have ll := dpAll_len hd
          rw [List.length_append, List.length_map, List.length_map, List.length_map] at ll
          have b1 := bnd (names.take i)
          have b2 := List.length_filter_le (fun n : Str => decide (n ∉ roundsM ps names.length [o])) (names.take m)
          rw [List.length_take] at b1 b2
          walk_at "w"
          refine o_notInP (a := .str q) (bs := (strLO.sort (roundsM ps names.length [o])).map .str) (.str _) (.inr (dp_ex (e4.trans un_g) _ _ hv)) (strO.ok _) (strO.plain _) ?_
          rw [any_str]
          have me : (q ∈ strLO.sort (roundsM ps names.length [o])) ↔ q ∈ roundsM ps names.length [o] := (strLO.sort_perm _).mem_iff
          refine ⟨_, rfl, fun h1 => ?_, fun h1 => ?_⟩
          · have h1 : q ∉ roundsM ps names.length [o] := by
              rw [← me]
              simpa using h1
            walk_at "w"
            refine ⟨j, _, rfl, upd_same, ?_⟩
            walk_at "w"
            refine ⟨by show 2 ≤ sizeLine; decide, fun t G5 gt e5 ht => ?_⟩
            walk_at "w"
            refine m_append upd_same (line_gt (by omega)) ?_
            refine ⟨e4.trans e5, _, _, rfl, upd_upd, ?_⟩
            rw [ft, if_pos (by simpa using h1), List.map_append, List.map_append, ← List.append_assoc]
            exact dpAll_app (dpAll_ex e5 _ _ hd) (dpAll_one (dpAll_pair (q := (o, q)) ht))
          · have h1 : q ∈ roundsM ps names.length [o] := by
              rw [← me]
              simpa using h1
            walk_at "w"
            refine ⟨e4, _, _, rfl, rfl, ?_⟩
            rw [ft, if_neg (by simpa using h1), List.append_nil]
            exact hd
      · rintro σ G4 L4 e4 ⟨vf, v3, rfl, rfl, hd⟩
        refine ⟨e2.trans (e3.trans e4), _, _, _, _, rfl, rfl, ?_⟩
        rw [flat_take _ en, List.map_append]
        rw [List.length_map, List.take_length] at hd
        exact hd
  · rintro σ G2 L2 e2 ⟨vf, v1, v2, v3, rfl, rfl, hd⟩
    rw [List.length_map, List.take_length] at hd
    refine s_freeze lj fun G3 e3 hj => ?_
    walk_at "w"
    exact k _ G3 (e2.trans e3) ⟨j, vf, rfl, hj, dpAll_ex e3 _ _ hd⟩
end
end T

set_option Elab.async false
set_option linter.all false
set_option maxRecDepth 100000
set_option maxHeartbeats 4000000
namespace T
open PySem PySem.Spec PyProof.Rows L2 KM
/-! the walk of readings -/
local macro_rules | `(tactic| walk_at "w1") => `(tactic| first | (with_reducible refine s_seq ?_) | (with_reducible refine s_asg ?_) | (with_reducible refine g_name ?_) | (with_reducible refine s_if ?_) | (with_reducible refine s_drop ?_) | (with_reducible refine s_ret ?_) | (with_reducible refine s_next ?_) | (with_reducible refine s_fld ?_) | (with_reducible refine b_test ?_) | (with_reducible refine b_B ?_) | (with_reducible refine b_and ?_) | (with_reducible refine b_or ?_) | (with_reducible refine b_not ?_) | (with_reducible refine b_truth ?_) | (with_reducible refine b_yes ?_) | (with_reducible refine e_c ?_) | (with_reducible refine e_op ?_) | (with_reducible refine e_un ?_) | (with_reducible refine e_cb ?_) | (with_reducible refine e_chain ?_) | (with_reducible refine e_if ?_) | (with_reducible refine e_andV ?_) | (with_reducible refine e_orV ?_) | (with_reducible refine e_notV ?_) | (with_reducible refine e_bmL ?_) | (with_reducible refine e_m1 ?_) | (with_reducible refine e_sl ?_) | (with_reducible refine e_tup ?_) | (with_reducible refine e_fld ?_) | (with_reducible refine e_call ?_) | (with_reducible refine e_meth ?_) | (with_reducible refine a_nil ?_) | (with_reducible refine a_cons ?_) | (with_reducible refine p_none ?_) | (with_reducible refine p_some ?_) | (with_reducible refine o_I0 ?_) | (with_reducible refine u_neg ?_) | (with_reducible refine c_int ?_) | (with_reducible refine c_abs ?_) | ((with_reducible refine' e_var ?hvar ?_); (case hvar => rfl)))
local macro_rules | `(tactic| walk_at "w") => `(tactic| repeat (walk_at "w1"))
local macro_rules | `(tactic| walk_at "ex") => `(tactic| first | assumption | exact Ex.refl _ | (refine Ex.trans ?_ (by assumption); walk_at "ex"))
section
variable {Pg : Program} {w : World} {K : PySem.W.Frag} {mg : Str → Option Value} {base : Heap} {G G' L : Hp}
theorem dpAll_getE {α : Type} {f : α → PyData} {xs : List V} {as : List α} {i : Nat} {x : V} (h : DpAll K G xs (as.map f)) (hx : xs[i]? = some x) : ∃ a, as[i]? = some a ∧ Dp K G x (f a) := by
  obtain ⟨d, ed, qd⟩ := dpAll_get h hx
  rw [List.getElem?_map] at ed
  cases en : as[i]? with
  | none => rw [en] at ed; cases ed
  | some a =>
    rw [en] at ed
    cases ed
    exact ⟨a, rfl, qd⟩
theorem ok_letter_read (T : Tx K mg) (G1 : FnOk Pg w K mg base CX0 2 (He.fAd K d_Ways_writes.at_) T.e_Ways_writes ["self", "office"] (Spt (pm_Ways_writes K))) (G2 : FnOk Pg w K mg base CX0 2 (He.fAd K d_ascending.at_) T.e_ascending ["things"] (Spt (pm_ascending K))) :
    FnOk Pg w K mg base CX0 3 (He.fAd K d_letter_read.at_) T.e_letter_read ["ways", "order", "learnt", "letters", "letter"] (Spt (pm_letter_read K)) := by
  refine okF T.F_letter_read sc_letter_read (fun vs G L R h => by obtain ⟨x, names, ps, v1, v2, v3, v4, r, l, rfl, _⟩ := h; rfl) (run_letter_read T G1 G2) (fun vs G L R h => ?_)
  obtain ⟨x, names, ps, v1, v2, v3, v4, r, l, rfl, hx, hl, hn, d1, d2, d3, d4, l1, l2, l3, k⟩ := h
  obtain ⟨a3, x3, rfl, s3, p3, n3⟩ := list_of d3
  obtain ⟨a2, x2, rfl, s2, p2, n2⟩ := tup_of d2
  have d1' : Dp K G v1 (.tuple (r.1.map encP)) := d1
  obtain ⟨a1, x1, rfl, s1, p1, n1⟩ := tup_of d1'
  obtain ⟨a4, rfl, h4⟩ := pair_of d4
  obtain ⟨dx, ba, bp, hx1, hx2, hx3⟩ := hx
  rw [List.length_map] at n1 n2 n3
  show S (t_letter_read K) _ [some (.ref x), some (.ref a1), some (.ref a2), some (.ref a3), some (.ref a4), none, none, none, none] G L
  unfold t_letter_read
  walk_at "w"
  refine e_lcG (wk_list (e_var rfl ⟨a3, x3, rfl, s3, ?_⟩))
  refine ⟨fun i vs G2 L2 => L2 = L ∧ DpAll K G2 vs (((r.2.2.take i).filter fun y => decide (y ≠ l)).map encP), ⟨rfl, .nil⟩, ?_, ?_⟩
  · rintro i vs G2 L2 D hi ex ⟨rfl, hd⟩ gD lD y hy
    obtain ⟨pr, en, qd⟩ := dpAll_getE p3 hy
    refine g_name ⟨rfl, ?_⟩
    have ft := filter_take (fun y => decide (y ≠ l)) en
    have ll := dpAll_len hd
    have lo : ((r.2.2.take i).filter fun y => decide (y ≠ l)).length ≤ (r.2.2.take i).length := List.length_filter_le _ _
    rw [List.length_map] at ll
    rw [List.length_take] at lo
    walk_at "w"
    refine o_neP (a := encP pr) (b := encP l) (dp_ex (ex.trans un_g) _ _ qd) (dp_ex (ex.trans un_g) _ _ d4) (pairO.ok _) (pairO.ok _) ?_
    rw [show PyData.eqv (encP pr) (encP l) = decide (pr = l) from pairO.eqv pr l]
    refine ⟨_, rfl, fun h1 => ?_, fun h1 => ?_⟩
    · have h1 : ¬ pr = l := by simpa using h1
      walk_at "w"
      refine ⟨line_gt (by omega), L2, rfl, lD, ex, rfl, ?_⟩
      rw [ft, if_pos (by simpa using h1), List.map_append]
      exact dpAll_app hd (dpAll_one (dp_ex ex _ _ qd))
    · have h1 : pr = l := by simpa using h1
      refine ⟨L2, rfl, lD, ex, rfl, ?_⟩
      rw [ft, if_neg (by simpa using h1), List.append_nil]
      exact hd
  rintro vs G2 L2 D G3 ex ⟨rfl, hd⟩ e3 hD
  rw [n3, List.take_length] at hd
  have e13 := ex.trans e3
  have fl : (r.2.2.filter fun y => decide (y ≠ l)).length ≤ 1000 := Nat.le_trans (List.length_filter_le _ _) l3
  have ll := dpAll_len hd
  rw [List.length_map] at ll
  walk_at "w"
  refine o_ixT (sqt_ex (e13.trans un_g) h4) (i := 1) (v := .str l.2) rfl ?_
  walk_at "w"
  refine o_notInP (a := .str l.2) (bs := r.2.1.map .str) (.str _) (.inr (dp_ex (e13.trans un_g) _ _ d2)) (strO.ok _) (strO.plain _) ?_
  rw [any_str]
  -- the end
  have fin : ∀ (G5 : Hp) (b2 b5 : Addr) (v6 v7 v8 : Option V) (le : List Str) (lf : List (Str × Str)), Ex G G5 → Dp K G5 (.ref b2) (.tuple (le.map .str)) → Dp K G5 (.ref b5) (.list (lf.map encP)) → rowStep pairO.lo ps r l = (r.1 ++ [l], le, lf) →
      E (tTup (tCons (tOp (rCatA K) (tVar 1) (tTup (tCons (tVar 4) tNil))) (tCons (tVar 2) (tCons (tVar 5) tNil)))) [some (.ref x), some (.ref a1), some (.ref b2), some (.ref a3), some (.ref a4), some (.ref b5), v6, v7, v8] G5 L2 R := by
    intro G5 b2 b5 v6 v7 v8 le lf e5 q2 q5 er
    walk_at "w"
    refine ⟨by show 1 ≤ sizeLine; decide, fun t G6 gt e6 ht => ?_⟩
    have e06 := e5.trans e6
    refine o_catA (sqt_ex e06 s1) (.of ht) (line_ge (by simp; omega)) fun p G7 e7 hp => ?_
    walk_at "w"
    refine ⟨by show 3 ≤ sizeLine; decide, fun t2 G8 gt2 e8 ht2 => ?_⟩
    have e68 := e6.trans (e7.trans e8)
    refine k _ G8 (e5.trans e68) ?_
    rw [er]
    refine .tup (.of ht2) (.cons ?_ (.cons (dp_ex e68 _ _ q2) (.cons (dp_ex e68 _ _ q5) .nil)))
    show Dp K G8 (.ref p) (.tuple ((r.1 ++ [l]).map encP))
    rw [List.map_append]
    exact .tup (sqt_ex e8 hp) (dpAll_ex (e06.trans (e7.trans e8)) _ _ (dpAll_app p1 (dpAll_one d4)))
  refine ⟨_, rfl, fun h1 => ?_, fun h1 => ?_⟩
  · have h1 : l.2 ∉ r.2.1 := by simpa using h1
    walk_at "w"
    refine ⟨by show 1 ≤ sizeLine; decide, fun t G4 gt e4 ht => ?_⟩
    refine o_catA (sqt_ex (e13.trans e4) s2) (.of ht) (line_ge (by simp; omega)) fun b2 G5 e5 hb2 => ?_
    have e35 := e4.trans e5
    walk_at "w"
    refine e_lcG (wk_tup ?_)
    walk_at "w"
    refine ⟨x, dx, _, rfl, .inl ((e13.trans e35) _ _ hx1), wfs_no _ _ (by decide +kernel) (by decide +kernel), ?_⟩
    walk_at "w"
    refine ⟨x, names, ps, l.2, rfl, BoxG.ex (e13.trans e35) ⟨dx, ba, bp, hx1, hx2, hx3⟩, hl, hn, fun v G6 e6 hv => ?_⟩
    obtain ⟨aw, xw, rfl, sw, pw, nw⟩ := tup_of hv
    rw [List.length_map, List.length_map] at nw
    have no : (outs ps l.2).length ≤ ps.length := List.length_filter_le _ _
    refine ⟨aw, xw, rfl, sw, ?_⟩
    refine ⟨fun i vs G7 L7 => L7 = L2 ∧ DpAll K G7 vs (((outs ps l.2).take i).map encP), ⟨rfl, .nil⟩, ?_, ?_⟩
    · rintro i vs G7 L7 D2 hi e7 ⟨rfl, hd7⟩ gD lD y hy
      have pw' : DpAll K G6 xw ((outs ps l.2).map fun q => PyData.str q.2) := by
        rw [List.map_map] at pw
        exact pw
      obtain ⟨q, eq, hq⟩ := dpAll_getE pw' hy
      cases hq
      refine g_name ⟨rfl, ?_⟩
      walk_at "w"
      refine ⟨fun _ => ?_, (fun z => by cases z)⟩
      walk_at "w"
      refine ⟨by show 2 ≤ sizeLine; decide, fun t G8 gt8 e8 ht8 => ?_⟩
      have ll7 := dpAll_len hd7
      rw [List.length_map, List.length_take] at ll7
      refine ⟨line_gt (by omega), L7, rfl, lD, e7.trans e8, rfl, ?_⟩
      rw [List.take_add_one, eq, List.map_append]
      have q1 : q.1 = l.2 := by
        have := List.mem_of_getElem? eq
        simpa using (List.mem_filter.mp this).2
      refine dpAll_app (dpAll_ex e8 _ _ hd7) (dpAll_one ?_)
      refine .tup (.of ht8) (.cons ?_ (.cons (.str _) .nil))
      show Dp K G8 (.str l.2) (.str q.1)
      rw [q1]
      exact .str _
    rintro vs G7 L7 D2 G8 e7 ⟨rfl, hd7⟩ e8 hD2
    have e38 := e35.trans (e6.trans (e7.trans e8))
    rw [nw, List.take_length] at hd7
    have ll7 := dpAll_len hd7
    rw [List.length_map] at ll7
    refine o_catG (un_g _ _ (e38 _ _ hD)) (un_g _ _ hD2) (line_ge (by omega)) fun q G9 e9 hq => ?_
    walk_at "w"
    refine ⟨_, pairO, (r.2.2.filter fun y => decide (y ≠ l)) ++ outs ps l.2, .ref q, rfl, ⟨q, _, rfl, hq, ?_⟩, by simp only [List.length_append]; omega, fun z G10 e10 hz => ?_⟩
    · rw [List.map_append]
      exact dpAll_app (dpAll_ex (e3.trans (e38.trans e9)) _ _ hd) (dpAll_ex (e8.trans e9) _ _ hd7)
    obtain ⟨z1, vz, rfl, hz1, dz, _⟩ := hz.len
    have e310 := e38.trans (e9.trans e10)
    refine g_name (s_ret (fin G10 b2 z1 _ _ _ (r.2.1 ++ [l.2]) _ (e13.trans e310) ?_ (.lst (.of hz1) dz) ?_))
    · rw [List.map_append]
      exact .tup (sqt_ex (e6.trans (e7.trans (e8.trans (e9.trans e10)))) hb2) (dpAll_app (dpAll_ex (e13.trans e310) _ _ p2) (dpAll_one (.str _)))
    · unfold rowStep
      rw [if_neg h1]
  · have h1 : l.2 ∈ r.2.1 := by simpa using h1
    refine s_next (s_ret (fin G3 a2 D _ _ _ r.2.1 _ e13 (dp_ex e13 _ _ d2) (.lst (.of hD) (dpAll_ex e3 _ _ hd)) ?_))
    unfold rowStep
    rw [if_pos h1]

theorem ok_mixed (T : Tx K mg) : FnOk Pg w K mg base CX0 1 (He.fAd K d__law_mixed.at_) T.e__law_mixed ["number", "turn"] (Spt (pm__law_mixed K)) := by
  refine okF T.F__law_mixed sc__law_mixed (fun vs G L R h => by obtain ⟨a, b, rfl, _⟩ := h; rfl) (run__law_mixed T) (fun vs G L R h => ?_)
  obtain ⟨a, b, rfl, k⟩ := h
  show S (t__law_mixed K) _ [some (.int a), some (.int b), none, none] G L
  unfold t__law_mixed
  walk_at "w"
  refine o_I (.inr (by decide)) ?_
  walk_at "w"
  refine o_I (.inr (by decide)) ?_
  walk_at "w"
  refine o_I (by decide) ?_
  walk_at "w"
  have lo1 := Int.emod_nonneg ((a + 1) * 48271 + (b + 1) * 1103515245) (b := 2147483647) (by decide)
  have lo2 := Int.emod_lt_of_pos ((a + 1) * 48271 + (b + 1) * 1103515245) (b := 2147483647) (by decide)
  refine o_I (.inr ⟨by omega, by omega⟩) ?_
  walk_at "w"
  refine o_I (.inr (by decide)) ?_
  walk_at "w"
  refine o_I (.inr (by decide)) ?_
  walk_at "w"
  refine o_I (by decide) ?_
  walk_at "w"
  refine o_I ⟨by decide, by decide⟩ ?_
  walk_at "w"
  refine o_I (.inr (by decide)) ?_
  walk_at "w"
  refine o_I (by decide) ?_
  exact k _ (Int.emod_nonneg _ (by decide))
end
end T

set_option Elab.async false
set_option linter.all false
set_option maxRecDepth 100000
set_option maxHeartbeats 4000000
namespace T
open PySem PySem.Spec PyProof.Rows L2 KM
/-! the walk of readings -/
local macro_rules | `(tactic| walk_at "w1") => `(tactic| first | (with_reducible refine s_seq ?_) | (with_reducible refine s_asg ?_) | (with_reducible refine g_name ?_) | (with_reducible refine s_if ?_) | (with_reducible refine s_drop ?_) | (with_reducible refine s_ret ?_) | (with_reducible refine s_next ?_) | (with_reducible refine s_fld ?_) | (with_reducible refine b_test ?_) | (with_reducible refine b_B ?_) | (with_reducible refine b_and ?_) | (with_reducible refine b_or ?_) | (with_reducible refine b_not ?_) | (with_reducible refine b_truth ?_) | (with_reducible refine b_yes ?_) | (with_reducible refine e_c ?_) | (with_reducible refine e_op ?_) | (with_reducible refine e_un ?_) | (with_reducible refine e_cb ?_) | (with_reducible refine e_chain ?_) | (with_reducible refine e_if ?_) | (with_reducible refine e_andV ?_) | (with_reducible refine e_orV ?_) | (with_reducible refine e_notV ?_) | (with_reducible refine e_bmL ?_) | (with_reducible refine e_m1 ?_) | (with_reducible refine e_sl ?_) | (with_reducible refine e_tup ?_) | (with_reducible refine e_fld ?_) | (with_reducible refine e_call ?_) | (with_reducible refine e_meth ?_) | (with_reducible refine a_nil ?_) | (with_reducible refine a_cons ?_) | (with_reducible refine p_none ?_) | (with_reducible refine p_some ?_) | (with_reducible refine o_I0 ?_) | (with_reducible refine u_neg ?_) | (with_reducible refine c_int ?_) | (with_reducible refine c_abs ?_) | ((with_reducible refine' e_var ?hvar ?_); (case hvar => rfl)))
local macro_rules | `(tactic| walk_at "w") => `(tactic| repeat (walk_at "w1"))
local macro_rules | `(tactic| walk_at "ex") => `(tactic| first | assumption | exact Ex.refl _ | (refine Ex.trans ?_ (by assumption); walk_at "ex"))
section
variable {Pg : Program} {w : World} {K : PySem.W.Frag} {mg : Str → Option Value} {base : Heap} {G G' L : Hp} {ts : TS} {d : D} {σ : L2.St} {te : TE} {R : V → Hp → Hp → Prop}
theorem s_forget {p : Addr} {o : HO} (lp : L p = none) (h : S ts d σ G L) : S ts d σ G (upd L p o) := fun H D' s k => h H D' (s.drop lp) k
theorem seqIx {n j : Nat} (h : j < n) : seqIndex? (j : Int) n = some j := by
  unfold seqIndex?
  simp
  omega
theorem BagO.ex {o : HO} (e : Ex G G') (h : BagO K G o) : BagO K G' o := by
  obtain ⟨nb, ns, i, c, t, s, rfl, hn, q⟩ := h
  exact ⟨nb, ns, i, c, t, s, rfl, sql_ex e hn, q⟩
theorem map_get {α β : Type} {f : α → β} {xs : List α} {i : Nat} {y : β} (h : (xs.map f)[i]? = some y) : ∃ x, xs[i]? = some x ∧ y = f x := by
  rw [List.getElem?_map] at h
  cases e : xs[i]? with
  | none => rw [e] at h; cases h
  | some x =>
    rw [e] at h
    cases h
    exact ⟨x, rfl, rfl⟩

theorem ok_bag (T : Tx K mg) : FnOk Pg w K mg base CX0 1 (He.fAd K d__law_bag.at_) T.e__law_bag ["script"] (Spt (pm__law_bag K)) := by
  refine okF T.F__law_bag sc__law_bag (fun vs G L R h => by obtain ⟨a, ns, rfl, _⟩ := h; rfl) (run__law_bag T) (fun vs G L R h => ?_)
  obtain ⟨a, ns, rfl, ha, hl, k⟩ := h
  show S (t__law_bag K) _ [some (.ref a), none, none, none, none] G L
  unfold t__law_bag
  walk_at "w"
  refine e_lcG (wk_list (e_var rfl ⟨a, _, rfl, ha, ?_⟩))
  refine ⟨fun i vs G2 L2 => L2 = L ∧ vs = (ns.take i).map V.int, ⟨rfl, rfl⟩, ?_, ?_⟩
  · rintro i vs G2 L2 D hi ex ⟨rfl, rfl⟩ gD lD y hy
    obtain ⟨z, ez, rfl⟩ := map_get hy
    refine g_name ⟨rfl, ?_⟩
    walk_at "w"
    refine ⟨fun _ => ?_, (fun z => by cases z)⟩
    walk_at "w"
    refine ⟨line_gt (by rw [List.length_map, List.length_take]; omega), L2, rfl, lD, ex, rfl, ?_⟩
    rw [List.take_add_one, ez, List.map_append]
    rfl
  rintro vs G2 L2 D G3 ex ⟨rfl, rfl⟩ e3 hD
  rw [List.length_map, List.take_length] at hD
  walk_at "w"
  refine c_len_seq (.inl (.of (un_g _ _ hD))) ?_
  walk_at "w"
  show S _ _ [some (.ref a), none, some (.ref D), some (.int _), none] G3 _
  refine s_for (wk_enum ?_)
  walk_at "w"
  refine ⟨_, rfl, ?_⟩
  refine z_list (.of (un_g _ _ hD)) fun q G4 e4 hq => ?_
  walk_at "w"
  refine ⟨q, _, rfl, .of hq, ?_⟩
  refine ⟨fun i σ G5 L5 => ∃ (v1 v4 : Option V) (sd : Int), 0 ≤ sd ∧ σ = [some (.ref a), v1, some (.ref D), some (.int sd), v4] ∧ L5 = L2, ⟨none, none, _, by omega, rfl, rfl⟩, ?_, ?_⟩
  · rintro i σ G5 L5 hi e5 ⟨v1, v4, sd, hs, rfl, rfl⟩ y p G6 hy e6 hp
    have hn : ∃ z : Int, y = .int z := by
      have m := List.mem_of_getElem? hy
      have m2 : y ∈ ns.map V.int := by
        unfold cutV at m
        exact List.mem_of_mem_drop (List.mem_of_mem_take m)
      obtain ⟨z, _, rfl⟩ := List.mem_map.mp m2
      exact ⟨z, rfl⟩
    obtain ⟨z, rfl⟩ := hn
    refine g_tup (.of (un_g _ _ hp)) rfl (gs_cons (g_name (gs_cons (g_name (gs_nil ?_)))))
    show S _ _ [some (.ref a), some (.int z), some (.ref D), some (.int sd), some (.int (i : Int))] G6 _
    walk_at "w"
    refine o_I (.inr (by decide)) ?_
    walk_at "w"
    refine o_I (by decide) ?_
    walk_at "w"
    refine o_mul_ib ?_
    walk_at "w"
    refine o_I (by decide) ?_
    walk_at "w"
    exact ⟨e5.trans e6, _, _, _, Int.emod_nonneg _ (by decide), rfl, rfl⟩
  · rintro σ G5 L5 e5 ⟨v1, v4, sd, hs, rfl, rfl⟩
    walk_at "w"
    refine e_lstL ?_
    walk_at "w"
    refine ⟨by show 5 ≤ sizeLine; decide, fun p gp lp => ?_⟩
    have eD := e4.trans e5
    exact k p G5 _ (ex.trans (e3.trans eD)) gp lp ⟨D, ns, 0, 0, 0, sd, rfl, .of (eD _ _ hD), Nat.zero_le _, Int.le_refl _, Int.le_refl _, hs⟩

theorem ok_pick (T : Tx K mg) (G1 : FnOk Pg w K mg base CX0 1 (He.fAd K d__law_mixed.at_) T.e__law_mixed ["number", "turn"] (Spt (pm__law_mixed K))) :
    FnOk Pg w K mg base CX0 2 (He.fAd K d__law_pick.at_) T.e__law_pick ["bag", "many"] (Spt (pm__law_pick K)) := by
  refine okF T.F__law_pick sc__law_pick (fun vs G L R h => by obtain ⟨b, m, o, rfl, _⟩ := h; rfl) (run__law_pick T G1) (fun vs G L R h => ?_)
  obtain ⟨b, m, o, rfl, m0, m1, hb, ho, k⟩ := h
  obtain ⟨nb, ns, i, c, t, s, rfl, hn, hi, hc, ht, hs⟩ := ho
  show S (t__law_pick K) _ [some (.ref b), some (.int m), none, none, none] G L
  refine s_own hb fun gb => ?_
  have bs : ∀ {L : Hp} {xs : List V}, L b = some (.lst xs) → SqL K (Un G L) b xs := fun h => .of (un_l h gb)
  unfold t__law_pick
  walk_at "w"
  refine o_ixL (bs hb) (i := 3) (v := .int t) rfl ?_
  walk_at "w"
  refine g_setL ?_
  walk_at "w"
  refine ⟨b, _, 3, 3, rfl, rfl, hb, rfl, ?_⟩
  -- the second half
  have fin : ∀ (i : Nat) (c : Int) (v3 v4 : Option V), i ≤ ns.length → 0 ≤ c → S (tSeq (tIfS (tTest (tOp rEq (tOp (rIxL K) (tVar 0) (tC (.int 2))) (tC (.int 0))))
      (tRet (tOp rModI (tCB rIntI (tCons (tCall (Spt (pm__law_mixed K)) [] E0 (tCons (tOp (rIxL K) (tVar 0) (tC (.int 4))) (tCons (tVar 2) tNil))) tNil)) (tVar 1)))
      tNext)
      (tSeq (tAsg (tOp rModI (tCB rIntI (tCons (tOp (rIxL K) (tVar 0) (tC (.int 2))) tNil)) (tVar 1)) (gName 4))
      (tSeq (tAsg (tOp rDivI (tOp (rIxL K) (tVar 0) (tC (.int 2))) (tVar 1)) (gSub (tVar 0) (tC (.int 2)) rSetL))
      (tRet (tVar 4))))) { nx := fun _ G L => R .non G L, rt := R } [some (.ref b), some (.int m), some (.int t), v3, v4] G (upd L b (.lst [.ref nb, .int i, .int c, .int (t + 1), .int s])) := by
    intro i c v3 v4 hi hc
    walk_at "w"
    refine o_ixL (bs upd_same) (i := 2) (v := .int c) rfl ?_
    walk_at "w"
    refine o_eq rfl ⟨_, rfl, fun h1 => ?_, fun h1 => ?_⟩
    · walk_at "w"
      refine o_ixL (bs upd_same) (i := 4) (v := .int s) rfl ?_
      walk_at "w"
      refine ⟨_, _, rfl, fun r hr => ?_⟩
      walk_at "w"
      refine o_I m0 ?_
      exact k _ _ (Int.emod_nonneg _ (by omega)) (Int.emod_lt_of_pos _ m0) ⟨nb, ns, i, c, t + 1, s, rfl, hn, hi, hc, by omega, hs⟩
    · walk_at "w"
      refine o_ixL (bs upd_same) (i := 2) (v := .int c) rfl ?_
      walk_at "w"
      refine o_I m0 ?_
      walk_at "w"
      refine o_ixL (bs upd_same) (i := 2) (v := .int c) rfl ?_
      walk_at "w"
      refine o_I ⟨m0, m1⟩ ?_
      refine g_setL ?_
      walk_at "w"
      refine ⟨b, _, 2, 2, rfl, rfl, upd_same, rfl, ?_⟩
      rw [upd_upd]
      walk_at "w"
      exact k _ _ (Int.emod_nonneg _ (by omega)) (Int.emod_lt_of_pos _ m0) ⟨nb, ns, i, c / m, t + 1, s, rfl, hn, hi, Int.ediv_nonneg hc (by omega), by omega, hs⟩
  show S _ _ [some (.ref b), some (.int m), some (.int t), none, none] G (upd L b (.lst [.ref nb, .int i, .int c, .int (t + 1), .int s]))
  walk_at "w"
  refine o_ixL (bs upd_same) (i := 2) (v := .int c) rfl ?_
  walk_at "w"
  refine o_eq rfl ⟨_, rfl, fun h1 => ?_, fun h1 => ?_⟩
  · walk_at "w"
    refine o_ixL (bs upd_same) (i := 1) (v := .int i) rfl ?_
    walk_at "w"
    refine o_ixL (bs upd_same) (i := 0) (v := .ref nb) rfl ?_
    walk_at "w"
    refine c_len_seq (.inl (sql_ex un_g hn)) ?_
    walk_at "w"
    rw [List.length_map]
    refine ⟨_, rfl, fun h2 => ?_, fun h2 => ?_⟩
    · have h2 : i < ns.length := by
        have := of_decide_eq_true h2
        omega
      walk_at "w"
      refine o_ixL (bs upd_same) (i := 0) (v := .ref nb) rfl ?_
      walk_at "w"
      refine o_ixL (bs upd_same) (i := 1) (v := .int i) rfl ?_
      refine o_ixL (sql_ex un_g hn) (v := .int ns[i]) (atI_of (by rw [List.getElem?_map, List.getElem?_eq_getElem h2]; rfl)) ?_
      walk_at "w"
      refine o_ixL (bs upd_same) (i := 1) (v := .int i) rfl ?_
      walk_at "w"
      refine g_setL ?_
      walk_at "w"
      refine ⟨b, _, 1, 1, rfl, rfl, upd_same, rfl, ?_⟩
      rw [upd_upd]
      show S _ _ [some (.ref b), some (.int m), some (.int t), some (.int ns[i]), none] G (upd L b (.lst [.ref nb, .int ((i : Int) + 1), .int c, .int (t + 1), .int s]))
      walk_at "w"
      refine o_I ⟨by decide, by decide, by decide⟩ ?_
      walk_at "w"
      refine ⟨_, rfl, fun h3 => ?_, fun h3 => ?_⟩
      · walk_at "w"
        refine o_I (.inl (by decide)) ?_
        walk_at "w"
        refine o_add_ib ?_
        walk_at "w"
        refine ⟨_, _, rfl, fun r hr => ?_⟩
        walk_at "w"
        refine o_I m0 ?_
        exact k _ _ (Int.emod_nonneg _ (by omega)) (Int.emod_lt_of_pos _ m0) ⟨nb, ns, i + 1, c, t + 1, s, rfl, hn, h2, hc, by omega, hs⟩
      · refine s_next (s_asg ?_)
        walk_at "w"
        refine g_setL ?_
        walk_at "w"
        refine ⟨b, _, 2, 2, rfl, rfl, upd_same, rfl, ?_⟩
        rw [upd_upd]
        refine fin (i + 1) _ _ _ h2 ?_
        split <;> omega
    · exact s_next (fin i c _ _ hi hc)
  · refine ⟨(fun z => by cases z), fun _ => ?_⟩
    exact s_next (fin i c _ _ hi hc)
end
end T

set_option Elab.async false
set_option linter.all false
set_option maxRecDepth 100000
set_option maxHeartbeats 4000000
namespace T
open PySem PySem.Spec PyProof.Rows L2 KM
/-! the walk of readings -/
local macro_rules | `(tactic| walk_at "w1") => `(tactic| first | (with_reducible refine s_seq ?_) | (with_reducible refine s_asg ?_) | (with_reducible refine g_name ?_) | (with_reducible refine s_if ?_) | (with_reducible refine s_drop ?_) | (with_reducible refine s_ret ?_) | (with_reducible refine s_next ?_) | (with_reducible refine s_fld ?_) | (with_reducible refine b_test ?_) | (with_reducible refine b_B ?_) | (with_reducible refine b_and ?_) | (with_reducible refine b_or ?_) | (with_reducible refine b_not ?_) | (with_reducible refine b_truth ?_) | (with_reducible refine b_yes ?_) | (with_reducible refine e_c ?_) | (with_reducible refine e_op ?_) | (with_reducible refine e_un ?_) | (with_reducible refine e_cb ?_) | (with_reducible refine e_chain ?_) | (with_reducible refine e_if ?_) | (with_reducible refine e_andV ?_) | (with_reducible refine e_orV ?_) | (with_reducible refine e_notV ?_) | (with_reducible refine e_bmL ?_) | (with_reducible refine e_m1 ?_) | (with_reducible refine e_sl ?_) | (with_reducible refine e_tup ?_) | (with_reducible refine e_fld ?_) | (with_reducible refine e_call ?_) | (with_reducible refine e_meth ?_) | (with_reducible refine a_nil ?_) | (with_reducible refine a_cons ?_) | (with_reducible refine p_none ?_) | (with_reducible refine p_some ?_) | (with_reducible refine o_I0 ?_) | (with_reducible refine u_neg ?_) | (with_reducible refine c_int ?_) | (with_reducible refine c_abs ?_) | ((with_reducible refine' e_var ?hvar ?_); (case hvar => rfl)))
local macro_rules | `(tactic| walk_at "w") => `(tactic| repeat (walk_at "w1"))
local macro_rules | `(tactic| walk_at "ex") => `(tactic| first | assumption | exact Ex.refl _ | (refine Ex.trans ?_ (by assumption); walk_at "ex"))
section
variable {Pg : Program} {w : World} {K : PySem.W.Frag} {mg : Str → Option Value} {base : Heap} {G G' L : Hp}
theorem upd_in1 {L : Hp} {b p : Addr} {o o' x : HO} (h : b ≠ p) : upd (upd (upd L b o) p x) b o' = upd (upd L b o') p x := by
  rw [upd_comm (Ne.symm h), upd_upd]
theorem upd_in2 {L : Hp} {b p q : Addr} {o o' x y : HO} (h : b ≠ p) (h2 : b ≠ q) : upd (upd (upd (upd L b o) p x) q y) b o' = upd (upd (upd L b o') p x) q y := by
  rw [upd_comm (Ne.symm h2), upd_in1 h]
theorem s_augI {σ : L2.St} {te : TE} {d : D} {i : Nat} {f : Int → Int → Int} {a : Int} (hx : σ[i]? = some (some (.int a))) (h : E te σ G L fun y G1 L1 => ∃ b, y = .int b ∧ d.nx (σ.set i (some (.int (f a b)))) G1 L1) : S (tAug i te (ipI f)) d σ G L := fun H D' s k =>
  ⟨.int a, hx, h H _ s fun y G1 L1 H1 ⟨b, e, q⟩ s1 => ⟨a, b, rfl, e, k.nx _ _ _ _ q s1⟩⟩
theorem _root_.List.getElem_cons_eraseIdx_perm' {α : Type} : ∀ {l : List α} {n : Nat} (h : n < l.length), (l[n] :: l.eraseIdx n).Perm l
  | x :: l, 0, _ => .refl _
  | x :: l, n + 1, h => (List.Perm.swap _ _ _).trans ((List.getElem_cons_eraseIdx_perm' (l := l) (n := n) (by simpa using h)).cons x)
theorem ok_mingled (T : Tx K mg) (G1 : FnOk Pg w K mg base CX0 2 (He.fAd K d__law_pick.at_) T.e__law_pick ["bag", "many"] (Spt (pm__law_pick K))) :
    FnOk Pg w K mg base CX0 3 (He.fAd K d__law_mingled.at_) T.e__law_mingled ["bag", "things"] (Spt (pm__law_mingled K)) := by
  refine okF T.F__law_mingled sc__law_mingled (fun vs G L R h => by obtain ⟨b, o, a, xs, rfl, _⟩ := h; rfl) (run__law_mingled T G1) (fun vs G L R h => ?_)
  obtain ⟨b, o, a, xs, rfl, hb, ho, ha, hl, k⟩ := h
  show S (t__law_mingled K) _ [some (.ref b), some (.ref a), none, none, none] G L
  unfold t__law_mingled
  walk_at "w"
  refine c_listL (.inl (sql_ex un_g ha)) fun j gj lj => ?_
  walk_at "w"
  refine e_lstL (a_nil ⟨Nat.zero_le _, fun p gp lp => ?_⟩)
  have jp : j ≠ p := fun e => by
    subst e
    rw [upd_same] at lp
    cases lp
  have lp : L p = none := by
    rw [upd_ne (Ne.symm jp)] at lp
    exact lp
  have bj : b ≠ j := fun e => by subst e; rw [hb] at lj; cases lj
  have bp : b ≠ p := fun e => by subst e; rw [hb] at lp; cases lp
  walk_at "w"
  show S _ _ [some (.ref b), some (.ref a), some (.ref j), some (.ref p), none] G _
  refine s_for (wk_rng1 ?_)
  walk_at "w"
  refine c_len_seq (.inl (sql_ex un_g ha)) ?_
  walk_at "w"
  refine ⟨_, rfl, by omega, by omega, ?_⟩
  rw [Int.toNat_natCast]
  refine ⟨fun i σ G2 L2 => ∃ (v : Option V) (o : HO) (le ou : List V), σ = [some (.ref b), some (.ref a), some (.ref j), some (.ref p), v] ∧ BagO K G2 o ∧ L2 = upd (upd (upd L b o) j (.lst le)) p (.lst ou) ∧ ou.length = i ∧ (ou ++ le).Perm xs,
    ⟨none, o, xs, [], rfl, ho, ?_, rfl, .refl _⟩, ?_, ?_⟩
  · have e : upd L b o = L := by
      funext c
      unfold upd
      split
      · rename_i e
        rw [e, hb]
      · rfl
    rw [e]
  · rintro i σ G2 L2 hi e2 ⟨v, o, le, ou, rfl, ho, rfl, lo, pe⟩
    have ln := pe.length_eq
    rw [List.length_append] at ln
    refine g_name ?_
    show S _ _ [some (.ref b), some (.ref a), some (.ref j), some (.ref p), some (.int (i : Int))] G2 _
    have Lj : (upd (upd (upd L b o) j (.lst le)) p (.lst ou)) j = some (.lst le) := by rw [upd_ne jp, upd_same]
    refine s_own Lj fun gj2 => ?_
    walk_at "w"
    refine ⟨p, ou, rfl, upd_same, ?_⟩
    walk_at "w"
    refine ⟨j, le, rfl, Lj, ?_⟩
    walk_at "w"
    refine c_len_seq (.inl (.of (un_l Lj gj2))) ?_
    walk_at "w"
    refine ⟨b, le.length, o, rfl, by omega, by omega, by rw [upd_ne bp, upd_ne bj, upd_same], ho, fun r o' r0 r1 ho' => ?_⟩
    rw [upd_in2 bj bp]
    walk_at "w"
    obtain ⟨n, rfl⟩ := Int.eq_ofNat_of_zero_le r0
    have hn : n < le.length := by omega
    refine m_popAt (xs := le) (j := n) (y := le[n]) (by rw [upd_ne jp, upd_same]) (by omega) (by omega) (seqIx hn) (List.getElem?_eq_getElem hn) ?_
    walk_at "w"
    rw [upd_in1 jp]
    refine m_append upd_same (line_gt (by omega)) ?_
    refine ⟨e2, _, o', _, _, rfl, ho', upd_upd, by simp [lo], ?_⟩
    refine List.Perm.trans ?_ pe
    rw [List.append_assoc]
    refine List.Perm.append_left _ ?_
    show (le[n] :: le.eraseIdx n).Perm le
    exact List.getElem_cons_eraseIdx_perm' hn
  · rintro σ G2 L2 e2 ⟨v, o, le, ou, rfl, ho, rfl, lo, pe⟩
    refine s_freeze (by rw [upd_ne (Ne.symm jp), upd_ne (Ne.symm bp)]; exact lp) fun G3 e3 hp => ?_
    refine s_forget (by rw [upd_ne (Ne.symm bj)]; exact lj) ?_
    walk_at "w"
    have ln := pe.length_eq
    rw [List.length_append] at ln
    have e : le = [] := List.eq_nil_of_length_eq_zero (by omega)
    rw [e, List.append_nil] at pe
    exact k p G3 o ou (e2.trans e3) (ho.ex e3) pe hp

theorem srt_insert {α : Type} (o : LO α) {l r : List α} {x : α} (h : o.Srt (l ++ r)) (h1 : ∀ y ∈ l, o.lt x y = false) (h2 : ∀ y ∈ r, o.lt y x = false) : o.Srt (l ++ x :: r) := by
  have h' := List.pairwise_append.mp h
  refine List.pairwise_append.mpr ⟨h'.1, List.pairwise_cons.mpr ⟨fun y hy => h2 y hy, h'.2.1⟩, fun y hy z hz => ?_⟩
  rcases List.mem_cons.mp hz with e | hz
  · subst e
    exact h1 y hy
  · exact h'.2.2 y hy z hz
theorem ok_sorted (T : Tx K mg) : FnOk Pg w K mg base CX0 1 (He.fAd K d__law_sorted.at_) T.e__law_sorted ["things"] (Spt (pm__law_sorted K)) := by
  refine okF T.F__law_sorted sc__law_sorted (fun vs G L R h => by obtain ⟨v, xs, rfl, _⟩ := h; rfl) (run__law_sorted T) (fun vs G L R h => ?_)
  obtain ⟨v, xs, rfl, hv, hl, k⟩ := h
  obtain ⟨a, rfl, ha⟩ := hv.strs
  show S (t__law_sorted K) _ [some (.ref a), none, none, none] G L
  unfold t__law_sorted
  walk_at "w"
  refine e_lstL (a_nil ⟨Nat.zero_le _, fun p gp lp => ?_⟩)
  walk_at "w"
  show S _ _ [some (.ref a), some (.ref p), none, none] G _
  refine s_for (wk_list (e_var rfl ⟨a, _, rfl, .of ha, ?_⟩))
  refine ⟨fun i σ G2 L2 => G2 = G ∧ ∃ (v2 v3 : Option V), σ = [some (.ref a), some (.ref p), v2, v3] ∧ L2 = upd L p (.lst ((strLO.sort (xs.take i)).map V.str)), ⟨rfl, none, none, rfl, rfl⟩, ?_, ?_⟩
  · rintro i σ G2 L2 hi e2 ⟨rfl, v2, v3, rfl, rfl⟩ y hy
    obtain ⟨x, ex, rfl⟩ := map_get hy
    refine g_name ?_
    show S _ _ [some (.ref a), some (.ref p), some (.str x), v3] G2 _
    have hil := lt_of_get ex
    have ls : (strLO.sort (xs.take i)).length = i := by
      rw [(strLO.sort_perm _).length_eq, List.length_take]
      omega
    have ss := strLO.sort_srt (xs.take i)
    have pp := strLO.sort_perm (xs.take i)
    generalize strLO.sort (xs.take i) = ms at ls ss pp
    have pt : SqL K (Un G2 (upd L p (.lst (ms.map V.str)))) p (ms.map V.str) := .of (un_l upd_same gp)
    walk_at "w"
    show S _ _ [some (.ref a), some (.ref p), some (.str x), some (.int 0)] G2 _
    have fin : ∀ n : Nat, n ≤ ms.length → (∀ y ∈ ms.take n, strLO.lt x y = false) → (∀ y ∈ ms.drop n, strLO.lt y x = false) →
        S (tDrop (tBM K "list" rInsert (tVar 1) (tCons (tVar 3) (tCons (tVar 2) tNil)))) { nx := fun σ' G' L' => Ex G2 G' ∧ G' = G2 ∧ ∃ (v2 v3 : Option V), σ' = [some (.ref a), some (.ref p), v2, v3] ∧ L' = upd L p (.lst ((strLO.sort (xs.take (i + 1))).map V.str)), rt := R } [some (.ref a), some (.ref p), some (.str x), some (.int (n : Int))] G2 (upd L p (.lst (ms.map V.str))) := by
      intro n hn h1 h2
      walk_at "w"
      refine ⟨p, _, rfl, upd_same, ?_⟩
      walk_at "w"
      refine m_insert upd_same (line_gt (by rw [List.length_map]; omega)) (by omega) (by omega) ?_
      refine ⟨Ex.refl _, rfl, _, _, rfl, ?_⟩
      rw [upd_upd]
      have e : ms.take n ++ x :: ms.drop n = strLO.sort (xs.take (i + 1)) := by
        refine strLO.sort_of ?_ (srt_insert strLO (by rw [List.take_append_drop]; exact ss) h1 h2)
        rw [List.take_add_one, ex]
        refine List.perm_middle.trans ?_
        rw [List.take_append_drop]
        exact (pp.cons x).trans (List.perm_append_singleton x (xs.take i)).symm
      rw [← e]
      simp [List.map_take, List.map_drop]
    have fin' : ∀ {σ : L2.St} {G L : Hp} {N : L2.St → Hp → Hp → Prop} {ts : TS}, S ts { nx := N, rt := R } σ G L → S ts { nx := N, rt := R, bk := fun σ' G' L' => S (tRet (tVar 1)) { nx := fun x G L => R V.non G L, rt := R } σ' G' L', ct := N } σ G L := fun h => h.mono (fun _ _ _ q => q) (fun _ _ _ q => q) (fun _ _ _ q => q.elim) (fun _ _ _ q => q.elim)
    refine s_while (fun m σ G3 L3 => G3 = G2 ∧ L3 = upd L p (.lst (ms.map V.str)) ∧ ∃ n : Nat, m = ms.length - n ∧ n ≤ ms.length ∧ σ = [some (.ref a), some (.ref p), some (.str x), some (.int (n : Int))] ∧ ∀ y ∈ ms.take n, strLO.lt x y = false) ms.length ⟨rfl, rfl, 0, rfl, Nat.zero_le _, rfl, by simp⟩ ?_
    rintro m σ G3 L3 ⟨rfl, rfl, n, rfl, hn, rfl, hb⟩
    walk_at "w"
    refine c_len_seq (.inl pt) ?_
    walk_at "w"
    rw [List.length_map]
    refine ⟨_, rfl, fun h1 => ?_, fun h1 => ?_⟩
    · have h1 : n < ms.length := by
        have := of_decide_eq_true h1
        omega
      walk_at "w"
      refine o_ixL pt (v := .str ms[n]) (atI_of (by rw [List.getElem?_map, List.getElem?_eq_getElem h1]; rfl)) ?_
      walk_at "w"
      refine o_le_str ⟨_, rfl, fun h2 => ?_, fun h2 => ?_⟩
      · have h2 : strLO.lt x ms[n] = false := by simpa [strLO] using h2
        refine s_augI rfl ?_
        walk_at "w"
        refine ⟨_, rfl, ms.length - (n + 1), ?_, rfl, rfl, n + 1, rfl, h1, rfl, ?_⟩
        · omega
        · rw [List.take_add_one, List.getElem?_eq_getElem h1]
          intro y hy
          rcases List.mem_append.mp hy with hy | hy
          · exact hb y hy
          · have : y = ms[n] := by simpa using hy
            rw [this]
            exact h2
      · have h2 : strLO.lt x ms[n] = true := by simpa [strLO] using h2
        refine fin' (fin n hn hb fun y hy => ?_)
        rw [List.drop_eq_getElem_cons h1] at hy
        rcases List.mem_cons.mp hy with e | hy
        · rw [e]
          exact strLO.asym h2
        · have q := ss
          rw [← List.take_append_drop n ms, List.drop_eq_getElem_cons h1] at q
          have q2 := (List.pairwise_cons.mp (List.pairwise_append.mp q).2.1).1 y hy
          exact strLO.ntr (strLO.asym h2) q2
    · have h1 : n = ms.length := by
        have := of_decide_eq_false h1
        omega
      refine ⟨(fun z => by cases z), fun _ => ?_⟩
      refine fin' (fin n hn hb fun y hy => ?_)
      rw [h1, List.drop_length] at hy
      cases hy
  · rintro σ G2 L2 e2 ⟨rfl, v2, v3, rfl, rfl⟩
    rw [List.length_map, List.take_length]
    refine s_freeze lp fun G3 e3 hp => ?_
    walk_at "w"
    exact k _ G3 e3 ⟨p, _, rfl, hp, dpAll_of_strs _⟩
end
end T

set_option Elab.async false
set_option linter.all false
set_option maxRecDepth 100000
set_option maxHeartbeats 4000000
namespace T
open PySem PySem.Spec PyProof.Rows L2 KM
/-! the walk of readings -/
local macro_rules | `(tactic| walk_at "w1") => `(tactic| first | (with_reducible refine s_seq ?_) | (with_reducible refine s_asg ?_) | (with_reducible refine g_name ?_) | (with_reducible refine s_if ?_) | (with_reducible refine s_drop ?_) | (with_reducible refine s_ret ?_) | (with_reducible refine s_next ?_) | (with_reducible refine s_fld ?_) | (with_reducible refine b_test ?_) | (with_reducible refine b_B ?_) | (with_reducible refine b_and ?_) | (with_reducible refine b_or ?_) | (with_reducible refine b_not ?_) | (with_reducible refine b_truth ?_) | (with_reducible refine b_yes ?_) | (with_reducible refine e_c ?_) | (with_reducible refine e_op ?_) | (with_reducible refine e_un ?_) | (with_reducible refine e_cb ?_) | (with_reducible refine e_chain ?_) | (with_reducible refine e_if ?_) | (with_reducible refine e_andV ?_) | (with_reducible refine e_orV ?_) | (with_reducible refine e_notV ?_) | (with_reducible refine e_bmL ?_) | (with_reducible refine e_m1 ?_) | (with_reducible refine e_sl ?_) | (with_reducible refine e_tup ?_) | (with_reducible refine e_fld ?_) | (with_reducible refine e_call ?_) | (with_reducible refine e_meth ?_) | (with_reducible refine a_nil ?_) | (with_reducible refine a_cons ?_) | (with_reducible refine p_none ?_) | (with_reducible refine p_some ?_) | (with_reducible refine o_I0 ?_) | (with_reducible refine u_neg ?_) | (with_reducible refine c_int ?_) | (with_reducible refine c_abs ?_) | ((with_reducible refine' e_var ?hvar ?_); (case hvar => rfl)))
local macro_rules | `(tactic| walk_at "w") => `(tactic| repeat (walk_at "w1"))
local macro_rules | `(tactic| walk_at "ex") => `(tactic| first | assumption | exact Ex.refl _ | (refine Ex.trans ?_ (by assumption); walk_at "ex"))
section
variable {Pg : Program} {w : World} {K : PySem.W.Frag} {mg : Str → Option Value} {base : Heap} {G G' L : Hp}
theorem str_scal (a b : Str) : scal (.str a) (.str b) = true := rfl
theorem ok_every (T : Tx K mg) : FnOk Pg w K mg base CX0 1 (He.fAd K d__law_every.at_) T.e__law_every ["names"] (Spt (pm__law_every K)) := by
  refine okF T.F__law_every sc__law_every (fun vs G L R h => by obtain ⟨v, names, rfl, _⟩ := h; rfl) (run__law_every T) (fun vs G L R h => ?_)
  obtain ⟨v, names, rfl, hv, hl, k⟩ := h
  obtain ⟨a, rfl, ha⟩ := hv.strs
  show S (t__law_every K) _ [some (.ref a), none, none, none] G L
  unfold t__law_every
  walk_at "w"
  refine e_lstL (a_nil ⟨Nat.zero_le _, fun p gp lp => ?_⟩)
  walk_at "w"
  show S _ _ [some (.ref a), some (.ref p), none, none] G _
  have hrow : ∀ a : Str, ((names.filter fun b => decide (b ≠ a)).map fun b => (a, b)).length ≤ 20 := fun a => by
    rw [List.length_map]
    have := List.length_filter_le (fun b => decide (b ≠ a)) names
    omega
  have bnd : ∀ l : List Str, (l.flatMap fun a => (names.filter fun b => decide (b ≠ a)).map fun b => (a, b)).length ≤ l.length * 20 := fun l => by
    induction l with
    | nil => simp
    | cons o l ih =>
      rw [List.flatMap_cons, List.length_append, List.length_cons, Nat.add_mul]
      have := hrow o
      omega
  refine s_for (wk_list (e_var rfl ⟨a, _, rfl, .of ha, ?_⟩))
  refine ⟨fun i σ G2 L2 => ∃ (v2 v3 : Option V) (vf : List V), σ = [some (.ref a), some (.ref p), v2, v3] ∧ L2 = upd L p (.lst vf) ∧ DpAll K G2 vf (((names.take i).flatMap fun a => (names.filter fun b => decide (b ≠ a)).map fun b => (a, b)).map encP), ⟨none, none, [], rfl, rfl, .nil⟩, ?_, ?_⟩
  · rintro i σ G2 L2 hi e2 ⟨v2, v3, vf, rfl, rfl, hd⟩ y hy
    obtain ⟨x, ex, rfl⟩ := map_get hy
    have hil := lt_of_get ex
    refine g_name ?_
    show S _ _ [some (.ref a), some (.ref p), some (.str x), v3] G2 _
    walk_at "w"
    refine ⟨p, vf, rfl, upd_same, ?_⟩
    walk_at "w"
    refine e_lcG (wk_list (e_var rfl ⟨a, _, rfl, .of (e2 _ _ ha), ?_⟩))
    refine ⟨fun m vs G3 L3 => L3 = upd L p (.lst vf) ∧ DpAll K G3 vs ((((names.take m).filter fun b => decide (b ≠ x)).map fun b => (x, b)).map encP), ⟨rfl, .nil⟩, ?_, ?_⟩
    · rintro m vs G3 L3 D hm e3 ⟨rfl, hd3⟩ gD lD y hy
      obtain ⟨z, ez, rfl⟩ := map_get hy
      have hml := lt_of_get ez
      refine g_name ⟨rfl, ?_⟩
      have ft := filter_take (fun b => decide (b ≠ x)) ez
      have ll := dpAll_len hd3
      have lo : ((names.take m).filter fun b => decide (b ≠ x)).length ≤ (names.take m).length := List.length_filter_le _ _
      rw [List.length_map, List.length_map] at ll
      rw [List.length_take] at lo
      walk_at "w"
      refine o_ne rfl ⟨_, rfl, fun h1 => ?_, fun h1 => ?_⟩
      · have h1 : ¬ z = x := by simpa using h1
        walk_at "w"
        refine ⟨by show 2 ≤ sizeLine; decide, fun t G4 gt e4 ht => ?_⟩
        refine ⟨line_gt (by omega), _, rfl, lD, e3.trans e4, rfl, ?_⟩
        rw [ft, if_pos (by simpa using h1), List.map_append, List.map_append]
        exact dpAll_app (dpAll_ex e4 _ _ hd3) (dpAll_one (dpAll_pair (q := (x, z)) ht))
      · have h1 : z = x := by simpa using h1
        refine ⟨_, rfl, lD, e3, rfl, ?_⟩
        rw [ft, if_neg (by simpa using h1), List.append_nil]
        exact hd3
    rintro vs G3 L3 D G4 e3 ⟨rfl, hd3⟩ e4 hD
    rw [List.length_map, List.take_length] at hd3
    walk_at "w"
    have l1 := dpAll_len hd
    have l2 := dpAll_len hd3
    have b1 := bnd (names.take i)
    have b2 := hrow x
    rw [List.length_map] at l1 l2
    rw [List.length_take] at b1
    refine m_extend upd_same (un_g _ _ hD) (line_ge (by omega)) ?_
    refine ⟨e2.trans (e3.trans e4), _, _, _, rfl, upd_upd, ?_⟩
    rw [flat_take _ ex, List.map_append]
    exact dpAll_app (dpAll_ex (e3.trans e4) _ _ hd) (dpAll_ex e4 _ _ hd3)
  · rintro σ G2 L2 e2 ⟨v2, v3, vf, rfl, rfl, hd⟩
    rw [List.length_map, List.take_length] at hd
    refine s_freeze lp fun G3 e3 hp => ?_
    walk_at "w"
    exact k _ G3 (e2.trans e3) ⟨p, vf, rfl, hp, dpAll_ex e3 _ _ hd⟩
theorem every_mem {names : List Str} {q : Str × Str} : q ∈ everyM names ↔ q.1 ∈ names ∧ q.2 ∈ names ∧ q.1 ≠ q.2 := by
  unfold everyM
  simp only [List.mem_flatMap, List.mem_map, List.mem_filter, decide_eq_true_eq]
  constructor
  · rintro ⟨a, ha, b, ⟨hb, hn⟩, rfl⟩
    exact ⟨ha, hb, Ne.symm hn⟩
  · rintro ⟨h1, h2, h3⟩
    exact ⟨q.1, h1, q.2, ⟨h2, Ne.symm h3⟩, rfl⟩
theorem nodup_map_inj {α β : Type} {f : α → β} (hf : ∀ a b, f a = f b → a = b) : ∀ {xs : List α}, xs.Nodup → (xs.map f).Nodup := fun h => List.pairwise_map.mpr (h.imp fun q e => q (hf _ _ e))
theorem every_nodup {names : List Str} (h : names.Nodup) : (everyM names).Nodup := by
  unfold everyM
  refine List.pairwise_flatMap.mpr ⟨fun a _ => nodup_map_inj (fun b c e => by simpa using e) (h.filter _), h.imp ?_⟩
  intro a b hab x hx y hy e
  obtain ⟨c, _, rfl⟩ := List.mem_map.mp hx
  obtain ⟨d, _, rfl⟩ := List.mem_map.mp hy
  exact hab (by simpa using congrArg Prod.fst e)
theorem every_len {names : List Str} (h : names.length ≤ 3) : (everyM names).length ≤ 9 := by
  have bnd : ∀ l : List Str, (l.flatMap fun a => (names.filter fun b => decide (b ≠ a)).map fun b => (a, b)).length ≤ l.length * 3 := fun l => by
    induction l with
    | nil => simp
    | cons o l ih =>
      rw [List.flatMap_cons, List.length_append, List.length_cons, Nat.add_mul, List.length_map]
      have := List.length_filter_le (fun b => decide (b ≠ o)) names
      omega
  have := bnd names
  unfold everyM
  omega
/-- the chain of the names -/
def chainM (names : List Str) (n : Nat) : List (Str × Str) := (List.range n).map fun i => (names.getD i "", names.getD (i + 1) "")
theorem getD_of {names : List Str} {i : Nat} (h : i < names.length) : names.getD i "" = names[i] := by
  rw [List.getD_eq_getElem?_getD, List.getElem?_eq_getElem h]
  rfl
theorem getD_ne {names : List Str} (hn : names.Nodup) {i j : Nat} (hi : i < names.length) (hj : j < names.length) (h : i ≠ j) : names.getD i "" ≠ names.getD j "" := by
  rw [getD_of hi, getD_of hj]
  exact fun e => h ((List.getElem_inj hn).mp e)
theorem chain_mem {names : List Str} (hn : names.Nodup) {n : Nat} (h : n + 1 ≤ names.length) : ∀ q ∈ chainM names n, q.1 ∈ names ∧ q.2 ∈ names ∧ q.1 ≠ q.2 := by
  intro q hq
  obtain ⟨i, hi, rfl⟩ := List.mem_map.mp hq
  have hi := List.mem_range.mp hi
  refine ⟨?_, ?_, getD_ne hn (by omega) (by omega) (by omega)⟩
  · show names.getD i "" ∈ names
    rw [getD_of (by omega)]
    exact List.getElem_mem _
  · show names.getD (i + 1) "" ∈ names
    rw [getD_of (by omega)]
    exact List.getElem_mem _
theorem chain_nodup {names : List Str} (hn : names.Nodup) {n : Nat} (h : n + 1 ≤ names.length) : (chainM names n).Nodup := by
  unfold chainM
  refine List.pairwise_map.mpr (List.nodup_range.imp_of_mem ?_)
  intro i j hi hj hij e
  have hi := List.mem_range.mp hi
  have hj := List.mem_range.mp hj
  exact getD_ne hn (i := i) (j := j) (by omega) (by omega) hij (congrArg Prod.fst e)
theorem ok_shape (T : Tx K mg) (G1 : FnOk Pg w K mg base CX0 2 (He.fAd K d__law_pick.at_) T.e__law_pick ["bag", "many"] (Spt (pm__law_pick K))) (G2 : FnOk Pg w K mg base CX0 1 (He.fAd K d__law_every.at_) T.e__law_every ["names"] (Spt (pm__law_every K))) :
    FnOk Pg w K mg base CX0 3 (He.fAd K d__law_shape.at_) T.e__law_shape ["bag", "names"] (Spt (pm__law_shape K)) := by
  refine okF T.F__law_shape sc__law_shape (fun vs G L R h => by obtain ⟨b, o, v, names, rfl, _⟩ := h; rfl) (run__law_shape T G2 G1) (fun vs G L R h => ?_)
  obtain ⟨b, o, v, names, rfl, hb, ho, hv, hn, n1, n3, k⟩ := h
  have hv0 := hv
  obtain ⟨a, rfl, ha⟩ := hv.strs
  show S (t__law_shape K) _ [some (.ref b), some (.ref a), none, none, none, none] G L
  unfold t__law_shape
  walk_at "w"
  refine ⟨b, 6, o, rfl, by decide, by decide, hb, ho, fun r o1 r0 r1 ho1 => ?_⟩
  walk_at "w"
  refine o_eq rfl ⟨_, rfl, fun h1 => ?_, fun h1 => ?_⟩
  · walk_at "w"
    refine ⟨_, names, rfl, hv0, by omega, fun z G2 e2 hz => ?_⟩
    exact k z G2 o1 _ e2 (ho1.ex e2) hz (every_nodup hn) (by have := every_len n3; omega) fun q hq => every_mem.mp hq
  walk_at "w"
  refine ⟨_, rfl, fun h2 => ?_, fun h2 => ?_⟩
  · walk_at "w"
    refine e_lc (wk_rng1 ?_)
    walk_at "w"
    refine c_len_seq (.inl (.of (un_g _ _ ha))) ?_
    walk_at "w"
    rw [List.length_map]
    refine ⟨_, rfl, by omega, by omega, ?_⟩
    have en : ((names.length : Int) - 1).toNat = names.length - 1 := by omega
    rw [en]
    refine ⟨fun i vs G2 L2 => L2 = upd L b o1 ∧ DpAll K G2 vs ((chainM names i).map encP), ⟨rfl, .nil⟩, ?_, ?_⟩
    · rintro i vs G2 L2 D hi e2 ⟨rfl, hd⟩ gD lD
      refine g_name ⟨rfl, ?_⟩
      walk_at "w"
      refine ⟨fun _ => ?_, (fun z => by cases z)⟩
      walk_at "w"
      have aU : ∀ {L : Hp}, SqL K (Un G2 L) a (names.map V.str) := .of (un_g _ _ (e2 _ _ ha))
      refine o_ixL aU (v := .str names[i]) (atI_of (by rw [List.getElem?_map, List.getElem?_eq_getElem (by omega)]; rfl)) ?_
      walk_at "w"
      refine o_ixL aU (i := ((i + 1 : Nat) : Int)) (v := .str names[i + 1]) (atI_of (by rw [List.getElem?_map, List.getElem?_eq_getElem (by omega)]; rfl)) ?_
      walk_at "w"
      refine ⟨by show 2 ≤ sizeLine; decide, fun t G3 gt e3 ht => ?_⟩
      have ll := dpAll_len hd
      rw [List.length_map] at ll
      unfold chainM at ll
      rw [List.length_map, List.length_range] at ll
      refine ⟨line_gt (by omega), _, rfl, lD, e2.trans e3, rfl, ?_⟩
      unfold chainM
      rw [List.range_succ, List.map_append, List.map_append]
      refine dpAll_app (dpAll_ex e3 _ _ hd) (dpAll_one ?_)
      show Dp K G3 (.ref t) (encP (names.getD i "", names.getD (i + 1) ""))
      rw [getD_of (by omega), getD_of (by omega)]
      exact dpAll_pair (q := (names[i], names[i + 1])) ht
    rintro vs G2 L2 D e2 ⟨rfl, hd⟩ gD lD
    have aU : ∀ {G3 L : Hp}, Ex G2 G3 → SqL K (Un G3 L) a (names.map V.str) := fun e => .of (un_g _ _ ((e2.trans e) _ _ ha))
    have cn : names.length - 1 + 1 = names.length := by omega
    have c1 := chain_nodup hn (n := names.length - 1) (by omega)
    have c2 := chain_mem hn (n := names.length - 1) (by omega)
    have cl : (chainM names (names.length - 1)).length = names.length - 1 := by simp [chainM]
    have ll := dpAll_len hd
    rw [List.length_map, cl] at ll
    have fin : ∀ N : L2.St → Hp → Hp → Prop, S (tRet (tVar 3)) { nx := N, rt := R } [some (.ref b), some (.ref a), some (.int r), some (.ref D), none, none] G2 (upd (upd L b o1) D (.lst vs)) := by
      intro N
      refine s_freeze lD fun G3 e3 hD => ?_
      walk_at "w"
      exact k _ G3 o1 _ (e2.trans e3) (ho1.ex (e2.trans e3)) ⟨D, vs, rfl, hD, dpAll_ex e3 _ _ hd⟩ c1 (by omega) c2
    walk_at "w"
    refine o_eq rfl ⟨_, rfl, fun h3 => ?_, fun h3 => ?_⟩
    · walk_at "w"
      refine c_len_seq (.inl (aU (.refl _))) ?_
      walk_at "w"
      rw [List.length_map]
      refine ⟨_, rfl, fun h4 => ?_, fun h4 => ?_⟩
      · have h4 : 1 < names.length := by
          have := of_decide_eq_true h4
          omega
        walk_at "w"
        refine ⟨D, vs, rfl, upd_same, ?_⟩
        walk_at "w"
        refine c_len_seq (.inl (aU (.refl _))) ?_
        walk_at "w"
        rw [List.length_map]
        refine o_ixL (aU (.refl _)) (v := .str names[names.length - 1]) ?_ ?_
        · have : ((names.length : Int) - 1) = ((names.length - 1 : Nat) : Int) := by omega
          rw [this]
          exact atI_of (by rw [List.getElem?_map, List.getElem?_eq_getElem (by omega)]; rfl)
        walk_at "w"
        refine o_ixL (aU (.refl _)) (i := ((0 : Nat) : Int)) (v := .str names[0]) (atI_of (by rw [List.getElem?_map, List.getElem?_eq_getElem (by omega)]; rfl)) ?_
        walk_at "w"
        refine ⟨by show 2 ≤ sizeLine; decide, fun t G3 gt e3 ht => ?_⟩
        walk_at "w"
        refine m_append upd_same (line_gt (by omega)) ?_
        rw [upd_upd]
        refine s_freeze lD fun G4 e4 hD => ?_
        walk_at "w"
        have e34 := e3.trans e4
        have nl : (names[names.length - 1]'(by omega), names[0]'(by omega)) ∉ chainM names (names.length - 1) := by
          intro m
          obtain ⟨i, hi, e⟩ := List.mem_map.mp m
          have hi := List.mem_range.mp hi
          have e1 := congrArg Prod.fst e
          simp only at e1
          rw [getD_of (by omega)] at e1
          have := (List.getElem_inj hn).mp e1
          omega
        refine k _ G4 o1 (chainM names (names.length - 1) ++ [(names[names.length - 1]'(by omega), names[0]'(by omega))]) (e2.trans e34) (ho1.ex (e2.trans e34)) ⟨D, _, rfl, hD, ?_⟩ ?_ ?_ ?_
        · rw [List.map_append]
          exact dpAll_app (dpAll_ex e34 _ _ hd) (dpAll_one (dpAll_pair (q := (names[names.length - 1]'(by omega), names[0]'(by omega))) (e4 _ _ ht)))
        · exact List.nodup_append.mpr ⟨c1, by simp, fun y hy z hz e => by
            have e2 := List.mem_singleton.mp hz
            rw [e2] at e
            exact nl (e ▸ hy)⟩
        · rw [List.length_append, cl]
          simp
          omega
        · intro q hq
          rcases List.mem_append.mp hq with hq | hq
          · exact c2 q hq
          · have e := List.mem_singleton.mp hq
            rw [e]
            refine ⟨List.getElem_mem _, List.getElem_mem _, fun e => ?_⟩
            have := (List.getElem_inj hn).mp e
            omega
      · exact s_next (fin _)
    · refine ⟨(fun z => by cases z), fun _ => ?_⟩
      exact s_next (fin _)
  walk_at "w"
  refine e_lstL (a_nil ⟨Nat.zero_le _, fun p gp lp => ?_⟩)
  walk_at "w"
  have bp : b ≠ p := fun e => by subst e; rw [upd_same] at lp; cases lp
  have lp0 : L p = none := by
    rw [upd_ne (Ne.symm bp)] at lp
    exact lp
  show S _ _ [some (.ref b), some (.ref a), some (.int r), some (.ref p), none, none] G _
  refine s_for (wk_list ?_)
  walk_at "w"
  refine ⟨_, names, rfl, hv0, by omega, fun z G2 e2 hz => ?_⟩
  obtain ⟨q, vq, rfl, hq, dq, lq⟩ := hz.len
  rw [List.length_map] at lq
  have le := every_len n3
  refine ⟨q, vq, rfl, .of hq, ?_⟩
  refine ⟨fun i σ G3 L3 => ∃ (v4 : Option V) (o : HO) (vf : List V) (ms : List (Str × Str)), σ = [some (.ref b), some (.ref a), some (.int r), some (.ref p), v4, none] ∧ BagO K G3 o ∧ L3 = upd (upd L b o) p (.lst vf) ∧ DpAll K G3 vf (ms.map encP) ∧ List.Sublist ms ((everyM names).take i),
    ⟨none, o1, [], [], rfl, ho1.ex e2, rfl, .nil, .refl _⟩, ?_, ?_⟩
  · rintro i σ G3 L3 hi e3 ⟨v4, o2, vf, ms, rfl, ho2, rfl, hd, sub⟩ y hy
    obtain ⟨x, ex, qx⟩ := dpAll_getE dq hy
    refine g_name ?_
    show S _ _ [some (.ref b), some (.ref a), some (.int r), some (.ref p), some y, none] G3 _
    walk_at "w"
    refine ⟨b, 3, o2, rfl, by decide, by decide, by rw [upd_ne bp, upd_same], ho2, fun r2 o3 r20 r21 ho3 => ?_⟩
    rw [upd_in1 bp]
    have ll := dpAll_len hd
    have sl := sub.length_le
    rw [List.length_map] at ll
    rw [List.length_take] at sl
    walk_at "w"
    refine o_ne rfl ⟨_, rfl, fun h3 => ?_, fun h3 => ?_⟩
    · walk_at "w"
      refine ⟨p, vf, rfl, upd_same, ?_⟩
      walk_at "w"
      refine m_append upd_same (line_gt (by omega)) ?_
      refine ⟨e3, _, o3, _, ms ++ [x], rfl, ho3, upd_upd, ?_, ?_⟩
      · rw [List.map_append]
        exact dpAll_app hd (dpAll_one (dp_ex e3 _ _ qx))
      · rw [List.take_add_one, ex]
        exact sub.append (.refl _)
    · walk_at "w"
      refine ⟨e3, _, o3, _, ms, rfl, ho3, rfl, hd, ?_⟩
      rw [List.take_add_one]
      exact sub.trans (List.sublist_append_left _ _)
  · rintro σ G3 L3 e3 ⟨v4, o2, vf, ms, rfl, ho2, rfl, hd, sub⟩
    rw [lq, List.take_length] at sub
    refine s_freeze (by rw [upd_ne (Ne.symm bp)]; exact lp0) fun G4 e4 hp => ?_
    walk_at "w"
    refine k _ G4 o2 ms (e2.trans (e3.trans e4)) (ho2.ex e4) ⟨p, vf, rfl, hp, dpAll_ex e4 _ _ hd⟩ (sub.nodup (every_nodup hn)) (Nat.le_trans sub.length_le (by omega)) fun q hq => every_mem.mp (sub.subset hq)
end
end T

set_option Elab.async false
set_option linter.all false
set_option maxRecDepth 100000
set_option maxHeartbeats 4000000
namespace T
open PySem PySem.Spec PyProof.Rows L2 KM
/-! the walk of readings -/
local macro_rules | `(tactic| walk_at "w1") => `(tactic| first | (with_reducible refine s_seq ?_) | (with_reducible refine s_asg ?_) | (with_reducible refine g_name ?_) | (with_reducible refine s_if ?_) | (with_reducible refine s_drop ?_) | (with_reducible refine s_ret ?_) | (with_reducible refine s_next ?_) | (with_reducible refine s_fld ?_) | (with_reducible refine b_test ?_) | (with_reducible refine b_B ?_) | (with_reducible refine b_and ?_) | (with_reducible refine b_or ?_) | (with_reducible refine b_not ?_) | (with_reducible refine b_truth ?_) | (with_reducible refine b_yes ?_) | (with_reducible refine e_c ?_) | (with_reducible refine e_op ?_) | (with_reducible refine e_un ?_) | (with_reducible refine e_cb ?_) | (with_reducible refine e_chain ?_) | (with_reducible refine e_if ?_) | (with_reducible refine e_andV ?_) | (with_reducible refine e_orV ?_) | (with_reducible refine e_notV ?_) | (with_reducible refine e_bmL ?_) | (with_reducible refine e_m1 ?_) | (with_reducible refine e_sl ?_) | (with_reducible refine e_tup ?_) | (with_reducible refine e_fld ?_) | (with_reducible refine e_call ?_) | (with_reducible refine e_meth ?_) | (with_reducible refine a_nil ?_) | (with_reducible refine a_cons ?_) | (with_reducible refine p_none ?_) | (with_reducible refine p_some ?_) | (with_reducible refine o_I0 ?_) | (with_reducible refine u_neg ?_) | (with_reducible refine c_int ?_) | (with_reducible refine c_abs ?_) | ((with_reducible refine' e_var ?hvar ?_); (case hvar => rfl)))
local macro_rules | `(tactic| walk_at "w") => `(tactic| repeat (walk_at "w1"))
local macro_rules | `(tactic| walk_at "ex") => `(tactic| first | assumption | exact Ex.refl _ | (refine Ex.trans ?_ (by assumption); walk_at "ex"))
section
variable {Pg : Program} {w : World} {K : PySem.W.Frag} {mg : Str → Option Value} {base : Heap} {G G' L : Hp}
/-- the filter by the writer, as a comprehension -/
theorem outs_take {ps : List (Str × Str)} {i : Nat} {pr : Str × Str} (e : ps[i]? = some pr) (a : Str) : outs (ps.take (i + 1)) a = outs (ps.take i) a ++ (if pr.1 = a then [pr] else []) := by
  unfold outs
  rw [filter_take _ e]
  by_cases h : pr.1 = a <;> simp [h]
theorem place_pair {t : List (Str × Str)} {x : Str × Str} (h : x ∈ t) : ∃ j, SeqAt.dataPlace (t.map encP) (encP x) = some j ∧ j < t.length ∧ t.eraseIdx j = t.erase x := by
  induction t with
  | nil => cases h
  | cons y t ih =>
    by_cases e : y = x
    · subst e
      refine ⟨0, ?_, by simp, by simp⟩
      unfold SeqAt.dataPlace
      rw [List.map_cons, List.findIdx?_cons]
      have : PyData.eqv (encP y) (encP y) = true := by rw [show PyData.eqv (encP y) (encP y) = decide (y = y) from pairO.eqv y y]; simp
      simp [this]
    · have hx : x ∈ t := by
        rcases List.mem_cons.mp h with q | q
        · exact absurd q.symm e
        · exact q
      obtain ⟨j, h1, h2, h3⟩ := ih hx
      refine ⟨j + 1, ?_, by simp; omega, ?_⟩
      · unfold SeqAt.dataPlace at h1 ⊢
        rw [List.map_cons, List.findIdx?_cons]
        have : PyData.eqv (encP y) (encP x) = false := by rw [show PyData.eqv (encP y) (encP x) = decide (y = x) from pairO.eqv y x]; simpa using e
        rw [this, h1]
        rfl
      · rw [List.eraseIdx_cons_succ, h3, List.erase_cons_tail (by simpa using e)]
theorem dpAll_erase : ∀ (j : Nat) {xs : List V} {ds : List PyData}, DpAll K G xs ds → DpAll K G (xs.eraseIdx j) (ds.eraseIdx j)
  | _, _, _, .nil => by simpa using DpAll.nil
  | 0, _, _, .cons _ h => by simpa using h
  | j + 1, _, _, .cons h1 h2 => by simpa using DpAll.cons h1 (dpAll_erase j h2)
theorem map_eraseIdx {α β : Type} (f : α → β) : ∀ (j : Nat) (xs : List α), (xs.map f).eraseIdx j = (xs.eraseIdx j).map f
  | _, [] => by simp
  | 0, x :: xs => by simp
  | j + 1, x :: xs => by simp [map_eraseIdx f j xs]
theorem run_prefix {ps : List (Str × Str)} : ∀ (i : Nat) {ord : List (Str × Str)} {s s' : List Str × List (Str × Str)} {x : Str × Str}, runM ps ord s = some s' → ord[i]? = some x → ∃ q, runM ps (ord.take i) s = some q ∧ x ∈ q.2
  | 0, y :: ord, s, s', x, h, e => by
    have e : y = x := by simpa using e
    subst e
    refine ⟨s, rfl, ?_⟩
    unfold runM at h
    split at h
    · assumption
    · cases h
  | i + 1, y :: ord, s, s', x, h, e => by
    unfold runM at h
    split at h
    · rename_i hy
      obtain ⟨q, h1, h2⟩ := run_prefix i h (by simpa using e)
      refine ⟨q, ?_, h2⟩
      rw [List.take_succ_cons]
      unfold runM
      rw [if_pos hy]
      exact h1
    · cases h
theorem run_learnt_len {ps : List (Str × Str)} {a : Str} {ord : List (Str × Str)} {s : List Str × List (Str × Str)} (h : runM ps ord (init ps a) = some s) : s.2.length ≤ ps.length ∧ ord.length ≤ ps.length := by
  have e := run_len h
  have := List.length_filter_le (fun p => decide (p.1 ∈ s.1)) ps
  omega
theorem learnt_step {ps : List (Str × Str)} (s : List Str × List (Str × Str)) (x : Str × Str) : (stepM ps s x).1.length ≤ s.1.length + 1 := by
  unfold stepM
  split <;> simp
theorem run_one {ps : List (Str × Str)} {a : Str} : ∀ (i : Nat) {ord : List (Str × Str)} {s : List Str × List (Str × Str)}, ord.length = i → runM ps ord (init ps a) = some s → s.1.length ≤ i + 1
  | 0, ord, s, h, e => by
    rw [List.eq_nil_of_length_eq_zero h] at e
    cases e
    simp [init]
  | i + 1, ord, s, h, e => by
    have hne : ord ≠ [] := fun z => by rw [z] at h; simp at h
    obtain ⟨ord0, x, rfl⟩ : ∃ o x, ord = o ++ [x] := ⟨ord.dropLast, ord.getLast hne, (List.dropLast_concat_getLast hne).symm⟩
    rw [runM_snoc] at e
    cases q : runM ps ord0 (init ps a) with
    | none => rw [q] at e; cases e
    | some s0 =>
      rw [q] at e
      simp only [Option.bind_some] at e
      split at e
      · cases e
        have := run_one i (by simpa using h) q
        have := learnt_step (ps := ps) s0 x
        omega
      · cases e
/-- the letters of one writer, made anew -/
theorem flt {i m : Nat} {te : TE} {σ : L2.St} {R : V → Hp → Hp → Prop} {ps : List (Str × Str)} {av : Addr} {xv : List V} {c : Str} (h0 : σ[i]? = some (some (.ref av))) (hm : m < σ.length) (hav : SqL K G av xv) (dv : DpAll K G xv (ps.map encP)) (hl : ps.length ≤ 1000)
    (ht : ∀ σ' G3 L3 (R' : V → Hp → Hp → Prop), (∀ i, i ≠ m → σ'[i]? = σ[i]?) → Ex G G3 → R' (.str c) G3 L3 → E te σ' G3 L3 R')
    (kk : ∀ D G3 vs, Ex G G3 → DpAll K G3 vs ((outs ps c).map encP) → G3 D = some (.lst vs) → R (.ref D) G3 L) :
    E (tLc (iList K (tVar i)) (gName m) (tTest (tOp rEq (tOp (rIxT K) (tVar m) (tC (.int 0))) te)) (tVar m) [m]) σ G L R := by
  have nv := dpAll_len dv
  rw [List.length_map] at nv
  refine e_lcG (wk_list (e_var h0 ⟨av, xv, rfl, hav, ?_⟩))
  refine ⟨fun i vs G3 L3 => L3 = L ∧ DpAll K G3 vs ((outs (ps.take i) c).map encP), ⟨rfl, .nil⟩, ?_, ?_⟩
  · rintro i vs G3 L3 D hi e3 ⟨rfl, hd⟩ gD lD y hy
    obtain ⟨pr, ep, qp⟩ := dpAll_getE dv hy
    obtain ⟨ty, rfl, hty⟩ := pair_of (dp_ex e3 _ _ qp)
    have ll := dpAll_len hd
    have lo : (outs (ps.take i) c).length ≤ (ps.take i).length := List.length_filter_le _ _
    rw [List.length_map] at ll
    rw [List.length_take] at lo
    have hw : wipe σ [m] = σ.set m none := rfl
    have h6 : (((wipe σ [m]).set m (some (V.ref ty)))[m]?) = some (some (V.ref ty)) := by
      rw [hw, List.getElem?_set_self (by simpa using hm)]
    refine g_name ⟨?_, ?_⟩
    · show ((σ.set m none).set m _).set m none = σ.set m none
      simp
    refine b_test (e_op (e_op (e_var h6 (e_c (o_ixT (sqt_ex un_g hty) (i := 0) (v := .str pr.1) rfl ?_)))))
    refine ht _ _ _ _ (fun i hi => ?_) e3 ?_
    · rw [hw, List.getElem?_set_ne (Ne.symm hi), List.getElem?_set_ne (Ne.symm hi)]
    refine o_eq rfl ⟨_, rfl, fun h1 => ?_, fun h1 => ?_⟩
    · have h1 : pr.1 = c := by simpa using h1
      refine e_var h6 ⟨line_gt (by omega), _, rfl, lD, e3, rfl, ?_⟩
      rw [outs_take ep, if_pos h1, List.map_append]
      exact dpAll_app hd (dpAll_one (dp_ex e3 _ _ qp))
    · have h1 : ¬ pr.1 = c := by simpa using h1
      refine ⟨_, rfl, lD, e3, rfl, ?_⟩
      rw [outs_take ep, if_neg h1, List.append_nil]
      exact hd
  · rintro vs G3 L3 D G4 e3 ⟨rfl, hd⟩ e4 hD
    rw [nv, List.take_length] at hd
    exact kk D G4 vs (e3.trans e4) (dpAll_ex e4 _ _ hd) hD
/-- .. owned -/
theorem fltL {i m : Nat} {te : TE} {σ : L2.St} {R : V → Hp → Hp → Prop} {ps : List (Str × Str)} {av : Addr} {xv : List V} {c : Str} (h0 : σ[i]? = some (some (.ref av))) (hm : m < σ.length) (hav : SqL K G av xv) (dv : DpAll K G xv (ps.map encP)) (hl : ps.length ≤ 1000)
    (ht : ∀ σ' G3 L3 (R' : V → Hp → Hp → Prop), (∀ i, i ≠ m → σ'[i]? = σ[i]?) → Ex G G3 → R' (.str c) G3 L3 → E te σ' G3 L3 R')
    (kk : ∀ D G3 vs, Ex G G3 → DpAll K G3 vs ((outs ps c).map encP) → G3 D = none → L D = none → R (.ref D) G3 (upd L D (.lst vs))) :
    E (tLc (iList K (tVar i)) (gName m) (tTest (tOp rEq (tOp (rIxT K) (tVar m) (tC (.int 0))) te)) (tVar m) [m]) σ G L R := by
  have nv := dpAll_len dv
  rw [List.length_map] at nv
  refine e_lc (wk_list (e_var h0 ⟨av, xv, rfl, hav, ?_⟩))
  refine ⟨fun i vs G3 L3 => L3 = L ∧ DpAll K G3 vs ((outs (ps.take i) c).map encP), ⟨rfl, .nil⟩, ?_, ?_⟩
  · rintro i vs G3 L3 D hi e3 ⟨rfl, hd⟩ gD lD y hy
    obtain ⟨pr, ep, qp⟩ := dpAll_getE dv hy
    obtain ⟨ty, rfl, hty⟩ := pair_of (dp_ex e3 _ _ qp)
    have ll := dpAll_len hd
    have lo : (outs (ps.take i) c).length ≤ (ps.take i).length := List.length_filter_le _ _
    rw [List.length_map] at ll
    rw [List.length_take] at lo
    have hw : wipe σ [m] = σ.set m none := rfl
    have h6 : (((wipe σ [m]).set m (some (V.ref ty)))[m]?) = some (some (V.ref ty)) := by
      rw [hw, List.getElem?_set_self (by simpa using hm)]
    refine g_name ⟨?_, ?_⟩
    · show ((σ.set m none).set m _).set m none = σ.set m none
      simp
    refine b_test (e_op (e_op (e_var h6 (e_c (o_ixT (sqt_ex un_g hty) (i := 0) (v := .str pr.1) rfl ?_)))))
    refine ht _ _ _ _ (fun i hi => ?_) e3 ?_
    · rw [hw, List.getElem?_set_ne (Ne.symm hi), List.getElem?_set_ne (Ne.symm hi)]
    refine o_eq rfl ⟨_, rfl, fun h1 => ?_, fun h1 => ?_⟩
    · have h1 : pr.1 = c := by simpa using h1
      refine e_var h6 ⟨line_gt (by omega), _, rfl, lD, e3, rfl, ?_⟩
      rw [outs_take ep, if_pos h1, List.map_append]
      exact dpAll_app hd (dpAll_one (dp_ex e3 _ _ qp))
    · have h1 : ¬ pr.1 = c := by simpa using h1
      refine ⟨_, rfl, lD, e3, rfl, ?_⟩
      rw [outs_take ep, if_neg h1, List.append_nil]
      exact hd
  · rintro vs G3 L3 D e3 ⟨rfl, hd⟩ gD lD
    rw [nv, List.take_length] at hd
    exact kk D G3 vs e3 hd gD lD
theorem ok_walked (T : Tx K mg) : FnOk Pg w K mg base CX0 1 (He.fAd K d__law_walked.at_) T.e__law_walked ["pairs", "office", "order"] (Spt (pm__law_walked K)) := by
  refine okF T.F__law_walked sc__law_walked (fun vs G L R h => by obtain ⟨v, u, ps, a, ord, l, rfl, _⟩ := h; rfl) (run__law_walked T) (fun vs G L R h => ?_)
  obtain ⟨v, u, ps, a, ord, l, rfl, hv, hu, hl, hr, k⟩ := h
  obtain ⟨av, xv, rfl, hav, dv, nv⟩ := hv.len
  rw [List.length_map] at nv
  have hu' : Dp K G u (.tuple (ord.map encP)) := hu
  obtain ⟨au, xu, rfl, hau, du, nu⟩ := tup_of hu'
  rw [List.length_map] at nu
  have ol := run_max hr
  show S (t__law_walked K) _ [some (.ref av), some (.str a), some (.ref au), none, none, none, none] G L
  unfold t__law_walked
  walk_at "w"
  refine e_lstL ?_
  walk_at "w"
  refine ⟨by show 1 ≤ sizeLine; decide, fun j gj lj => ?_⟩
  refine g_name (s_seq (s_asg ?_))
  refine fltL (c := a) (ps := ps) rfl (by show 6 < 7; decide) (.of hav) dv hl (fun σ' G3 L3 R' hs e3 r => e_var ((hs 1 (by decide)).trans rfl) r) fun D G3 vs e3 hd gD lD => ?_
  have jD : j ≠ D := fun e => by subst e; rw [upd_same] at lD; cases lD
  rw [upd_ne (Ne.symm jD)] at lD
  refine g_name (s_seq ?_)
  show S _ _ [some (.ref av), some (.str a), some (.ref au), some (.ref j), some (.ref D), none, none] G3 _
  refine s_for (wk_tup (e_var rfl ⟨au, xu, rfl, sqt_ex e3 hau, ?_⟩))
  refine ⟨fun i σ G2 L2 => ∃ (v5 : Option V) (D : Addr) (le : List Str) (t : List (Str × Str)) (vt : List V), σ = [some (.ref av), some (.str a), some (.ref au), some (.ref j), some (.ref D), v5, none] ∧ L2 = upd (upd L j (.lst (le.map V.str))) D (.lst vt) ∧ L D = none ∧ j ≠ D ∧ DpAll K G2 vt (t.map encP) ∧ runM ps (ord.take i) (init ps a) = some (le, t),
    ⟨none, D, [a], outs ps a, vs, rfl, rfl, lD, jD, hd, rfl⟩, ?_, ?_⟩
  · rintro i σ G2 L2 hi e2 ⟨v5, D, le, t, vt, rfl, rfl, lD, jD, hd, hrun⟩ y hy
    obtain ⟨x, ex, qx⟩ := dpAll_getE du hy
    obtain ⟨q, hq1, hq2⟩ := run_prefix i hr ex
    rw [hrun] at hq1
    cases hq1
    have ox := dp_ex (e3.trans e2) _ _ qx
    obtain ⟨ty, rfl, hty⟩ := pair_of ox
    have lle : le.length ≤ i + 1 := run_one i (by rw [List.length_take]; have := lt_of_get ex; omega) hrun
    have llt : t.length ≤ ps.length := (run_learnt_len hrun).1
    have lv := dpAll_len hd
    rw [List.length_map] at lv
    have hstep : runM ps (ord.take (i + 1)) (init ps a) = some (stepM ps (le, t) x) := by
      rw [List.take_add_one, ex]
      show runM ps (ord.take i ++ [x]) (init ps a) = _
      rw [runM_snoc, hrun]
      show (if x ∈ t then some (stepM ps (le, t) x) else none) = _
      rw [if_pos hq2]
    obtain ⟨pj, pj1, pj2, pj3⟩ := place_pair hq2
    refine g_name (s_seq ?_)
    show S _ _ [some (.ref av), some (.str a), some (.ref au), some (.ref j), some (.ref D), some (.ref ty), none] G2 _
    refine s_own upd_same fun gD => ?_
    have Lj : ∀ {o}, (upd (upd L j (.lst (le.map V.str))) D o) j = some (.lst (le.map V.str)) := by
      intro o
      rw [upd_ne jD, upd_same]
    refine s_own Lj fun gj => ?_
    walk_at "w"
    refine o_notInP (a := encP x) (bs := t.map encP) (dp_ex un_g _ _ ox) (.inl (.lst (.of (un_l upd_same gD)) (dpAll_ex un_g _ _ hd))) (pairO.ok _) (pairO.plain _) ?_
    rw [any_pair, decide_eq_true hq2]
    refine ⟨_, rfl, (fun z => by cases z), fun _ => ?_⟩
    walk_at "w"
    refine ⟨D, vt, rfl, upd_same, ?_⟩
    walk_at "w"
    refine m_removeP upd_same hd ox (pairO.plain _) (pairO.ok _) pj1 ?_
    rw [upd_upd]
    walk_at "w"
    refine o_ixT (sqt_ex un_g hty) (i := 1) (v := .str x.2) rfl ?_
    walk_at "w"
    refine o_notInP (a := .str x.2) (bs := le.map .str) (.str _) (.inl (.lst (.of (un_l Lj gj)) (dpAll_of_strs _))) (strO.ok _) (strO.plain _) ?_
    rw [any_str]
    have hd2 : DpAll K G2 (vt.eraseIdx pj) ((t.erase x).map encP) := by
      have := dpAll_erase pj hd
      rw [map_eraseIdx, pj3] at this
      exact this
    refine ⟨_, rfl, fun h1 => ?_, fun h1 => ?_⟩
    · have h1 : x.2 ∉ le := by simpa using h1
      walk_at "w"
      refine ⟨j, _, rfl, Lj, ?_⟩
      walk_at "w"
      refine o_ixT (sqt_ex un_g hty) (i := 1) (v := .str x.2) rfl ?_
      walk_at "w"
      refine m_append Lj (line_gt (by rw [List.length_map]; omega)) ?_
      rw [upd_in1 jD]
      refine s_asg ?_
      show E _ [some (.ref av), some (.str a), some (.ref au), some (.ref j), some (.ref D), some (.ref ty), none] G2 _ _
      refine e_freeze (by rw [upd_ne (Ne.symm jD)]; exact lD) fun G4 e4 hD => ?_
      refine e_op (e_var rfl ?_)
      refine flt (c := x.2) (ps := ps) rfl (by show 6 < 7; decide) (.of ((e3.trans (e2.trans e4)) _ _ hav)) (dpAll_ex (e3.trans (e2.trans e4)) _ _ dv) hl (fun σ' G5 L5 R' hs e5 r => e_op (e_var ((hs 5 (by decide)).trans rfl) (e_c (o_ixT (sqt_ex (e4.trans (e5.trans un_g)) hty) (i := 1) (v := .str x.2) rfl r)))) fun D2 G5 vs2 e5 hd5 hD2 => ?_
      have l2 := dpAll_len hd5
      have l3 : (outs ps x.2).length ≤ ps.length := List.length_filter_le _ _
      have l4 := dpAll_len hd2
      have l5 := List.length_erase_le (a := x) (l := t)
      rw [List.length_map] at l2 l4
      refine o_catL (un_g _ _ (e5 _ _ hD)) (un_g _ _ hD2) (line_ge (by omega)) fun p gp lp => ?_
      have jp : j ≠ p := fun e => by subst e; rw [upd_same] at lp; cases lp
      rw [upd_ne (Ne.symm jp)] at lp
      refine g_name ?_
      refine ⟨e2.trans (e4.trans e5), _, p, le ++ [x.2], t.erase x ++ outs ps x.2, vt.eraseIdx pj ++ vs2, rfl, ?_, lp, jp, ?_, ?_⟩
      · rw [List.map_append]
        rfl
      · rw [List.map_append]
        exact dpAll_app (dpAll_ex (e4.trans e5) _ _ hd2) hd5
      · rw [hstep]
        unfold stepM
        rw [if_neg h1]
    · have h1 : x.2 ∈ le := by simpa using h1
      walk_at "w"
      refine ⟨e2, _, D, le, t.erase x, _, rfl, rfl, lD, jD, hd2, ?_⟩
      rw [hstep]
      unfold stepM
      rw [if_pos h1]
  · rintro σ G2 L2 e2 ⟨v5, D, le, t, vt, rfl, rfl, lD, jD, hd, hrun⟩
    rw [nu, List.take_length, hr] at hrun
    cases hrun
    have hvt : vt = [] := List.eq_nil_of_length_eq_zero (by simpa using dpAll_len hd)
    subst hvt
    show S _ _ [some (.ref av), some (.str a), some (.ref au), some (.ref j), some (.ref D), v5, none] G2 _
    refine s_own upd_same fun gD => ?_
    walk_at "w"
    refine ⟨false, .inl ⟨[], .of (un_l upd_same gD), rfl⟩, (fun z => by cases z), fun _ => ?_⟩
    refine s_next ?_
    refine s_forget (by rw [upd_ne (Ne.symm jD)]; exact lD) ?_
    refine s_freeze lj fun G4 e4 hj => ?_
    walk_at "w"
    exact k _ G4 (e3.trans (e2.trans e4)) ⟨j, _, rfl, hj, dpAll_of_strs _⟩
end
end T

set_option Elab.async false
set_option linter.all false
set_option maxRecDepth 100000
set_option maxHeartbeats 4000000
namespace T
open PySem PySem.Spec PyProof.Rows L2 KM
/-! the walk of readings -/
local macro_rules | `(tactic| walk_at "w1") => `(tactic| first | (with_reducible refine s_seq ?_) | (with_reducible refine s_asg ?_) | (with_reducible refine g_name ?_) | (with_reducible refine s_if ?_) | (with_reducible refine s_drop ?_) | (with_reducible refine s_ret ?_) | (with_reducible refine s_next ?_) | (with_reducible refine s_fld ?_) | (with_reducible refine b_test ?_) | (with_reducible refine b_B ?_) | (with_reducible refine b_and ?_) | (with_reducible refine b_or ?_) | (with_reducible refine b_not ?_) | (with_reducible refine b_truth ?_) | (with_reducible refine b_yes ?_) | (with_reducible refine e_c ?_) | (with_reducible refine e_op ?_) | (with_reducible refine e_un ?_) | (with_reducible refine e_cb ?_) | (with_reducible refine e_chain ?_) | (with_reducible refine e_if ?_) | (with_reducible refine e_andV ?_) | (with_reducible refine e_orV ?_) | (with_reducible refine e_notV ?_) | (with_reducible refine e_bmL ?_) | (with_reducible refine e_m1 ?_) | (with_reducible refine e_sl ?_) | (with_reducible refine e_tup ?_) | (with_reducible refine e_fld ?_) | (with_reducible refine e_call ?_) | (with_reducible refine e_meth ?_) | (with_reducible refine a_nil ?_) | (with_reducible refine a_cons ?_) | (with_reducible refine p_none ?_) | (with_reducible refine p_some ?_) | (with_reducible refine o_I0 ?_) | (with_reducible refine u_neg ?_) | (with_reducible refine c_int ?_) | (with_reducible refine c_abs ?_) | ((with_reducible refine' e_var ?hvar ?_); (case hvar => rfl)))
local macro_rules | `(tactic| walk_at "w") => `(tactic| repeat (walk_at "w1"))
local macro_rules | `(tactic| walk_at "ex") => `(tactic| first | assumption | exact Ex.refl _ | (refine Ex.trans ?_ (by assumption); walk_at "ex"))
section
variable {Pg : Program} {w : World} {K : PySem.W.Frag} {mg : Str → Option Value} {base : Heap} {G G' L : Hp}
theorem eraseIdx_perm {t : List (Str × Str)} {n : Nat} (h : n < t.length) : (t.eraseIdx n).Perm (t.erase t[n]) := by
  have h1 := List.getElem_cons_eraseIdx_perm' h
  have h2 := List.perm_cons_erase (a := t[n]) (l := t) (List.getElem_mem h)
  exact (List.perm_cons _).mp (h1.trans h2)
theorem ok_through (T : Tx K mg) (G1 : FnOk Pg w K mg base CX0 2 (He.fAd K d__law_pick.at_) T.e__law_pick ["bag", "many"] (Spt (pm__law_pick K))) :
    FnOk Pg w K mg base CX0 3 (He.fAd K d__law_read_through.at_) T.e__law_read_through ["bag", "pairs", "office"] (Spt (pm__law_read_through K)) := by
  refine okF T.F__law_read_through sc__law_read_through (fun vs G L R h => by obtain ⟨b, o, v, ps, a, rfl, _⟩ := h; rfl) (run__law_read_through T G1) (fun vs G L R h => ?_)
  obtain ⟨b, o, v, ps, a, rfl, hb, ho, hv, hl, k⟩ := h
  obtain ⟨av, xv, rfl, hav, dv, nv⟩ := hv.len
  rw [List.length_map] at nv
  show S (t__law_read_through K) _ [some (.ref b), some (.ref av), some (.str a), none, none, none, none, none, none] G L
  unfold t__law_read_through
  walk_at "w"
  refine e_lstL ?_
  walk_at "w"
  refine ⟨by show 1 ≤ sizeLine; decide, fun j gj lj => ?_⟩
  have bj : b ≠ j := fun e => by subst e; rw [hb] at lj; cases lj
  refine g_name (s_seq (s_asg ?_))
  refine fltL (c := a) (ps := ps) rfl (by show 8 < 9; decide) (.of hav) dv hl (fun σ' G3 L3 R' hs e3 r => e_var ((hs 2 (by decide)).trans rfl) r) fun D G3 vs e3 hd gD lD => ?_
  have jD : j ≠ D := fun e => by subst e; rw [upd_same] at lD; cases lD
  have lD : L D = none := by
    rw [upd_ne (Ne.symm jD)] at lD
    exact lD
  have bD : b ≠ D := fun e => by subst e; rw [hb] at lD; cases lD
  refine g_name (s_seq (s_asg ?_))
  refine e_lstL (a_nil ⟨Nat.zero_le _, fun p gp lp => ?_⟩)
  have pD : p ≠ D := fun e => by subst e; rw [upd_same] at lp; cases lp
  rw [upd_ne pD] at lp
  have pj : p ≠ j := fun e => by subst e; rw [upd_same] at lp; cases lp
  rw [upd_ne pj] at lp
  have bp : b ≠ p := fun e => by subst e; rw [hb] at lp; cases lp
  refine g_name (s_seq ?_)
  show S _ _ [some (.ref b), some (.ref av), some (.str a), some (.ref j), some (.ref D), some (.ref p), none, none, none] G3 _
  refine s_for (wk_rng1 ?_)
  walk_at "w"
  refine c_len_seq (.inl (.of (un_g _ _ (e3 _ _ hav)))) ?_
  walk_at "w"
  refine ⟨_, rfl, by omega, by omega, ?_⟩
  rw [Int.toNat_natCast, nv]
  -- owned: the bag b, learnt j, order p, left D
  refine ⟨fun i σ G2 L2 => ∃ (v6 v7 : Option V) (D : Addr) (o : HO) (le : List Str) (t t' ord : List (Str × Str)) (vt vo : List V), σ = [some (.ref b), some (.ref av), some (.str a), some (.ref j), some (.ref D), some (.ref p), v6, v7, none] ∧ BagO K G2 o ∧
      L2 = upd (upd (upd (upd L b o) j (.lst (le.map V.str))) p (.lst vo)) D (.lst vt) ∧ L D = none ∧ j ≠ D ∧ b ≠ D ∧ p ≠ D ∧ DpAll K G2 vt (t.map encP) ∧ DpAll K G2 vo (ord.map encP) ∧ t'.Perm t ∧ runM ps ord (init ps a) = some (le, t') ∧ (t = [] ∨ ord.length = i),
    ⟨none, none, D, o, [a], outs ps a, outs ps a, [], vs, [], rfl, ho.ex e3, ?_, lD, jD, bD, pD, hd, .nil, .refl _, rfl, .inr rfl⟩, ?_, ?_⟩
  · have e : upd L b o = L := by
      funext c
      unfold upd
      split
      · rename_i e
        rw [e, hb]
      · rfl
    rw [e, upd_comm (Ne.symm pD)]
    rfl
  · rintro i σ G2 L2 hi e2 ⟨v6, v7, D, o, le, t, t', ord, vt, vo, rfl, ho, rfl, lD, jD, bD, pD, hd, hdo, pe, hrun, hend⟩
    refine g_name ?_
    show S _ _ [some (.ref b), some (.ref av), some (.str a), some (.ref j), some (.ref D), some (.ref p), some (.int (i : Int)), v7, none] G2 _
    have lv := dpAll_len hd
    have lo := dpAll_len hdo
    rw [List.length_map] at lv lo
    have olm := run_max hrun
    have lle : le.length ≤ ord.length + 1 := run_one ord.length rfl hrun
    have llt : t'.length ≤ ps.length := (run_learnt_len hrun).1
    have lpe := pe.length_eq
    refine s_own upd_same fun gD => ?_
    have L_b : ∀ {o1 o2 o3 o4}, (upd (upd (upd (upd L b o1) j o2) p o3) D o4) b = some o1 := by
      intro o1 o2 o3 o4
      rw [upd_ne bD, upd_ne bp, upd_ne bj, upd_same]
    have L_j : ∀ {o1 o2 o3 o4}, (upd (upd (upd (upd L b o1) j o2) p o3) D o4) j = some o2 := by
      intro o1 o2 o3 o4
      rw [upd_ne jD, upd_ne (Ne.symm pj), upd_same]
    have L_p : ∀ {o1 o2 o3 o4}, (upd (upd (upd (upd L b o1) j o2) p o3) D o4) p = some o3 := by
      intro o1 o2 o3 o4
      rw [upd_ne pD, upd_same]
    have U_b : ∀ {o1 o2 o3 o4 o5}, upd (upd (upd (upd (upd L b o1) j o2) p o3) D o4) b o5 = upd (upd (upd (upd L b o5) j o2) p o3) D o4 := by
      intro o1 o2 o3 o4 o5
      rw [upd_comm (Ne.symm bD), upd_in2 bj bp]
    have U_j : ∀ {o1 o2 o3 o4 o5}, upd (upd (upd (upd (upd L b o1) j o2) p o3) D o4) j o5 = upd (upd (upd (upd L b o1) j o5) p o3) D o4 := by
      intro o1 o2 o3 o4 o5
      rw [upd_in2 (Ne.symm pj) jD]
    have U_p : ∀ {o1 o2 o3 o4 o5}, upd (upd (upd (upd (upd L b o1) j o2) p o3) D o4) p o5 = upd (upd (upd (upd L b o1) j o2) p o5) D o4 := by
      intro o1 o2 o3 o4 o5
      rw [upd_in1 pD]
    walk_at "w"
    refine ⟨!vt.isEmpty, .inl ⟨vt, .of (un_l upd_same gD), rfl⟩, fun h1 => ?_, fun h1 => ?_⟩
    · have h1 : vt ≠ [] := fun e => by rw [e] at h1; cases h1
      have h1l : 0 < vt.length := List.length_pos_iff.mpr h1
      have hord : ord.length = i := by
        rcases hend with e | e
        · rw [e] at lv
          simp at lv
          rw [lv] at h1l
          simp at h1l
        · exact e
      walk_at "w"
      refine ⟨D, vt, rfl, upd_same, ?_⟩
      walk_at "w"
      refine c_len_seq (.inl (.of (un_l upd_same gD))) ?_
      walk_at "w"
      refine ⟨b, vt.length, o, rfl, by omega, by omega, L_b, ho, fun r o' r0 r1 ho' => ?_⟩
      rw [U_b]
      obtain ⟨n, rfl⟩ := Int.eq_ofNat_of_zero_le r0
      have hn : n < vt.length := by omega
      have hnt : n < t.length := by omega
      walk_at "w"
      refine m_popAt (xs := vt) (j := n) (y := vt[n]) upd_same (by omega) (by omega) (seqIx hn) (List.getElem?_eq_getElem hn) ?_
      rw [upd_upd]
      obtain ⟨x, ex, ox⟩ := dpAll_getE hd (List.getElem?_eq_getElem hn)
      rw [List.getElem?_eq_getElem hnt] at ex
      have ex : t[n] = x := by simpa using ex
      generalize vt[n] = y at ox
      obtain ⟨ty, rfl, hty⟩ := pair_of ox
      have hxt : x ∈ t' := pe.mem_iff.mpr (ex ▸ List.getElem_mem hnt)
      have hstep : runM ps (ord ++ [x]) (init ps a) = some (stepM ps (le, t') x) := by
        rw [runM_snoc, hrun]
        show (if x ∈ t' then some (stepM ps (le, t') x) else none) = _
        rw [if_pos hxt]
      have sp := step_perm (ps := ps) (s := (le, t')) (s' := (le, t)) (x := x) rfl pe
      have pe2 : (t.erase x).Perm (t.eraseIdx n) := by
        rw [← ex]
        exact (eraseIdx_perm hnt).symm
      have hd2 : DpAll K G2 (vt.eraseIdx n) ((t.eraseIdx n).map encP) := by
        have := dpAll_erase n hd
        rw [map_eraseIdx] at this
        exact this
      refine g_name ?_
      show S _ _ [some (.ref b), some (.ref av), some (.str a), some (.ref j), some (.ref D), some (.ref p), some (.int (i : Int)), some (.ref ty), none] G2 _
      walk_at "w"
      refine ⟨p, vo, rfl, L_p, ?_⟩
      walk_at "w"
      refine m_append L_p (line_gt (by omega)) ?_
      rw [U_p]
      have hdo2 : DpAll K G2 (vo ++ [V.ref ty]) ((ord ++ [x]).map encP) := by
        rw [List.map_append]
        exact dpAll_app hdo (dpAll_one ox)
      refine s_own L_j fun gj => ?_
      walk_at "w"
      refine o_ixT (sqt_ex un_g hty) (i := 1) (v := .str x.2) rfl ?_
      walk_at "w"
      refine o_notInP (a := .str x.2) (bs := le.map .str) (.str _) (.inl (.lst (.of (un_l L_j gj)) (dpAll_of_strs _))) (strO.ok _) (strO.plain _) ?_
      rw [any_str]
      refine ⟨_, rfl, fun h2 => ?_, fun h2 => ?_⟩
      · have h2 : x.2 ∉ le := by simpa using h2
        walk_at "w"
        refine ⟨j, _, rfl, L_j, ?_⟩
        walk_at "w"
        refine o_ixT (sqt_ex un_g hty) (i := 1) (v := .str x.2) rfl ?_
        walk_at "w"
        refine m_append L_j (line_gt (by rw [List.length_map]; omega)) ?_
        rw [U_j]
        refine s_asg ?_
        show E _ [some (.ref b), some (.ref av), some (.str a), some (.ref j), some (.ref D), some (.ref p), some (.int (i : Int)), some (.ref ty), none] G2 _ _
        refine e_freeze (by rw [upd_ne (Ne.symm pD), upd_ne (Ne.symm jD), upd_ne (Ne.symm bD)]; exact lD) fun G4 e4 hD => ?_
        refine e_op (e_var rfl ?_)
        refine flt (c := x.2) (ps := ps) rfl (by show 8 < 9; decide) (.of ((e3.trans (e2.trans e4)) _ _ hav)) (dpAll_ex (e3.trans (e2.trans e4)) _ _ dv) hl (fun σ' G5 L5 R' hs e5 r => e_op (e_var ((hs 7 (by decide)).trans rfl) (e_c (o_ixT (sqt_ex (e4.trans (e5.trans un_g)) hty) (i := 1) (v := .str x.2) rfl r)))) fun D2 G5 vs2 e5 hd5 hD2 => ?_
        have l2 := dpAll_len hd5
        have l3 : (outs ps x.2).length ≤ ps.length := List.length_filter_le _ _
        have l4 := List.length_eraseIdx_le vt n
        rw [List.length_map] at l2
        refine o_catL (un_g _ _ (e5 _ _ hD)) (un_g _ _ hD2) (line_ge (by omega)) fun D3 gp lp3 => ?_
        have pD3 : p ≠ D3 := fun e => by subst e; rw [upd_same] at lp3; cases lp3
        rw [upd_ne (Ne.symm pD3)] at lp3
        have jD3 : j ≠ D3 := fun e => by subst e; rw [upd_same] at lp3; cases lp3
        rw [upd_ne (Ne.symm jD3)] at lp3
        have bD3 : b ≠ D3 := fun e => by subst e; rw [upd_same] at lp3; cases lp3
        rw [upd_ne (Ne.symm bD3)] at lp3
        refine g_name ?_
        have e45 := e4.trans e5
        refine ⟨e2.trans e45, _, _, D3, o', le ++ [x.2], t.eraseIdx n ++ outs ps x.2, (stepM ps (le, t') x).2, ord ++ [x], vt.eraseIdx n ++ vs2, vo ++ [.ref ty], rfl, ho'.ex e45, ?_, lp3, jD3, bD3, pD3, ?_, dpAll_ex e45 _ _ hdo2, ?_, ?_, .inr (by simp [hord])⟩
        · rw [List.map_append]
          rfl
        · rw [List.map_append]
          exact dpAll_app (dpAll_ex e45 _ _ hd2) hd5
        · refine sp.2.trans ?_
          unfold stepM
          rw [if_neg h2]
          exact pe2.append_right _
        · rw [hstep]
          unfold stepM
          rw [if_neg h2]
      · have h2 : x.2 ∈ le := by simpa using h2
        walk_at "w"
        refine ⟨e2, _, _, D, o', le, t.eraseIdx n, (stepM ps (le, t') x).2, ord ++ [x], _, _, rfl, ho', rfl, lD, jD, bD, pD, hd2, hdo2, ?_, ?_, .inr (by simp [hord])⟩
        · refine sp.2.trans ?_
          unfold stepM
          rw [if_pos h2]
          exact pe2
        · rw [hstep]
          unfold stepM
          rw [if_pos h2]
    · have h1 : vt = [] := by
        cases vt with
        | nil => rfl
        | cons x xs => cases h1
      refine s_next ?_
      have ht : t = [] := List.eq_nil_of_length_eq_zero (by rw [← lv, h1]; rfl)
      exact ⟨e2, _, _, D, o, le, t, t', ord, vt, vo, rfl, ho, rfl, lD, jD, bD, pD, hd, hdo, pe, hrun, .inl ht⟩
  · rintro σ G2 L2 e2 ⟨v6, v7, D, o, le, t, t', ord, vt, vo, rfl, ho, rfl, lD, jD, bD, pD, hd, hdo, pe, hrun, hend⟩
    have ht' : t' = [] := by
      rcases hend with e | e
      · rw [e] at pe
        exact pe.eq_nil
      · have e1 := run_len hrun
        have := List.length_filter_le (fun p => decide (p.1 ∈ le)) ps
        simp only at e1
        exact List.eq_nil_of_length_eq_zero (by omega)
    rw [ht'] at hrun
    have olm := run_max hrun
    have lo := dpAll_len hdo
    rw [List.length_map] at lo
    show S _ _ [some (.ref b), some (.ref av), some (.str a), some (.ref j), some (.ref D), some (.ref p), v6, v7, none] G2 _
    refine s_forget (by rw [upd_ne (Ne.symm pD), upd_ne (Ne.symm jD), upd_ne (Ne.symm bD)]; exact lD) ?_
    refine s_freeze (by rw [upd_ne pj, upd_ne (Ne.symm bp)]; exact lp) fun G4 e4 hp => ?_
    refine s_forget (by rw [upd_ne (Ne.symm bj)]; exact lj) ?_
    walk_at "w"
    refine c_tuple (.of (un_g _ _ hp)) fun q G5 e5 hq => ?_
    have e45 := e4.trans e5
    exact k _ G5 o ord le (e3.trans (e2.trans e45)) (ho.ex e45) (.tup (.of hq) (dpAll_ex e45 _ _ hdo)) hrun
end
end T

set_option Elab.async false
set_option linter.all false
set_option maxRecDepth 100000
set_option maxHeartbeats 4000000
namespace T
open PySem PySem.Spec PyProof.Rows L2 KM
/-! the walk of readings -/
local macro_rules | `(tactic| walk_at "w1") => `(tactic| first | (with_reducible refine s_seq ?_) | (with_reducible refine s_asg ?_) | (with_reducible refine g_name ?_) | (with_reducible refine s_if ?_) | (with_reducible refine s_drop ?_) | (with_reducible refine s_ret ?_) | (with_reducible refine s_next ?_) | (with_reducible refine s_fld ?_) | (with_reducible refine b_test ?_) | (with_reducible refine b_B ?_) | (with_reducible refine b_and ?_) | (with_reducible refine b_or ?_) | (with_reducible refine b_not ?_) | (with_reducible refine b_truth ?_) | (with_reducible refine b_yes ?_) | (with_reducible refine e_c ?_) | (with_reducible refine e_op ?_) | (with_reducible refine e_un ?_) | (with_reducible refine e_cb ?_) | (with_reducible refine e_chain ?_) | (with_reducible refine e_if ?_) | (with_reducible refine e_andV ?_) | (with_reducible refine e_orV ?_) | (with_reducible refine e_notV ?_) | (with_reducible refine e_bmL ?_) | (with_reducible refine e_m1 ?_) | (with_reducible refine e_sl ?_) | (with_reducible refine e_tup ?_) | (with_reducible refine e_fld ?_) | (with_reducible refine e_call ?_) | (with_reducible refine e_meth ?_) | (with_reducible refine a_nil ?_) | (with_reducible refine a_cons ?_) | (with_reducible refine p_none ?_) | (with_reducible refine p_some ?_) | (with_reducible refine o_I0 ?_) | (with_reducible refine u_neg ?_) | (with_reducible refine c_int ?_) | (with_reducible refine c_abs ?_) | ((with_reducible refine' e_var ?hvar ?_); (case hvar => rfl)))
local macro_rules | `(tactic| walk_at "w") => `(tactic| repeat (walk_at "w1"))
local macro_rules | `(tactic| walk_at "ex") => `(tactic| first | assumption | exact Ex.refl _ | (refine Ex.trans ?_ (by assumption); walk_at "ex"))
section
variable {Pg : Program} {w : World} {K : PySem.W.Frag} {mg : Str → Option Value} {base : Heap} {G G' L : Hp}
theorem cutS_to (z : Str) (i : Nat) : (cutS z none (some (i : Int))).cps.toList = z.cps.toList.take i := by
  unfold cutS
  rw [HT.sIx_none, HT.sIx_nat, List.drop_zero, Nat.sub_zero, cps_len]
  show (z.cps.toList.take (min i z.cps.toList.length)).toArray.toList = _
  rw [List.toList_toArray]
  by_cases h : i ≤ z.cps.toList.length
  · rw [Nat.min_eq_left h]
  · rw [Nat.min_eq_right (by omega), List.take_length, List.take_of_length_le (by omega)]
theorem cutS_from (z : Str) (i : Nat) : (cutS z (some (i : Int)) none).cps.toList = z.cps.toList.drop i := by
  unfold cutS
  rw [HT.sIx_none, HT.sIx_nat, cps_len]
  show ((z.cps.toList.drop (min i z.cps.toList.length)).take (z.cps.toList.length - min i z.cps.toList.length)).toArray.toList = _
  rw [List.toList_toArray]
  by_cases h : i ≤ z.cps.toList.length
  · rw [Nat.min_eq_left h]
    exact List.take_of_length_le (by rw [List.length_drop]; omega)
  · rw [Nat.min_eq_right (by omega), Nat.sub_self, List.take_zero, List.drop_eq_nil_of_le (by omega)]
theorem app_cps (a b : Str) : (a ++ b).cps.toList = a.cps.toList ++ b.cps.toList := by
  show (a.cps ++ b.cps).toList = _
  simp
theorem letters_get : ∀ i, i < 26 → letters.cps.toList[i]? = some (97 + i) := by decide +kernel
theorem letters_len : letters.length = 26 := by decide +kernel
theorem letters_mem {i : Nat} (h : i < 26) : 97 + i ∈ letters.cps.toList := List.mem_of_getElem? (letters_get i h)
theorem join_chars : ∀ cs : List Nat, (Txt.join "" (cs.map fun c => (⟨#[c]⟩ : Str))).cps.toList = cs := by
  intro cs
  unfold Txt.join
  rw [StrLaws.glued_eq_join]
  have e0 : (Str.ofString "").cps.toList = [] := by decide +kernel
  induction cs with
  | nil => rfl
  | cons c cs ih =>
    cases cs with
    | nil => rfl
    | cons d cs =>
      show ((⟨#[c]⟩ : Str) ++ Str.ofString "" ++ Str.join "" ((d :: cs).map fun c => (⟨#[c]⟩ : Str))).cps.toList = _
      rw [app_cps, app_cps, ih, e0]
      rfl
def tail2 (k : Nat) : Str := (⟨#[97 + k / 26]⟩ : Str) ++ (⟨#[97 + k % 26]⟩ : Str)
theorem tail2_cps (k : Nat) : (tail2 k).cps.toList = [97 + k / 26, 97 + k % 26] := by
  unfold tail2
  rw [app_cps]
  rfl
theorem new_one {pre : Str} {names : List Str} (hn : names.length ≤ 100) : ∃ x xs, (((List.range 676).map tail2).map (pre ++ ·)).filter (fun x => decide (x ∉ names)) = x :: xs := by
  cases e : (((List.range 676).map tail2).map (pre ++ ·)).filter (fun x => decide (x ∉ names)) with
  | cons x xs => exact ⟨x, xs, rfl⟩
  | nil =>
    exfalso
    have sub : ∀ x ∈ ((List.range 676).map tail2).map (pre ++ ·), x ∈ names := fun x hx => by
      have := List.filter_eq_nil_iff.mp e x hx
      simpa using this
    have nd : (((List.range 676).map tail2).map (pre ++ ·)).Nodup := by
      rw [List.map_map]
      refine List.pairwise_map.mpr (List.nodup_range.imp_of_mem ?_)
      intro i j hi hj hij e
      have e : pre ++ tail2 i = pre ++ tail2 j := e
      have e2 := congrArg (fun x : Str => x.cps.toList) e
      simp only [app_cps, tail2_cps] at e2
      have e3 := List.append_cancel_left e2
      simp only [List.cons.injEq, and_true] at e3
      omega
    have := nodup_le nd sub
    simp at this
    omega

theorem ok_new_name (T : Tx K mg) (G1 : FnOk Pg w K mg base CX0 2 (He.fAd K d__law_pick.at_) T.e__law_pick ["bag", "many"] (Spt (pm__law_pick K))) :
    FnOk Pg w K mg base CX0 3 (He.fAd K d__law_new_name.at_) T.e__law_new_name ["bag", "used"] (Spt (pm__law_new_name K)) := by
  refine okF T.F__law_new_name sc__law_new_name (fun vs G L R h => by obtain ⟨b, o, u, names, rfl, _⟩ := h; rfl) (run__law_new_name T G1) (fun vs G L R h => ?_)
  obtain ⟨b, o, u, names, rfl, bu, hb, ho, hu, hok, hl, k⟩ := h
  show S (t__law_new_name K) _ [some (.ref b), some (.ref u), none, none, none, none, none, none, none, none] G L
  unfold t__law_new_name
  have Lu : ∀ {o}, (upd L b o) u = some (.lst (names.map V.str)) := by
    intro o
    rw [upd_ne (Ne.symm bu)]
    exact hu
  have lz : letters.length ≤ sizeLine := by rw [letters_len]; exact line_ge (by omega)
  -- the end
  have fin2 : ∀ (told : Str) (G2 : Hp) (o2 : HO) (v4 v5 v6 v7 v8 v9 : Option V), Ex G G2 → BagO K G2 o2 → nmOk told → told ∉ names →
      S (tSeq (tDrop (tBM K "list" rAppend (tVar 1) (tCons (tVar 3) tNil))) (tRet (tVar 3))) { nx := fun _ G L => R .non G L, rt := R } [some (.ref b), some (.ref u), some (.str letters), some (.str told), v4, v5, v6, v7, v8, v9] G2 (upd L b o2) := by
    intro told G2 o2 v4 v5 v6 v7 v8 v9 e2 ho2 h1 h2
    walk_at "w"
    refine ⟨u, _, rfl, Lu, ?_⟩
    walk_at "w"
    refine m_append Lu (line_gt (by rw [List.length_map]; omega)) ?_
    walk_at "w"
    have := k told G2 o2 e2 ho2 h1 h2
    rw [List.map_append] at this
    exact this
  have fin1 : ∀ (told : Str) (G2 : Hp) (o2 : HO) (v4 v5 v6 v7 v8 v9 : Option V), Ex G G2 → BagO K G2 o2 → (1 ≤ told.length ∧ told.length ≤ 6) → (∀ c ∈ told.cps.toList, c ∈ letters.cps.toList) →
      S (tSeq (tIfS (tTest (tOp (rInP K) (tVar 3) (tVar 1)))
  (tSeq (tAsg (tLc (iRng1 (tCons (tC (.int 676)) tNil)) (gName 8) tYes (tOp rAddS (tOp rIxS (tVar 2) (tOp rDivI (tVar 8) (tC (.int 26)))) (tOp rIxS (tVar 2) (tOp rModI (tCB rIntI (tCons (tVar 8) tNil)) (tC (.int 26))))) [8]) (gName 6))
  (tAsg (tOp (rIxL K) (tLc (iList K (tVar 6)) (gName 9) (tTest (tOp (rNotInP K) (tOp rAddS (tSl rSlS (tVar 3) tNoPart (tPart (tC (.int 6)))) (tVar 9)) (tVar 1))) (tOp rAddS (tSl rSlS (tVar 3) tNoPart (tPart (tC (.int 6)))) (tVar 9)) [9]) (tC (.int 0))) (gName 3)))
  tNext)
  (tSeq (tDrop (tBM K "list" rAppend (tVar 1) (tCons (tVar 3) tNil)))
  (tRet (tVar 3)))) { nx := fun _ G L => R .non G L, rt := R } [some (.ref b), some (.ref u), some (.str letters), some (.str told), v4, v5, v6, v7, v8, v9] G2 (upd L b o2) := by
    intro told G2 o2 v4 v5 v6 v7 v8 v9 e2 ho2 h1 h2
    refine s_own Lu fun gu => ?_
    walk_at "w"
    refine o_inP (a := .str told) (bs := names.map .str) (.str _) (.inl (.lst (.of (un_l Lu gu)) (dpAll_of_strs _))) (strO.ok _) (strO.plain _) ?_
    rw [any_str]
    refine ⟨_, rfl, fun h3 => ?_, fun h3 => ?_⟩
    · walk_at "w"
      refine e_lcG (wk_rng1 ?_)
      walk_at "w"
      refine ⟨_, rfl, by omega, by omega, ?_⟩
      refine ⟨fun i vs G3 L3 => L3 = upd L b o2 ∧ vs = ((List.range i).map tail2).map V.str, ⟨rfl, rfl⟩, ?_, ?_⟩
      · rintro i vs G3 L3 D hi e3 ⟨rfl, rfl⟩ gD lD
        have hi : i < 676 := hi
        refine g_name ⟨rfl, ?_⟩
        walk_at "w"
        refine ⟨fun _ => ?_, (fun z => by cases z)⟩
        walk_at "w"
        refine o_I ⟨by decide, by decide⟩ ?_
        refine o_ixS lz (c := 97 + i / 26) ?_ ?_
        · have : ((i : Int) / 26) = ((i / 26 : Nat) : Int) := by omega
          rw [this]
          exact atI_of (letters_get _ (by omega))
        walk_at "w"
        refine o_I (by decide) ?_
        refine o_ixS lz (c := 97 + i % 26) ?_ ?_
        · have : ((i : Int) % 26) = ((i % 26 : Nat) : Int) := by omega
          rw [this]
          exact atI_of (letters_get _ (by omega))
        refine o_add_str (by show 1 + 1 ≤ sizeLine; exact line_ge (by omega)) ?_
        refine ⟨line_gt (by simp; omega), _, rfl, lD, e3, rfl, ?_⟩
        rw [List.range_succ, List.map_append, List.map_append]
        rfl
      rintro vs G3 L3 D G4 e3 ⟨rfl, rfl⟩ e4 hD
      have hD : G4 D = some (.lst (((List.range 676).map tail2).map V.str)) := hD
      have e24 := e3.trans e4
      refine g_name (s_asg ?_)
      show E _ [some (.ref b), some (.ref u), some (.str letters), some (.str told), v4, v5, some (.ref D), v7, v8, v9] G4 _ _
      refine e_op ?_
      have hz : told.length ≤ sizeLine := line_ge (by omega)
      have hpl : (cutS told none (some 6)).length ≤ 6 := by
        have := cutS_to told 6
        rw [cps_len, show (some (6 : Int)) = some ((6 : Nat) : Int) from rfl, this, List.length_take]
        omega
      have hp1 : 1 ≤ (cutS told none (some 6)).length := by
        have := cutS_to told 6
        rw [cps_len, show (some (6 : Int)) = some ((6 : Nat) : Int) from rfl, this, List.length_take, ← cps_len]
        omega
      have hpc : ∀ c ∈ (cutS told none (some 6)).cps.toList, c ∈ letters.cps.toList := by
        have := cutS_to told 6
        rw [show (some (6 : Int)) = some ((6 : Nat) : Int) from rfl, this]
        exact fun c hc => h2 c (List.mem_of_mem_take hc)
      have tll : ∀ k, (tail2 k).length = 2 := fun k => by rw [cps_len, tail2_cps]; rfl
      refine e_lcG (wk_list (e_var rfl ⟨D, _, rfl, .of hD, ?_⟩))
      refine ⟨fun i vs G5 L5 => L5 = upd L b o2 ∧ vs = ((((((List.range 676).map tail2).take i).map (cutS told none (some 6) ++ ·))).filter (fun x => decide (x ∉ names))).map V.str, ⟨rfl, rfl⟩, ?_, ?_⟩
      · rintro i vs G5 L5 D2 hi e5 ⟨rfl, rfl⟩ gD lD y hy
        obtain ⟨x, ex, rfl⟩ := map_get hy
        refine g_name ⟨rfl, ?_⟩
        obtain ⟨kk, ek, rfl⟩ := map_get ex
        have uD : u ≠ D2 := fun e => by subst e; rw [Lu] at lD; cases lD
        refine b_own (p := u) (by rw [upd_ne uD]; exact Lu) fun gu5 => ?_
        walk_at "w"
        refine ⟨_, rfl, z_str hz ?_⟩
        walk_at "w"
        refine o_add_str (by rw [tll]; exact line_ge (by omega)) ?_
        walk_at "w"
        refine o_notInP (a := .str (cutS told none (some 6) ++ tail2 kk)) (bs := names.map .str) (.str _) (.inl (.lst (.of (un_l (by rw [upd_ne uD]; exact Lu) gu5)) (dpAll_of_strs _))) (strO.ok _) (strO.plain _) ?_
        rw [any_str]
        have ft : ((((List.range 676).map tail2).take (i + 1)).map (cutS told none (some 6) ++ ·)).filter (fun x => decide (x ∉ names)) = ((((List.range 676).map tail2).take i).map (cutS told none (some 6) ++ ·)).filter (fun x => decide (x ∉ names)) ++ (if cutS told none (some 6) ++ tail2 kk ∉ names then [cutS told none (some 6) ++ tail2 kk] else []) := by
          rw [List.take_add_one, ex, List.map_append, List.filter_append]
          congr 1
          simp only [Option.toList, List.map_cons, List.map_nil, List.filter_cons, List.filter_nil]
          by_cases q : cutS told none (some 6) ++ tail2 kk ∈ names <;> simp [q]
        refine ⟨_, rfl, fun h4 => ?_, fun h4 => ?_⟩
        · have h4 : cutS told none (some 6) ++ tail2 kk ∉ names := by simpa using h4
          walk_at "w"
          refine ⟨_, rfl, z_str hz ?_⟩
          walk_at "w"
          refine o_add_str (by rw [tll]; exact line_ge (by omega)) ?_
          refine ⟨line_gt ?_, _, rfl, lD, e5, rfl, ?_⟩
          · rw [List.length_map]
            refine Nat.le_trans (List.length_filter_le _ _) ?_
            rw [List.length_map]
            refine Nat.le_trans (List.length_take_le _ _) ?_
            have : i < 676 := by simpa using hi
            omega
          · rw [ft, if_pos h4, List.map_append]
            rfl
        · have h4 : cutS told none (some 6) ++ tail2 kk ∈ names := by simpa using h4
          refine ⟨_, rfl, lD, e5, rfl, ?_⟩
          rw [ft, if_neg (by simpa using h4), List.append_nil]
      rintro vs G5 L5 D2 G6 e5 ⟨rfl, rfl⟩ e6 hD2
      rw [List.length_map, List.take_length] at hD2
      obtain ⟨x, xs, ex⟩ := new_one (pre := cutS told none (some 6)) hl
      rw [ex] at hD2
      walk_at "w"
      refine o_ixL (.of (un_g _ _ hD2)) (i := ((0 : Nat) : Int)) (v := .str x) (atI_of rfl) ?_
      have mx : x ∈ (((List.range 676).map tail2).map (cutS told none (some 6) ++ ·)).filter (fun x => decide (x ∉ names)) := by rw [ex]; exact List.mem_cons_self
      obtain ⟨m1, m2⟩ := List.mem_filter.mp mx
      obtain ⟨y, hy, rfl⟩ := List.mem_map.mp m1
      obtain ⟨kk, hk, rfl⟩ := List.mem_map.mp hy
      have hk := List.mem_range.mp hk
      refine g_name (fin2 _ G6 o2 _ _ _ _ _ _ (e2.trans (e24.trans (e5.trans e6))) (ho2.ex (e24.trans (e5.trans e6))) ⟨?_, ?_⟩ (by simpa using m2))
      · rw [Str.length_append, tll]
        omega
      · intro c hc
        rw [app_cps] at hc
        rcases List.mem_append.mp hc with hc | hc
        · exact hpc c hc
        · rw [tail2_cps] at hc
          simp only [List.mem_cons, List.not_mem_nil, or_false] at hc
          rcases hc with hc | hc
          · rw [hc]; exact letters_mem (by omega)
          · rw [hc]; exact letters_mem (by omega)
    · have h3 : told ∉ names := by simpa using h3
      exact s_next (fin2 told G2 o2 _ _ _ _ _ _ e2 ho2 ⟨⟨h1.1, by omega⟩, h2⟩ h3)
  walk_at "w"
  refine ⟨⟨_, rfl⟩, ?_⟩
  refine e_lcG (wk_rng1 ?_)
  walk_at "w"
  refine ⟨b, 6, o, rfl, by decide, by decide, hb, ho, fun r o1 r0 r1 ho1 => ?_⟩
  walk_at "w"
  obtain ⟨n, rfl⟩ := Int.eq_ofNat_of_zero_le r0
  refine ⟨_, rfl, by omega, by omega, ?_⟩
  have en : (1 + (n : Int)).toNat = n + 1 := by omega
  rw [en]
  refine ⟨fun i vs G3 L3 => ∃ (o : HO) (cs : List Nat), BagO K G3 o ∧ L3 = upd L b o ∧ vs = (cs.map fun c => (⟨#[c]⟩ : Str)).map V.str ∧ cs.length = i ∧ ∀ c ∈ cs, c ∈ letters.cps.toList, ⟨o1, [], ho1, rfl, rfl, rfl, by simp⟩, ?_, ?_⟩
  · rintro i vs G3 L3 D hi e3 ⟨o, cs, ho, rfl, rfl, hcl, hc⟩ gD lD
    refine g_name ⟨rfl, ?_⟩
    have bD : b ≠ D := fun e => by subst e; rw [upd_same] at lD; cases lD
    rw [upd_ne (Ne.symm bD)] at lD
    walk_at "w"
    refine ⟨fun _ => ?_, (fun z => by cases z)⟩
    walk_at "w"
    refine ⟨b, 26, o, rfl, by decide, by decide, by rw [upd_ne bD, upd_same], ho, fun r o2 q0 q1 ho2 => ?_⟩
    obtain ⟨m, rfl⟩ := Int.eq_ofNat_of_zero_le q0
    refine o_ixS lz (c := 97 + m) (atI_of (letters_get _ (by omega))) ?_
    refine ⟨line_gt (by simp; omega), upd L b o2, upd_in1 bD, by rw [upd_ne (Ne.symm bD)]; exact lD, e3, o2, cs ++ [97 + m], ho2, rfl, by simp, by simp [hcl], ?_⟩
    intro c hcc
    rcases List.mem_append.mp hcc with h | h
    · exact hc c h
    · have h := List.mem_singleton.mp h
      rw [h]
      exact letters_mem (by omega)
  rintro vs G3 L3 D G4 e3 ⟨o, cs, ho, rfl, rfl, hcl, hc⟩ e4 hD
  have sm : ∀ cs : List Nat, ((cs.map fun c => (⟨#[c]⟩ : Str)).map (·.length)).sum = cs.length := fun cs => by
    induction cs with
    | nil => rfl
    | cons c cs ih =>
      simp only [List.map_cons, List.sum_cons, List.length_cons] at ih ⊢
      rw [ih]
      show 1 + cs.length = cs.length + 1
      omega
  refine m_join (.of (un_g _ _ hD)) ?_ ?_
  · rw [sm]
    have : (Str.ofString "").length = 0 := by decide +kernel
    rw [this]
    omega
  have jc := join_chars cs
  have t1 : 1 ≤ (Txt.join "" (cs.map fun c => (⟨#[c]⟩ : Str))).length ∧ (Txt.join "" (cs.map fun c => (⟨#[c]⟩ : Str))).length ≤ 6 := by
    rw [cps_len, jc]
    omega
  have t2 : ∀ c ∈ (Txt.join "" (cs.map fun c => (⟨#[c]⟩ : Str))).cps.toList, c ∈ letters.cps.toList := by
    rw [jc]
    exact hc
  generalize Txt.join "" (cs.map fun c => (⟨#[c]⟩ : Str)) = told at t1 t2
  have e04 := e3.trans e4
  have ho4 := ho.ex e4
  refine g_name (s_seq ?_)
  show S _ _ [some (.ref b), some (.ref u), some (.str letters), some (.str told), none, none, none, none, none, none] G4 _
  refine s_own Lu fun gu => ?_
  walk_at "w"
  refine ⟨!(names.map V.str).isEmpty, .inl ⟨_, .of (un_l Lu gu), rfl⟩, fun h1 => ?_, fun h1 => ?_⟩
  · have hne : 0 < names.length := by
      cases names with
      | nil => cases h1
      | cons x xs => simp
    walk_at "w"
    refine ⟨b, 3, o, rfl, by decide, by decide, upd_same, ho4, fun r o2 q0 q1 ho2 => ?_⟩
    rw [upd_upd]
    walk_at "w"
    refine o_eq rfl ⟨_, rfl, fun h3 => ?_, fun h3 => ?_⟩
    · walk_at "w"
      refine c_len_seq (.inl (.of (un_l Lu gu))) ?_
      walk_at "w"
      rw [List.length_map]
      refine ⟨b, names.length, o2, rfl, by omega, by omega, upd_same, ho2, fun r2 o3 q20 q21 ho3 => ?_⟩
      rw [upd_upd]
      obtain ⟨m, rfl⟩ := Int.eq_ofNat_of_zero_le q20
      have hm : m < names.length := by omega
      refine o_ixL (.of (un_l Lu gu)) (v := .str names[m]) (atI_of (by rw [List.getElem?_map, List.getElem?_eq_getElem hm]; rfl)) ?_
      have hx := hok names[m] (List.getElem_mem hm)
      generalize names[m] = x at hx
      walk_at "w"
      refine ⟨_, rfl, z_str (line_ge (by have := hx.1.2; omega)) ?_⟩
      have nc : (cutS x none (some 6)).cps.toList = x.cps.toList.take 6 := cutS_to x 6
      have n1 : 1 ≤ (cutS x none (some 6)).length ∧ (cutS x none (some 6)).length ≤ 6 := by
        rw [cps_len, nc, List.length_take, ← cps_len]
        have := hx.1.1
        omega
      have n2 : ∀ c ∈ (cutS x none (some 6)).cps.toList, c ∈ letters.cps.toList := by
        rw [nc]
        exact fun c hc => hx.2 c (List.mem_of_mem_take hc)
      generalize cutS x none (some 6) = near at n1 n2
      walk_at "w"
      refine c_len_str (line_ge (by omega)) ?_
      walk_at "w"
      refine ⟨b, near.length, o3, rfl, by omega, by omega, upd_same, ho3, fun r3 o4 q30 q31 ho4 => ?_⟩
      rw [upd_upd]
      obtain ⟨at_, rfl⟩ := Int.eq_ofNat_of_zero_le q30
      walk_at "w"
      refine ⟨_, rfl, z_str (line_ge (by omega)) ?_⟩
      walk_at "w"
      refine ⟨b, 26, o4, rfl, by decide, by decide, upd_same, ho4, fun r5 o5 q50 q51 ho5 => ?_⟩
      rw [upd_upd]
      obtain ⟨c, rfl⟩ := Int.eq_ofNat_of_zero_le q50
      refine o_ixS lz (c := 97 + c) (atI_of (letters_get _ (by omega))) ?_
      have k1 := cutS_to near at_
      have k2 := cutS_from near (at_ + 1)
      have kl := cps_len near
      have l1 : (cutS near none (some (at_ : Int))).length = at_ := by rw [cps_len, k1, List.length_take]; omega
      have l2 : (cutS near (some ((at_ + 1 : Nat) : Int)) none).length = near.length - (at_ + 1) := by rw [cps_len, k2, List.length_drop]; omega
      have l3 : (⟨#[97 + c]⟩ : Str).length = 1 := rfl
      refine o_add_str (by rw [l1, l3]; exact line_ge (by omega)) ?_
      walk_at "w"
      refine ⟨_, rfl, ?_⟩
      walk_at "w"
      refine z_str (line_ge (by omega)) ?_
      have e1 : ((at_ : Int) + 1) = ((at_ + 1 : Nat) : Int) := by omega
      rw [e1]
      refine o_add_str (by rw [Str.length_append, l1, l2, l3]; exact line_ge (by omega)) ?_
      refine g_name (fin1 _ G4 o5 _ _ _ _ _ _ e04 ho5 ?_ ?_)
      · rw [Str.length_append, Str.length_append, l1, l2, l3]
        omega
      · intro d hd
        rw [app_cps, app_cps, k1, k2] at hd
        rcases List.mem_append.mp hd with hd | hd
        · rcases List.mem_append.mp hd with hd | hd
          · exact n2 d (List.mem_of_mem_take hd)
          · have hd : d = 97 + c := by simpa using hd
            rw [hd]
            exact letters_mem (by omega)
        · exact n2 d (List.mem_of_mem_drop hd)
    · exact s_next (fin1 told G4 o2 _ _ _ _ _ _ e04 ho2 t1 t2)
  · refine ⟨(fun z => by cases z), fun _ => ?_⟩
    exact s_next (fin1 told G4 o _ _ _ _ _ _ e04 ho4 t1 t2)
end
end T

set_option Elab.async false
set_option linter.all false
set_option maxRecDepth 100000
set_option maxHeartbeats 4000000
namespace T
open PySem PySem.Spec PyProof.Rows L2 KM
/-! the walk of readings -/
local macro_rules | `(tactic| walk_at "w1") => `(tactic| first | (with_reducible refine s_seq ?_) | (with_reducible refine s_asg ?_) | (with_reducible refine g_name ?_) | (with_reducible refine s_if ?_) | (with_reducible refine s_drop ?_) | (with_reducible refine s_ret ?_) | (with_reducible refine s_next ?_) | (with_reducible refine s_fld ?_) | (with_reducible refine b_test ?_) | (with_reducible refine b_B ?_) | (with_reducible refine b_and ?_) | (with_reducible refine b_or ?_) | (with_reducible refine b_not ?_) | (with_reducible refine b_truth ?_) | (with_reducible refine b_yes ?_) | (with_reducible refine e_c ?_) | (with_reducible refine e_op ?_) | (with_reducible refine e_un ?_) | (with_reducible refine e_cb ?_) | (with_reducible refine e_chain ?_) | (with_reducible refine e_if ?_) | (with_reducible refine e_andV ?_) | (with_reducible refine e_orV ?_) | (with_reducible refine e_notV ?_) | (with_reducible refine e_bmL ?_) | (with_reducible refine e_m1 ?_) | (with_reducible refine e_sl ?_) | (with_reducible refine e_tup ?_) | (with_reducible refine e_fld ?_) | (with_reducible refine e_call ?_) | (with_reducible refine e_meth ?_) | (with_reducible refine a_nil ?_) | (with_reducible refine a_cons ?_) | (with_reducible refine p_none ?_) | (with_reducible refine p_some ?_) | (with_reducible refine o_I0 ?_) | (with_reducible refine u_neg ?_) | (with_reducible refine c_int ?_) | (with_reducible refine c_abs ?_) | ((with_reducible refine' e_var ?hvar ?_); (case hvar => rfl)))
local macro_rules | `(tactic| walk_at "w") => `(tactic| repeat (walk_at "w1"))
local macro_rules | `(tactic| walk_at "ex") => `(tactic| first | assumption | exact Ex.refl _ | (refine Ex.trans ?_ (by assumption); walk_at "ex"))
section
variable {Pg : Program} {w : World} {K : PySem.W.Frag} {mg : Str → Option Value} {base : Heap} {G G' L : Hp}
/-- a row, taken apart -/
theorem row_of {v : V} {r : Row Str} (h : Dp K G v (encR r)) : ∃ (a l : Addr) (v1 v2 : V) (vs : List V), v = .ref a ∧ SqT K G a [v1, v2, .ref l] ∧ Dp K G v1 (encO r.1) ∧ Dp K G v2 (.tuple (r.2.1.map .str)) ∧ SqL K G l vs ∧ DpAll K G vs (r.2.2.map encP) := by
  have h : Dp K G v (.tuple [encO r.1, .tuple (r.2.1.map .str), .list (r.2.2.map encP)]) := h
  obtain ⟨a, xs, rfl, hs, hd, hl⟩ := tup_of h
  cases hd with
  | cons h1 hd =>
    cases hd with
    | cons h2 hd =>
      cases hd with
      | cons h3 hd =>
        cases hd
        obtain ⟨l, vs, rfl, hl, hv, _⟩ := list_of h3
        exact ⟨a, l, _, _, vs, rfl, hs, h1, h2, hl, hv⟩
theorem ok_deliveries (T : Tx K mg) (G1 : FnOk Pg w K mg base CX0 2 (He.fAd K d_Ways_writes.at_) T.e_Ways_writes ["self", "office"] (Spt (pm_Ways_writes K)))
    (G2 : FnOk Pg w K mg base CX0 3 (He.fAd K d_letter_read.at_) T.e_letter_read ["ways", "order", "learnt", "letters", "letter"] (Spt (pm_letter_read K))) :
    GFn Pg w K mg base 4 (He.fAd K d_deliveries.at_) T.e_deliveries ["ways", "office"] (spg_deliveries K) := by
  refine okG T.F_deliveries sc_deliveries (fun vs G L R h => by obtain ⟨x, names, ps, a, rfl, _⟩ := h; rfl) (run_deliveries T G1 G2) (fun vs G L R h => ?_)
  obtain ⟨x, names, ps, a, rfl, hx, hnd, hsrt, hlen, hin, han, k⟩ := h
  show SG (t_deliveries K) _ [] [some (.ref x), some (.str a), none, none, none, none, none, none, none, none] G L
  unfold t_deliveries
  refine gn_then (gn_plain (s_asg ?_))
  refine e_lstG (a_cons ?_)
  walk_at "w"
  refine ⟨Nat.zero_le _, fun t0 G1 gt0 e1 ht0 => ?_⟩
  walk_at "w"
  refine ⟨by show 1 ≤ sizeLine; decide, fun t1 G2 gt1 e2 ht1 => ?_⟩
  walk_at "w"
  refine e_lcG (wk_tup ?_)
  walk_at "w"
  obtain ⟨dx, ba, bp, hx1, hx2, hx3⟩ := hx
  have hx : BoxG K G x names ps := ⟨dx, ba, bp, hx1, hx2, hx3⟩
  refine ⟨x, dx, _, rfl, .inl ((e1.trans e2) _ _ hx1), wfs_no _ _ (by decide +kernel) (by decide +kernel), ?_⟩
  walk_at "w"
  refine ⟨x, names, ps, a, rfl, hx.ex (e1.trans e2), by omega, han, fun v G3 e3 hv => ?_⟩
  obtain ⟨aw, xw, rfl, sw, pw, nw⟩ := tup_of hv
  rw [List.length_map, List.length_map] at nw
  have no : (outs ps a).length ≤ ps.length := List.length_filter_le _ _
  refine ⟨aw, xw, rfl, sw, ?_⟩
  refine ⟨fun i vs G4 L4 => L4 = L ∧ DpAll K G4 vs (((outs ps a).take i).map encP), ⟨rfl, .nil⟩, ?_, ?_⟩
  · rintro i vs G4 L4 D hi e4 ⟨rfl, hd⟩ gD lD y hy
    have pw' : DpAll K G3 xw ((outs ps a).map fun q => PyData.str q.2) := by
      rw [List.map_map] at pw
      exact pw
    obtain ⟨q, eq, hq⟩ := dpAll_getE pw' hy
    cases hq
    refine g_name ⟨rfl, ?_⟩
    walk_at "w"
    refine ⟨fun _ => ?_, (fun z => by cases z)⟩
    walk_at "w"
    refine ⟨by show 2 ≤ sizeLine; decide, fun t G5 gt5 e5 ht5 => ?_⟩
    have ll := dpAll_len hd
    rw [List.length_map, List.length_take] at ll
    refine ⟨line_gt (by omega), L4, rfl, lD, e4.trans e5, rfl, ?_⟩
    rw [List.take_add_one, eq, List.map_append]
    have q1 : q.1 = a := by
      have := List.mem_of_getElem? eq
      simpa using (List.mem_filter.mp this).2
    refine dpAll_app (dpAll_ex e5 _ _ hd) (dpAll_one ?_)
    refine .tup (.of ht5) (.cons ?_ (.cons (.str _) .nil))
    show Dp K G5 (.str a) (.str q.1)
    rw [q1]
    exact .str _
  rintro vs G4 L4 D G5 e4 ⟨rfl, hd⟩ e5 hD
  rw [nw, List.take_length] at hd
  walk_at "w"
  refine ⟨by show 3 ≤ sizeLine; decide, fun t2 G6 gt2 e6 ht2 => ?_⟩
  walk_at "w"
  refine ⟨by show 1 ≤ sizeLine; decide, fun rw0 G7 gr e7 hr => ?_⟩
  have e27 : Ex G2 G7 := e3.trans (e4.trans (e5.trans (e6.trans e7)))
  have e57 : Ex G5 G7 := e6.trans e7
  have e07 := e1.trans (e2.trans e27)
  have hrows : Dl K G7 (.ref rw0) ([(([], [a], outs ps a) : Row Str)].map encR) := by
    refine ⟨rw0, _, rfl, hr, dpAll_one (.tup (.of (e7 _ _ ht2)) (.cons ?_ (.cons ?_ (.cons ?_ .nil))))⟩
    · exact .tup (.of ((e2.trans e27) _ _ ht0)) .nil
    · exact .tup (.of (e27 _ _ ht1)) (.cons (.str _) .nil)
    · exact .lst (.of (e57 _ _ hD)) (dpAll_ex (e5.trans e57) _ _ hd)
  refine g_name ?_
  show SG _ _ [] [some (.ref x), some (.str a), some (.ref rw0), none, none, none, none, none, none, none] G7 L4
  refine gn_then (gn_plain ?_)
  refine s_while (fun m σ G8 L8 => L8 = L4 ∧ Ex G7 G8 ∧ ∃ (v : V) (n : Nat) (rows : List (Row Str)) (v3 v4 v5 v6 v7 : Option V), σ = [some (.ref x), some (.str a), some v, v3, v4, v5, v6, v7, none, none] ∧ Dl K G8 v (rows.map encR) ∧ Lv pairO.lo ps a n rows ∧ rows.length ≤ 6 ^ n ∧ n ≤ ps.length ∧ m = ps.length - n) (ps.length - 0)
    ⟨rfl, Ex.refl _, .ref rw0, 0, _, none, none, none, none, none, rfl, hrows, lv_zero hsrt, by simp, Nat.zero_le _, rfl⟩ ?_
  rintro m σ G8 L8 ⟨rfl, e8, v, n, rows, v3, v4, v5, v6, v7, rfl, hrows, hlv, hrl, hn, rfl⟩
  obtain ⟨r0, rest, rfl⟩ : ∃ r0 rest, rows = r0 :: rest := by
    cases rows with
    | nil => exact absurd rfl hlv.ne
    | cons r0 rest => exact ⟨r0, rest, rfl⟩
  have hrows0 := hrows
  obtain ⟨ra, vr, rfl, hra, dvr, lvr⟩ := hrows.len
  rw [List.length_map] at lvr
  have d0 : ∃ y, vr[0]? = some y ∧ Dp K G8 y (encR r0) := by
    cases dvr with
    | cons h1 _ => exact ⟨_, rfl, h1⟩
  obtain ⟨y0, hy0, dy0⟩ := d0
  obtain ⟨ty, l0, w1, w2, vs0, rfl, hty, q1, q2, hl0, dv0⟩ := row_of dy0
  have l0n := dpAll_len dv0
  rw [List.length_map] at l0n
  walk_at "w"
  refine o_ixL (.of (un_g _ _ hra)) (i := ((0 : Nat) : Int)) (atI_of hy0) ?_
  walk_at "w"
  refine o_ixT (sqt_ex un_g hty) (i := 2) (v := .ref l0) rfl ?_
  refine ⟨!vs0.isEmpty, .inl ⟨vs0, sql_ex un_g hl0, rfl⟩, fun h1 => ?_, fun h1 => ?_⟩
  · have ht : r0.2.2 ≠ [] := fun e => by
      rw [e] at l0n
      cases vs0 with
      | nil => cases h1
      | cons z zs => simp at l0n
    obtain ⟨hlv2, hn2⟩ := lv_next hnd hlv ht
    walk_at "w"
    refine e_lstL (a_nil ⟨Nat.zero_le _, fun p gp lp => ?_⟩)
    walk_at "w"
    show S _ _ [some (.ref x), some (.str a), some (.ref ra), some (.ref p), v4, v5, v6, v7, none, none] G8 _
    refine s_for (wk_list ?_)
    walk_at "w"
    refine c_listG (.inl (.of (un_g _ _ hra))) fun cp G9 e9 hcp => ?_
    refine ⟨cp, vr, rfl, .of hcp, ?_⟩
    have bnd : ∀ l : List (Row Str), (∀ r ∈ l, r.2.2.length ≤ 6) → (l.flatMap fun r => r.2.2.map (rowStep pairO.lo ps r)).length ≤ l.length * 6 := fun l => by
      induction l with
      | nil => intro _; simp
      | cons r l ih =>
        intro h
        rw [List.flatMap_cons, List.length_append, List.length_cons, Nat.add_mul, List.length_map]
        have := ih fun r hr => h r (List.mem_cons_of_mem _ hr)
        have := h r List.mem_cons_self
        omega
    have rl6 : ∀ r ∈ r0 :: rest, r.2.2.length ≤ 6 := fun r hr => by
      obtain ⟨h1, h2, t, h3, h4⟩ := hlv.row r hr
      have := (run_learnt_len h3).1
      have := h4.length_eq
      simp only at *
      omega
    have pow6 : 6 ^ n * 6 ≤ 279936 := by
      rw [← Nat.pow_succ]
      exact Nat.pow_le_pow_right (by decide) (show n.succ ≤ 7 by omega)
    refine ⟨fun i σ G10 L10 => ∃ (v4 v5 v6 v7 : Option V) (vf : List V), σ = [some (.ref x), some (.str a), some (.ref ra), some (.ref p), v4, v5, v6, v7, none, none] ∧ L10 = upd L8 p (.lst vf) ∧ DpAll K G10 vf ((((r0 :: rest).take i).flatMap fun r => r.2.2.map (rowStep pairO.lo ps r)).map encR),
      ⟨v4, v5, v6, v7, [], rfl, rfl, .nil⟩, ?_, ?_⟩
    · rintro i σ G10 L10 hi e10 ⟨v4, v5, v6, v7, vf, rfl, rfl, hvf⟩ y hy
      obtain ⟨r, er, dr⟩ := dpAll_getE dvr hy
      have e810 := e9.trans e10
      obtain ⟨tr, lr, u1, u2, vsr, rfl, htr, qr1, qr2, hlr, dvr'⟩ := row_of (dp_ex e810 _ _ dr)
      have lr' := dpAll_len dvr'
      rw [List.length_map] at lr'
      have hrm := List.mem_of_getElem? er
      obtain ⟨k1, k2, t, k3, k4⟩ := hlv.row r hrm
      have r6 := rl6 r hrm
      have rlearn := run_one _ rfl k3
      have ilt := lt_of_get er
      refine g_tup (sqt_ex un_g htr) rfl (gs_cons (g_name (gs_cons (g_name (gs_cons (g_name (gs_nil ?_)))))))
      show S _ _ [some (.ref x), some (.str a), some (.ref ra), some (.ref p), some u1, some u2, some (.ref lr), v7, none, none] G10 _
      refine s_for (wk_list (e_var rfl ⟨lr, vsr, rfl, hlr, ?_⟩))
      refine ⟨fun j σ G11 L11 => ∃ (v7 : Option V) (vf : List V), σ = [some (.ref x), some (.str a), some (.ref ra), some (.ref p), some u1, some u2, some (.ref lr), v7, none, none] ∧ L11 = upd L8 p (.lst vf) ∧ DpAll K G11 vf ((((r0 :: rest).take i).flatMap fun r => r.2.2.map (rowStep pairO.lo ps r)).map encR ++ ((r.2.2.take j).map (rowStep pairO.lo ps r)).map encR),
        ⟨v7, vf, rfl, rfl, by simpa using hvf⟩, ?_, ?_⟩
      · rintro j σ G11 L11 hj e11 ⟨v7, vf, rfl, rfl, hvf⟩ y hy
        obtain ⟨l, el, dl⟩ := dpAll_getE dvr' hy
        have hlm := List.mem_of_getElem? el
        have hlps : l ∈ ps := by
          have ht := k4.mem_iff.mpr hlm
          have g := good_run r.1 [] _ _ (good_init ps a) k3
          exact (List.mem_filter.mp (g.all.mem_iff.mp (List.mem_append_right _ ht))).1
        refine g_name ?_
        show S _ _ [some (.ref x), some (.str a), some (.ref ra), some (.ref p), some u1, some u2, some (.ref lr), some y, none, none] G11 _
        have lvf := dpAll_len hvf
        rw [List.length_append, List.length_map, List.length_map, List.length_map, List.length_take] at lvf
        have b1 := bnd ((r0 :: rest).take i) fun r hr => rl6 r (List.mem_of_mem_take hr)
        rw [List.length_take] at b1
        have e811 := e810.trans e11
        have b2 : min i (r0 :: rest).length * 6 ≤ (r0 :: rest).length * 6 := Nat.mul_le_mul_right _ (Nat.min_le_right _ _)
        have b3 : (r0 :: rest).length * 6 ≤ 6 ^ n * 6 := Nat.mul_le_mul_right _ hrl
        walk_at "w"
        refine ⟨p, vf, rfl, upd_same, ?_⟩
        walk_at "w"
        refine ⟨x, names, ps, u1, u2, .ref lr, y, r, l, rfl, hx.ex (e07.trans (e8.trans e811)), by omega, hin l hlps, dp_ex e11 _ _ qr1, dp_ex e11 _ _ qr2, .lst (sql_ex e11 hlr) (dpAll_ex e11 _ _ dvr'), dp_ex e11 _ _ dl, by omega, by simp only at rlearn; omega, by omega, fun z G12 e12 hz => ?_⟩
        walk_at "w"
        refine m_append upd_same (line_gt (by omega)) ?_
        refine ⟨e11.trans e12, _, _, rfl, upd_upd, ?_⟩
        rw [List.take_add_one, el, List.map_append, List.map_append, ← List.append_assoc]
        exact dpAll_app (dpAll_ex e12 _ _ hvf) (dpAll_one hz)
      · rintro σ G11 L11 e11 ⟨v7, vf, rfl, rfl, hvf⟩
        refine ⟨e10.trans e11, _, _, _, _, vf, rfl, rfl, ?_⟩
        rw [lr', List.take_length, ← List.map_append, ← flat_take _ er] at hvf
        exact hvf
    · rintro σ G10 L10 e10 ⟨v4, v5, v6, v7, vf, rfl, rfl, hvf⟩
      rw [lvr, List.take_length] at hvf
      refine s_freeze lp fun G11 e11 hp => ?_
      walk_at "w"
      refine ⟨ps.length - (n + 1), by omega, rfl, e8.trans (e9.trans (e10.trans e11)), .ref p, n + 1, rowsNext pairO.lo ps (r0 :: rest), _, _, _, _, _, rfl, ⟨p, vf, rfl, hp, dpAll_ex e11 _ _ hvf⟩, hlv2, ?_, hn2, rfl⟩
      have b1 := bnd (r0 :: rest) rl6
      have b3 : (r0 :: rest).length * 6 ≤ 6 ^ n * 6 := Nat.mul_le_mul_right _ hrl
      rw [← Nat.pow_succ] at b3
      exact Nat.le_trans b1 b3
  · have ht : r0.2.2 = [] := by
      cases vs0 with
      | nil => exact List.eq_nil_of_length_eq_zero (by simpa using l0n.symm)
      | cons z zs => cases h1
    have hend := lv_end hlv ht
    show SG _ _ [] [some (.ref x), some (.str a), some (.ref ra), v3, v4, v5, v6, v7, none, none] G8 L8
    refine gn_then (gn_for (wk_list (e_var rfl ⟨ra, vr, rfl, .of hra, ?_⟩)))
    have r10 : (r0 :: rest).length ≤ 279936 := by
      refine Nat.le_trans hrl (Nat.le_trans (Nat.pow_le_pow_right (by decide) (show n ≤ 7 by omega)) (by decide))
    refine ⟨fun i ys σ G9 L9 => L9 = L8 ∧ ∃ v8 : Option V, σ = [some (.ref x), some (.str a), some (.ref ra), v3, v4, v5, v6, v7, v8, none] ∧ DpAll K G9 ys (((r0 :: rest).take i).map fun r => encO r.1), ⟨rfl, none, rfl, .nil⟩, ?_, ?_⟩
    · rintro i ys σ G9 L9 hi e9 ⟨rfl, v8, rfl, hys⟩ y hy
      obtain ⟨r, er, dr⟩ := dpAll_getE dvr hy
      obtain ⟨tr, lr, u1, u2, vsr, rfl, htr, qr1, qr2, hlr, dvr'⟩ := row_of (dp_ex e9 _ _ dr)
      refine g_name ?_
      show SG _ _ ys [some (.ref x), some (.str a), some (.ref ra), v3, v4, v5, v6, v7, some (.ref tr), none] G9 L9
      have ly := dpAll_len hys
      rw [List.length_map, List.length_take] at ly
      refine gn_then (gn_yield (line_gt (by omega)) ?_)
      walk_at "w"
      refine o_ixT (sqt_ex un_g htr) (i := 0) (v := u1) rfl ?_
      refine gn_nil ⟨e9, rfl, _, rfl, ?_⟩
      rw [List.take_add_one, er, List.map_append]
      exact dpAll_app hys (dpAll_one qr1)
    · rintro ys σ G9 L9 e9 ⟨rfl, v8, rfl, hys⟩
      rw [lvr, List.take_length] at hys
      have ly := dpAll_len hys
      rw [List.length_map] at ly
      refine gn_nil ?_
      refine k ys G9 ((r0 :: rest).map (·.1)) (e07.trans (e8.trans e9)) ?_ (line_ge (by omega)) ⟨n, r0 :: rest, hlv, fun r hr => ?_, rfl⟩
      · rw [List.map_map]
        exact hys
      · obtain ⟨h1, t, h2, h3⟩ := hend r hr
        subst h3
        exact ⟨h1, h2⟩
end
end T

set_option Elab.async false
set_option linter.all false
set_option maxRecDepth 100000
set_option maxHeartbeats 4000000
namespace T
open PySem PySem.Spec PyProof.Rows L2 KM
/-! the walk of readings -/
local macro_rules | `(tactic| walk_at "w1") => `(tactic| first | (with_reducible refine s_seq ?_) | (with_reducible refine s_asg ?_) | (with_reducible refine g_name ?_) | (with_reducible refine s_if ?_) | (with_reducible refine s_drop ?_) | (with_reducible refine s_ret ?_) | (with_reducible refine s_next ?_) | (with_reducible refine s_fld ?_) | (with_reducible refine b_test ?_) | (with_reducible refine b_B ?_) | (with_reducible refine b_and ?_) | (with_reducible refine b_or ?_) | (with_reducible refine b_not ?_) | (with_reducible refine b_truth ?_) | (with_reducible refine b_yes ?_) | (with_reducible refine e_c ?_) | (with_reducible refine e_op ?_) | (with_reducible refine e_un ?_) | (with_reducible refine e_cb ?_) | (with_reducible refine e_chain ?_) | (with_reducible refine e_if ?_) | (with_reducible refine e_andV ?_) | (with_reducible refine e_orV ?_) | (with_reducible refine e_notV ?_) | (with_reducible refine e_bmL ?_) | (with_reducible refine e_m1 ?_) | (with_reducible refine e_sl ?_) | (with_reducible refine e_tup ?_) | (with_reducible refine e_fld ?_) | (with_reducible refine e_call ?_) | (with_reducible refine e_meth ?_) | (with_reducible refine a_nil ?_) | (with_reducible refine a_cons ?_) | (with_reducible refine p_none ?_) | (with_reducible refine p_some ?_) | (with_reducible refine o_I0 ?_) | (with_reducible refine u_neg ?_) | (with_reducible refine c_int ?_) | (with_reducible refine c_abs ?_) | ((with_reducible refine' e_var ?hvar ?_); (case hvar => rfl)))
local macro_rules | `(tactic| walk_at "w") => `(tactic| repeat (walk_at "w1"))
local macro_rules | `(tactic| walk_at "ex") => `(tactic| first | assumption | exact Ex.refl _ | (refine Ex.trans ?_ (by assumption); walk_at "ex"))
section
variable {Pg : Program} {w : World} {K : PySem.W.Frag} {mg : Str → Option Value} {base : Heap} {G G' L : Hp}
theorem ty_tup {a : Addr} {xs : List V} (h : SqT K G a xs) : TyX K G (.ref a) (.type "tuple") := by
  rcases h with (h | ⟨o, h⟩) | ⟨o, its, n, h, c, _⟩
  · exact .base (.tup h)
  · exact .fTuple h
  · exact .kTuple h c
theorem dpAll_perm {α : Type} {f : α → PyData} : ∀ {xs ys : List V} {as : List α}, xs.Perm ys → DpAll K G xs (as.map f) → ∃ bs : List α, bs.Perm as ∧ DpAll K G ys (bs.map f) := by
  intro xs ys as p
  induction p generalizing as with
  | nil => exact fun h => ⟨as, .refl _, h⟩
  | cons x p ih =>
    intro h
    cases as with
    | nil => cases h
    | cons a as =>
      cases h with
      | cons h1 h2 =>
        obtain ⟨bs, p1, p2⟩ := ih h2
        exact ⟨a :: bs, p1.cons a, .cons h1 p2⟩
  | swap x y l =>
    intro h
    cases as with
    | nil => cases h
    | cons a as =>
      cases as with
      | nil => cases h with | cons _ h => cases h
      | cons c as =>
        cases h with
        | cons h1 h2 =>
          cases h2 with
          | cons h2 h3 => exact ⟨c :: a :: as, .swap _ _ _, .cons h2 (.cons h1 h3)⟩
  | trans p q ih1 ih2 =>
    intro h
    obtain ⟨bs, p1, d1⟩ := ih1 h
    obtain ⟨cs, p2, d2⟩ := ih2 d1
    exact ⟨cs, p2.trans p1, d2⟩
/-! a run over the ways in another order -/
theorem outs_perm {ps qs : List (Str × Str)} (p : ps.Perm qs) (a : Str) : (outs ps a).Perm (outs qs a) := p.filter _
theorem step_perm2 {ps qs : List (Str × Str)} (p : ps.Perm qs) {s s' : List Str × List (Str × Str)} {x : Str × Str} (e : s.1 = s'.1) (h : s.2.Perm s'.2) : (stepM ps s x).1 = (stepM qs s' x).1 ∧ (stepM ps s x).2.Perm (stepM qs s' x).2 := by
  unfold stepM
  rw [e]
  split
  · exact ⟨rfl, h.erase x⟩
  · exact ⟨rfl, (h.erase x).append (outs_perm p _)⟩
theorem run_perm {ps qs : List (Str × Str)} (p : ps.Perm qs) : ∀ (ord : List (Str × Str)) {s s' r : List Str × List (Str × Str)}, s.1 = s'.1 → s.2.Perm s'.2 → runM ps ord s = some r → ∃ r', runM qs ord s' = some r' ∧ r.1 = r'.1 ∧ r.2.Perm r'.2
  | [], s, s', r, e, h, hr => by
    cases hr
    exact ⟨s', rfl, e, h⟩
  | x :: ord, s, s', r, e, h, hr => by
    unfold runM at hr
    split at hr
    · rename_i hx
      obtain ⟨h1, h2⟩ := step_perm2 p (x := x) e h
      obtain ⟨r', g1, g2, g3⟩ := run_perm p ord h1 h2 hr
      refine ⟨r', ?_, g2, g3⟩
      unfold runM
      rw [if_pos (h.mem_iff.mp hx)]
      exact g1
    · cases hr
theorem run_end {ps qs : List (Str × Str)} (p : ps.Perm qs) {a : Str} {ord : List (Str × Str)} {l : List Str} (h : runM ps ord (init ps a) = some (l, [])) : runM qs ord (init qs a) = some (l, []) := by
  obtain ⟨r', h1, h2, h3⟩ := run_perm p ord (s := init ps a) (s' := init qs a) rfl (outs_perm p a) h
  rw [h1]
  obtain ⟨r1, r2⟩ := r'
  simp only at h2 h3
  rw [h2, h3.symm.eq_nil]
/-! orders as data -/
theorem okD_ord (o : List (Str × Str)) : okD (encO o) := by
  refine ⟨?_, ?_⟩
  · have e : PyData.plainAll (o.map encP) = true := pairO.plain o
    show PyData.plain (.tuple (o.map encP)) = true
    simp [PyData.plain, e]
  · have d : PyData.depthAll (o.map encP) ≤ 40 := by
      induction o with
      | nil => simp [PyData.depthAll]
      | cons x o ih =>
        simp only [List.map_cons, PyData.depthAll]
        have : PyData.depth (encP x) ≤ 40 := by simp [encP, PyData.depth, PyData.depthAll]
        omega
    show PyData.depth (.tuple (o.map encP)) ≤ 60
    simp only [PyData.depth]
    omega
theorem okD_strs (o : List Str) : okD (.list (o.map .str)) := by
  refine ⟨?_, ?_⟩
  · have e : PyData.plainAll (o.map .str) = true := strO.plain o
    simp [PyData.plain, e]
  · have d : PyData.depthAll (o.map .str) ≤ 40 := by
      induction o with
      | nil => simp [PyData.depthAll]
      | cons x o ih =>
        simp only [List.map_cons, PyData.depthAll]
        have : PyData.depth (.str x) ≤ 40 := by simp [PyData.depth]
        omega
    simp only [PyData.depth]
    omega
theorem nob_ord (o : List (Str × Str)) : nob (encO o) = true := by
  have e : nobAll (o.map encP) = true := pairO.nball o
  show nob (.tuple (o.map encP)) = true
  simp [nob, e]
theorem ord_inj {o o' : List (Str × Str)} (h : encO o = encO o') : o = o' := by
  have h : PyData.tuple (o.map encP) = .tuple (o'.map encP) := h
  exact pairO.map_inj (PyData.tuple.inj h)
theorem any_ord {os : List (List (Str × Str))} {o : List (Str × Str)} : (os.map encO).any (fun z => PyData.eqv z (encO o)) = decide (o ∈ os) := by
  have e : ∀ m : List (Str × Str), PyData.eqv (encO m) (encO o) = decide (m = o) := fun m => eqv_dec (nob_ord m) (nob_ord o) ⟨ord_inj, fun e => by rw [e]⟩
  rw [List.any_map]
  show os.any (fun m => PyData.eqv (encO m) (encO o)) = _
  simp only [e]
  rw [Bool.eq_iff_iff]
  simp
theorem plain_ords (os : List (List (Str × Str))) : PyData.plainAll (os.map encO) = true := by
  induction os with
  | nil => simp [PyData.plainAll]
  | cons o os ih => simp [PyData.plainAll, ih, (okD_ord o).1]
theorem cmp_ord : ∀ (o o' : List (Str × Str)), cmpb (encO o) (encO o') = true := by
  intro o o'
  show cmpb (.tuple (o.map encP)) (.tuple (o'.map encP)) = true
  simp only [cmpb]
  induction o generalizing o' with
  | nil => simp [cmpbAll]
  | cons x o ih =>
    cases o' with
    | nil => simp [cmpbAll]
    | cons y o' => simp only [List.map_cons, cmpbAll, ih o', Bool.and_true]; exact pairO.cmp x y
theorem ltb_ord : ∀ (o o' : List (Str × Str)), ltb (encO o) (encO o') = pairO.lo.lexb o o' := by
  intro o o'
  show ltb (.tuple (o.map encP)) (.tuple (o'.map encP)) = _
  simp only [ltb]
  induction o generalizing o' with
  | nil =>
    cases o' with
    | nil => rfl
    | cons y o' => rfl
  | cons x o ih =>
    cases o' with
    | nil => rfl
    | cons y o' =>
      simp only [List.map_cons, ltbAll, LO.lexb]
      have e1 : PyData.eqv (encP x) (encP y) = decide (x = y) := pairO.eqv x y
      have e2 : ltb (encP x) (encP y) = pairO.lo.lt x y := pairO.ltb x y
      rw [e1, e2, ih]
      by_cases h : x = y
      · subst h
        simp [pairO.lo.irr]
      · simp only [h, decide_false, Bool.false_eq_true, if_false]
        cases h1 : pairO.lo.lt x y with
        | true => rfl
        | false =>
          cases h2 : pairO.lo.lt y x with
          | true => rfl
          | false => exact absurd (pairO.lo.tri _ _ h1 h2) h
/-! the ways among few offices -/
theorem filter_lt {names : List Str} {a : Str} (h : a ∈ names) : (names.filter fun b => decide (b ≠ a)).length + 1 ≤ names.length := by
  induction names with
  | nil => cases h
  | cons n names ih =>
    rw [List.filter_cons]
    by_cases e : n = a
    · have := List.length_filter_le (fun b => decide (b ≠ a)) names
      rw [if_neg (by simpa using e)]
      simp only [List.length_cons]
      omega
    · rw [if_pos (by simpa using e)]
      rcases List.mem_cons.mp h with q | q
      · exact absurd q.symm e
      · have := ih q
        simp only [List.length_cons]
        omega
theorem six {names : List Str} {ps : List (Str × Str)} (h3 : names.length ≤ 3) (nd : ps.Nodup) (hp : ∀ q ∈ ps, q.1 ∈ names ∧ q.2 ∈ names ∧ q.1 ≠ q.2) : ps.length ≤ 6 := by
  have h1 := nodup_le nd fun q hq => every_mem.mpr (hp q hq)
  have h2 : ∀ l : List Str, (∀ a ∈ l, a ∈ names) → (l.flatMap fun a => (names.filter fun b => decide (b ≠ a)).map fun b => (a, b)).length ≤ l.length * 2 := fun l => by
    induction l with
    | nil => intro _; simp
    | cons a l ih =>
      intro h
      rw [List.flatMap_cons, List.length_append, List.length_cons, Nat.add_mul, List.length_map]
      have := ih fun a ha => h a (List.mem_cons_of_mem _ ha)
      have := filter_lt (h a List.mem_cons_self)
      omega
  have := h2 names fun _ h => h
  unfold everyM at h1
  omega
theorem reach_names {names : List Str} {ps : List (Str × Str)} (hp : ∀ q ∈ ps, q.2 ∈ names) {a b : Str} (ha : a ∈ names) (h : Reach ps a b) : b ∈ names := by
  induction h with
  | me => exact ha
  | go _ h1 _ => exact hp _ h1
theorem lack_mem {names : List Str} {ps : List (Str × Str)} {q : Str × Str} : q ∈ lackM names ps ↔ q.1 ∈ names ∧ q.2 ∈ names ∧ q.2 ∉ roundsM ps names.length [q.1] := by
  unfold lackM
  simp only [List.mem_flatMap, List.mem_map, List.mem_filter, decide_eq_true_eq]
  constructor
  · rintro ⟨a, ha, b, ⟨hb, hn⟩, rfl⟩
    exact ⟨ha, hb, hn⟩
  · rintro ⟨h1, h2, h3⟩
    exact ⟨q.1, h1, q.2, ⟨h2, h3⟩, rfl⟩
/-- those that learn are those that hear -/
theorem learn_hear {names : List Str} {ps : List (Str × Str)} (hn : names.Nodup) (hp : ∀ q ∈ ps, q.1 ∈ names ∧ q.2 ∈ names) {a : Str} (ha : a ∈ names) {ord : List (Str × Str)} {l : List Str} (h : runM ps ord (init ps a) = some (l, [])) : l.Perm (names.filter fun n => decide (a ∈ roundsM ps names.length [n])) := by
  have g := good_run ord [] _ _ (good_init ps a) h
  refine (List.perm_ext_iff_of_nodup g.nd (hn.filter _)).mpr fun b => ?_
  rw [learnt_iff h rfl b, List.mem_filter]
  constructor
  · intro r
    have hb := reach_names (fun q hq => (hp q hq).2) ha r
    exact ⟨hb, by simpa using (hears_iff hb hn (fun q hq => (hp q hq).1) a).mpr r⟩
  · rintro ⟨hb, hr⟩
    exact (hears_iff hb hn (fun q hq => (hp q hq).1) a).mp (by simpa using hr)

theorem ok_told_well (T : Tx K mg) (G1 : FnOk Pg w K mg base CX0 3 (He.fAd K d_Ways_hears.at_) T.e_Ways_hears ["self", "office"] (Spt (pm_Ways_hears K))) (G2 : FnOk Pg w K mg base CX0 4 (He.fAd K d_Ways_lacking.at_) T.e_Ways_lacking ["self"] (Spt (pm_Ways_lacking K)))
    (G3 : FnOk Pg w K mg base CX0 2 (He.fAd K d__law_pick.at_) T.e__law_pick ["bag", "many"] (Spt (pm__law_pick K))) (G4 : FnOk Pg w K mg base CX0 3 (He.fAd K d__law_read_through.at_) T.e__law_read_through ["bag", "pairs", "office"] (Spt (pm__law_read_through K)))
    (G5 : FnOk Pg w K mg base CX0 1 (He.fAd K d__law_sorted.at_) T.e__law_sorted ["things"] (Spt (pm__law_sorted K))) (G6 : FnOk Pg w K mg base CX0 1 (He.fAd K d__law_walked.at_) T.e__law_walked ["pairs", "office", "order"] (Spt (pm__law_walked K)))
    (G7 : GFn Pg w K mg base 4 (He.fAd K d_deliveries.at_) T.e_deliveries ["ways", "office"] (spg_deliveries K)) :
    FnOk Pg w K mg base CX0 9 (He.fAd K d__law_told_well.at_) T.e__law_told_well ["bag", "box", "names", "pairs", "office"] (Spt (pm__law_told_well K)) := by
  refine okF T.F__law_told_well sc__law_told_well (fun vs G L R h => by obtain ⟨b, o, x, v, u, names, ps, qs, a, rfl, _⟩ := h; rfl) (run__law_told_well T G1 G2 G3 G4 G5 G6 G7) (fun vs G L R h => ?_)
  obtain ⟨b, o, x, v, u, names, ps, qs, a, rfl, hb, ho, hx, hv, hu, rfl, pnd, plen, nnd, n3, pin, han, k⟩ := h
  have hv0 := hv
  obtain ⟨va, rfl, hva⟩ := hv.strs
  have pq := pairO.lo.sort_perm ps
  have qlen : (pairO.lo.sort ps).length ≤ 6 := by rw [pq.length_eq]; exact six n3 pnd pin
  have qnd : (pairO.lo.sort ps).Nodup := pq.nodup_iff.mpr pnd
  have qin : ∀ q ∈ pairO.lo.sort ps, q.1 ∈ names ∧ q.2 ∈ names := fun q hq => by
    have := pin q (pq.mem_iff.mp hq)
    exact ⟨this.1, this.2.1⟩
  have qsr := pairO.lo.sort_srt ps
  show S (t__law_told_well K) _ [some (.ref b), some (.ref x), some (.ref va), some u, some (.str a), none, none, none, none, none, none, none, none, none] G L
  unfold t__law_told_well
  refine s_seq (s_asg (e_listG ?_))
  walk_at "w"
  refine ⟨x, names, _, a, rfl, hx, qnd, qsr, qlen, fun q hq => (qin q hq).2, han, fun outs G2 told e2 hd hz ht => ?_⟩
  intro to G3 gto e3 hto
  obtain ⟨n, rows, hlv, hend, rfl⟩ := ht
  have htold : DpAll K G3 outs ((rows.map (·.1)).map encO) := dpAll_ex e3 _ _ hd
  have hto0 : Dp K G3 (.ref to) (.list ((rows.map (·.1)).map encO)) := .lst (.of hto) htold
  have lout := dpAll_len htold
  rw [List.length_map, List.length_map] at lout
  have e03 := e2.trans e3
  walk_at "w"
  obtain ⟨dx, ba, bp, hx1, hx2, hx3⟩ := hx
  have hx : BoxG K G x names (pairO.lo.sort ps) := ⟨dx, ba, bp, hx1, hx2, hx3⟩
  refine ⟨x, dx, _, rfl, .inl (e03 _ _ hx1), wfs_no _ _ (by decide +kernel) (by decide +kernel), ?_⟩
  walk_at "w"
  refine ⟨x, names, _, rfl, hx.ex e03, by omega, n3, fun q hq => (qin q hq).1, fun vl G4 e4 hvl => ?_⟩
  walk_at "w"
  refine e_lstL (a_nil ⟨Nat.zero_le _, fun h gh lh => ?_⟩)
  have bh : b ≠ h := fun e => by subst e; rw [hb] at lh; cases lh
  walk_at "w"
  show S _ _ [some (.ref b), some (.ref x), some (.ref va), some u, some (.str a), some (.ref to), some vl, some (.ref h), none, none, none, none, none, none] G4 _
  have e04 := e03.trans e4
  refine s_for (wk_list (e_var rfl ⟨va, _, rfl, .of (e04 _ _ hva), ?_⟩))
  refine ⟨fun i σ G5 L5 => ∃ v8 v9 : Option V, σ = [some (.ref b), some (.ref x), some (.ref va), some u, some (.str a), some (.ref to), some vl, some (.ref h), v8, v9, none, none, none, none] ∧ L5 = upd L h (.lst (((names.take i).filter fun n => decide (a ∈ roundsM (pairO.lo.sort ps) names.length [n])).map V.str)), ⟨none, none, rfl, rfl⟩, ?_, ?_⟩
  · rintro i σ G5 L5 hi e5 ⟨v8, v9, rfl, rfl⟩ y hy
    obtain ⟨nm, en, rfl⟩ := map_get hy
    have nin := List.mem_of_getElem? en
    have e05 := e04.trans e5
    refine g_name ?_
    show S _ _ [some (.ref b), some (.ref x), some (.ref va), some u, some (.str a), some (.ref to), some vl, some (.ref h), some (.str nm), v9, none, none, none, none] G5 _
    walk_at "w"
    refine ⟨x, dx, _, rfl, .inl (e05 _ _ hx1), wfs_no _ _ (by decide +kernel) (by decide +kernel), ?_⟩
    walk_at "w"
    refine ⟨x, names, _, nm, rfl, hx.ex e05, by omega, n3, fun q hq => (qin q hq).1, nin, fun vh G6 e6 hvh => ?_⟩
    obtain ⟨ah, xh, rfl, hah, dah, _⟩ := tup_of hvh
    walk_at "w"
    refine c_isi (.ty "tuple") (fun H e => ty_tup (sqt_ex (un_g.trans e) hah)) (b := true) (kit_ty (by decide +kernel)) ?_
    refine ⟨_, rfl, (fun z => by cases z), fun _ => ?_⟩
    walk_at "w"
    have hvhU : ∀ {L : Hp}, Dp K (Un G6 L) (.ref ah) (.tuple ((strLO.sort (roundsM (pairO.lo.sort ps) names.length [nm])).map .str)) := dp_ex un_g _ _ hvh
    refine o_inP (a := .str a) (bs := (strLO.sort (roundsM (pairO.lo.sort ps) names.length [nm])).map .str) (.str _) (.inr hvhU) (strO.ok _) (strO.plain _) ?_
    have ms : a ∈ strLO.sort (roundsM (pairO.lo.sort ps) names.length [nm]) ↔ a ∈ roundsM (pairO.lo.sort ps) names.length [nm] := (strLO.sort_perm _).mem_iff
    rw [any_str]
    walk_at "w"
    refine ⟨by show 2 ≤ sizeLine; decide, fun t G7 gt e7 ht => ?_⟩
    walk_at "w"
    refine o_inP (a := encP (nm, a)) (bs := (lackM names (pairO.lo.sort ps)).map encP) (dp_ex un_g _ _ (dpAll_pair (q := (nm, a)) ht)) (.inl (dp_ex un_g _ _ ((hvl.ex (e5.trans (e6.trans e7))).dp))) (pairO.ok _) (pairO.plain _) ?_
    rw [any_pair]
    have ne : ¬ (V.bl (decide (a ∈ strLO.sort (roundsM (pairO.lo.sort ps) names.length [nm]))) = V.bl (decide ((nm, a) ∈ lackM names (pairO.lo.sort ps)))) := by
      intro e
      have e : decide (a ∈ strLO.sort (roundsM (pairO.lo.sort ps) names.length [nm])) = decide ((nm, a) ∈ lackM names (pairO.lo.sort ps)) := by simpa using e
      rw [decide_eq_decide, ms, lack_mem] at e
      by_cases q : a ∈ roundsM (pairO.lo.sort ps) names.length [nm]
      · exact (e.mp q).2.2 q
      · exact q (e.mpr ⟨nin, han, q⟩)
    refine o_eq rfl ⟨_, rfl, fun z => absurd (of_decide_eq_true z) ne, fun _ => ?_⟩
    walk_at "w"
    refine o_inP (a := .str a) (bs := (strLO.sort (roundsM (pairO.lo.sort ps) names.length [nm])).map .str) (.str _) (.inr (dp_ex (e7.trans un_g) _ _ hvh)) (strO.ok _) (strO.plain _) ?_
    rw [any_str]
    have ft := filter_take (fun n => decide (a ∈ roundsM (pairO.lo.sort ps) names.length [n])) en
    refine ⟨_, rfl, fun h1 => ?_, fun h1 => ?_⟩
    · have h1 : a ∈ roundsM (pairO.lo.sort ps) names.length [nm] := by
        rw [← ms]
        simpa using h1
      walk_at "w"
      refine ⟨h, _, rfl, upd_same, ?_⟩
      walk_at "w"
      refine m_append upd_same (line_gt ?_) ?_
      · rw [List.length_map]
        refine Nat.le_trans (List.length_filter_le _ _) ?_
        rw [List.length_take]
        omega
      refine ⟨e5.trans (e6.trans e7), _, _, rfl, ?_⟩
      rw [upd_upd, ft, if_pos (by simpa using h1), List.map_append]
      rfl
    · have h1 : a ∉ roundsM (pairO.lo.sort ps) names.length [nm] := by
        rw [← ms]
        simpa using h1
      walk_at "w"
      refine ⟨e5.trans (e6.trans e7), _, _, rfl, ?_⟩
      rw [ft, if_neg (by simpa using h1), List.append_nil]
  rintro σ G5 L5 e5 ⟨v8, v9, rfl, rfl⟩
  rw [List.length_map, List.take_length]
  refine s_freeze lh fun G6 e6 hh => ?_
  have hhear : Dl K G6 (.ref h) ((names.filter fun n => decide (a ∈ roundsM (pairO.lo.sort ps) names.length [n])).map .str) := ⟨h, _, rfl, hh, dpAll_of_strs _⟩
  have e36 := e4.trans (e5.trans e6)
  have e06 := e03.trans e36
  have hrne := List.length_pos_iff.mpr hlv.ne
  show S _ _ [some (.ref b), some (.ref x), some (.ref va), some u, some (.str a), some (.ref to), some vl, some (.ref h), v8, v9, none, none, none, none] G6 _
  walk_at "w"
  refine ⟨!outs.isEmpty, .inl ⟨outs, .of (un_g _ _ (e36 _ _ hto)), rfl⟩, fun z => ?_, fun _ => ?_⟩
  · exfalso
    cases outs with
    | nil => simp only [List.length_nil] at lout; omega
    | cons _ _ => cases z
  walk_at "w"
  show S _ _ [some (.ref b), some (.ref x), some (.ref va), some u, some (.str a), some (.ref to), some vl, some (.ref h), v8, v9, none, none, none, none] G6 _
  refine s_for (wk_enum ?_)
  walk_at "w"
  refine ⟨to, outs, rfl, .of (e36 _ _ hto), ?_⟩
  refine ⟨fun i σ G7 L7 => ∃ v10 v11 v12 : Option V, σ = [some (.ref b), some (.ref x), some (.ref va), some u, some (.str a), some (.ref to), some vl, some (.ref h), v8, v9, v10, v11, v12, none] ∧ L7 = L, ⟨none, none, none, rfl, rfl⟩, ?_, ?_⟩
  · rintro i σ G7 L7 hi e7 ⟨v10, v11, v12, rfl, rfl⟩ y p G8 hy e8 hp
    obtain ⟨od, eo, qo⟩ := dpAll_getE htold hy
    obtain ⟨r, er, rfl⟩ := map_get eo
    have rin := List.mem_of_getElem? er
    obtain ⟨re1, re2⟩ := hend r rin
    have e38 := e36.trans (e7.trans e8)
    have e08 := e03.trans e38
    have qo8 := dp_ex e38 _ _ qo
    have qo' : Dp K G8 y (.tuple (r.1.map encP)) := qo8
    obtain ⟨ay, xy, rfl, hay, day, _⟩ := tup_of qo'
    refine g_tup (.of (un_g _ _ hp)) rfl (gs_cons (g_name (gs_cons (g_name (gs_nil ?_)))))
    show S _ _ [some (.ref b), some (.ref x), some (.ref va), some u, some (.str a), some (.ref to), some vl, some (.ref h), v8, v9, some (.int (i : Int)), some (.ref ay), v12, none] G8 _
    walk_at "w"
    refine c_isi (.ty "tuple") (fun H e => ty_tup (sqt_ex (un_g.trans e) hay)) (b := true) (kit_ty (by decide +kernel)) ?_
    refine ⟨_, rfl, (fun z => by cases z), fun _ => ?_⟩
    walk_at "w"
    refine ⟨u, .ref ay, ps, a, r.1, r.2.1, rfl, hu.ex e08, qo8, by omega, run_end pq re2, fun z G9 e9 hz => ?_⟩
    obtain ⟨az, rfl, haz⟩ := hz.strs
    walk_at "w"
    refine o_isN ⟨_, rfl, (fun z => by cases z), fun _ => ?_⟩
    have g := good_run r.1 [] _ _ (good_init _ a) re2
    have pl := learn_hear nnd qin han re2
    have l3 : r.2.1.length ≤ 3 := by
      rw [pl.length_eq]
      exact Nat.le_trans (List.length_filter_le _ _) n3
    walk_at "w"
    refine ⟨.ref az, r.2.1, rfl, hz, by omega, fun z1 G10 e10 hz1 => ?_⟩
    walk_at "w"
    refine ⟨.ref h, _, rfl, hhear.ex (e7.trans (e8.trans (e9.trans e10))), ?_, fun z2 G11 e11 hz2 => ?_⟩
    · have := List.length_filter_le (fun n => decide (a ∈ roundsM (pairO.lo.sort ps) names.length [n])) names
      omega
    refine o_neP (a := .list ((strLO.sort r.2.1).map .str)) (b := .list ((strLO.sort (names.filter fun n => decide (a ∈ roundsM (pairO.lo.sort ps) names.length [n]))).map .str)) (dp_ex un_g _ _ ((hz1.ex e11).dp)) (dp_ex un_g _ _ hz2.dp) (okD_strs _) (okD_strs _) ?_
    have ev : PyData.eqv (.list ((strLO.sort r.2.1).map .str)) (.list ((strLO.sort (names.filter fun n => decide (a ∈ roundsM (pairO.lo.sort ps) names.length [n]))).map .str)) = true := by
      have nb : ∀ l : List Str, nob (.list (l.map .str)) = true := fun l => by simp only [nob]; exact strO.nball l
      refine (eqv_iff _ _ (nb _) (nb _)).mpr ?_
      rw [strLO.sort_congr pl]
    rw [ev]
    refine ⟨_, rfl, (fun z => by cases z), fun _ => ?_⟩
    have e811 := e9.trans (e10.trans e11)
    walk_at "w"
    refine ⟨_, rfl, fun h1 => ?_, fun h1 => ?_⟩
    · have h1 : 0 < i := by
        have := of_decide_eq_true h1
        omega
      walk_at "w"
      have hi1 : i - 1 < outs.length := by omega
      obtain ⟨od2, eo2, qo2⟩ := dpAll_getE htold (List.getElem?_eq_getElem hi1)
      obtain ⟨r2, er2, rfl⟩ := map_get eo2
      refine o_ixL (.of (un_g _ _ ((e38.trans e811) _ _ hto))) (v := outs[i - 1]) ?_ ?_
      · have : ((i : Int) - 1) = ((i - 1 : Nat) : Int) := by omega
        rw [this]
        exact atI_of (List.getElem?_eq_getElem hi1)
      walk_at "w"
      refine o_ltP (a := encO r2.1) (b := encO r.1) (dp_ex ((e38.trans e811).trans un_g) _ _ qo2) (dp_ex (e811.trans un_g) _ _ qo8) (okD_ord _) (okD_ord _) (cmp_ord _ _) ?_
      rw [ltb_ord]
      have lx : pairO.lo.lexb r2.1 r.1 = true := by
        obtain ⟨h2, g2⟩ := List.getElem?_eq_some_iff.mp er2
        obtain ⟨h3, g3⟩ := List.getElem?_eq_some_iff.mp er
        have := List.pairwise_iff_getElem.mp hlv.asc (i - 1) i h2 h3 (by omega)
        rw [g2, g3] at this
        exact this
      rw [lx]
      refine ⟨_, rfl, (fun z => by cases z), fun _ => ?_⟩
      walk_at "w"
      exact ⟨e7.trans (e8.trans e811), _, _, _, rfl, rfl⟩
    · refine ⟨(fun z => by cases z), fun _ => ?_⟩
      walk_at "w"
      exact ⟨e7.trans (e8.trans e811), _, _, _, rfl, rfl⟩
  rintro σ G7 L7 e7 ⟨v10, v11, v12, rfl, rfl⟩
  show S _ _ [some (.ref b), some (.ref x), some (.ref va), some u, some (.str a), some (.ref to), some vl, some (.ref h), v8, v9, v10, v11, v12, none] G7 L7
  have e37 := e36.trans e7
  have e07 := e03.trans e37
  refine s_seq (s_for (wk_rng1 ?_))
  walk_at "w"
  refine ⟨b, 2, o, rfl, by decide, by decide, hb, ho.ex e07, fun r o1 r0 r1 ho1 => ?_⟩
  walk_at "w"
  refine ⟨_, rfl, by omega, by omega, ?_⟩
  refine ⟨fun i σ G8 L8 => ∃ (v13 : Option V) (o : HO), σ = [some (.ref b), some (.ref x), some (.ref va), some u, some (.str a), some (.ref to), some vl, some (.ref h), v8, v9, v10, v11, v12, v13] ∧ BagO K G8 o ∧ L8 = upd L7 b o, ⟨none, o1, rfl, ho1, rfl⟩, ?_, ?_⟩
  · rintro i σ G8 L8 hi e8 ⟨v13, o2, rfl, ho2, rfl⟩
    refine g_name ?_
    show S _ _ [some (.ref b), some (.ref x), some (.ref va), some u, some (.str a), some (.ref to), some vl, some (.ref h), v8, v9, v10, v11, v12, some (.int (i : Int))] G8 _
    walk_at "w"
    refine ⟨b, o2, u, ps, a, rfl, upd_same, ho2, hu.ex (e07.trans e8), by omega, fun z G9 o3 ord l e9 ho3 hz hrun => ?_⟩
    rw [upd_upd]
    walk_at "w"
    refine o_notInP (a := encO ord) (bs := (rows.map (·.1)).map encO) (dp_ex un_g _ _ hz) (.inl (dp_ex ((e37.trans (e8.trans e9)).trans un_g) _ _ hto0)) (okD_ord _) (plain_ords _) ?_
    have rq := run_end pq.symm hrun
    have mem : ord ∈ rows.map (·.1) := by
      obtain ⟨r0, hr0⟩ := List.exists_mem_of_ne_nil _ hlv.ne
      obtain ⟨he1, he2⟩ := hend r0 hr0
      have ln := same_len rq rfl he2 rfl
      obtain ⟨h1, _⟩ := hlv.row r0 hr0
      obtain ⟨r, hr, er⟩ := hlv.all ord _ (ln.trans h1) rq
      exact List.mem_map.mpr ⟨r, hr, er⟩
    rw [any_ord, decide_eq_true mem]
    refine ⟨_, rfl, (fun z => by cases z), fun _ => ?_⟩
    walk_at "w"
    exact ⟨e8.trans e9, _, o3, rfl, ho3, rfl⟩
  · rintro σ G8 L8 e8 ⟨v13, o2, rfl, ho2, rfl⟩
    walk_at "w"
    exact k G8 o2 (e07.trans e8) ho2

theorem ok_law (T : Tx K mg) (G1 : FnOk Pg w K mg base CX0 4 (He.fAd K d_Ways___init__.at_) T.e_Ways___init__ ["self", "offices", "pairs"] (Spt (pm_Ways___init__ K))) (G2 : FnOk Pg w K mg base CX0 1 (He.fAd K d__law_bag.at_) T.e__law_bag ["script"] (Spt (pm__law_bag K)))
    (G3 : FnOk Pg w K mg base CX0 3 (He.fAd K d__law_mingled.at_) T.e__law_mingled ["bag", "things"] (Spt (pm__law_mingled K))) (G4 : FnOk Pg w K mg base CX0 3 (He.fAd K d__law_new_name.at_) T.e__law_new_name ["bag", "used"] (Spt (pm__law_new_name K)))
    (G5 : FnOk Pg w K mg base CX0 2 (He.fAd K d__law_pick.at_) T.e__law_pick ["bag", "many"] (Spt (pm__law_pick K))) (G6 : FnOk Pg w K mg base CX0 3 (He.fAd K d__law_shape.at_) T.e__law_shape ["bag", "names"] (Spt (pm__law_shape K)))
    (G7 : FnOk Pg w K mg base CX0 9 (He.fAd K d__law_told_well.at_) T.e__law_told_well ["bag", "box", "names", "pairs", "office"] (Spt (pm__law_told_well K))) :
    FnOk Pg w K mg base CX0 10 (He.fAd K d_law.at_) T.e_law ["script"] (Spt (pm_law K)) := by
  refine okF T.F_law sc_law (fun vs G L R h => by obtain ⟨a, ns, rfl, _⟩ := h; rfl) (run_law T G1 G2 G3 G4 G5 G6 G7) (fun vs G L R h => ?_)
  obtain ⟨a, ns, rfl, ha, hl, k⟩ := h
  show S (t_law K) _ [some (.ref a), none, none, none, none, none, none] G L
  unfold t_law
  walk_at "w"
  refine ⟨a, ns, rfl, ha, hl, fun b G1 o e1 gb lb ho => ?_⟩
  walk_at "w"
  refine e_lstL (a_nil ⟨Nat.zero_le _, fun u gu lu => ?_⟩)
  have bu : b ≠ u := fun e => by subst e; rw [upd_same] at lu; cases lu
  rw [upd_ne (Ne.symm bu)] at lu
  walk_at "w"
  show S _ _ [some (.ref a), some (.ref b), some (.ref u), none, none, none, none] G1 _
  refine s_for (wk_rng1 ?_)
  walk_at "w"
  refine e_lstG ?_
  walk_at "w"
  refine ⟨by show 6 ≤ sizeLine; decide, fun t G2 gt e2 ht => ?_⟩
  walk_at "w"
  refine ⟨b, 6, o, rfl, by decide, by decide, by rw [upd_ne bu, upd_same], ho.ex e2, fun r o1 r0 r1 ho1 => ?_⟩
  rw [upd_in1 bu]
  obtain ⟨m, rfl⟩ := Int.eq_ofNat_of_zero_le r0
  have pick6 : ∃ c : Nat, c ≤ 2 ∧ ([V.int 0, .int 0, .int 0, .int 1, .int 1, .int 2])[m]? = some (.int c) := by
    have hm : m < 6 := by omega
    match m, hm with
    | 0, _ => exact ⟨0, by decide, rfl⟩
    | 1, _ => exact ⟨0, by decide, rfl⟩
    | 2, _ => exact ⟨0, by decide, rfl⟩
    | 3, _ => exact ⟨1, by decide, rfl⟩
    | 4, _ => exact ⟨1, by decide, rfl⟩
    | 5, _ => exact ⟨2, by decide, rfl⟩
  obtain ⟨c, hc, ec⟩ := pick6
  refine o_ixL (.of (un_g _ _ ht)) (v := .int c) (atI_of ec) ?_
  walk_at "w"
  refine ⟨_, rfl, by omega, by omega, ?_⟩
  have en : (3 - (c : Int)).toNat = 3 - c := by omega
  rw [en]
  refine ⟨fun i σ G3 L3 => ∃ (v3 : Option V) (o : HO) (names : List Str), σ = [some (.ref a), some (.ref b), some (.ref u), v3, none, none, none] ∧ BagO K G3 o ∧ L3 = upd (upd L b o) u (.lst (names.map V.str)) ∧ names.length = i ∧ names.Nodup ∧ ∀ n ∈ names, nmOk n, ⟨none, o1, [], rfl, ho1, rfl, rfl, List.nodup_nil, by simp⟩, ?_, ?_⟩
  · rintro i σ G3 L3 hi e3 ⟨v3, o2, names, rfl, ho2, rfl, nl, nd, nok⟩
    refine g_name ?_
    show S _ _ [some (.ref a), some (.ref b), some (.ref u), some (.int (i : Int)), none, none, none] G3 _
    walk_at "w"
    refine ⟨b, o2, u, names, rfl, bu, by rw [upd_ne bu, upd_same], ho2, upd_same, nok, by omega, fun x G4 o3 e4 ho3 hx hnew => ?_⟩
    rw [upd_in1 bu, upd_upd]
    refine ⟨e3.trans e4, _, o3, names ++ [x], rfl, ho3, rfl, by simp [nl], ?_, ?_⟩
    · exact List.nodup_append.mpr ⟨nd, by simp, fun y hy z hz e => by
        have e2 := List.mem_singleton.mp hz
        rw [e2] at e
        exact hnew (e ▸ hy)⟩
    · intro n hn
      rcases List.mem_append.mp hn with hn | hn
      · exact nok n hn
      · have e := List.mem_singleton.mp hn
        rw [e]
        exact hx
  rintro σ G3 L3 e3 ⟨v3, o2, names, rfl, ho2, rfl, nl, nd, nok⟩
  refine s_freeze (by rw [upd_ne (Ne.symm bu)]; exact lu) fun G4 e4 hu => ?_
  have hnames : Dl K G4 (.ref u) (names.map .str) := ⟨u, _, rfl, hu, dpAll_of_strs _⟩
  show S _ _ [some (.ref a), some (.ref b), some (.ref u), v3, none, none, none] G4 _
  walk_at "w"
  refine ⟨b, o2, .ref u, names, rfl, upd_same, ho2.ex e4, hnames, nd, by omega, by omega, fun z G5 o3 ps e5 ho3 hz pnd plen pin => ?_⟩
  rw [upd_upd]
  obtain ⟨pz, vz, rfl, hpz, dz, lz⟩ := hz.len
  rw [List.length_map] at lz
  walk_at "w"
  refine e_make ?_
  walk_at "w"
  refine c_listG (.inl (.of (un_g _ _ (e5 _ _ hu)))) fun q G6 e6 hq => ?_
  walk_at "w"
  refine ⟨b, o3, pz, vz, rfl, upd_same, ho3.ex e6, .of (e6 _ _ hpz), by omega, fun p2 G7 o4 ys e7 ho4 hys hp2 => ?_⟩
  rw [upd_upd]
  walk_at "w"
  intro x dx gx lx
  have bx : b ≠ x := fun e => by subst e; rw [upd_same] at lx; cases lx
  have lx0 : L x = none := by
    rw [upd_ne (Ne.symm bx)] at lx
    exact lx
  -- the pairs in another order
  have mix : ∃ ms : List (Str × Str), ms.Perm ps ∧ DpAll K G7 ys (ms.map encP) := dpAll_perm hys.symm (dpAll_ex (e6.trans e7) _ _ dz)
  obtain ⟨ms, mp, dms⟩ := mix
  have e67 := e6.trans e7
  refine ⟨x, dx, .ref q, .ref p2, names, ms, rfl, upd_same, ⟨q, _, rfl, e7 _ _ hq, dpAll_of_strs _⟩, ⟨p2, ys, rfl, hp2, dms⟩, nok, nd, by omega, by omega, mp.nodup_iff.mpr pnd, by rw [mp.length_eq]; omega, fun q hq => pin q (mp.mem_iff.mp hq), fun aa pp G8 e8 h8a h8p => ⟨rfl, ?_⟩⟩
  rw [upd_upd, pairO.lo.sort_congr mp] at *
  refine g_name ?_
  show S _ _ [some (.ref a), some (.ref b), some (.ref u), v3, some (.ref pz), some (.ref x), none] G8 _
  refine s_freeze (by rw [upd_ne (Ne.symm bx)]; exact lx0) fun G9 e9 hx => ?_
  have e59 := e67.trans (e8.trans e9)
  have hbox : BoxG K G9 x names (pairO.lo.sort ps) := ⟨dx, aa, pp, hx, sqt_ex e9 h8a, h8p.ex e9⟩
  refine s_seq (s_for (wk_list (e_var rfl ⟨u, _, rfl, .of ((e5.trans e59) _ _ hu), ?_⟩)))
  refine ⟨fun i σ G10 L10 => ∃ (v6 : Option V) (o : HO), σ = [some (.ref a), some (.ref b), some (.ref u), v3, some (.ref pz), some (.ref x), v6] ∧ BagO K G10 o ∧ L10 = upd L b o, ⟨none, o4, rfl, ho4.ex (e8.trans e9), rfl⟩, ?_, ?_⟩
  · rintro i σ G10 L10 hi e10 ⟨v6, o5, rfl, ho5, rfl⟩ y hy
    obtain ⟨nm, enm, rfl⟩ := map_get hy
    refine g_name ?_
    show S _ _ [some (.ref a), some (.ref b), some (.ref u), v3, some (.ref pz), some (.ref x), some (.str nm)] G10 _
    walk_at "w"
    refine ⟨b, o5, x, .ref u, .ref pz, names, ps, _, nm, rfl, upd_same, ho5, hbox.ex e10, hnames.ex (e5.trans (e59.trans e10)), ⟨pz, vz, rfl, (e59.trans e10) _ _ hpz, dpAll_ex (e59.trans e10) _ _ dz⟩, rfl, pnd, plen, nd, by omega, pin, List.mem_of_getElem? enm, fun G11 o6 e11 ho6 => ?_⟩
    rw [upd_upd]
    refine ⟨_, rfl, (fun z => by cases z), fun _ => ?_⟩
    walk_at "w"
    exact ⟨e10.trans e11, _, o6, rfl, ho6, rfl⟩
  · rintro σ G10 L10 e10 ⟨v6, o5, rfl, ho5, rfl⟩
    walk_at "w"
    exact k _ _
end
end T

set_option Elab.async false
set_option linter.all false
set_option maxRecDepth 100000
set_option maxHeartbeats 0
namespace TH
open PySem PySem.Spec PyProof.Rows L2 T
abbrev Rr : PySem.W.OpenRow := PySem.W.OpenLaw.row PySem.Challenge.rw_backpayhall_k53_whole_all_orders_learn
abbrev hk : PySem.W.Hook := He.hookD 6 T.fa T.fn
def ob (s : PySem.W.SharedT) : He.AlD := He.obsDG 6 T.fa T.fn (HandSHeadRun.getT s)
theorem ob_eq (s : PySem.W.SharedT) : ob s = hk.obs s.abs := He.obsDG_eq (HandSHeadRun.getT_eq s)
def names0 : List PySem.Str := ["_wall", "DueError", "BadName", "Taken", "Unknown", "SameName", "BadNumber", "LETTERS", "is_name", "check_names", "merged", "ascending", "Ways", "letter_read", "deliveries", "_law_mixed", "_law_bag", "_law_pick", "_law_mingled", "_law_sorted", "_law_new_name", "_law_every", "_law_shape", "_law_walked", "_law_read_through", "_law_told_well"]
def names : List PySem.Str := names0
theorem run (w : World) : HandSHeadRun.RunEq Rr (PySem.W.view Rr.prog [30]) hk ob 6000 names w := by
  intro os
  kernel_rfl
end TH
namespace TH
open PySem PySem.Spec PyProof.Rows L2
theorem facts {P : Program} {w : World} {K : PySem.W.Frag} {h : Heap} {mg : Str → Option Value} {f : Addr} (X : K.In h) (G : h.Ns mainGlobals mg) (hfa : mg ("law" : Str) = some (.ref f)) (c : He.SaysD T.fa T.fn K) :
    ∃ fd : FuncData, (∀ (s : Shared) (v : Value), BindsTo s fd ⟨[v], []⟩ [("script", v)]) ∧ ∀ base : Heap, K.In base → base.Ns mainGlobals mg → FnOk P w K mg base CX0 10 f fd ["script"] (T.Spt (T.pm_law K)) := by
  obtain ⟨x⟩ := T.tx_of X G c
  have e := hfa.symm.trans x.g_law
  cases e
  have b := FunD.bindsA (ps := ["script"]) x.F_law fun _ _ _ _ _ _ us hl => match us, hl with | [_], _ => rfl
  refine ⟨x.e_law, fun s v => b s [v] rfl, fun base _ _ => ?_⟩
  have a2 := T.ok_ascending x (T.ok_merged (Pg := P) (w := w) (base := base) x)
  have c2 := T.ok_check_names x (T.ok_is_name (Pg := P) (w := w) (base := base) x)
  have kn := T.ok_known (Pg := P) (w := w) (base := base) x
  have wr := T.ok_writes x kn
  have he := T.ok_hears x kn a2
  have pk := T.ok_pick x (T.ok_mixed (Pg := P) (w := w) (base := base) x)
  exact T.ok_law x (T.ok_init x (T.ok_begin x kn a2) c2) (T.ok_bag x) (T.ok_mingled x pk) (T.ok_new_name x pk) pk (T.ok_shape x pk (T.ok_every x))
    (T.ok_told_well x he (T.ok_lacking x he) pk (T.ok_through x pk) (T.ok_sorted x) (T.ok_walked x) (T.ok_deliveries x wr (T.ok_letter_read x wr a2)))
end TH
open PySem PySem.W PySem.Calls PyProof.Rows
theorem PySem.Challenge.cw_backpayhall_k53_whole_all_orders_learn_holds : PySem.Challenge.rw_backpayhall_k53_whole_all_orders_learn.Holds := by
  w_on; o_law
  refine HandSHeadRun.head_any (r := OpenLaw.row PySem.Challenge.rw_backpayhall_k53_whole_all_orders_learn) (q := view (OpenLaw.row PySem.Challenge.rw_backpayhall_k53_whole_all_orders_learn).prog [30]) (H := TH.hk) (ob := TH.ob) (M := 6000) (loose := TH.names) (d := HandSHeadRun.topDef (OpenLaw.row PySem.Challenge.rw_backpayhall_k53_whole_all_orders_learn).prog 30) (kwd := []) TH.ob_eq
    (by kernel_rfl) (fun s => by kernel_rfl) TH.run (by kernel_rfl) (by kernel_rfl) (by kernel_rfl) (by rfl) (by first | assumption | decide +kernel) (by decide +kernel) ⟨rfl, rfl, rfl, rfl, rfl, by decide +kernel⟩ ?hw ?hc
  case hw => w_witness2
  case hc =>
    refine L2.walk_ofE (l := PySem.Challenge.rw_backpayhall_k53_whole_all_orders_learn) (n := 63) (k := 10) (x := "script") (CX := L2.CX0) rfl (by decide) (by kernel_rfl) ⟨rfl, by decide, by decide⟩ ?F (fun _ _ _ _ z => z)
    intro w mg fa h Y G hmg0
    obtain ⟨K, KX, c⟩ := Y
    have hmg : mg ("law" : PySem.Str) = some (.ref fa) := by
      have e : (HandSHeadRun.topDef (OpenLaw.row PySem.Challenge.rw_backpayhall_k53_whole_all_orders_learn).prog 30).name = ("law" : PySem.Str) := by kernel_rfl
      rw [← e]
      exact hmg0
    obtain ⟨fd, hb, hF⟩ := TH.facts (P := (PySem.Challenge.rw_backpayhall_k53_whole_all_orders_learn).prog) (w := w) KX G hmg c
    exact ⟨K, fd, T.Spt (T.pm_law K), KX, hb, fun H a ns hl _ hS => ⟨H, fun _ => none, fun v _ _ => v = .bl true, ⟨fun _ _ q => q, (fun _ _ q => by cases q), fun _ _ _ => rfl⟩, ⟨a, ns, rfl, hS, hl, fun _ _ => rfl⟩, fun _ _ _ _ q _ => q⟩, hF⟩
